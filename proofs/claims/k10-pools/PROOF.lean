import PyProof.Rows.All
import Wide.All
import OpenK.AllK
import Wide.FinOn
import PyProof.EqAt
import PyProof.EqKinds
import PyProof.TupleCall
import KE.KExcSuper
import HandS.ForMost
import HandS.ForExc
import HandS.ExcField
import PyProof.GenCompD
import HandS.Defaults
import HandS.IsInst
import HandS.AnyAll
import HandS.Lambda
import HandS.Style
import HandS.CallSlots
import HandS.Flow
import HandS.Wide
import HandS.Steps
import HandS.TupMul
import KE.KStateDown
import HandS.Base
import HandS.Call
import HandS.Ends
import HandS.More
import HandS.Words
import HandS.WordsExc
import HandS.Head0
import HandS.Head1
import HandS.Head2
import HandS.HeadEnd
import HandS.HeadHook1
import HandS.HeadHook2
import HandS.HeadHook3
import HandS.HeadHook4
import HandS.HeadWalk
import PySem.Challenge.RW_qanatflow_k10_whole_pools
set_option Elab.async false
set_option linter.all false
set_option maxRecDepth 100000
set_option maxHeartbeats 2000000
/-! BadArgument: an own error over ValueError whose __init__ says super().__init__(text + name); self.name = name. -/
namespace PySem
namespace QBad
open PySem.W PySem.Calls PyProof.Rows PySem.HandSPX
/-- the text of __init__: the first def of the class that stands at place 1 of the top -/
def top (i : Nat) : Stmt := PySem.Challenge.pw_qanatflow_k10_whole_pools.main.body.getD i (.Pass ⟨0, 0, 0, 0⟩)
abbrev sInit : Stmt := L2.inClass (top 1) 0
abbrev iA : Arguments := L2.defArgs sInit
abbrev iB : List Stmt := L2.defBody sInit
abbrev iS : Scope := L2.defScope sInit
abbrev veT : List Value := [.type "ValueError", .type "Exception", .type "BaseException", .type "object"]
theorem along_ve (K : Frag) : alongIn K "__init__" veT = some (some (.builtin "ValueError.__init__")) := by kernel_rfl
theorem drop_own (C : Addr) (l : List Value) : ((Value.ref C :: l).dropWhile (· != .ref C)).drop 1 = l := by
  simp [List.dropWhile_cons]
theorem iS_cell : ∀ x ∈ iS.names, x.2 ≠ NameKind.cell := by decide +kernel
theorem iS_loc (a b : Value) : ∀ x ∈ ([("self", a), ("name", b)] : List (Str × Value)), iS.names.lookup x.1 = some .local := by
  intro x hx
  rcases List.mem_cons.mp hx with rfl | hx
  · exact (by decide +kernel : iS.names.lookup ("self" : Str) = some .local)
  · rcases List.mem_cons.mp hx with rfl | hx
    · exact (by decide +kernel : iS.names.lookup ("name" : Str) = some .local)
    · cases hx
/-- what the written part says of the class at C, its __init__ at fI (code at cda, the cell of __class__ at cc) -/
structure BadTxt (P : Program) (K : Frag) (mg : Str → Option Value) (C fI cc cda : Addr) : Prop where
  gC : mg "BadArgument" = some (.ref C)
  gS : mg "super" = none
  cls : ∃ nm q N bs sn sub ab col dd k0 k1 k2 k3 k5, K.lookup C = some (excClassObj nm q C N bs veT true sn sub ab col dd k0 k1 k2 k3 k5 "ValueError.__new__")
  sa : findIn K (.ref C) "__setattr__" = some (some (.builtin "object.__setattr__"))
  ga : findIn K (.ref C) "__getattribute__" = some (some (.builtin "BaseException.__getattribute__"))
  gg : findIn K (.ref C) "__getattr__" = some none
  noN : findIn K (.ref C) "name" = some none
  iC : findIn K (.ref C) "__init__" = some (some (.ref fI))
  tC : typeIn K (.ref fI) = some (.type "function")
  kC : keepIn K (.ref C) = true
  exC : subIn K (.ref C) (.type "BaseException") = some true
  veC : subIn K (.ref C) (.type "ValueError") = some true
  owC : mroIn K C (.ref C) = some true
  tyC : typeIn K (.ref C) = some (.type "type")
  hdC : hasDictIn K C = true
  te : exmOne K (.ref C) (.ref C) = some true
  op : nsIn K cStatics "thirdparty.any" = some none
  top : (P.main.scope.names.lookup ("super" : Str)).isSome = false
  fn : ∃ (oc : Value) (od : Option Addr) (doc pm : Value) (an : Option Addr) (ct : Value) (osl : Array (Option Value)),
    K.lookup fI = some ⟨oc, od, .func (fnX "__init__" "BadArgument.__init__" iA iB iS [("__class__", cc)] .none .none doc pm an (.ref cda) ct), osl⟩ ∧ codeIn K (.ref cda) "BadArgument.__init__" = true
  code : ∃ (cl : Value) (cd : Option Addr) (vs : Array Value) (sl : Array (Option Value)) (file : Str) (tf : Tok), K.lookup cda = some ⟨cl, cd, .fields vs, sl⟩ ∧ vs[2]? = some (.str file tf) ∧ ((P.main.file : Str) == file) = true
  cell : ∃ (cl : Value) (cd : Option Addr) (sl : Array (Option Value)), K.lookup cc = some ⟨cl, cd, .cell (some (.ref C)), sl⟩
/-- what __init__ leaves of a fresh exception at x -/
structure InitEnd (h h' : Heap) (x C dx t1 : Addr) (v : Value) : Prop where
  keep : ∀ b o, b ≠ x → h.get? b = some o → h'.get? b = some o
  obj : h'.get? x = some { cls := .ref C, dict := some dx, data := .fields #[.ref t1, .none, .none, .none, .bool false, .none] }
  dbig : h.objs.size ≤ dx
  dne : dx ≠ x
  ns : h'.Ns1 dx (fun y => if y = "name" then some v else none)
/-- a made BadArgument -/
structure OwnMade (h h' : Heap) (e C d : Addr) (v : Value) : Prop where
  keep : ∀ b o, h.get? b = some o → h'.get? b = some o
  new : h.objs.size ≤ e
  obj : ∃ oe vs, h'.get? e = some oe ∧ oe.cls = .ref C ∧ oe.dict = some d ∧ oe.data = .fields vs ∧ vs[1]? = some .none
  dbig : h.objs.size ≤ d
  dne : d ≠ e
  ns : h'.Ns1 d (fun y => if y = "name" then some v else none)
theorem one_size (v : Value) : [v].length ≤ sizeLine := by
  rw [sizeLine_eq]
  exact (by decide : 1 ≤ 16777216)
section
variable {prog : Program} {w : World} {A : Around} {E : Value → Shared → Prop}
/-- the wrapper of ValueError.__init__ on x is called -/
theorem call_mw {h : Heap} {g : Array GenState} {d : Drawn} {t : Nat} {os : OsState} {nm q : Str} {C N u e t0 : Addr} {bs bm : List Value} {hdct : Bool} {sn : List Str} {sub : List Value} {ab : Bool} {col : Option Bool} {dd : Option Addr} {k0 k1 k2 k3 k5 : Option Value} {rest : List Value} {Q : Value → Shared → Prop}
    (hC : h.get? C = some (excClassObj nm q C N bs bm hdct sn sub ab col dd k0 k1 k2 k3 k5 "ValueError.__new__")) (he : h.get? e = some (excO C t0)) (hu : h.get? u = some (kxs_mw "ValueError.__init__" e)) (hrest : rest.length ≤ sizeLine)
    (hq : ∀ h' t1, (∀ b o, b ≠ e → h.get? b = some o → h'.get? b = some o) → h'.get? e = some (excO C t1) → Q .none ⟨h', g, d, t, os⟩) :
    wpAny (model prog w) A (call (.ref u) rest) Q E ⟨h, g, d, t, os⟩ := by
  refine wpAny_call (codeAny_of_tree ?_)
  show wpAny _ A.in1 (callAny (.ref u) ⟨rest, []⟩) _ _ _
  simp only [callAny]
  refine wpAny_bind (wpAny_load hu ?_)
  simp only [kxs_mw, show (Value.type "method-wrapper" == Value.type "method" || Value.type "method-wrapper" == Value.type "builtin_function_or_method" || Value.type "method-wrapper" == Value.type "method-wrapper") = true by decide, if_true]
  refine KFB.if_so (by decide) ?_
  refine wpAny_bind (check_bound_init F.excBase_ValueError.toExcCallFacts hC he rfl ?_)
  refine wpAny_bind (wpAny_pure (wpAny_pure ?_))
  refine ⟨plainId_quiet F.excBase_ValueError.init.plain _, codeAny_builtin F.excBase_ValueError.initEntry ?_⟩
  exact exc_init_tree (cls := .ref C) (t0 := t0) (dv := none) (c2 := .none) (c3 := .none) (b4 := .bool false) he hrest fun h' k e' _ => hq h' h.objs.size k e'

theorem callWith_mw {M : Model} {s : Shared} {i : String} {u x : Addr} {pos : Pos} {env : Env} {e : PySem.Expr} {rest : List PySem.Expr} {Q : Value → Shared → Prop}
    (h : wpAny M A (spliced (backTo pos (starEach (e :: rest) env))) (fun vs s₁ => KxsAt i u x s₁.heap ∧ wpAny M A (call (.ref u) vs) Q E s₁) E s)
    (he : starEach (e :: rest) env = (false, eval e env) :: starEach rest env := by rfl) (hplain : (backTo pos (starEach rest env)).any (·.1) = false := by rfl) :
    wpAny M A (callWith pos (.ref u) [] (backTo pos (starEach (e :: rest) env)) []) Q E s := by
  rw [he] at h ⊢
  refine kxs_callWith (i := i) (x := x) (by show (false || (backTo pos (starEach rest env)).any (·.1)) = false; rw [hplain]; rfl) ?_
  exact evalArgs_plain h
theorem looks_subInst {M : Model} {h : Heap} {K : Frag} {x C : Addr} {ox : Obj} {b : Value} {r : Bool} (X : K.In h) (hx : h.get? x = some ox) (hc : ox.cls = .ref C) (e : subIn K (.ref C) b = some r) : Looks M h (isInstance (.ref x) b) r := by
  have h1 : Looks M h (typeOf (.ref x)) (.ref C) := hc ▸ (Looks.ld hx).andThen .now
  exact h1.andThen (looks_subIn X e)
theorem bad_init {mg : Str → Option Value} {K : Frag} {C fI cc cda : Addr} {s : Shared} {R : Result → Shared → Prop} (T : BadTxt prog K mg C fI cc cda) {x t0 : Addr} {z : Str} {tz : Tok} (X : K.In s.heap) (G : s.heap.Ns mainGlobals mg)
    (B : ∃ mb, s.heap.Ns builtinsNs mb ∧ ∀ x : Str, x ≠ "__name__" → mb x = bootBuiltins x) (hlim : s.heap.NoLimit) (hz : z.length ≤ 1000) (hx : s.heap.get? x = some (excO C t0)) (hnx : K.lookup x = none) (hroom : A.depth < recursionLimit)
    (hq : ∀ h' tk dx t1, InitEnd s.heap h' x C dx t1 (.str z tz) → R (.ok (.ret .none)) { s with heap := h', toks := tk }) :
    codeAny (model prog w) A (.call (.ref fI) ⟨[.ref x, .str z tz], []⟩) R s := by
  obtain ⟨oc, od, doc, pm, an, ct, osl, ho, hcd⟩ := T.fn
  obtain ⟨nm, q, N, bs, sn, sub, ab, col, dd, k0, k1, k2, k3, k5, hC⟩ := T.cls
  obtain ⟨ccl, ccd, vs, csl, file, tf, hco, hvs, hfile⟩ := T.code
  obtain ⟨el, ed, esl, hcell⟩ := T.cell
  obtain ⟨mb, hB, hBB⟩ := B
  have hcl : clsIn K C = some { name := nm, bases := bs, mro := .ref C :: veT, ns := N, qualname := q, hasDict := true, slotNames := sn, subclasses := sub, abstract := ab, collection := col, hasDel := false } := by unfold clsIn; rw [hC] <;> rfl
  refine ks_codeAny_call_defAt (fd := fnX "__init__" "BadArgument.__init__" iA iB iS [("__class__", cc)] .none .none doc pm an (.ref cda) ct) (body := iB)
    (binds := [("self", .ref x), ("name", .str z tz)]) hroom (X _ _ ho) rfl hlim (codeRec_of X hcd) rfl (BindsTo.of_eq (by first | rfl | with_unfolding_all rfl)) iS_cell (iS_loc _ _) (fun h₁ hns k => ?_) rfl rfl rfl
  have X₁ : K.In h₁ := X.keeps k
  have hx₁ := k _ _ hx
  have hxL : s.heap.objs.size ≠ x := Nat.ne_of_gt (Heap.lt_size hx)
  have hC₁ := X₁ _ _ hC
  refine ks_wpAt_execs_cons (ks_wpAt_Expr_any (ks_wpAt_MethodCall (ks_wpAt_super_base (by rfl) (by rfl) (by decide) (by rfl) (X₁ _ _ ho) (by rfl) (by rfl) (by rfl) (X₁ _ _ hco) (by rfl) hvs hfile T.top ?_)))
  refine ks_loadName_global (by rfl) (by rfl) (loadGlobal_builtin (G.keeps k) T.gS (hB.keeps k) ((hBB _ (by decide +kernel)).trans (by first | boot_by_name | rfl | kernel_rfl)) ⟨rfl, ?_⟩)
  refine wpAny_loadName_free (by rfl) (by rfl) (by rfl) ⟨_, X₁ _ _ hcell, rfl⟩ ?_
  refine wpAny_loadName_local (v := .ref x) (by rfl) (by rfl) hns (by first | rfl | with_unfolding_all rfl | kernel_rfl) ?_
  refine ks_wpAny_isType_cls hC₁ (by rfl) ⟨rfl, ?_⟩
  refine ks_wpAny_call_super hC₁ (by rfl) hx₁ rfl (fun c e => by cases e) (looks_mroIn X₁ T.owC) (fun h₂ e₂ k₂ => ?_)
  have X₂ : K.In h₂ := X₁.keeps k₂
  have hx₂ := k₂ _ _ hx₁
  have xC : x ≠ C := fun e => by
    rw [e, hC₁] at hx₁
    cases hx₁
  refine kxs_getMethod kxs_ValueError e₂ (looks_opaque X₂ T.op) (l₀ := .ref C :: veT) (fun A Q E s k q => wpAny_bind ((looks_clsIn X₂ hcl) A _ E s k (wpAny_pure q))) (drop_own C veT) X₂ (along_ve K) (looks_subInst X₂ hx₂ rfl T.veC) xC (by decide) ?_
  have e₃ : (h₂.push (kxs_mw "ValueError.__init__" x)).get? h₂.objs.size = some (kxs_mw "ValueError.__init__" x) := Heap.get?_push_at rfl rfl
  have k₃ : ∀ (y : Addr) (o : Obj), h₂.get? y = some o → (h₂.push (kxs_mw "ValueError.__init__" x)).get? y = some o := fun y o e => Heap.get?_push_of_some _ e
  have hns₃ : (h₂.push (kxs_mw "ValueError.__init__" x)).Ns s.heap.objs.size (fun y => [(("self" : Str), Value.ref x), ("name", Value.str z tz)].reverse.lookup y) := (hns.keeps k₂).keeps k₃
  refine callWith_mw (i := "ValueError.__init__") (x := x) ?_
  refine Calls.spliced_cons (wpAny_BinOp (Calls.Constant_str (wpAny_Name (wpAny_loadName_local (v := .str z tz) (by rfl) (by rfl) hns₃ (by first | rfl | with_unfolding_all rfl | kernel_rfl) (add_str (fun t' tk => ?_) ?hsz)) (by decide))))
  case hsz =>
    have e14 : ("bad argument: " : Str).length = 14 := by decide +kernel
    rw [e14, sizeLine_eq]
    omega
  refine Calls.spliced_nil ⟨e₃, ?_⟩
  refine call_mw (X₂.keeps k₃ _ _ hC) (k₃ _ _ hx₂) e₃ (one_size _) fun h₄ t1 k₄ hx₄ => ?_
  have hns₄ : h₄.Ns s.heap.objs.size (fun y => [(("self" : Str), Value.ref x), ("name", Value.str z tz)].reverse.lookup y) := hns₃.at fun o e => k₄ _ o hxL e
  have X₄ : K.In h₄ := fun a o e => k₄ a o (fun z => by
    rw [z] at e
    rw [hnx] at e; cases e) (X₂.keeps k₃ _ _ e)
  refine wpAt_of_wpAny (wpAny_execs_cons (plainObj_wpAny_Assign_Attribute ?_ (by rfl)))
  refine wpAny_Name (wpAny_loadName_local (v := .str z tz) (by rfl) (by rfl) hns₄ (by first | rfl | with_unfolding_all rfl | kernel_rfl) ?_) (by decide)
  refine wpAny_Name (wpAny_loadName_local (v := .ref x) (by rfl) (by rfl) hns₄ (by first | rfl | with_unfolding_all rfl | kernel_rfl) ?_) (by decide)
  refine set_plain X₄ (ox := excO C t1) (od := none) ⟨hx₄, rfl, rfl, trivial⟩ T.sa ?_
  refine exc_osa X₄ hx₄ hcl (show refsVE (.ref C :: veT) = true from rfl) rfl T.noN (fun h₅ tk₅ dx k₅ dn dne hx₅ hn₅ => ?_)
  refine wpAny_execs_nil (hq h₅ tk₅ dx t1 ⟨fun b o hb e => k₅ b o hb (k₄ b o hb (k₃ b o (k₂ b o (k b o e)))), hx₅, Nat.le_of_lt (Nat.lt_of_lt_of_le hns₄.lt dn), dne, hn₅⟩)
theorem bad_made {mg : Str → Option Value} {K : Frag} {C fI cc cda : Addr} {s : Shared} {R : Result → Shared → Prop} (T : BadTxt prog K mg C fI cc cda) {z : Str} {tz : Tok} (X : K.In s.heap) (G : s.heap.Ns mainGlobals mg)
    (B : ∃ mb, s.heap.Ns builtinsNs mb ∧ ∀ x : Str, x ≠ "__name__" → mb x = bootBuiltins x) (hlim : s.heap.NoLimit) (hz : z.length ≤ 1000) (hroom : A.depth + 1 < recursionLimit)
    (hq : ∀ h' tk e d, OwnMade s.heap h' e C d (.str z tz) → R (.ok (.ret (.ref e))) { s with heap := h', toks := tk }) :
    codeAny (model prog w) A (.call (.ref C) ⟨[.str z tz], []⟩) R s := by
  obtain ⟨nm, q, N, bs, sn, sub, ab, col, dd, k0, k1, k2, k3, k5, hC⟩ := T.cls
  obtain ⟨hp, g, dr, tk, os⟩ := s
  have k : ∀ b o, hp.get? b = some o → ((hp.push (kdv_tup [.str z tz])).push (excO C hp.objs.size)).get? b = some o := fun b o e => Heap.get?_push_of_some _ (Heap.get?_push_of_some _ e)
  have hget : ((hp.push (kdv_tup [.str z tz])).push (excO C hp.objs.size)).get? (hp.objs.size + 1) = some (excO C hp.objs.size) := by heap_get
  have hnx : K.lookup (hp.objs.size + 1) = none := by
    cases e : K.lookup (hp.objs.size + 1) with
    | none => rfl
    | some o =>
      have z : hp.get? (hp.objs.size + 1) = some o := X _ _ e
      exact absurd (Nat.lt_of_succ_lt (Heap.lt_size z)) (Nat.lt_irrefl _)
  refine call_own F.excBase_ValueError (fun X => refsVE_contains X veT rfl) (X _ _ hC) (looks_findIn X T.iC) (fun self => bind_fn X self T.tC) (one_size _) ?_
  refine bad_init (s := ⟨(hp.push (kdv_tup [.str z tz])).push (excO C hp.objs.size), g, dr, tk, os⟩) T (X.keeps k) (G.keeps k) (let ⟨mb, b1, b2⟩ := B; ⟨mb, b1.keeps k, b2⟩) (hlim.keeps k) hz hget hnx ?_ fun h' tk' dx t1 ⟨k', hx, dn, dne, hns⟩ => ?_
  · show A.depth + 1 < recursionLimit
    exact hroom
  · have old : ∀ b o, hp.get? b = some o → h'.get? b = some o := fun b o e => k' b o (Nat.ne_of_lt (Nat.lt_succ_of_lt (Heap.lt_size e))) (k b o e)
    have z : hp.objs.size + 1 + 1 ≤ dx := by
      first
        | (simpa only [Heap.size_push] using dn)
        | exact dn
        | (have q := dn; rw [Heap.size_push, Heap.size_push] at q; exact q)
    exact ⟨rfl, hq h' tk' (hp.objs.size + 1) dx ⟨old, Nat.le_succ _, ⟨_, _, hx, rfl, rfl, rfl, rfl⟩, Nat.le_trans (Nat.le_trans (Nat.le_succ _) (Nat.le_succ _)) z, dne, hns⟩⟩
end
end QBad
end PySem

namespace L2
open PySem PySem.Spec PyProof.Rows
theorem relO_bad {v : V} {v' : Value} (r : RelV v v') (f : Str) : RelO (List.lookup f [(("name" : Str), v)]) (if f = "name" then some v' else none) := by
  by_cases hw : f = "name"
  · subst hw
    rw [if_pos rfl]
    have q : List.lookup ("name" : Str) [(("name" : Str), v)] = some v := by simp [List.lookup]
    rw [q]
    exact r
  · rw [if_neg hw]
    have qw : (f == ("name" : Str)) = false := by simpa using hw
    have q2 : List.lookup f [(("name" : Str), v)] = none := by simp [List.lookup, qw]
    rw [q2]
    trivial
section
variable {X : Cx} {C fI cc cda : Addr}
/-- the error's own dict -/
def badD (z : Str) : HO := .xd [(("name" : Str), .str z)]
/-- BadArgument(e), e a short text -/
def tMkBad (C : Addr) (ta : TA) : St → Hp → XK → Prop := fun σ H Q => ta σ H fun vs H1 => ∃ z : Str, vs = [.str z] ∧ z.length ≤ 1000 ∧ ∀ d, H1 d = none → Q (.ref C) (some d) (upd H1 d (badD z))
theorem pmk_bad {a : Expr} {ta : TA} {p pos : Pos} {k : Nat} (T : PySem.QBad.BadTxt X.prog X.K X.mg C fI cc cda) (hr : Room k X.A) (ha : PA X [a] ta) (hg : Gl X "BadArgument" := by rfl)
    (he : starEach (a :: []) X.env = (false, eval a X.env) :: starEach [] X.env := by rfl) (hpl : (backTo pos (starEach [] X.env)).any (·.1) = false := by rfl) :
    PMk X (.Call (.Name "BadArgument" p) [a] [] pos) (tMkBad C ta) := by
  intro pins s σ H Q I h
  refine wpAny_Call_Name_kw (ld_glob I hg T.gC ?_)
  refine PySem.W.callWith_K (h₀ := X.base) I.ok.mod.kin T.kC (thn (ha.run pos pins s σ H _ I h) fun us s1 hh => ?_) he hpl
  obtain ⟨vs, H1, I1, r1, z, ev, hz, q1⟩ := hh
  subst ev
  refine ⟨I1.kIn, ?_⟩
  cases r1 with
  | cons rv rn =>
    rename_i v' us'
    cases rn
    obtain ⟨tz, rfl⟩ := id rv
    show wpAny _ _ (call (.ref C) [.str z tz]) _ _ _
    have hlim := I1.nolimit
    have hG := I1.mod.glob.keeps I1.bk
    have hB : ∃ mb, s1.heap.Ns builtinsNs mb ∧ ∀ x : Str, x ≠ "__name__" → mb x = bootBuiltins x := let ⟨mb, b1, b2⟩ := I1.mod.blt; ⟨mb, b1.keeps I1.bk, b2⟩
    obtain ⟨hp, g, dr, tk, os⟩ := s1
    refine wpAny_call (PySem.QBad.bad_made T I1.kIn hG hB hlim hz (by have := hr.dp; omega) fun h' tk' e d M => ?_)
    show MkP X pins σ Q (.ref e) ⟨h', g, dr, tk', os⟩
    obtain ⟨oe, fv, hoe, hc, hd, hdat, h1⟩ := M.obj
    have hns := M.ns
    obtain ⟨G', g1, g2⟩ := restrict h' fun b => decide (b ≠ e)
    have gk : ∀ b, b ≠ e → G'.get? b = h'.get? b := fun b hb => g1 b (decide_eq_true hb)
    have ge : G'.get? e = none := g2 e (by simp)
    have old : ∀ b o, hp.get? b = some o → G'.get? b = some o := fun b o q => (gk b (Nat.ne_of_lt (Nat.lt_of_lt_of_le (Heap.lt_size q) M.new))).trans (M.keep b o q)
    have ob : ObjOk X.prog X.w (upd H1 d (badD z)) G' d (badD z) :=
      ⟨_, hns.at (fun o q => (gk d M.dne).trans q), fun f => relO_bad rv f⟩
    have J : Inv X pins σ (upd H1 d (badD z)) ⟨G', g, dr, tk', os⟩ := I1.laid (t' := tk') old M.dbig ob
    refine ⟨e, oe, fv, ⟨G', g, dr, tk', os⟩, _, .ref C, some d, rfl, J, fun b o q => ?_, ge, hoe, ⟨hc, hd⟩, hdat, h1, ?_, rfl, I1.bare, raises_own T.exC T.tyC, q1 d (I1.hok.fresh M.dbig)⟩
    · by_cases hb : b = e
      · have q' : G'.get? b = some o := q
        rw [hb, ge] at q'; cases q'
      · exact (gk b hb).symm.trans q
    · rw [upd_ne (Ne.symm M.dne)]
      exact I1.hok.fresh M.new
/-- raise BadArgument(e) -/
def tRaiseBad (C : Addr) (W : WX) (ta : TA) : TS := fun _ σ H => tMkBad C ta σ H fun cls d H' => W cls d σ H'
theorem ps_raiseBad {a : Expr} {ta : TA} {W : WX} {p pos pos2 : Pos} {k : Nat} (hc : X.calm = true) (T : PySem.QBad.BadTxt X.prog X.K X.mg C fI cc cda) (hr : Room k X.A) (tk : Takes X W) (ha : PA X [a] ta) (hg : Gl X "BadArgument" := by rfl)
    (he : starEach (a :: []) X.env = (false, eval a X.env) :: starEach [] X.env := by rfl) (hpl : (backTo pos (starEach [] X.env)).any (·.1) = false := by rfl) :
    PS X (.Raise (some (.Call (.Name "BadArgument" p) [a] [] pos)) none pos2) (tRaiseBad C W ta) := ps_raise hc tk (pmk_bad T hr ha hg he hpl)
theorem bad_xf (T : PySem.QBad.BadTxt X.prog X.K X.mg C fI cc cda) : XfC X.K C := ⟨T.ga, T.gg, T.exC, T.hdC⟩
end
end L2

set_option Elab.async false
set_option linter.all false
set_option maxRecDepth 100000
set_option maxHeartbeats 2000000
/-! is_integer walked bare; all(test for x in a tuple of ints and bools). -/
namespace QG
open PySem PySem.Spec PyProof.Rows L2
abbrev top := PySem.QBad.top
abbrev FnP (K : PySem.W.Frag) (x : Str) (st : Stmt) (f : Addr) (fd : FuncData) : Prop := FunD K x x (defArgs st) (defBody st) (defScope st) [] [] f fd
abbrev sIsInt : Stmt := top 3
/-- an int or a bool, told as such -/
def isI : V → Bool
  | .int _ => true
  | _ => false
def flatIB : V → Bool
  | .int _ => true
  | .bl _ => true
  | _ => false
/-- the globals and built-ins of the text, as a bare heap has them -/
structure Bare (K : PySem.W.Frag) (mg : Str → Option Value) (h : Heap) : Prop where
  kin : K.In h
  glob : h.Ns mainGlobals mg
  blt : ∃ mb, h.Ns builtinsNs mb ∧ ∀ x : Str, x ≠ "__name__" → mb x = bootBuiltins x
  lim : h.NoLimit
theorem Bare.keeps {K : PySem.W.Frag} {mg : Str → Option Value} {h h' : Heap} (b : Bare K mg h) (k : ∀ a o, h.get? a = some o → h'.get? a = some o) : Bare K mg h' :=
  ⟨b.kin.keeps k, b.glob.keeps k, let ⟨mb, b1, b2⟩ := b.blt; ⟨mb, b1.keeps k, b2⟩, b.lim.keeps k⟩
section
variable {prog : Program} {w : World} {A : Around} {E : Value → Shared → Prop} {K : PySem.W.Frag} {mg : Str → Option Value}
/-- a name of the built-ins, bare -/
theorem ld_bare {s : Shared} {env : Env} {x : Str} {pos : Pos} {u : Value} {Q : Value → Shared → Prop} (B : Bare K mg s.heap) (hk : env.scope.kind = .function) (hg : env.globals = mainGlobals) (hb : env.builtins = builtinsNs) (hx : env.kindOf x = some .globalImplicit)
    (hm : mg x = none) (hv : bootBuiltins x = some u) (h : Q u s) (hn : x ≠ "__name__" := by decide) (hd : (x == ("__debug__" : Str)) = false := by decide) : wpAny (model prog w) A (eval (.Name x pos) env) Q E s := by
  obtain ⟨mb, b1, b2⟩ := B.blt
  exact Calls.Name_function_global hk hx (Calls.loadGlobal_builtin (by rw [hg]; exact B.glob) hm (by rw [hb]; exact b1) ((b2 x hn).trans hv) h) hd
theorem ld_bareG {s : Shared} {env : Env} {x : Str} {pos : Pos} {u : Value} {Q : Value → Shared → Prop} (B : Bare K mg s.heap) (hk : env.scope.kind = .function) (hg : env.globals = mainGlobals) (hx : env.kindOf x = some .globalImplicit)
    (hm : mg x = some u) (h : Q u s) (hd : (x == ("__debug__" : Str)) = false := by decide) : wpAny (model prog w) A (eval (.Name x pos) env) Q E s :=
  Calls.Name_function_global hk hx (Calls.loadGlobal_global (by rw [hg]; exact B.glob) hm h) hd
theorem kit_int {v : V} {u : Value} (hf : flatIB v = true) (r : RelV v u) : ∃ (t : Value) (P : Heap → Prop), PySem.W.KitX K u t P ∧ (∀ h, P h) ∧ u ≠ .builtin "__main__.__loader__#opaque" ∧
    PySem.W.kitOne K t (.type "int") = some true ∧ PySem.W.kitOne K t (.type "bool") = some (!isI v) := by
  cases v with
  | int i =>
    obtain ⟨t, rfl⟩ := r
    exact ⟨_, _, PySem.W.kitx_int, (fun _ => True.intro), (fun z => nomatch z), kit_ty (by decide +kernel), kit_ty (show kitB "int" "bool" = some false by decide +kernel)⟩
  | bl b =>
    cases r
    exact ⟨_, _, PySem.W.kitx_bool, (fun _ => True.intro), (fun z => nomatch z), kit_ty (by decide +kernel), kit_ty (show kitB "bool" "bool" = some true by decide +kernel)⟩
  | _ => cases hf
theorem scI : FnScope ["value"] ["value"] (defScope sIsInt) := ⟨rfl, rfl, rfl, by decide +kernel, rfl, by decide +kernel, by decide +kernel⟩
theorem isint_raw {s : Shared} {R : Result → Shared → Prop} {f : Addr} {fd : FuncData} {v : V} {u : Value} (F : FnP K "is_integer" sIsInt f fd) (B : Bare K mg s.heap) (hroom : A.depth < recursionLimit) (mi : mg "isinstance" = none) (mI : mg "int" = none) (mB : mg "bool" = none)
    (hf : flatIB v = true) (r : RelV v u) (hq : ∀ h' tk, (∀ b o, s.heap.get? b = some o → h'.get? b = some o) → R (.ok (.ret (.bool (isI v)))) { s with heap := h', toks := tk }) :
    codeAny (model prog w) A (.call (.ref f) ⟨[u], []⟩) R s := by
  obtain ⟨oc, od, dV, kV, doc, pm, an, cdv, ct, osl, rfl, lk, hcd, hD, hK⟩ := F.ex
  obtain rfl : dV = .none := by
    rcases hD with ⟨_, e⟩ | ⟨e, _⟩
    · exact e
    · exact absurd rfl e
  obtain ⟨t, P, Z, p, hne, e1, e2⟩ := kit_int (K := K) hf r
  refine Att.call_fn (binds := [("value", u)]) B.kin B.lim lk hcd hroom (BindsTo.of_eq (by first | rfl | with_unfolding_all rfl)) (by first | rfl | decide | with_unfolding_all rfl) (fun s₁ IC => ?_) rfl rfl rfl
  obtain ⟨h₁, tk₁, rfl⟩ := IC.toInCall.same
  have k : ∀ b o, s.heap.get? b = some o → h₁.get? b = some o := IC.toInCall.keep
  have hn := IC.toInCall.ns
  have B1 := B.keeps k
  show wpAny _ _ (execs _ _) _ _ _
  refine wpAny_execs_cons (wpAny_Return_some (BoolOp_and ?_))
  refine wpAny_Call_Name_kw (ld_bare B1 rfl rfl rfl rfl mi PyProof.Rows.Boot.isinstance ?_)
  refine PyProof.Rows.callWith_builtin1 (Calls.spliced_cons (wpAny_Name (wpAny_loadName_local (v := u) rfl rfl hn (by first | rfl | with_unfolding_all rfl | kernel_rfl) (Calls.spliced_cons (ld_bare B1 rfl rfl rfl rfl mI PyProof.Rows.boot_int (Calls.spliced_nil ?_)))) (by decide)))
  refine PySem.W.kia_one Z B1.kin (p _) e1 hne fun tk2 => ?_
  refine wpAny_truthy_bool ?_
  show wpAny _ _ (eval _ _) _ _ _
  refine BoolOp_one (UnaryOp_ ?_)
  refine wpAny_Call_Name_kw (ld_bare (by exact B1) rfl rfl rfl rfl mi PyProof.Rows.Boot.isinstance ?_)
  refine PyProof.Rows.callWith_builtin1 (Calls.spliced_cons (wpAny_Name (wpAny_loadName_local (v := u) rfl rfl hn (by first | rfl | with_unfolding_all rfl | kernel_rfl) (Calls.spliced_cons (ld_bare (by exact B1) rfl rfl rfl rfl mB PyProof.Rows.boot_bool (Calls.spliced_nil ?_)))) (by decide)))
  refine PySem.W.kia_one Z (by exact B1.kin) (p _) e2 hne fun tk3 => ?_
  refine PyProof.Rows.not_of (wpAny_truthy_bool ?_)
  rw [Bool.not_not]
  exact hq h₁ tk3 k
end
/-! ### all(test for x in t), t a tuple of ints and bools -/
/-- the element: a test of the item v -/
def EltV (X : Cx) (scope : Scope) (x : Str) (elt : Expr) (D U : Nat) (pb : V → Bool) : Prop :=
  ∀ (cenv : Env) (A' : Around) (E' : Value → Shared → Prop) (v : V) (u : Value) (s₂ : Shared) (m₂ : Str → Option Value), cenv.scope = scope → cenv.globals = mainGlobals → cenv.builtins = builtinsNs → A'.handled = none → A'.depth ≤ D → A'.units ≤ U →
    Bare X.K X.mg s₂.heap → s₂.heap.Ns cenv.locals m₂ → m₂ x = some u → RelV v u → flatIB v = true → wpAny (model X.prog X.w) A' (eval elt cenv) (fun y s₃ => y = .bool (pb v) ∧ Keeps s₂ s₃) E' s₂
def trV (pb : V → Bool) (l : List V) (j : Nat) : Bool := match l[j]? with
  | some b => pb b
  | none => false
theorem trV_some {pb : V → Bool} {l : List V} {j : Nat} {b : V} (h : l[j]? = some b) : trV pb l j = pb b := by
  unfold trV
  rw [h]
theorem all_trV (l : List V) (pb : V → Bool) : (List.range l.length).all (trV pb l) = l.all pb := by
  rw [Bool.eq_iff_iff, List.all_eq_true, List.all_eq_true]
  constructor
  · intro h b hb
    obtain ⟨j, hj, e⟩ := List.getElem_of_mem hb
    have q := h j (List.mem_range.mpr hj)
    rw [trV_some (List.getElem?_eq_getElem hj), e] at q
    exact q
  · intro h j hj
    have hj' := List.mem_range.mp hj
    rw [trV_some (List.getElem?_eq_getElem hj')]
    exact h _ (List.getElem_mem hj')
section
variable {X : Cx} {pins : List (Addr × Obj)} {σ : L2.St} {H : Hp} {s : Shared}
theorem Inv_bare (I : Inv X pins σ H s) : Bare X.K X.mg s.heap := ⟨I.kIn, I.mod.glob.keeps I.bk, let ⟨mb, b1, b2⟩ := I.mod.blt; ⟨mb, b1.keeps I.bk, b2⟩, I.nolimit⟩
theorem base_bare (ok : X.Ok) : Bare X.K X.mg X.base := ⟨ok.mod.kin, ok.mod.glob, ok.mod.blt, ok.mod.nolimit⟩
/-- the table's object is written, the code object at c is new and known from now on; generators may have been made and turned -/
theorem inv_tabC {P c : Addr} {q : Str} {ps more : Array Value} {h' : Heap} {g' : Array GenState} {d' : Drawn} {t' : Nat} (I : Inv X pins σ H s) (hP : H P = some (.tbl ps)) (k : ∀ b o, b ≠ P → s.heap.get? b = some o → h'.get? b = some o)
    (hm : h'.get? P = some { cls := .none, data := .fields (ps ++ more) }) (hc : s.heap.objs.size ≤ c) (ho : ∃ (oc : Obj) (vs : Array Value) (t : Tok), h'.get? c = some oc ∧ oc.data = .fields vs ∧ vs[1]? = some (.str q t)) (hg : AllBare g') :
    Inv X pins σ (upd (upd H P (.tbl (ps ++ more))) c (LamX.CodeO c q)) { s with heap := h', gens := g', drawn := d', toks := t' } := by
  have fresh : H c = none := I.hok.fresh hc
  have pc : P ≠ c := ne_of_none hP fresh
  have elsewhere : ∀ b, b ≠ P → b ≠ c → upd (upd H P (.tbl (ps ++ more))) c (LamX.CodeO c q) b = H b := fun b h1 h2 => by rw [upd_ne h2, upd_ne h1]
  have tabHere : upd (upd H P (.tbl (ps ++ more))) c (LamX.CodeO c q) P = some (.tbl (ps ++ more)) := by rw [upd_ne pc, upd_same]
  have notP : ∀ b u, H b = some u → (∀ r, u ≠ .tbl r) → b ≠ P := fun b u e n z => n ps (Option.some.inj (e.symm.trans (by rw [z]; exact hP)))
  have noneP : ∀ b, H b = none → b ≠ P := fun b e z => by
    rw [z, hP] at e
    cases e
  have old : ∀ b o, s.heap.get? b = some o → b ≠ c := fun b o e => Nat.ne_of_lt (Nat.lt_of_lt_of_le (Heap.lt_size e) hc)
  have told : ∀ b u, H b = some u → b ≠ c := fun b u e => ne_of_none e fresh
  have stays : ∀ b u, H b = some u → (∀ r, u ≠ .tbl r) → upd (upd H P (.tbl (ps ++ more))) c (LamX.CodeO c q) b = some u := fun b u e n => by rw [elsewhere b (notP b u e n) (told b u e)]; exact e
  refine I.step (g' := g') (d' := d') (t' := t') (ch := []) (fun b hb => absurd hb (by simp)) (fun b o _ _ _ e n => k b o (noneP b n) e) (fun b o _ _ _ e n => ⟨o.slots, k b o (noneP b n) e⟩) (fun b o _ e n => by rw [elsewhere b (noneP b n) (old b o e)]; exact n)
    (fun b o _ e => ?_) (fun b xs e => stays b _ e fun r z => by cases z) (fun b o u e => stays b _ e fun r z => by cases z) (fun b r e => ?_) (fun m hn => ?_) (fun b u e => ?_) hg
  · by_cases hb : b = P
    · exact ⟨_, by rw [hb]; exact hm⟩
    · exact ⟨o, k b o hb e⟩
  · by_cases hb : b = P
    · rw [hb, hP] at e
      cases e
      exact ⟨more, by rw [hb]; exact tabHere⟩
    · exact ⟨#[], by rw [elsewhere b hb (told b _ e), e]; simp⟩
  · obtain ⟨ob, es, ep, ho', r⟩ := hn
    exact ⟨ob, es, ep, k _ ob (noneP _ I.free) ho', r⟩
  · by_cases hb : b = c
    · rw [hb, upd_same] at e
      cases e
      obtain ⟨oc, vs, t, e1, e2, e3⟩ := ho
      rw [hb]
      exact ⟨⟨oc, vs, t, e1, e2, e3⟩, ⟨oc, e1⟩, fun h1 h2 ⟨oc, vs, t, x1, x2, x3⟩ st => ⟨oc, vs, t, st _ x1, x2, x3⟩⟩
    · by_cases hb2 : b = P
      · rw [hb2, tabHere] at e
        cases e
        rw [hb2]
        exact hm
      · rw [elsewhere b hb2 hb] at e
        refine (I.hok b u e).stay (fun d v hd r => k d v (fun z => ?_) r) (fun d r => stays d _ r fun _ z => by cases z) fun d xs r => stays d _ r fun _ z => by cases z
        rcases hd with y | y
        · exact hb2 (y.symm.trans z)
        · exact notP d _ y (fun _ z => by cases z) z
/-- the generator g over the items xs, ready to be walked, in the state s5; H1: what was held before -/
def ReadyV (X : Cx) (pins : List (Addr × Obj)) (σ : L2.St) (H1 : Hp) (T : List (Addr × Str)) (xs : List V) (pb : V → Bool) (g : Addr) (s5 : Shared) : Prop :=
  ∃ (fp wr : List Addr) (G : Array GenState → Array GenState → Prop) (F : Nat → Value → Prop) (St : Nat → Shared → Prop),
    WalksS X.prog X.w X.A.in1 g fp wr G xs.length F St ∧ St 0 s5 ∧
    TruthOf X.prog X.w X.A.in1 F (trV pb xs) ∧
    ∀ s', Moved wr G s5 s' → ∃ H2, LamX.ExtN H1 H2 ∧ LamX.Tabs T H2 ∧ Inv X pins σ H2 s'
theorem gen_tup {T : List (Addr × Str)} {c P : Addr} {elt iter : Expr} {x : Str} {px gpos : Pos} {scope : Scope} {pb : V → Bool} {te : TE} {k : Nat} {Q' : Value → Shared → Prop} {R : List V → Hp → Prop}
    (hr : Room k X.A) (TB : LamX.TabB X.base X.mg c P) (hmT : (P, X.env.qual ++ "<genexpr>") ∈ T) (hu : ∀ p ∈ T, p.1 = P → p.2 = X.env.qual ++ "<genexpr>") (hcode : X.env.code = .ref c) (S : GxR.GenS X.env scope x) (hi : PE X iter te) (hel : EltV X scope x elt (X.A.depth + 1) (X.A.units + 8) pb)
    (hs : ∀ v, genFold iter X.env v = pure v) (I : Inv X pins σ H s) (h : te σ H fun v H1 => ∃ (a : Addr) (xs : List V), v = .ref a ∧ SqT X.K H1 a xs ∧ xs.all flatIB = true ∧ LamX.Tabs T H1 ∧ R xs H1)
    (hQ : ∀ xs H1 g s5, R xs H1 → ReadyV X pins σ H1 T xs pb g s5 → Q' (.ref g) s5) :
    wpAny (model X.prog X.w) X.A (eval (.GeneratorExp elt [⟨.Name x px, iter, [], 0⟩] scope gpos) X.env) Q' X.xe s := by
  refine wpAny_GeneratorExp_walksQD hr.hd S.co (closure_ok S.free) S.cell S.dot S.loc S.kind (by have := hr.dp; omega) ?_ hs
  refine thn (hi.run pins s σ H _ I h) fun xv s1 ⟨v, H1, I1, r1, q1⟩ => ?_
  obtain ⟨a, xs, rfl, hT, hfl, hTt, q1⟩ := q1
  obtain ⟨ps, hP, ht, ha⟩ := hTt _ hmT
  cases (show xv = Value.ref a from r1)
  obtain ⟨its, rv, htup, hz⟩ := I1.tuple hT
  have htup' : s1.heap.IsTuple a its.toArray := htup
  refine wpAny_pyIter_tuple htup' ?_
  have hPs : s1.heap.get? P = some { cls := .none, data := .fields ps } := I1.hok P _ hP
  have hPlt : P < s1.heap.objs.size := Heap.lt_size hPs
  have hP2 : (s1.heap.push { cls := .type "tuple_iterator", data := .fields #[.ref a, .int 0 0] }).get? P = some { cls := .none, data := .fields ps } := Heap.get?_push_of_some _ hPs
  have cd : PySem.W.CodeHd (s1.heap.push { cls := .type "tuple_iterator", data := .fields #[.ref a, .int 0 0] }) c P := TB.code.keeps fun b u e => Heap.get?_push_of_some _ (I1.bk b u e)
  have lim2 : (s1.heap.push { cls := .type "tuple_iterator", data := .fields #[.ref a, .int 0 0] }).NoLimit := I1.nolimit.push _
  have halt : a < s1.heap.objs.size := by obtain ⟨o, e, _⟩ := htup'; exact Heap.lt_size e
  have haP : a ≠ P := fun z => by
    obtain ⟨o, e, e2, _⟩ := htup'
    rw [z, hPs] at e
    cases e
    cases e2
  have cont : ∀ (code : Value) (h3 : Heap) (tk : Nat) (ps' : Array Value), Heap.ExtBut P (s1.heap.push { cls := .type "tuple_iterator", data := .fields #[.ref a, .int 0 0] }) h3 → (s1.heap.push { cls := .type "tuple_iterator", data := .fields #[.ref a, .int 0 0] }).objs.size ≤ h3.objs.size → h3.get? P = some { cls := .none, data := .fields ps' } →
      (∀ (h' : Heap) (g' : Array GenState) (d' : Drawn) (t' : Nat), AllBare g' → (∀ b o, b ≠ s1.heap.objs.size → b ≠ h3.objs.size → h3.get? b = some o → h'.get? b = some o) → ∃ H2, LamX.ExtN H1 H2 ∧ LamX.Tabs T H2 ∧ Inv X pins σ H2 { s1 with heap := h', gens := g', drawn := d', toks := t' }) →
      wpAny (model X.prog X.w) X.A (builtinsFor X.env.globals X.env.builtins) (fun bi s₄ =>
        ∃ Ia fp wr n₀ Pf St₀ pz F, Value.ref s1.heap.objs.size = .ref Ia ∧ (∀ A' : Around, A'.handled = none → Walks X.prog X.w A' Ia fp wr n₀ Pf St₀) ∧ St₀ 0 s₄.heap ∧ (∀ b ∈ fp, b < s₄.heap.objs.size) ∧ s₄.heap.NoLimit ∧ cStatics ∉ wr ∧
          (∀ href : Heap, (∀ b o, s₄.heap.get? b = some o → href.get? b = some o) →
            QuietGenD X.prog X.w (genEnv scope (cloFrom X.env.cells scope.names []) s₄.heap.objs.size code bi X.env) x [] elt (List.range s₄.heap.objs.size) wr Pf pz F href (X.A.depth + 1) (X.A.units + 8)) ∧
          (∀ a h₅ tk gs, gs.bare = true → s₄.heap.objs.size < a → h₅.objs.size = a + 1 → (∀ b o, s₄.heap.get? b = some o → h₅.get? b = some o) →
            WalksS X.prog X.w X.A.in4 a (a :: s₄.heap.objs.size :: List.range s₄.heap.objs.size) (s₄.heap.objs.size :: wr) (GenOnlyQ s₄.gens.size) (passing pz n₀ 0).length
              (fun j y => ∃ i, (passing pz n₀ 0)[j]? = some i ∧ F i y) (GenAt X.prog X.w X.A.in4 a s₄.gens.size s₄.heap.objs.size (List.range s₄.heap.objs.size) wr pz n₀ F) →
            GenAt X.prog X.w X.A.in4 a s₄.gens.size s₄.heap.objs.size (List.range s₄.heap.objs.size) wr pz n₀ F 0 { s₄ with gens := s₄.gens.push gs, toks := tk, heap := h₅ } →
            Q' (.ref a) { s₄ with gens := s₄.gens.push gs, toks := tk, heap := h₅ })) X.xe { s1 with heap := h3, toks := tk } := by
    intro code h3 tk ps' hx hsz hP3 fin
    obtain ⟨bm, ob, e1, e2, e3, e4, e5, e6, e7, e8⟩ := TB.bm
    have hcP : cStatics ≠ P := fun e => by
      obtain ⟨_, hns, _⟩ := I1.nolimit
      obtain ⟨o', es, ep, ho, hd, _⟩ := hns
      rw [e, hPs] at ho
      cases ho
      cases hd
    have hcl : cStatics < s1.heap.objs.size := let ⟨_, hns, _⟩ := I1.nolimit; hns.lt
    have sz2 : (s1.heap.push { cls := .type "tuple_iterator", data := .fields #[.ref a, .int 0 0] }).objs.size = s1.heap.objs.size + 1 := Heap.size_push ..
    have keep3 : ∀ b u, b ≠ P → s1.heap.get? b = some u → h3.get? b = some u := fun b u hb e => hx b u hb (Heap.get?_push_of_some _ e)
    have basP : ∀ b u, X.base.get? b = some u → b ≠ P := fun b u e z => by
      have e2 := (I1.bs b u e).2
      rw [z, hP] at e2
      cases e2
    have bas3 : ∀ b u, X.base.get? b = some u → h3.get? b = some u := fun b u e => keep3 b u (basP b u e) (I1.bk b u e)
    refine wpAny_builtinsFor (m := X.mg) (by rw [I1.ok.glob]; exact ((I1.mod.glob.keeps I1.bk).push _).extBut hx TB.gP) e1 e2 (keep3 _ _ e4 (I1.bk _ _ e5)) e6 e7 e8 ?_
    have hit2 : (s1.heap.push { cls := .type "tuple_iterator", data := .fields #[.ref a, .int 0 0] }).IsTupleIter s1.heap.objs.size a 0 := ⟨_, Heap.get?_push_size _ rfl, rfl, rfl⟩
    refine ⟨s1.heap.objs.size, [s1.heap.objs.size, a], [s1.heap.objs.size], its.toArray.size, (fun i v => its.toArray[i]? = some v), (fun i h => h.IsTupleIter s1.heap.objs.size a i ∧ h.IsTuple a its.toArray), (fun _ => true),
      (fun i y => ∃ v, xs[i]? = some v ∧ y = .bool (pb v)), rfl, fun A' hA => Walks.tuple hA _ _ (Nat.ne_of_lt halt) _, ?_, ?_, lim2.extBut hx hcP, ?_, ?_, ?_⟩
    · refine ⟨hit2.at fun o e => hx _ o (Nat.ne_of_gt hPlt) e, ?_⟩
      obtain ⟨o, e, r⟩ := htup'
      exact ⟨o, keep3 a o haP e, r⟩
    · intro b hb
      rcases List.mem_cons.mp hb with z | z
      · rw [z]
        show s1.heap.objs.size < h3.objs.size
        omega
      · rw [List.mem_singleton.mp z]
        exact Nat.lt_of_lt_of_le halt (show s1.heap.objs.size ≤ h3.objs.size by omega)
    · intro z
      rcases List.mem_cons.mp z with z | z
      · exact Nat.ne_of_lt hcl z
      · cases z
    · intro href hhref
      refine ⟨fun A' E' i v s₂ m₂ hA hD hU hPv hn hm hk => ?_, fun A' E' i v s₂ m₂ hA hD hU hPv hp hn hm hk => ?_⟩
      · simp only [List.forIn_nil]
        exact wpAny_pure ⟨rfl, GxR.keeps_refl _⟩
      · obtain ⟨y, hy, ry⟩ : ∃ y, xs[i]? = some y ∧ RelV y v := by
          have hPv' : its[i]? = some v := by simpa using hPv
          cases e : xs[i]? with
          | none =>
            have := Vals.none_of rv e
            rw [this] at hPv'
            cases hPv'
          | some y =>
            obtain ⟨u', e2, r'⟩ := Vals.get rv e
            rw [hPv'] at e2
            cases e2
            exact ⟨y, rfl, r'⟩
        have hfy : flatIB y = true := List.all_eq_true.mp hfl y (List.mem_of_getElem? hy)
        have bb : Bare X.K X.mg s₂.heap := (base_bare I1.ok).keeps fun b o e => by
          have h4 : h3.get? b = some o := bas3 b o e
          refine hk b (List.mem_range.mpr (Heap.lt_size h4)) (fun z => ?_) o (hhref b o h4)
          have z2 := List.mem_singleton.mp z
          have h5 := Heap.lt_size (I1.bk b o e)
          rw [z2] at h5
          exact Nat.lt_irrefl _ h5
        exact wpAny_mono (hel _ A' E' y v s₂ m₂ rfl (show X.env.globals = mainGlobals from I1.ok.glob) (by rfl) hA hD hU bb hn hm ry hfy) (fun z s3 r => ⟨⟨y, hy, r.1⟩, r.2⟩) fun _ _ e => e
    · intro g h5 tk5 gs hgb hag hsz5 hk5 W5 hat
      have hlen : its.toArray.size = xs.length := by rw [List.size_toArray]; exact rv.length.symm
      simp only [GxR.passing_true, List.length_range] at W5
      rw [hlen] at W5 hat
      refine hQ xs H1 g _ q1 ⟨_, _, _, _, _, W5.in4_1, hat, ?_, fun s' hm => ?_⟩
      · intro j y sj Qj Ej hy hQj
        obtain ⟨i, hij, cc, hcc, rfl⟩ := hy
        obtain ⟨hj, ej⟩ := List.getElem?_eq_some_iff.mp hij
        rw [List.getElem_range] at ej
        subst ej
        have hQ2 : Qj (trV pb xs j) sj := hQj
        rw [trV_some hcc] at hQ2
        exact wpAny_truthy_bool hQ2
      · obtain ⟨H2, f1, f2, J⟩ := fin s'.heap s'.gens s'.drawn s'.toks (AllBare.movedS (I1.bare.push hgb) hm) fun b u h1 h2 e => hm.heap b u (fun z => by
          rcases List.mem_cons.mp z with z | z
          · exact h2 z
          · exact h1 (List.mem_singleton.mp z)) (hk5 b u e)
        rw [GxR.sh_eta s1 s' hm.os] at J
        exact ⟨H2, f1, f2, J⟩
  refine ⟨lim2, ?_⟩
  have nofr : ∀ b u, s1.heap.get? b = some u → b ≠ s1.heap.objs.size := fun b u e => Nat.ne_of_lt (Heap.lt_size e)
  cases hf : codeAmong gpos ps.toList with
  | none =>
    refine wpAny_genexprCodeX hcode (cd.code hP2 ht) (cd.tab hP2) hf fun c' h' tk hx hge hlt hco' hrec htab' _ => ?_
    obtain ⟨o1, vs, f1, tf, fl, tg, inF, tx, tt, op, _, _, _, _, _, _, _, _, _, htr, _⟩ := hco'
    obtain ⟨c2, oc, vs2, t2, e2, hoc, hd2, hv2⟩ := hrec
    cases e2
    have hge1 : s1.heap.objs.size + 1 ≤ c' := by rw [Heap.size_push] at hge; exact hge
    have hge2 : s1.heap.objs.size ≤ c' := Nat.le_of_succ_le hge1
    have nC : H1 c' = none := I1.hok.fresh hge2
    have nP' : ∀ b u, s1.heap.get? b = some u → b ≠ h'.objs.size := fun b u e => Nat.ne_of_lt (Nat.lt_of_lt_of_le (Heap.lt_size e) (Nat.le_trans hge2 (Nat.le_of_lt hlt)))
    refine cont _ h' tk _ hx (Nat.le_trans hge (Nat.le_of_lt hlt)) htab'.2 fun h'' g' d' t' hb hk => ?_
    have kk : ∀ b o, b ≠ P → s1.heap.get? b = some o → h''.get? b = some o := fun b o hbP e => hk b o (nofr b o e) (nP' b o e) (hx b o hbP (Heap.get?_push_of_some _ e))
    have J := inv_tabC (q := X.env.qual ++ "<genexpr>") (more := #[rawInt gpos.line, rawInt gpos.col, .ref c']) (h' := h'') (g' := g') (d' := d') (t' := t') I1 hP kk (hk P _ (nofr P _ hPs) (nP' P _ hPs) htab'.2) hge2
      ⟨oc, vs2, t2, hk c' oc (Nat.ne_of_gt hge1) (Nat.ne_of_lt hlt) hoc, hd2, hv2⟩ hb
    have hE : LamX.ExtN H1 (upd (upd H1 P (.tbl (ps ++ #[rawInt gpos.line, rawInt gpos.col, .ref c']))) c' (LamX.CodeO c' (X.env.qual ++ "<genexpr>"))) := fun b o e n => by
      rw [upd_ne (ne_of_none e nC), upd_ne (fun z => n ps (Option.some.inj (e.symm.trans (by rw [z]; exact hP))))]
      exact e
    have eL : (ps ++ #[rawInt gpos.line, rawInt gpos.col, .ref c']).toList = ps.toList ++ [rawInt gpos.line, rawInt gpos.col, .ref c'] := by simp
    refine ⟨_, hE, fun p hp => ?_, J⟩
    by_cases hb2 : p.1 = P
    · rw [hu p hp hb2, hb2]
      refine ⟨_, by rw [upd_ne (ne_of_none hP nC), upd_same], by rw [eL]; exact PySem.TriplesOk_snoc _ _ _ _ ht, fun p' cv hcv => ?_⟩
      rw [eL] at hcv
      rcases LamX.among_app _ ht hcv with z | z
      · obtain ⟨c0, e1, e2⟩ := ha p' cv z
        rw [hu _ hmT rfl] at e2
        exact ⟨c0, e1, hE _ _ e2 LamX.codeO_ne⟩
      · exact ⟨c', z, upd_same⟩
    · obtain ⟨ps', a1, a2, a3⟩ := hTt p hp
      refine ⟨ps', by rw [upd_ne (ne_of_none a1 nC), upd_ne hb2]; exact a1, a2, fun p' cv hcv => ?_⟩
      obtain ⟨c0, e1, e2⟩ := a3 p' cv hcv
      exact ⟨c0, e1, hE _ _ e2 LamX.codeO_ne⟩
  | some cv =>
    refine wpAny_genexprCode_hit hcode (cd.code hP2 ht) hf ?_
    refine cont cv _ s1.toks ps (Heap.ExtBut.refl _ _) (Nat.le_refl _) hP2 fun h'' g' d' t' hb hk => ?_
    have nP' : ∀ b u, s1.heap.get? b = some u → b ≠ (s1.heap.push { cls := .type "tuple_iterator", data := .fields #[.ref a, .int 0 0] }).objs.size := fun b u e => by
      rw [Heap.size_push]
      exact Nat.ne_of_lt (Nat.lt_succ_of_lt (Heap.lt_size e))
    have kk : ∀ b o, s1.heap.get? b = some o → h''.get? b = some o := fun b o e => hk b o (nofr b o e) (nP' b o e) (Heap.get?_push_of_some _ e)
    have J := GxR.inv_tab (more := #[]) (h' := h'') (g' := g') (d' := d') (t' := t') I1 hP (fun b o _ e => kk b o e) (by rw [Array.append_empty]; exact kk P _ hPs) hb
    have eH : upd H1 P (.tbl (ps ++ #[])) = H1 := by
      funext b
      by_cases hb : b = P
      · rw [hb, upd_same, hP, Array.append_empty]
      · rw [upd_ne hb]
    rw [eH] at J
    exact ⟨H1, LamX.ExtN.refl H1, hTt, J⟩
/-- all(test for x in e), e a tuple; behind it the def's table may have grown -/
def tAllV (K : PySem.W.Frag) (T : List (Addr × Str)) (pb : V → Bool) (te : TE) : TE := fun σ H Q => te σ H fun v H1 => ∃ (a : Addr) (xs : List V), v = .ref a ∧ SqT K H1 a xs ∧ xs.all flatIB = true ∧ LamX.Tabs T H1 ∧ ∀ H2, LamX.ExtN H1 H2 → LamX.Tabs T H2 → Q (.bl (xs.all pb)) H2
theorem pe_allV {T : List (Addr × Str)} {c P : Addr} {elt iter : Expr} {x : Str} {px p pos gpos : Pos} {scope : Scope} {pb : V → Bool} {te : TE} {k : Nat}
    (hr : Room k X.A) (hg : Gl X "all") (hm : X.mg "all" = none) (hb : bootBuiltins "all" = some (.builtin "all")) (TB : LamX.TabB X.base X.mg c P) (hmT : (P, X.env.qual ++ "<genexpr>") ∈ T) (hu : ∀ p ∈ T, p.1 = P → p.2 = X.env.qual ++ "<genexpr>") (hcode : X.env.code = .ref c) (S : GxR.GenS X.env scope x) (hi : PE X iter te) (hel : EltV X scope x elt (X.A.depth + 1) (X.A.units + 8) pb)
    (hs : ∀ v, genFold iter X.env v = pure v)
    (he : starEach [.GeneratorExp elt [⟨.Name x px, iter, [], 0⟩] scope gpos] X.env = (false, eval (.GeneratorExp elt [⟨.Name x px, iter, [], 0⟩] scope gpos) X.env) :: starEach [] X.env := by rfl) :
    PE X (.Call (.Name "all" p) [.GeneratorExp elt [⟨.Name x px, iter, [], 0⟩] scope gpos] [] pos) (tAllV X.K T pb te) := by
  refine ⟨fun pins s σ H Q I h => ?_⟩
  refine wpAny_Call_Name_kw (ld_blt I hg hm hb ?_)
  refine PyProof.Rows.callWith_builtin1 ?_ he (by rfl)
  rw [he]
  show wpAny _ _ (spliced ((false, eval (.GeneratorExp elt [⟨.Name x px, iter, [], 0⟩] scope gpos) X.env) :: backTo pos (starEach [] X.env))) _ _ s
  refine Calls.spliced_cons (gen_tup (R := fun xs H1 => ∀ H2, LamX.ExtN H1 H2 → LamX.Tabs T H2 → Q (.bl (xs.all pb)) H2) hr TB hmT hu hcode S hi hel hs I h fun xs H1 g s5 hR hG => ?_)
  obtain ⟨fp, wr, G, F, St, W, hst, htr, hI⟩ := hG
  refine Calls.spliced_nil ?_
  refine call_all_walkS (W.self 0 _ _ _ hst ⟨g, fp, wr, G, _, F, St, _, rfl, W, hst, htr, fun s' hmv => ?_⟩)
  obtain ⟨H2, f1, f2, J⟩ := hI s' hmv
  refine ⟨.bl _, H2, J, rfl, ?_⟩
  rw [all_trV xs pb]
  exact hR H2 f1 f2
end
end QG

set_option Elab.async false
set_option linter.all false
set_option maxRecDepth 100000
set_option maxHeartbeats 2000000
/-! _law_refused(lambda: ..): the name that a call refuses. -/
namespace QR
open PySem PySem.Spec PyProof.Rows L2 LamX
abbrev sRef : Stmt := QG.top 28
theorem scRef : FnScope ["call", "e"] ["call"] (defScope sRef) := ⟨rfl, rfl, rfl, by decide +kernel, rfl, by decide +kernel, by decide +kernel⟩
/-- what is made of the lambda's reading: the name of the refusal, or the empty text -/
def TRef (C : Addr) : (XK → Hp → VK → Prop) → Hp → VK → Prop := fun tl H Q =>
  tl (fun cls d H' => cls = .ref C ∧ ∃ (dd : Addr) (z : Str), d = some dd ∧ H' dd = some (badD z) ∧ Q (.str z) H') H (fun _ H' => Q (.str "") H')
theorem ref_gives {X : Cx} {x q : Str} {g C fI cc cda : Addr} {cdg : Value} (T : PySem.QBad.BadTxt X.prog X.K X.mg C fI cc cda) :
    GivesTo X ["call", "e"] x (defScope sRef) g cdg (defBody sRef) "call" q (TRef C) := by
  intro f c' s H Q tl act hc h
  have hgl : Gl (cxOf C8.CX0 X.prog X.w X.K X.mg X.base ["call", "e"] x (defScope sRef) g cdg X.A X.stack s H C8.E0).nox "BadArgument" := by rfl
  refine ⟨_, pss_cons (ps_try_as (X := (cxOf C8.CX0 X.prog X.w X.K X.mg X.base ["call", "e"] x (defScope sRef) g cdg X.A X.stack s H C8.E0).nox) (c := .ref C) (i := 1) (Wout := fun _ _ _ _ => False)
      (tb := fun W D σ H => ∃ Ech : XK, (∀ cls d σ' H', Ech cls d H' → W cls d σ' H') ∧ σ = L2.start ["call", "e"] [.ref f] ∧ H c' = some (CodeO c' q) ∧ tl Ech H (fun _ H' => D.nx (L2.start ["call", "e"] [.ref f]) H'))
      (ts := fun a cls d D σ H => σ.length = 2 → tRet (tXf a cls d C "name" (tVar 1)) D σ H)
      rfl rfl scRef.nd rfl rfl ⟨hgl, by decide, .inl T.gC⟩ L2.takes0 (fun W pn xe tk _ => ?_) (fun a oe cls d pn hz hf => ?_)) (pss_one (ps_ret pe_str)), ?_⟩
  · refine ⟨fun pins s' σ H' D I h' => ?_⟩
    obtain ⟨Ech, hW, h1, h2, h3⟩ := h'
    subst h1
    have hp := fun p1 p2 => act W pn xe Ech p1 p2 tk hW
    exact (pss_one (ps_expr (hp _ _))).run pins s' _ H' D I ⟨rfl, h2, h3⟩
  · refine ⟨fun pins s' σ H' D I h' => PSs.run (X := (cxOf C8.CX0 X.prog X.w X.K X.mg X.base ["call", "e"] x (defScope sRef) g cdg X.A X.stack s H C8.E0).nox.suite a ((a, oe) :: pn)) (pss_one (ps_ret (pe_xf (X := (cxOf C8.CX0 X.prog X.w X.K X.mg X.base ["call", "e"] x (defScope sRef) g cdg X.A X.stack s H C8.E0).nox) (bad_xf (X := (cxOf C8.CX0 X.prog X.w X.K X.mg X.base ["call", "e"] x (defScope sRef) g cdg X.A X.stack s H C8.E0).nox) T) T.noN hz hf (pv 1)))) pins s' σ H' D I (h' I.len)⟩
  · refine ⟨_, fun cls d σ' H' hE => ?_, rfl, hc, h⟩
    obtain ⟨e1, dd, z, e2, e3, hQ⟩ := hE
    subst e1
    refine ⟨true, T.te, fun _ a ha hl => ?_, fun z => Bool.noConfusion z⟩
    have hl1 : 1 < σ'.length := by
      rw [List.length_set] at hl
      omega
    refine ⟨.ref a, List.getElem?_set_self hl1, rfl, rfl, dd, _, .str z, e2, e3, ?_, hQ⟩
    simp [List.lookup]
end QR

set_option Elab.async false
set_option linter.all false
set_option maxRecDepth 100000
set_option maxHeartbeats 2000000
/-! The readings one step at a time; what stays of a heap. -/
namespace Go
open PySem PySem.Spec PyProof.Rows L2
/-! ### named readings of the rules in use -/
def rAbs : List V → Hp → VK → Prop := fun xs H Q => ∃ i, xs = [.int i] ∧ Q (.int (if i < 0 then -i else i)) H
def rMax2 : List V → Hp → VK → Prop := fun xs H Q => ∃ i j, xs = [.int i, .int j] ∧ Q (.int (if j > i then j else i)) H
def rMin2 : List V → Hp → VK → Prop := fun xs H Q => ∃ i j, xs = [.int i, .int j] ∧ Q (.int (if j < i then j else i)) H
def rInt1 : List V → Hp → VK → Prop := fun xs H Q => (∃ i, xs = [.int i] ∧ Q (.int i) H) ∨ ∃ k, xs = [.bl k] ∧ Q (.int (if k then 1 else 0)) H
def rLenS (K : PySem.W.Frag) : List V → Hp → VK → Prop := fun xs H Q => ∃ p ys, xs = [.ref p] ∧ (SqL K H p ys ∨ SqT K H p ys) ∧ Q (.int ys.length) H
def rTupO (K : PySem.W.Frag) : List V → Hp → VK → Prop := fun xs H Q => ∃ p ys, xs = [.ref p] ∧ ((SqL K H p ys ∧ ∀ l, H l = none → Q (.ref l) (upd H l (.tup ys))) ∨ (SqT K H p ys ∧ Q (.ref p) H))
def rLstO (K : PySem.W.Frag) : List V → Hp → VK → Prop := fun xs H Q => ∃ p ys, xs = [.ref p] ∧ (SqL K H p ys ∨ SqT K H p ys) ∧ ∀ l, H l = none → Q (.ref l) (upd H l (.lst ys))
section
variable {X : Cx}
theorem c_abs : CallR X (.builtin "abs") rAbs := call_abs
theorem c_max (hc : X.calm = true) : CallR X (.builtin "max") rMax2 := call_max2 hc
theorem c_min (hc : X.calm = true) : CallR X (.builtin "min") rMin2 := call_min2 hc
theorem c_int : CallR X (.type "int") rInt1 := call_int1
theorem c_len : CallR X (.builtin "len") (rLenS X.K) := call_len_seq
theorem c_tup : CallR X (.type "tuple") (rTupO X.K) := call_tuple_of
theorem c_lst : CallR X (.type "list") (rLstO X.K) := call_list_of
end
section
variable {X : Cx} {K : PySem.W.Frag}
theorem c_lenK (h : X.K = K := by rfl) : CallR X (.builtin "len") (rLenS K) := by subst h; exact c_len
theorem c_tupK (h : X.K = K := by rfl) : CallR X (.type "tuple") (rTupO K) := by subst h; exact c_tup
theorem c_lstK (h : X.K = K := by rfl) : CallR X (.type "list") (rLstO K) := by subst h; exact c_lst
theorem c_isiK (h : X.K = K := by rfl) : CallR X (.builtin "isinstance") (rIsi K) := by subst h; exact call_isi
theorem ix_tupK (h : X.K = K := by rfl) : IxR X (rIxT K) := by subst h; exact ix_tup
theorem ix_listK (h : X.K = K := by rfl) : IxR X (rIxL K) := by subst h; exact ix_list
end
section
variable {X : Cx} {K : PySem.W.Frag}
theorem op_neDK (hu : X.A.units + 64 < cLine) (h : X.K = K := by rfl) : OpR X (compareOp .NotEq) (rNeD K) := by subst h; exact op_neD hu
theorem op_eqDK (hu : X.A.units + 64 < cLine) (h : X.K = K := by rfl) : OpR X (compareOp .Eq) (rEqD K) := by subst h; exact op_eqD hu
theorem op_repTK (h : X.K = K := by rfl) : OpR X (binaryOp .Mult) (rRepT K) := by subst h; exact op_repT
end
/-! ### what data may be compared -/
theorem shT (ns : List Int) : SeqAt.shaped (.tuple (ns.map PyData.int)) = true := by
  simp [SeqAt.shaped, PyData.canLay0, PyData.depth, PySem.W.ke_canLayAll0, PySem.W.ke_depthAll]
theorem eqv_ints : ∀ ns : List Int, PyData.eqvAll (ns.map PyData.int) (ns.map PyData.int) = true
  | [] => by simp [PyData.eqvAll]
  | n :: ns => by
    rw [List.map_cons, PyData.eqvAll, eqv_ints ns]
    simp [PyData.eqv]
theorem eqv_tup (ns : List Int) : PyData.eqv (.tuple (ns.map PyData.int)) (.tuple (ns.map PyData.int)) = true := by rw [PyData.eqv]; exact eqv_ints ns
theorem dpA {K : PySem.W.Frag} {H : Hp} : ∀ ns : List Int, DpAll K H (ns.map V.int) (ns.map PyData.int)
  | [] => .nil
  | n :: ns => .cons (.int n) (dpA ns)
theorem dpT {K : PySem.W.Frag} {H : Hp} {a : Addr} {ns : List Int} (h : H a = some (.tup (ns.map V.int))) : Dp K H (.ref a) (.tuple (ns.map PyData.int)) := .tup (SqT.of h) (dpA ns)
theorem neD {K : PySem.W.Frag} {H : Hp} {x y : V} {d e : PyData} {Q : VK} (hx : Dp K H x d) (hy : Dp K H y e) (sx : SeqAt.shaped d = true) (sy : SeqAt.shaped e = true) (q : Q (.bl (!PyData.eqv d e)) H) : rNeD K x y H Q := ⟨d, e, hx, hy, sx, sy, q⟩
theorem eqD {K : PySem.W.Frag} {H : Hp} {x y : V} {d e : PyData} {Q : VK} (hx : Dp K H x d) (hy : Dp K H y e) (sx : SeqAt.shaped d = true) (sy : SeqAt.shaped e = true) (q : Q (.bl (PyData.eqv d e)) H) : rEqD K x y H Q := ⟨d, e, hx, hy, sx, sy, q⟩
/-! ### continuations with names -/
def KB (QT : Bool → Hp → Prop) : VK := fun x H1 => ∃ k, x = .bl k ∧ QT k H1
def KAndV (tb : TE) (σ : L2.St) (Q : VK) : VK := fun x H1 => ∃ c, x = .bl c ∧ if c = true then tb σ H1 Q else Q (.bl false) H1
def KOrV (tb : TE) (σ : L2.St) (Q : VK) : VK := fun x H1 => ∃ c, x = .bl c ∧ if c = true then Q (.bl true) H1 else tb σ H1 Q
def KNotV (Q : VK) : VK := fun x H1 => ∃ c, x = .bl c ∧ Q (.bl (!c)) H1
def KTup (Q : VK) : List V → Hp → Prop := fun xs H1 => xs.length ≤ sizeLine ∧ ∀ p, H1 p = none → Q (.ref p) (upd H1 p (.tup xs))
def KLst (Q : VK) : List V → Hp → Prop := fun xs H1 => xs.length ≤ sizeLine ∧ ∀ p, H1 p = none → Q (.ref p) (upd H1 p (.lst xs))
def KPar (i j : Nat) (σ : L2.St) (P : L2.St → Hp → Prop) : List V → Hp → Prop := fun vs H1 => ∃ v w, vs = [v, w] ∧ P ((σ.set i (some v)).set j (some w)) H1
def KPar3 (i j k : Nat) (σ : L2.St) (P : L2.St → Hp → Prop) : List V → Hp → Prop := fun vs H1 => ∃ u v w, vs = [u, v, w] ∧ P (((σ.set i (some u)).set j (some v)).set k (some w)) H1
def KChain (r' : R2) (tc : TE) (σ : L2.St) (Q : VK) (y : V) : VK := fun z H3 => ∃ k, z = .bl k ∧ if k = true then tc σ H3 fun w H4 => r' y w H4 Q else Q (.bl false) H3
def KPart (Q : Option Int → Hp → Prop) : VK := fun x H1 => ∃ i, x = .int i ∧ Q (some i) H1
section
variable {σ : L2.St} {H H1 : Hp} {D : Ends} {Q : VK} {QA : List V → Hp → Prop} {QT : Bool → Hp → Prop} {QO : Option Int → Hp → Prop} {v x y : V} {i j k : Nat} {a b : Int} {ta tb te tc : TE} {tu tv : TA} {t u : TS} {g : TG} {c d : TT} {K : PySem.W.Frag}
  {p l m : Addr} {xs ys : List V} {bb : Bool}
theorem var (e : σ[i]? = some (some v)) (q : Q v H) : tVar i σ H Q := ⟨v, e, q⟩
theorem con (q : Q v H) : tC v σ H Q := q
theorem seq (q : t ⟨u D, D.rt, D.bk, D.ct⟩ σ H) : tSeq t u D σ H := q
theorem asg (q : te σ H fun x H1 => g x σ H1 D.nx) : tAsg te g D σ H := q
theorem name {σ' : L2.St} {P : L2.St → Hp → Prop} (e : σ.set i (some v) = σ') (q : P σ' H) : gName i v σ H P := by subst e; exact q
theorem ret (q : te σ H D.rt) : tRet te D σ H := q
theorem retN (q : D.rt .non H) : tRetN D σ H := q
theorem next (q : D.nx σ H) : tNext D σ H := q
theorem brk (q : D.bk σ H) : tBreak D σ H := q
theorem cnt (q : D.ct σ H) : tCont D σ H := q
theorem drop (q : te σ H fun _ H1 => D.nx σ H1) : tDrop te D σ H := q
theorem ifs (q : c σ H fun b H1 => if b = true then t D σ H1 else u D σ H1) : tIfS c t u D σ H := q
theorem ifx (q : c σ H fun b H1 => if b = true then ta σ H1 Q else tb σ H1 Q) : tIf c ta tb σ H Q := q
theorem op {r : R2} (q : ta σ H fun x H1 => tb σ H1 fun y H2 => r x y H2 Q) : tOp r ta tb σ H Q := q
theorem un {r : V → Hp → VK → Prop} (q : ta σ H fun x H1 => r x H1 Q) : tUn r ta σ H Q := q
theorem i0 {g : Int → Int → V} (q : Q (g a b) H) : rI0 g (.int a) (.int b) H Q := ⟨a, b, rfl, rfl, q⟩
theorem i1 {C : Int → Int → Prop} {g : Int → Int → V} (h : C a b) (q : Q (g a b) H) : rI C g (.int a) (.int b) H Q := ⟨a, b, rfl, rfl, h, q⟩
theorem uI {g : Int → V} (q : Q (g a) H) : rU g (.int a) H Q := ⟨a, rfl, q⟩
theorem test (q : te σ H (KB QT)) : tTest te σ H QT := q
theorem tB_ (q : te σ H (KB QT)) : tB te σ H QT := q
theorem kb (q : QT bb H) : KB QT (.bl bb) H := ⟨bb, rfl, q⟩
theorem and_ (q : c σ H fun b H1 => if b = true then d σ H1 QT else QT false H1) : tAnd c d σ H QT := q
theorem or_ (q : c σ H fun b H1 => if b = true then QT true H1 else d σ H1 QT) : tOr c d σ H QT := q
theorem not_ (q : c σ H fun b H1 => QT (!b) H1) : tNot c σ H QT := q
theorem andV (q : ta σ H (KAndV tb σ Q)) : tAndV ta tb σ H Q := q
theorem kandV (q : if bb = true then tb σ H Q else Q (.bl false) H) : KAndV tb σ Q (.bl bb) H := ⟨bb, rfl, q⟩
theorem orV (q : ta σ H (KOrV tb σ Q)) : tOrV ta tb σ H Q := q
theorem korV (q : if bb = true then Q (.bl true) H else tb σ H Q) : KOrV tb σ Q (.bl bb) H := ⟨bb, rfl, q⟩
theorem notV (q : ta σ H (KNotV Q)) : tNotV ta σ H Q := q
theorem knotV (q : Q (.bl (!bb)) H) : KNotV Q (.bl bb) H := ⟨bb, rfl, q⟩
theorem cons (q : te σ H fun x H1 => tu σ H1 fun xs H2 => QA (x :: xs) H2) : tCons te tu σ H QA := q
theorem nil (q : QA [] H) : tNil σ H QA := q
theorem cb {r : List V → Hp → VK → Prop} (q : tu σ H fun vs H1 => r vs H1 Q) : tCB r tu σ H Q := q
theorem call {sp : Sp} {dvs : List V} {E : XK} (q : tu σ H fun vs H1 => sp (vs ++ dvs) H1 Q E) : tCall sp dvs E tu σ H Q := q
theorem callS {sp : Sp} {E : L2.St → XK} (q : tu σ H fun vs H1 => sp vs H1 Q (E σ)) : tCallS sp E tu σ H Q := q
theorem tup (q : tu σ H (KTup Q)) : tTup tu σ H Q := q
theorem lst (q : tu σ H (KLst Q)) : tLst tu σ H Q := q
theorem ktup (h : xs.length ≤ sizeLine) (q : ∀ p, H p = none → Q (.ref p) (upd H p (.tup xs))) : KTup Q xs H := ⟨h, q⟩
theorem klst (h : xs.length ≤ sizeLine) (q : ∀ p, H p = none → Q (.ref p) (upd H p (.lst xs))) : KLst Q xs H := ⟨h, q⟩
theorem par (q : tu σ H (KPar i j σ D.nx)) : tPar i j tu D σ H := q
theorem par3 (q : tu σ H (KPar3 i j k σ D.nx)) : tPar3 i j k tu D σ H := q
theorem kpar {σ' : L2.St} {P : L2.St → Hp → Prop} {v w : V} (e : (σ.set i (some v)).set j (some w) = σ') (q : P σ' H) : KPar i j σ P [v, w] H := ⟨v, w, rfl, by rw [e]; exact q⟩
theorem kpar3 {σ' : L2.St} {P : L2.St → Hp → Prop} {u v w : V} (e : ((σ.set i (some u)).set j (some v)).set k (some w) = σ') (q : P σ' H) : KPar3 i j k σ P [u, v, w] H := ⟨u, v, w, rfl, by rw [e]; exact q⟩
theorem aug {ti : TIp} (e : σ[i]? = some (some x)) (q : te σ H fun y H1 => ti x y H1 fun z H2 => gName i z σ H2 D.nx) : tAug i te ti D σ H := ⟨x, e, q⟩
theorem ipi {f : Int → Int → Int} (q : Q (.int (f a b)) H) : ipI f (.int a) (.int b) H Q := ⟨a, b, rfl, rfl, q⟩
theorem chain {r r' : R2} (q : ta σ H fun x H1 => tb σ H1 fun y H2 => r x y H2 (KChain r' tc σ Q y)) : tChain r r' ta tb tc σ H Q := q
theorem kchain {r' : R2} (q : if bb = true then tc σ H fun w H4 => r' y w H4 Q else Q (.bl false) H) : KChain r' tc σ Q y (.bl bb) H := ⟨bb, rfl, q⟩
theorem abs_ (q : Q (.int (if a < 0 then -a else a)) H) : rAbs [.int a] H Q := ⟨a, rfl, q⟩
theorem max_ (q : Q (.int (if b > a then b else a)) H) : rMax2 [.int a, .int b] H Q := ⟨a, b, rfl, q⟩
theorem min_ (q : Q (.int (if b < a then b else a)) H) : rMin2 [.int a, .int b] H Q := ⟨a, b, rfl, q⟩
theorem int_ (q : Q (.int a) H) : rInt1 [.int a] H Q := .inl ⟨a, rfl, q⟩
theorem lenT (h : SqT K H p xs) (q : Q (.int xs.length) H) : rLenS K [.ref p] H Q := ⟨p, xs, rfl, .inr h, q⟩
theorem lenL (h : SqL K H p xs) (q : Q (.int xs.length) H) : rLenS K [.ref p] H Q := ⟨p, xs, rfl, .inl h, q⟩
theorem tupL (h : SqL K H p xs) (q : ∀ l, H l = none → Q (.ref l) (upd H l (.tup xs))) : rTupO K [.ref p] H Q := ⟨p, xs, rfl, .inl ⟨h, q⟩⟩
theorem tupT (h : SqT K H p xs) (q : Q (.ref p) H) : rTupO K [.ref p] H Q := ⟨p, xs, rfl, .inr ⟨h, q⟩⟩
theorem lstL (h : SqL K H p xs) (q : ∀ l, H l = none → Q (.ref l) (upd H l (.lst xs))) : rLstO K [.ref p] H Q := ⟨p, xs, rfl, .inl h, q⟩
theorem lstT (h : SqT K H p xs) (q : ∀ l, H l = none → Q (.ref l) (upd H l (.lst xs))) : rLstO K [.ref p] H Q := ⟨p, xs, rfl, .inr h, q⟩
theorem ixT (h : SqT K H p xs) (e : atI xs a = some v) (q : Q v H) : rIxT K (.ref p) (.int a) H Q := ⟨p, xs, a, v, rfl, rfl, h, e, q⟩
theorem ixL (h : SqL K H p xs) (e : atI xs a = some v) (q : Q v H) : rIxL K (.ref p) (.int a) H Q := ⟨p, xs, a, v, rfl, rfl, h, e, q⟩
theorem eq_ (h : scal x y = true) (q : Q (.bl (decide (x = y))) H) : rEq x y H Q := ⟨h, q⟩
theorem ne_ (h : scal x y = true) (q : Q (.bl (!decide (x = y))) H) : rNe x y H Q := ⟨h, q⟩
theorem isN (q : Q (.bl (decide (x = .non))) H) : rIsN x .non H Q := ⟨rfl, q⟩
theorem notN (q : Q (.bl (!decide (x = .non))) H) : rNotN x .non H Q := ⟨rfl, q⟩
theorem sum_ {ns : List Int} (h : SqL K H p (ns.map V.int)) (q : Q (.int ns.sum) H) : rSum K [.ref p] H Q := ⟨p, ns, rfl, h, q⟩
theorem app {y : V} (h : H l = some (.lst xs)) (hz : xs.length < sizeLine) (q : Q .non (upd H l (.lst (xs ++ [y])))) : rAppend (.ref l) [y] H Q := ⟨l, xs, y, rfl, rfl, h, hz, q⟩
theorem cat (h : H l = some (.lst xs)) (h' : H m = some (.lst ys)) (hz : xs.length + ys.length ≤ sizeLine) (q : ∀ p, H p = none → Q (.ref p) (upd H p (.lst (xs ++ ys)))) : rCat (.ref l) (.ref m) H Q := ⟨l, m, xs, ys, rfl, rfl, h, h', hz, q⟩
theorem bmL {to : TE} {tu : TA} {r : V → List V → Hp → VK → Prop} (q : to σ H fun x H1 => tyV K "list" x H1 ∧ tu σ H1 fun xs H2 => r x xs H2 Q) : tBM K "list" r to tu σ H Q := q
theorem tyL (h : H l = some (.lst xs)) : tyV K "list" (.ref l) H := .inl ⟨rfl, _, Or.inl (Or.inl h)⟩
theorem sub {to ti : TE} {ts : TSet} {P : L2.St → Hp → Prop} (q : to σ H fun o H1 => ti σ H1 fun i H2 => ts o i v H2 fun H3 => P σ H3) : gSub to ti ts v σ H P := q
theorem setL {P : Hp → Prop} (h : H l = some (.lst xs)) (e : ixN xs.length a = some k) (q : P (upd H l (.lst (xs.set k v)))) : rSetL (.ref l) (.int a) v H P := ⟨l, xs, a, k, rfl, rfl, h, e, q⟩
theorem gtup {n : Nat} {tg : TGs} {P : L2.St → Hp → Prop} (h : SqT K H p xs) (e : xs.length = n) (q : tg xs σ H P) : gTup K n tg (.ref p) σ H P := ⟨p, xs, rfl, h, e, q⟩
theorem gcons {tg : TGs} {P : L2.St → Hp → Prop} (q : g v σ H fun σ' H' => tg xs σ' H' P) : gCons g tg (v :: xs) σ H P := ⟨v, xs, rfl, q⟩
theorem gnil {P : L2.St → Hp → Prop} (q : P σ H) : gNil [] σ H P := ⟨rfl, q⟩
theorem sl {r : V → Option Int → Option Int → Hp → VK → Prop} {tl th : TO} (q : te σ H fun x H1 => tl σ H1 fun l H2 => th σ H2 fun u H3 => r x l u H3 Q) : tSl r te tl th σ H Q := q
theorem part (q : te σ H (KPart QO)) : tPart te σ H QO := q
theorem kpart (q : QO (some a) H) : KPart QO (.int a) H := ⟨a, rfl, q⟩
theorem noPart (q : QO none H) : tNoPart σ H QO := q
theorem slL {lo hi : Option Int} (h : SqL K H p xs) (q : ∀ n, H n = none → Q (.ref n) (upd H n (.lst (cutV xs lo hi)))) : rSlL K (.ref p) lo hi H Q := ⟨p, xs, rfl, h, q⟩
theorem nxI {f : L2.St → Hp → Prop} {r b c} (q : f σ H) : Ends.nx ⟨f, r, b, c⟩ σ H := q
theorem rtI {f r b c} (q : r v H) : Ends.rt ⟨f, r, b, c⟩ v H := q
theorem bkI {f r} {b : L2.St → Hp → Prop} {c} (q : b σ H) : Ends.bk ⟨f, r, b, c⟩ σ H := q
theorem ctI {f r b} {c : L2.St → Hp → Prop} (q : c σ H) : Ends.ct ⟨f, r, b, c⟩ σ H := q
end
theorem nT {A B : Prop} (q : B) : if (!true) = true then A else B := iteF q
theorem nF {A B : Prop} (q : A) : if (!false) = true then A else B := iteT q
/-! ### while, by an invariant and a measure, the test evaluated where it stands -/
def KW (tb : TS) (D : Ends) (Pv : L2.St → Hp → Prop) (μ : L2.St → Nat) (σ : L2.St) : Bool → Hp → Prop := fun b H1 =>
  if b = true then ∃ N : L2.St → Hp → Prop, (∀ σ' H', N σ' H' → ∃ m', m' < μ σ ∧ (m' = μ σ' ∧ Pv σ' H')) ∧ tb { D with nx := N, ct := N, bk := D.nx } σ H1 else D.nx σ H1
theorem while_ {c : TT} {tb : TS} {D : Ends} {σ : L2.St} {H : Hp} (Pv : L2.St → Hp → Prop) (μ : L2.St → Nat) (h0 : Pv σ H) (hs : ∀ σ H, Pv σ H → c σ H (KW tb D Pv μ σ)) : tWhile c tb D σ H := by
  refine ⟨fun m σ H => m = μ σ ∧ Pv σ H, ⟨_, rfl, h0⟩, ?_⟩
  rintro m σ H ⟨rfl, p⟩
  exact hs σ H p
theorem turn {tb : TS} {D : Ends} {Pv : L2.St → Hp → Prop} {μ : L2.St → Nat} {σ : L2.St} {H1 : Hp} {b : Bool} (h1 : b = true → tb ⟨fun σ' H' => μ σ' < μ σ ∧ Pv σ' H', D.rt, D.nx, fun σ' H' => μ σ' < μ σ ∧ Pv σ' H'⟩ σ H1) (h2 : b = false → D.nx σ H1) : KW tb D Pv μ σ b H1 := by
  unfold KW
  cases b with
  | true => exact iteT ⟨_, fun σ' H' z => ⟨_, z.1, rfl, z.2⟩, h1 rfl⟩
  | false => exact iteF (h2 rfl)
def KWm (tb : TS) (D : Ends) (Pv : Nat → L2.St → Hp → Prop) (m : Nat) (σ : L2.St) : Bool → Hp → Prop := fun b H1 =>
  if b = true then ∃ N : L2.St → Hp → Prop, (∀ σ' H', N σ' H' → ∃ m', m' < m ∧ Pv m' σ' H') ∧ tb { D with nx := N, ct := N, bk := D.nx } σ H1 else D.nx σ H1
theorem whileM {c : TT} {tb : TS} {D : Ends} {σ : L2.St} {H : Hp} (Pv : Nat → L2.St → Hp → Prop) (m : Nat) (h0 : Pv m σ H) (hs : ∀ m σ H, Pv m σ H → c σ H (KWm tb D Pv m σ)) : tWhile c tb D σ H :=
  ⟨Pv, ⟨_, h0⟩, fun m σ H p => hs m σ H p⟩
theorem turnM {tb : TS} {D : Ends} {Pv : Nat → L2.St → Hp → Prop} {m : Nat} {σ : L2.St} {H1 : Hp} {b : Bool} (h1 : b = true → tb ⟨fun σ' H' => ∃ m', m' < m ∧ Pv m' σ' H', D.rt, D.nx, fun σ' H' => ∃ m', m' < m ∧ Pv m' σ' H'⟩ σ H1) (h2 : b = false → D.nx σ H1) : KWm tb D Pv m σ b H1 := by
  unfold KWm
  cases b with
  | true => exact iteT ⟨_, fun σ' H' z => z, h1 rfl⟩
  | false => exact iteF (h2 rfl)
/-! ### the entry -/
def startL : List Str → List V → L2.St
  | [], vs => vs.map some
  | _ :: N, [] => none :: startL N []
  | _ :: N, v :: vs => some v :: startL N vs
theorem startL_nil : ∀ N : List Str, startL N [] = List.replicate N.length none
  | [] => rfl
  | _ :: N => by
    show none :: startL N [] = _
    rw [startL_nil N]
    rfl
theorem start_eq : ∀ (N : List Str) (vs : List V), L2.start N vs = startL N vs
  | [], vs => by simp [L2.start, startL]
  | _ :: N, [] => by
    rw [startL_nil]
    simp [L2.start]
  | n :: N, v :: vs => by
    show L2.start (n :: N) (v :: vs) = some v :: startL N vs
    rw [← start_eq N vs]
    simp [L2.start]
/-- both ways of an if meet again -/
theorem ifJ {bb : Bool} {ta tb : TE} {σ : L2.St} {H : Hp} {Q : VK} (R : V → Hp → Prop) (h1 : bb = true → ∀ Q : VK, (∀ v H', R v H' → Q v H') → ta σ H Q) (h2 : bb = false → ∀ Q : VK, (∀ v H', R v H' → Q v H') → tb σ H Q) (q : ∀ v H', R v H' → Q v H') :
    if bb = true then ta σ H Q else tb σ H Q := by
  cases bb with
  | true => exact iteT (h1 rfl Q q)
  | false => exact iteF (h2 rfl Q q)
/-! ### for, comprehensions, by an invariant over the turn -/
/-- what a for asks of what it walks -/
def KFor (g : TG) (tb : TS) (D : Ends) (σ : L2.St) (J : It) (H1 : Hp) : Prop := ∃ W : Nat → Nat → L2.St → Hp → Prop, (∃ m, W 0 m σ H1) ∧ ∀ i m σ H, W i m σ H →
  (J.stop i H ∧ D.nx σ H) ∨ (J.go i H ∧ ∃ N : L2.St → Hp → Prop, (∀ σ' H', N σ' H' → ∃ m', m' < m ∧ W (i + 1) m' σ' H') ∧ ∀ x H', J.yld i H x H' → g x σ H' fun σ2 H2 => tb { D with nx := N, ct := N, bk := D.nx } σ2 H2)
def KR1 (R : It → Hp → Prop) : List V → Hp → Prop := fun vs H1 => ∃ j : Int, vs = [.int j] ∧ -(2 ^ 62) ≤ j ∧ j < 2 ^ 62 ∧ R (Itr 0 j.toNat) H1
def KT1 (K : PySem.W.Frag) (R : It → Hp → Prop) : VK := fun x H1 => ∃ a, x = .ref a ∧ (∃ xs, SqT K H1 a xs) ∧ R (Itt K a) H1
def KL1 (K : PySem.W.Frag) (R : It → Hp → Prop) : VK := fun x H1 => ∃ a, x = .ref a ∧ (∃ xs, SqL K H1 a xs) ∧ R (Itl K a) H1
def KLc (g : TG) (tt : TT) (te : TE) (vs : List Nat) (σ : L2.St) (Q : VK) (J : It) (H1 : Hp) : Prop := ∀ D, H1 D = none → ∃ W : Nat → Nat → Hp → Prop, (∃ m, W 0 m (upd H1 D (.lst []))) ∧ ∀ i m H, W i m H →
  (J.stop i H ∧ Q (.ref D) H) ∨ (J.go i H ∧ ∃ Nx : Hp → Prop, (∀ H', Nx H' → ∃ m', m' < m ∧ W (i + 1) m' H') ∧ ∀ x H', J.yld i H x H' → g x (wipe σ vs) H' fun σ2 H2 => wipe σ2 vs = wipe σ vs ∧ tt σ2 H2 fun b H3 =>
    if b = true then te σ2 H3 fun y H4 => ∃ acc, H4 D = some (.lst acc) ∧ acc.length < sizeLine ∧ Nx (upd H4 D (.lst (acc ++ [y]))) else Nx H3)
section
variable {σ : L2.St} {H : Hp} {D : Ends} {Q : VK} {K : PySem.W.Frag} {g : TG} {tb : TS} {wi : TI} {tu : TA} {te tl : TE} {tt : TT} {R : It → Hp → Prop} {a : Addr} {xs : List V} {n : Int} {vs : List Nat} {k : Nat}
theorem for_ (q : wi σ H (KFor g tb D σ)) : tFor wi g tb D σ H := q
theorem lc_ (q : wi σ H (KLc g tt te vs σ Q)) : tLc wi g tt te vs σ H Q := q
theorem rng1 (q : tu σ H (KR1 R)) : iRng1 tu σ H R := q
theorem itup (q : tl σ H (KT1 K R)) : iTup K tl σ H R := q
theorem ilist (q : tl σ H (KL1 K R)) : iList K tl σ H R := q
theorem kr1 (h1 : -(2 ^ 62) ≤ n) (h2 : n < 2 ^ 62) (q : R (Itr 0 n.toNat) H) : KR1 R [.int n] H := ⟨n, rfl, h1, h2, q⟩
theorem kt1 (h : SqT K H a xs) (q : R (Itt K a) H) : KT1 K R (.ref a) H := ⟨a, rfl, ⟨xs, h⟩, q⟩
theorem kl1 (h : SqL K H a xs) (q : R (Itl K a) H) : KL1 K R (.ref a) H := ⟨a, rfl, ⟨xs, h⟩, q⟩
theorem forR {m : Nat} (Pv : Nat → L2.St → Hp → Prop) (h0 : Pv 0 σ H) (hs : ∀ i σ H, i < m → Pv i σ H → g (.int i) σ H fun σ2 H2 => tb ⟨Pv (i + 1), D.rt, D.nx, Pv (i + 1)⟩ σ2 H2) (hd : ∀ σ H, Pv m σ H → D.nx σ H) : KFor g tb D σ (Itr 0 m) H :=
  for_range (lo := 0) Pv h0 (fun i σ H hi p => by rw [Int.zero_add]; exact hs i σ H hi p) hd
theorem forT (Pv : Nat → L2.St → Hp → Prop) (h0 : Pv 0 σ H) (hl : ∀ i σ H, i ≤ xs.length → Pv i σ H → SqT K H a xs)
    (hs : ∀ i x σ H, xs[i]? = some x → Pv i σ H → g x σ H fun σ2 H2 => tb ⟨Pv (i + 1), D.rt, D.nx, Pv (i + 1)⟩ σ2 H2) (hd : ∀ σ H, Pv xs.length σ H → D.nx σ H) : KFor g tb D σ (Itt K a) H := for_tup Pv h0 hl hs hd
theorem forL (Pv : Nat → L2.St → Hp → Prop) (h0 : Pv 0 σ H) (hl : ∀ i σ H, i ≤ xs.length → Pv i σ H → SqL K H a xs)
    (hs : ∀ i x σ H, xs[i]? = some x → Pv i σ H → g x σ H fun σ2 H2 => tb ⟨Pv (i + 1), D.rt, D.nx, Pv (i + 1)⟩ σ2 H2) (hd : ∀ σ H, Pv xs.length σ H → D.nx σ H) : KFor g tb D σ (Itl K a) H := for_list Pv h0 hl hs hd
/-- where a new item goes -/
def KEl (D : Addr) (P : Hp → Prop) : VK := fun y H4 => ∃ acc, H4 D = some (.lst acc) ∧ acc.length < sizeLine ∧ P (upd H4 D (.lst (acc ++ [y])))
theorem kel {D : Addr} {P : Hp → Prop} {y : V} {acc : List V} (h : H D = some (.lst acc)) (hz : acc.length < sizeLine) (q : P (upd H D (.lst (acc ++ [y])))) : KEl D P y H := ⟨acc, h, hz, q⟩
theorem wipe1 : wipe ((wipe σ [k]).set k v) [k] = wipe σ [k] := by
  show ((σ.set k none).set k v).set k none = σ.set k none
  rw [List.set_set, List.set_set]
theorem lcR {m : Nat} (Pv : Addr → Nat → Hp → Prop) (h0 : ∀ D, H D = none → Pv D 0 (upd H D (.lst []))) (hs : ∀ D i H', H D = none → i < m → Pv D i H' → te ((σ.set k none).set k (some (.int i))) H' (KEl D (Pv D (i + 1)))) (hd : ∀ D H', H D = none → Pv D m H' → Q (.ref D) H') :
    KLc (gName k) tYes te [k] σ Q (Itr 0 m) H := fun D hD =>
  lc_range (lo := 0) (Pv D) (h0 D hD) (fun i H' hi p => ⟨wipe1, by rw [Int.zero_add]; exact iteT (B := Pv D (i + 1) H') (hs D i H' hD hi p)⟩) (fun H' p => hd D H' hD p)
theorem lcT (Pv : Addr → Nat → Hp → Prop) (h0 : ∀ D, H D = none → Pv D 0 (upd H D (.lst []))) (hl : ∀ D i H', H D = none → i ≤ xs.length → Pv D i H' → SqT K H' a xs) (hs : ∀ D i x H', H D = none → xs[i]? = some x → Pv D i H' → te ((σ.set k none).set k (some x)) H' (KEl D (Pv D (i + 1)))) (hd : ∀ D H', H D = none → Pv D xs.length H' → Q (.ref D) H') :
    KLc (gName k) tYes te [k] σ Q (Itt K a) H := fun D hD =>
  lc_tup (xs := xs) (Pv D) (h0 D hD) (fun i H' hi p => hl D i H' hD hi p) (fun i x H' hi p => ⟨wipe1, iteT (B := Pv D (i + 1) H') (hs D i x H' hD hi p)⟩) (fun H' p => hd D H' hD p)
theorem lcL (Pv : Addr → Nat → Hp → Prop) (h0 : ∀ D, H D = none → Pv D 0 (upd H D (.lst []))) (hl : ∀ D i H', H D = none → i ≤ xs.length → Pv D i H' → SqL K H' a xs) (hs : ∀ D i x H', H D = none → xs[i]? = some x → Pv D i H' → te ((σ.set k none).set k (some x)) H' (KEl D (Pv D (i + 1)))) (hd : ∀ D H', H D = none → Pv D xs.length H' → Q (.ref D) H') :
    KLc (gName k) tYes te [k] σ Q (Itl K a) H := fun D hD =>
  lc_list (xs := xs) (Pv D) (h0 D hD) (fun i H' hi p => hl D i H' hD hi p) (fun i x H' hi p => ⟨wipe1, iteT (B := Pv D (i + 1) H') (hs D i x H' hD hi p)⟩) (fun H' p => hd D H' hD p)
end
/-! ### what stays of a heap: all but the tables of code objects, which stay good -/
abbrev Tb := List (Addr × Str)
/-- all but what stands in S, and the tables -/
def ExtX (T : Tb) (S : Addr → Prop) (H H' : Hp) : Prop := (∀ b o, ¬ S b → H b = some o → (∀ ps, o ≠ .tbl ps) → H' b = some o) ∧ (LamX.Tabs T H → LamX.Tabs T H')
abbrev Ext (T : Tb) (H H' : Hp) : Prop := ExtX T (fun _ => False) H H'
abbrev ExtD (T : Tb) (d : Addr) (H H' : Hp) : Prop := ExtX T (fun b => b = d) H H'
theorem same_new {H : Hp} {p : Addr} {o : HO} (h : H p = none) : Same H (upd H p o) := fun b u q => by rw [upd_ne (ne_of_none q h)]; exact q
theorem Same.mutL {H H1 : Hp} {p : Addr} {o : HO} (e : Same H H1) (h0 : H p = none) : Same H (upd H1 p o) := fun b u hb => by rw [upd_ne (ne_of_none hb h0)]; exact e b u hb
theorem Same.seqT {K : PySem.W.Frag} {H H' : Hp} {a : Addr} {xs : List V} (e : Same H H') (h : SqT K H a xs) : SqT K H' a xs := by
  rcases h with (h | ⟨o, h⟩) | h
  · exact .inl (.inl (e _ _ h))
  · exact .inl (.inr ⟨o, e _ _ h⟩)
  · exact .inr h
section
variable {T : Tb} {S : Addr → Prop} {H H1 H2 : Hp} {a d p : Addr} {o : HO} {xs ys : List V} {K : PySem.W.Frag}
theorem ExtX.refl : ExtX T S H H := ⟨fun _ _ _ h _ => h, fun h => h⟩
theorem ExtX.trans (e : ExtX T S H H1) (f : ExtX T S H1 H2) : ExtX T S H H2 := ⟨fun b o hs h n => f.1 b o hs (e.1 b o hs h n) n, fun h => f.2 (e.2 h)⟩
theorem ExtX.wide {S' : Addr → Prop} (e : ExtX T S H H1) (h : ∀ b, S b → S' b) : ExtX T S' H H1 := ⟨fun b o hs q n => e.1 b o (fun z => hs (h b z)) q n, e.2⟩
theorem Ext.wide (e : Ext T H H1) : ExtX T S H H1 := ExtX.wide e fun _ z => z.elim
theorem Tabs_same (e : Same H H1) (g : LamX.Tabs T H) : LamX.Tabs T H1 := g.ext e
theorem ExtX.same (e : Same H H1) : ExtX T S H H1 := ⟨fun b o _ h _ => e b o h, Tabs_same e⟩
theorem ExtX.new (h : H p = none) : ExtX T S H (upd H p o) := ExtX.same (same_new h)
theorem Ext.lam (e : LamX.ExtN H H1) (g : LamX.Tabs T H1) : ExtX T S H H1 := ⟨fun b o _ h n => e b o h n, fun _ => g⟩
/-- a thing that is no table and no code object is changed -/
theorem Tabs_put {u : HO} (h : H p = some u) (h1 : ∀ ps, u ≠ .tbl ps) (h2 : ∀ c q, u ≠ LamX.CodeO c q) (g : LamX.Tabs T H) : LamX.Tabs T (upd H p o) := by
  intro r hr
  obtain ⟨ps, e1, e2, e3⟩ := g r hr
  refine ⟨ps, by rw [upd_ne (ne_of e1 h fun z => h1 ps z.symm)]; exact e1, e2, fun pos cv hc => ?_⟩
  obtain ⟨c, f1, f2⟩ := e3 pos cv hc
  exact ⟨c, f1, by rw [upd_ne (ne_of f2 h fun z => h2 c r.2 z.symm)]; exact f2⟩
theorem lst_code {c : Addr} {q : Str} : HO.lst xs ≠ LamX.CodeO c q := fun z => by
  unfold LamX.CodeO at z
  cases z
theorem ExtX.putL (hs : S p) (h : H p = some (.lst xs)) : ExtX T S H (upd H p o) :=
  ⟨fun b u hb e n => by rw [upd_ne (fun z => hb (by rw [z]; exact hs))]; exact e, Tabs_put h (fun _ z => by cases z) fun _ _ => lst_code⟩
/-- what was new is changed: seen from ahead all stays -/
theorem ExtX.mutL (e : ExtX T S H H1) (h0 : H p = none) (h : H1 p = some (.lst xs)) : ExtX T S H (upd H1 p o) :=
  ⟨fun b u hb q n => by rw [upd_ne (ne_of_none q h0)]; exact e.1 b u hb q n, fun g => Tabs_put h (fun _ z => by cases z) (fun _ _ => lst_code) (e.2 g)⟩
theorem Ext.seqT (e : Ext T H H1) (h : SqT K H a xs) : SqT K H1 a xs := by
  rcases h with (h | ⟨o, h⟩) | h
  · exact .inl (.inl (e.1 _ _ (fun z => z) h fun _ z => by cases z))
  · exact .inl (.inr ⟨o, e.1 _ _ (fun z => z) h fun _ z => by cases z⟩)
  · exact .inr h
theorem Ext.seqL (e : Ext T H H1) (h : SqL K H a xs) : SqL K H1 a xs := by
  rcases h with (h | ⟨o, h⟩) | h
  · exact .inl (.inl (e.1 _ _ (fun z => z) h fun _ z => by cases z))
  · exact .inl (.inr ⟨o, e.1 _ _ (fun z => z) h fun _ z => by cases z⟩)
  · exact .inr h
theorem ExtD.seqT (e : ExtD T d H H1) (hd : H d = some (.lst ys)) (h : SqT K H a xs) : SqT K H1 a xs := by
  rcases h with (h | ⟨o, h⟩) | h
  · exact .inl (.inl (e.1 _ _ (ne_of h hd fun z => by cases z) h fun _ z => by cases z))
  · exact .inl (.inr ⟨o, e.1 _ _ (ne_of h hd fun z => by cases z) h fun _ z => by cases z⟩)
  · exact .inr h
theorem ExtX.lst (e : ExtX T S H H1) (hs : ¬ S a) (h : H a = some (.lst xs)) : H1 a = some (.lst xs) := e.1 a _ hs h fun _ z => by cases z
theorem ExtX.tup (e : ExtX T S H H1) (hs : ¬ S a) (h : H a = some (.tup xs)) : H1 a = some (.tup xs) := e.1 a _ hs h fun _ z => by cases z
end
/-! ### a call with keywords for the last parameters, no defaults -/
theorem kb_mk {K : PySem.W.Frag} {x qual : Str} {params : Arguments} {body : List Stmt} {scope : Scope} {f : Addr} {fd : FuncData} {ps : List Str} {n : Nat} {ks : List Str} (F : FunD K x qual params body scope [] [] f fd)
    (h : ∀ (kV doc pm : Value) (an : Option Addr) (cdv ct : Value) (us ws : List Value), us.length = n → ws.length = ks.length → bindArgs (PySem.W.fnOf x qual params body scope .none kV doc pm an cdv ct) ⟨us, ks.zip ws⟩ = pure (ps.zip (us ++ ws))) :
    KBn K fd ps n ks (fun us ws => us ++ ws) (fun vs zs => vs ++ zs) := by
  obtain ⟨oc, od, dV, kV, doc, pm, an, cdv, ct, osl, rfl, lk, hcd, hD, hK⟩ := F.ex
  rcases hD with ⟨_, rfl⟩ | ⟨e, _⟩
  · exact ⟨fun s us ws _ h1 h2 => .of_eq (h kV doc pm an cdv ct us ws h1 h2), fun r1 r2 => r1.append r2⟩
  · exact absurd rfl e
theorem callN {σ : L2.St} {H : Hp} {Q : VK} {tu tv : TA} {n m : Nat} {sp : Sp} {gV : List V → List V → List V} {E : XK} (q : tu σ H fun vs H1 => tv σ H1 fun zs H2 => vs.length = n ∧ zs.length = m ∧ sp (gV vs zs) H2 Q E) : tCallN n m sp gV E tu tv σ H Q := q
end Go

set_option Elab.async false
set_option linter.all false
/-! pools, in plain Lean -/
namespace PM
/-- after how many hours both come again -/
def rnd (a b : Nat) : Nat := a / Nat.gcd a b * b
/-- one hour: the level behind it, what is lost, what goes out -/
def top_ (s f l : Int) : Int := min (l + f) s
def lv (s f t l : Int) : Int := top_ s f l - min (top_ s f l) t
def ls (s f l : Int) : Int := max 0 (l + f - s)
def ou (s f t l : Int) : Int := min (top_ s f l) t
/-- what runs in an hour -/
def at_ (xs : List Int) (i : Nat) : Int := xs.getD (i % xs.length) 0
/-- the level behind n hours, what is lost in them, what goes out -/
def L (s : Int) (xs ys : List Int) (l : Int) : Nat → Int
  | 0 => l
  | n + 1 => lv s (at_ xs n) (at_ ys n) (L s xs ys l n)
def lost (s : Int) (xs ys : List Int) (l : Int) : Nat → Int
  | 0 => 0
  | n + 1 => lost s xs ys l n + ls s (at_ xs n) (L s xs ys l n)
def out (s : Int) (xs ys : List Int) (l : Int) : Nat → Int
  | 0 => 0
  | n + 1 => out s xs ys l n + ou s (at_ xs n) (at_ ys n) (L s xs ys l n)
def whole (xs : List Int) : Nat → Int
  | 0 => 0
  | n + 1 => whole xs n + at_ xs n
def lvls (s : Int) (xs ys : List Int) (l : Int) (n : Nat) : List Int := (List.range n).map fun i => L s xs ys l (i + 1)
/-- flows: nothing below 0 -/
def Nn (xs : List Int) : Prop := ∀ x ∈ xs, 0 ≤ x
theorem at_nn {xs : List Int} (h : Nn xs) (i : Nat) : 0 ≤ at_ xs i := by
  unfold at_
  rw [List.getD_eq_getElem?_getD]
  cases e : xs[i % xs.length]? with
  | none => exact Int.le_refl 0
  | some x => exact h x (List.mem_of_getElem? e)
section
variable {s s' : Int} {xs ys : List Int} {l l' : Int}
theorem lv_bd {f t : Int} (hs : 0 ≤ s) (hf : 0 ≤ f) (ht : 0 ≤ t) (h0 : 0 ≤ l) : 0 ≤ lv s f t l ∧ lv s f t l ≤ s := by unfold lv top_; omega
theorem lv_mono {f t : Int} (h : l ≤ l') : lv s f t l ≤ lv s f t l' := by unfold lv top_; omega
theorem ls_mono {f : Int} (h : l ≤ l') : ls s f l ≤ ls s f l' := by unfold ls; omega
theorem ls_nn {f : Int} : 0 ≤ ls s f l := by unfold ls; omega
theorem cons1 {f t : Int} : lv s f t l + ls s f l + ou s f t l = l + f := by unfold lv ls ou top_; omega
theorem L_bd (hx : Nn xs) (hy : Nn ys) (hs : 0 ≤ s) (h0 : 0 ≤ l) (h1 : l ≤ s) : ∀ n, 0 ≤ L s xs ys l n ∧ L s xs ys l n ≤ s
  | 0 => ⟨h0, h1⟩
  | n + 1 => lv_bd hs (at_nn hx n) (at_nn hy n) (L_bd hx hy hs h0 h1 n).1
theorem L_mono (h : l ≤ l') : ∀ n, L s xs ys l n ≤ L s xs ys l' n
  | 0 => h
  | n + 1 => lv_mono (L_mono h n)
theorem lost_mono (h : l ≤ l') : ∀ n, lost s xs ys l n ≤ lost s xs ys l' n
  | 0 => Int.le_refl 0
  | n + 1 => Int.add_le_add (lost_mono h n) (ls_mono (L_mono h n))
theorem lost_nn : ∀ n, 0 ≤ lost s xs ys l n
  | 0 => Int.le_refl 0
  | n + 1 => Int.add_nonneg (lost_nn n) ls_nn
/-- nothing comes of nothing: level, what is lost, what goes out -/
theorem conserve : ∀ n, L s xs ys l n + lost s xs ys l n + out s xs ys l n = l + whole xs n
  | 0 => by show l + 0 + 0 = l + 0; omega
  | n + 1 => by
    have h1 := conserve n
    have h2 := cons1 (s := s) (f := at_ xs n) (t := at_ ys n) (l := L s xs ys l n)
    show lv s (at_ xs n) (at_ ys n) (L s xs ys l n) + (lost s xs ys l n + ls s (at_ xs n) (L s xs ys l n)) + (out s xs ys l n + ou s (at_ xs n) (at_ ys n) (L s xs ys l n)) = l + (whole xs n + at_ xs n)
    omega
theorem whole_bd (hx : Nn xs) {B : Int} (hB : ∀ x ∈ xs, x ≤ B) (h0 : 0 ≤ B) : ∀ n : Nat, 0 ≤ whole xs n ∧ whole xs n ≤ B * n
  | 0 => ⟨Int.le_refl 0, by show (0 : Int) ≤ B * 0; omega⟩
  | n + 1 => by
    have h1 := whole_bd hx hB h0 n
    have h2 := at_nn hx n
    have h3 : at_ xs n ≤ B := by
      unfold at_
      rw [List.getD_eq_getElem?_getD]
      cases e : xs[n % xs.length]? with
      | none => exact h0
      | some x => exact hB x (List.mem_of_getElem? e)
    refine ⟨Int.add_nonneg h1.1 h2, ?_⟩
    have e : B * ((n + 1 : Nat) : Int) = B * (n : Int) + B := by rw [Int.natCast_add, Int.mul_add]; omega
    rw [e]
    exact Int.add_le_add h1.2 h3
/-! ### at last -/
def iter (F : Int → Int) : Nat → Int
  | 0 => 0
  | k + 1 => F (iter F k)
section
variable {F : Int → Int} {S : Int}
theorem iter_bd (hF : ∀ l, 0 ≤ l → l ≤ S → 0 ≤ F l ∧ F l ≤ S) (hS : 0 ≤ S) : ∀ k, 0 ≤ iter F k ∧ iter F k ≤ S
  | 0 => ⟨Int.le_refl 0, hS⟩
  | k + 1 => hF _ (iter_bd hF hS k).1 (iter_bd hF hS k).2
theorem iter_up (hF : ∀ l, 0 ≤ l → l ≤ S → 0 ≤ F l ∧ F l ≤ S) (hS : 0 ≤ S) (hm : ∀ l l', l ≤ l' → F l ≤ F l') : ∀ k, iter F k ≤ iter F (k + 1)
  | 0 => (iter_bd hF hS 1).1
  | k + 1 => hm _ _ (iter_up hF hS hm k)
theorem iter_le (hF : ∀ l, 0 ≤ l → l ≤ S → 0 ≤ F l ∧ F l ≤ S) (hS : 0 ≤ S) (hm : ∀ l l', l ≤ l' → F l ≤ F l') {j k : Nat} (h : j ≤ k) : iter F j ≤ iter F k := by
  induction h with
  | refl => exact Int.le_refl _
  | step _ ih => exact Int.le_trans ih (iter_up hF hS hm _)
theorem iter_fix {j : Nat} (h : F (iter F j) = iter F j) : ∀ {k : Nat}, j ≤ k → iter F k = iter F j
  | k, hk => by
    induction hk with
    | refl => rfl
    | step _ ih => show F (iter F _) = _; rw [ih, h]
/-- as long as it isn't there, it climbs -/
theorem iter_climb (hF : ∀ l, 0 ≤ l → l ≤ S → 0 ≤ F l ∧ F l ≤ S) (hS : 0 ≤ S) (hm : ∀ l l', l ≤ l' → F l ≤ F l') : ∀ k : Nat, F (iter F k) = iter F k ∨ (k : Int) ≤ iter F k
  | 0 => .inr (Int.le_refl 0)
  | k + 1 => by
    rcases iter_climb hF hS hm k with h | h
    · exact .inl (by show F (F (iter F k)) = F (iter F k); rw [h, h])
    · by_cases e : F (iter F k) = iter F k
      · exact .inl (by show F (F (iter F k)) = F (iter F k); rw [e, e])
      · have := iter_up hF hS hm k
        have h2 : iter F (k + 1) = F (iter F k) := rfl
        refine .inr ?_
        rw [h2] at this ⊢
        omega
theorem iter_last (hF : ∀ l, 0 ≤ l → l ≤ S → 0 ≤ F l ∧ F l ≤ S) (hS : 0 ≤ S) (hm : ∀ l l', l ≤ l' → F l ≤ F l') {k : Nat} (hk : S < k) : F (iter F k) = iter F k := by
  rcases iter_climb hF hS hm k with h | h
  · exact h
  · have := (iter_bd hF hS k).2
    omega
/-- met again: it stands -/
theorem iter_again (hF : ∀ l, 0 ≤ l → l ≤ S → 0 ≤ F l ∧ F l ≤ S) (hS : 0 ≤ S) (hm : ∀ l l', l ≤ l' → F l ≤ F l') {j k : Nat} (h : j < k) (e : iter F j = iter F k) : F (iter F j) = iter F j := by
  have h1 := iter_up hF hS hm j
  have h2 := iter_le hF hS hm (show j + 1 ≤ k from h)
  have h3 : iter F (j + 1) = F (iter F j) := rfl
  omega
end
/-- a round -/
def F (s : Int) (xs ys : List Int) (l : Int) : Int := L s xs ys l (rnd xs.length ys.length)
/-- the level at last -/
def last (s : Int) (xs ys : List Int) : Int := iter (F s xs ys) (s.toNat + 2)
theorem F_bd (hx : Nn xs) (hy : Nn ys) (hs : 0 ≤ s) : ∀ l, 0 ≤ l → l ≤ s → 0 ≤ F s xs ys l ∧ F s xs ys l ≤ s := fun _ h0 h1 => L_bd hx hy hs h0 h1 _
theorem F_mono : ∀ l l', l ≤ l' → F s xs ys l ≤ F s xs ys l' := fun _ _ h => L_mono h _
theorem last_fix (hx : Nn xs) (hy : Nn ys) (hs : 0 ≤ s) : F s xs ys (last s xs ys) = last s xs ys := iter_last (F_bd hx hy hs) hs F_mono (by omega)
theorem last_bd (hx : Nn xs) (hy : Nn ys) (hs : 0 ≤ s) : 0 ≤ last s xs ys ∧ last s xs ys ≤ s := iter_bd (F_bd hx hy hs) hs _
/-- whatever way it is found -/
theorem last_of (hx : Nn xs) (hy : Nn ys) (hs : 0 ≤ s) {k : Nat} (h : F s xs ys (iter (F s xs ys) k) = iter (F s xs ys) k) : iter (F s xs ys) k = last s xs ys := by
  have h1 := last_fix hx hy hs
  rcases Nat.le_total k (s.toNat + 2) with q | q
  · exact (iter_fix h q).symm
  · exact iter_fix h1 q
/-! ### nothing lost: so it is with a greater pool too -/
/-- what is lost in a round at last -/
def lostL (s : Int) (xs ys : List Int) : Int := lost s xs ys (last s xs ys) (rnd xs.length ys.length)
theorem same_way (hss : s ≤ s') : ∀ n, lost s xs ys l n = 0 → L s' xs ys l n = L s xs ys l n ∧ lost s' xs ys l n = 0
  | 0, _ => ⟨rfl, rfl⟩
  | n + 1, h => by
    have h1 : lost s xs ys l n + ls s (at_ xs n) (L s xs ys l n) = 0 := h
    have h2 := lost_nn (s := s) (xs := xs) (ys := ys) (l := l) n
    have h3 := ls_nn (s := s) (f := at_ xs n) (l := L s xs ys l n)
    obtain ⟨h4, h5⟩ := same_way hss n (by omega)
    have h6 : ls s (at_ xs n) (L s xs ys l n) = 0 := by omega
    constructor
    · show lv s' _ _ (L s' xs ys l n) = lv s _ _ (L s xs ys l n)
      rw [h4]
      unfold ls at h6
      unfold lv top_
      omega
    · show lost s' xs ys l n + ls s' (at_ xs n) (L s' xs ys l n) = 0
      rw [h5, h4]
      unfold ls at h6 ⊢
      omega
theorem lostL_mono (hx : Nn xs) (hy : Nn ys) (hs : 0 ≤ s) (hss : s ≤ s') (h : lostL s xs ys = 0) : lostL s' xs ys = 0 := by
  have hs' : 0 ≤ s' := Int.le_trans hs hss
  have key : ∀ k, lost s xs ys (iter (F s xs ys) k) (rnd xs.length ys.length) = 0 := fun k => by
    have h1 : iter (F s xs ys) k ≤ last s xs ys := by
      rcases Nat.le_total k (s.toNat + 2) with q | q
      · exact iter_le (F_bd hx hy hs) hs F_mono q
      · rw [iter_fix (last_fix hx hy hs) q]
        exact Int.le_refl _
    have h2 := lost_mono (s := s) (xs := xs) (ys := ys) h1 (rnd xs.length ys.length)
    have h3 := lost_nn (s := s) (xs := xs) (ys := ys) (l := iter (F s xs ys) k) (rnd xs.length ys.length)
    unfold lostL at h
    omega
  have same : ∀ k, iter (F s' xs ys) k = iter (F s xs ys) k := fun k => by
    induction k with
    | zero => rfl
    | succ k ih =>
      show F s' xs ys (iter (F s' xs ys) k) = F s xs ys (iter (F s xs ys) k)
      rw [ih]
      exact (same_way hss _ (key k)).1
  have e : last s' xs ys = last s xs ys := by
    unfold last
    rw [same]
    exact iter_fix (last_fix hx hy hs) (by omega)
  unfold lostL
  rw [e]
  exact (same_way hss _ h).2
end
end PM

set_option Elab.async false
set_option linter.all false
set_option maxRecDepth 100000
set_option maxHeartbeats 0
/-! The head's Hook: facts by names, BadArgument's, tables of code objects that are empty. -/
namespace QH
open PySem PySem.Spec PyProof.Rows L2 He
def adrs (g : Addr → Option Obj) (n : Nat) : List Addr := cStatics :: asD g n
def Cb (K : PySem.W.Frag) : Addr := ga K "BadArgument"
def fIb (K : PySem.W.Frag) : Addr := ma K (Cb K) "__init__"
def cdab (K : PySem.W.Frag) : Addr := match K.lookup (fIb K) with
  | some ⟨_, _, .func fd, _⟩ => (match fd.code with
    | .ref c => c
    | _ => 0)
  | _ => 0
def ccb (K : PySem.W.Frag) : Addr := match K.lookup (fIb K) with
  | some ⟨_, _, .func fd, _⟩ => (match fd.closure with
    | [(_, c)] => c
    | _ => 0)
  | _ => 0
def clsB (K : PySem.W.Frag) (C : Addr) : Bool := match K.lookup C with
  | some ⟨.type t, _, .cls cd, sl⟩ => decide (t = "type") && (match cd.mro, sl.toList with
    | .ref C' :: bm, [_, _, _, _, some (.builtin n), _] => decide (C' = C) && (decide (n = "ValueError.__new__") && (!cd.hasDel && (decide (bm = PySem.QBad.veT) && cd.hasDict)))
    | _, _ => false)
  | _ => false
theorem clsB_ok {K : PySem.W.Frag} {C : Addr} (h : clsB K C = true) : ∃ nm q N bs sn sub ab col dd k0 k1 k2 k3 k5, K.lookup C = some (excClassObj nm q C N bs PySem.QBad.veT true sn sub ab col dd k0 k1 k2 k3 k5 "ValueError.__new__") := by
  unfold clsB at h
  split at h
  · rename_i t dd cd sl ho
    have ht := of_decide_eq_true (ba h).1
    replace h := (ba h).2
    subst ht
    split at h
    · rename_i C' bm k0 k1 k2 k3 n k5 hm hs
      obtain ⟨h1, h⟩ := ba h
      obtain ⟨h2, h⟩ := ba h
      obtain ⟨h3, h⟩ := ba h
      obtain ⟨h4, h5⟩ := ba h
      obtain rfl := of_decide_eq_true h1
      obtain rfl := of_decide_eq_true h2
      obtain rfl := of_decide_eq_true h4
      have h3' : cd.hasDel = false := by simpa using h3
      obtain ⟨nm, bs, mro, ns, qn, hd, sn, sub, ab, col, del⟩ := cd
      dsimp only at hm h3' h5
      subst hm h3' h5
      have hsl : sl = #[k0, k1, k2, k3, some (.builtin "ValueError.__new__"), k5] := by
        obtain ⟨l⟩ := sl
        simp only at hs
        rw [hs]
      subst hsl
      exact ⟨_, _, _, _, _, _, _, _, _, _, _, _, _, _, ho⟩
    · cases h
  · cases h
abbrev FnI : Type := Option (Str × Str × Arguments × FuncBody × Scope × Addr × List Str × Addr)
def initW (K : PySem.W.Frag) : FnI := match K.lookup (fIb K) with
  | some ⟨_, _, .func fd, _⟩ => some (fd.name, fd.qualname, fd.params, fd.body, fd.scope, fd.globals, fd.closure.map (·.1), fd.builtins)
  | _ => none
def initV : FnI := some ("__init__", "BadArgument.__init__", PySem.QBad.iA, .stmts PySem.QBad.iB, PySem.QBad.iS, mainGlobals, ["__class__"], builtinsNs)
def noneB : Value → Bool
  | .none => true
  | _ => false
theorem noneB_ok {v : Value} (h : noneB v = true) : v = .none := by
  cases v with
  | none => rfl
  | _ => cases h
def initB (K : PySem.W.Frag) : Bool := match K.lookup (fIb K) with
  | some ⟨_, _, .func fd, _⟩ => PySem.W.codeIn K fd.code "BadArgument.__init__" && (noneB fd.defaults && noneB fd.kwdefaults)
  | _ => false
def codeB (K : PySem.W.Frag) (file : Str) : Bool := match K.lookup (cdab K) with
  | some ⟨_, _, .fields vs, _⟩ => (match (vs[2]? : Option Value) with
    | some (Value.str f _) => decide (f = file)
    | _ => false)
  | _ => false
def cellB (K : PySem.W.Frag) : Bool := match K.lookup (ccb K) with
  | some ⟨_, _, .cell (some (.ref c)), _⟩ => decide (c = Cb K)
  | _ => false
def file : Str := "/claim/cut.py"
def badB (K : PySem.W.Frag) : Bool := clsB K (Cb K) && (initB K && (codeB K file && (cellB K && (eqO (PySem.W.findIn K (.ref (Cb K)) "__setattr__") (some (some (.builtin "object.__setattr__"))) && (eqO (PySem.W.findIn K (.ref (Cb K)) "__getattribute__") (some (some (.builtin "BaseException.__getattribute__"))) &&
  (eqO (PySem.W.findIn K (.ref (Cb K)) "__getattr__") (some none) && (eqO (PySem.W.findIn K (.ref (Cb K)) "name") (some none) && (eqO (PySem.W.findIn K (.ref (Cb K)) "__init__") (some (some (.ref (fIb K)))) && (decide (PySem.W.typeIn K (.ref (fIb K)) = some (.type "function")) && (PySem.W.keepIn K (.ref (Cb K)) &&
  (decide (PySem.W.subIn K (.ref (Cb K)) (.type "BaseException") = some true) && (decide (PySem.W.subIn K (.ref (Cb K)) (.type "ValueError") = some true) && (decide (PySem.W.mroIn K (Cb K) (.ref (Cb K)) = some true) && (decide (PySem.W.typeIn K (.ref (Cb K)) = some (.type "type")) && (PySem.W.hasDictIn K (Cb K) &&
  (decide (PySem.W.exmOne K (.ref (Cb K)) (.ref (Cb K)) = some true) && eqO (PySem.W.nsIn K cStatics "thirdparty.any") (some none)))))))))))))))))
theorem init_ok {K : PySem.W.Frag} (e : initW K = initV) (h : initB K = true) : ∃ (oc : Value) (od : Option Addr) (doc pm : Value) (an : Option Addr) (ct : Value) (osl : Array (Option Value)),
    K.lookup (fIb K) = some ⟨oc, od, .func (PySem.W.fnX "__init__" "BadArgument.__init__" PySem.QBad.iA PySem.QBad.iB PySem.QBad.iS [("__class__", ccb K)] .none .none doc pm an (.ref (cdab K)) ct), osl⟩ ∧ PySem.W.codeIn K (.ref (cdab K)) "BadArgument.__init__" = true := by
  unfold initW at e
  unfold initB at h
  cases q : K.lookup (fIb K) with
  | none =>
    rw [q] at h
    cases h
  | some o =>
    obtain ⟨oc, od, dt, osl⟩ := o
    rw [q] at h e
    cases dt with
    | func fd =>
      obtain ⟨n1, n2, n3, n4, n5, n6, n7, n8, n9, n10, n11, n12, n13, n14, n15⟩ := fd
      have e2 : (some (n1, n2, n3, n4, n5, n6, n7.map (·.1), n15) : FnI) = initV := e
      unfold initV at e2
      simp only [Option.some.injEq, Prod.mk.injEq] at e2
      obtain ⟨h1, h2, h3, h4, h5, h6, h7, h8⟩ := e2
      have c3 : (PySem.W.codeIn K n13 "BadArgument.__init__" && (noneB n8 && noneB n9)) = true := h
      obtain ⟨k1, k2⟩ := ba c3
      obtain ⟨k3, k4⟩ := ba k2
      obtain rfl := noneB_ok k3
      obtain rfl := noneB_ok k4
      obtain ⟨c, rfl⟩ := codeIn_ref k1
      cases n7 with
      | nil => cases h7
      | cons p r =>
        obtain ⟨px, pc⟩ := p
        cases r with
        | cons _ _ => simp at h7
        | nil =>
          have hx : px = "__class__" := by simpa using h7
          subst h1 h2 h3 h4 h5 h6 h8 hx
          have ec : ccb K = pc := by
            unfold ccb
            rw [q] <;> rfl
          have ed : cdab K = c := by
            unfold cdab
            rw [q] <;> rfl
          rw [ec, ed]
          exact ⟨_, _, _, _, _, _, _, rfl, k1⟩
    | _ => cases h
theorem bad_of {P : Program} {K : PySem.W.Frag} {h : Heap} {mg : Str → Option Value} (X : K.In h) (G : h.Ns mainGlobals mg) (g1 : (Fa.glo "BadArgument").ok K = true) (g2 : (Fa.free "super").ok K = true) (e : initW K = initV) (b : badB K = true) (hP : (P.main.scope.names.lookup ("super" : Str)).isSome = false) (hF : P.main.file = file) :
    PySem.QBad.BadTxt P K mg (ga K "BadArgument") (fIb K) (ccb K) (cdab K) := by
  obtain ⟨b1, b⟩ := ba b
  obtain ⟨b2, b⟩ := ba b
  obtain ⟨b3, b⟩ := ba b
  obtain ⟨b4, b⟩ := ba b
  obtain ⟨b5, b⟩ := ba b
  obtain ⟨b6, b⟩ := ba b
  obtain ⟨b7, b⟩ := ba b
  obtain ⟨b8, b⟩ := ba b
  obtain ⟨b9, b⟩ := ba b
  obtain ⟨b10, b⟩ := ba b
  obtain ⟨b11, b⟩ := ba b
  obtain ⟨b12, b⟩ := ba b
  obtain ⟨b13, b⟩ := ba b
  obtain ⟨b14, b⟩ := ba b
  obtain ⟨b15, b⟩ := ba b
  obtain ⟨b16, b⟩ := ba b
  obtain ⟨b17, b18⟩ := ba b
  refine ⟨glo_ok X G g1, free_ok X G g2, clsB_ok b1, eqO_ok b5, eqO_ok b6, eqO_ok b7, eqO_ok b8, eqO_ok b9, of_decide_eq_true b10, b11, of_decide_eq_true b12, of_decide_eq_true b13, of_decide_eq_true b14, of_decide_eq_true b15, b16, of_decide_eq_true b17, eqO_ok b18, hP, init_ok e b2, ?_, ?_⟩
  · unfold codeB at b3
    split at b3
    · rename_i cl cd vs sl q
      split at b3
      · rename_i f tf q2
        refine ⟨_, _, _, _, _, _, q, q2, ?_⟩
        rw [hF, of_decide_eq_true b3]
        exact beq_iff_eq.mpr rfl
      · cases b3
    · cases b3
  · unfold cellB at b4
    split at b4
    · rename_i cl cd c sl q
      have : c = Cb K := of_decide_eq_true b4
      rw [this] at q
      exact ⟨_, _, _, q⟩
    · cases b4
/-! ### the Hook -/
structure Says (fa : List Fa) (fn : List DefD) (tf : List Defn) (ex : PySem.W.Frag → Bool) (h : Heap) (K : PySem.W.Frag) : Prop where
  d : SaysD fa fn K
  bad : badB K = true
  more : ex K = true
  iw : initW K = initV
  hd : ∀ p ∈ tf, PySem.W.codeHdIn K (cT K p).1 (cT K p).2 = true
  out : ∀ p ∈ tf, K.lookup (cT K p).2 = none
  empty : ∀ p ∈ tf, h.get? (cT K p).2 = some { cls := .none, data := .fields #[] }
abbrev AlY : Type := AlD × Bool × FnI
def obs (n : Nat) (fa : List Fa) (fn : List DefD) (tf : List Defn) (ex : PySem.W.Frag → Bool) (g : Addr → Option Obj) : AlY := (obsD fa fn (frT g (adrs g n)), (badB (frT g (adrs g n)) && (ex (frT g (adrs g n)) && tabsB g tf (frT g (adrs g n)))), initW (frT g (adrs g n)))
def val (fn : List DefD) : AlY := (valD fn, true, initV)
theorem says_of {n : Nat} {fa : List Fa} {fn : List DefD} {tf : List Defn} {ex : PySem.W.Frag → Bool} {h : Heap} (e : obs n fa fn tf ex h.get? = val fn) : Says fa fn tf ex h (frT h.get? (adrs h.get? n)) := by
  have e1 : obsD fa fn (frT h.get? (adrs h.get? n)) = valD fn := congrArg (fun z : AlY => z.1) e
  have e2 : (badB (frT h.get? (adrs h.get? n)) && (ex (frT h.get? (adrs h.get? n)) && tabsB h.get? tf (frT h.get? (adrs h.get? n)))) = true := congrArg (fun z : AlY => z.2.1) e
  have e3 : initW (frT h.get? (adrs h.get? n)) = initV := congrArg (fun z : AlY => z.2.2) e
  obtain ⟨h1, h2⟩ := ba e2
  obtain ⟨h2, h3⟩ := ba h2
  have key : ∀ p ∈ tf, PySem.W.codeHdIn (frT h.get? (adrs h.get? n)) (cT (frT h.get? (adrs h.get? n)) p).1 (cT (frT h.get? (adrs h.get? n)) p).2 = true ∧ ∃ o, h.get? (cT (frT h.get? (adrs h.get? n)) p).2 = some o ∧ emptyTab o = true := fun p hp => by
    obtain ⟨h4, h5⟩ := ba (List.all_eq_true.mp h3 p hp)
    refine ⟨h4, ?_⟩
    cases q : h.get? (cT (frT h.get? (adrs h.get? n)) p).2 with
    | none =>
      rw [q] at h5
      cases h5
    | some o =>
      rw [q] at h5
      exact ⟨o, rfl, h5⟩
  refine ⟨e1, h1, h2, e3, fun p hp => (key p hp).1, fun p hp => ?_, fun p hp => ?_⟩
  · obtain ⟨_, o, q, z⟩ := key p hp
    exact frT_none q z
  · obtain ⟨_, o, q, z⟩ := key p hp
    rw [q, emptyTab_eq z]
def hook (n : Nat) (fa : List Fa) (fn : List DefD) (tf : List Defn) (ex : PySem.W.Frag → Bool) : PySem.W.Hook where
  α := AlY
  obs := fun s => obs n fa fn tf ex s.heap.get?
  val := fun _ => val fn
  says := fun _ h => ∃ K : PySem.W.Frag, K.In h ∧ Says fa fn tf ex h K
  of := fun _ _ e => ⟨_, frT_in, says_of e⟩
  keeps := fun _ _ _ ⟨K, hK, c⟩ k => ⟨K, PySem.W.Frag.In.keeps hK k, ⟨c.d, c.bad, c.more, c.iw, c.hd, c.out, fun p hp => k _ _ (c.empty p hp)⟩⟩
theorem obs_eq {n : Nat} {fa : List Fa} {fn : List DefD} {tf : List Defn} {ex : PySem.W.Frag → Bool} {g : Addr → Option Obj} {s : Shared} (h : ∀ a, g a = s.heap.get? a) : obs n fa fn tf ex g = (hook n fa fn tf ex).obs s := by
  have e : g = s.heap.get? := funext h
  rw [e] <;> rfl
end QH

set_option Elab.async false
set_option linter.all false
set_option maxRecDepth 100000
set_option maxHeartbeats 2000000
/-! the defs of the text, what the top leaves of them -/
namespace QP
open PySem PySem.Spec PyProof.Rows L2
def fdOf (K : PySem.W.Frag) (x : Str) : FuncData := match K.lookup (He.ga K x) with
  | some ⟨_, _, .func fd, _⟩ => fd
  | _ => PySem.W.fnOf "" "" (defArgs (QG.top 3)) [] (defScope (QG.top 3)) .none .none .none .none none .none .none
abbrev s_is_integer : Stmt := QG.top 3
theorem sc_is_integer : FnScope ["value"] ["value"] (defScope s_is_integer) := ⟨rfl, rfl, rfl, by decide +kernel, rfl, by decide +kernel, by decide +kernel⟩
abbrev s_need_integer : Stmt := QG.top 4
theorem sc_need_integer : FnScope ["value", "name", "least", "most"] ["value", "name", "least", "most"] (defScope s_need_integer) := ⟨rfl, rfl, rfl, by decide +kernel, rfl, by decide +kernel, by decide +kernel⟩
abbrev s_common : Stmt := QG.top 5
theorem sc_common : FnScope ["one", "other"] ["one", "other"] (defScope s_common) := ⟨rfl, rfl, rfl, by decide +kernel, rfl, by decide +kernel, by decide +kernel⟩
abbrev s_ratio : Stmt := QG.top 6
theorem sc_ratio : FnScope ["above", "below", "divisor"] ["above", "below"] (defScope s_ratio) := ⟨rfl, rfl, rfl, by decide +kernel, rfl, by decide +kernel, by decide +kernel⟩
abbrev s_are_flows : Stmt := QG.top 10
theorem sc_are_flows : FnScope ["value"] ["value"] (defScope s_are_flows) := ⟨rfl, rfl, rfl, by decide +kernel, rfl, by decide +kernel, by decide +kernel⟩
abbrev s_need_pool : Stmt := QG.top 13
theorem sc_need_pool : FnScope ["size", "flows", "takes"] ["size", "flows", "takes"] (defScope s_need_pool) := ⟨rfl, rfl, rfl, by decide +kernel, rfl, by decide +kernel, by decide +kernel⟩
abbrev s_round_of : Stmt := QG.top 14
theorem sc_round_of : FnScope ["flows", "takes", "one", "other"] ["flows", "takes"] (defScope s_round_of) := ⟨rfl, rfl, rfl, by decide +kernel, rfl, by decide +kernel, by decide +kernel⟩
abbrev s_walked : Stmt := QG.top 15
theorem sc_walked : FnScope ["size", "flows", "takes", "level", "levels", "lost", "out", "hour", "taken"] ["size", "flows", "takes", "level"] (defScope s_walked) := ⟨rfl, rfl, rfl, by decide +kernel, rfl, by decide +kernel, by decide +kernel⟩
abbrev s_levels : Stmt := QG.top 16
theorem sc_levels : FnScope ["size", "flows", "takes", "begin"] ["size", "flows", "takes", "begin"] (defScope s_levels) := ⟨rfl, rfl, rfl, by decide +kernel, rfl, by decide +kernel, by decide +kernel⟩
abbrev s_last_begin : Stmt := QG.top 17
theorem sc_last_begin : FnScope ["size", "flows", "takes", "level", "seen", "rows"] ["size", "flows", "takes"] (defScope s_last_begin) := ⟨rfl, rfl, rfl, by decide +kernel, rfl, by decide +kernel, by decide +kernel⟩
abbrev s_level_at_last : Stmt := QG.top 18
theorem sc_level_at_last : FnScope ["size", "flows", "takes"] ["size", "flows", "takes"] (defScope s_level_at_last) := ⟨rfl, rfl, rfl, by decide +kernel, rfl, by decide +kernel, by decide +kernel⟩
abbrev s_lost_part : Stmt := QG.top 19
theorem sc_lost_part : FnScope ["size", "flows", "takes"] ["size", "flows", "takes"] (defScope s_lost_part) := ⟨rfl, rfl, rfl, by decide +kernel, rfl, by decide +kernel, by decide +kernel⟩
abbrev s_lost_of : Stmt := QG.top 20
theorem sc_lost_of : FnScope ["size", "flows", "takes", "around", "hour", "whole"] ["size", "flows", "takes"] (defScope s_lost_of) := ⟨rfl, rfl, rfl, by decide +kernel, rfl, by decide +kernel, by decide +kernel⟩
abbrev s_out_at_last : Stmt := QG.top 21
theorem sc_out_at_last : FnScope ["size", "flows", "takes"] ["size", "flows", "takes"] (defScope s_out_at_last) := ⟨rfl, rfl, rfl, by decide +kernel, rfl, by decide +kernel, by decide +kernel⟩
abbrev s_least_pool : Stmt := QG.top 22
theorem sc_least_pool : FnScope ["flows", "takes", "low", "high", "middle"] ["flows", "takes"] (defScope s_least_pool) := ⟨rfl, rfl, rfl, by decide +kernel, rfl, by decide +kernel, by decide +kernel⟩
abbrev s_full_takes : Stmt := QG.top 23
theorem sc_full_takes : FnScope ["size", "flows", "takes", "around", "hour", "wanted"] ["size", "flows", "takes"] (defScope s_full_takes) := ⟨rfl, rfl, rfl, by decide +kernel, rfl, by decide +kernel, by decide +kernel⟩
abbrev s__law_dice : Stmt := QG.top 25
theorem sc__law_dice : FnScope ["script", "spot", "own", "mixed", "cell"] ["script", "spot"] (defScope s__law_dice) := ⟨rfl, rfl, rfl, by decide +kernel, rfl, by decide +kernel, by decide +kernel⟩
abbrev s__law_roll : Stmt := QG.top 26
theorem sc__law_roll : FnScope ["dice", "many", "found"] ["dice", "many"] (defScope s__law_roll) := ⟨rfl, rfl, rfl, by decide +kernel, rfl, by decide +kernel, by decide +kernel⟩
abbrev s__law_pick : Stmt := QG.top 27
theorem sc__law_pick : FnScope ["dice", "things"] ["dice", "things"] (defScope s__law_pick) := ⟨rfl, rfl, rfl, by decide +kernel, rfl, by decide +kernel, by decide +kernel⟩
abbrev s__law_refused : Stmt := QG.top 28
theorem sc__law_refused : FnScope ["call", "e"] ["call"] (defScope s__law_refused) := ⟨rfl, rfl, rfl, by decide +kernel, rfl, by decide +kernel, by decide +kernel⟩
abbrev s__law_gcd : Stmt := QG.top 29
theorem sc__law_gcd : FnScope ["one", "other", "turn"] ["one", "other"] (defScope s__law_gcd) := ⟨rfl, rfl, rfl, by decide +kernel, rfl, by decide +kernel, by decide +kernel⟩
abbrev s__law_frac : Stmt := QG.top 30
theorem sc__law_frac : FnScope ["above", "below", "divisor"] ["above", "below"] (defScope s__law_frac) := ⟨rfl, rfl, rfl, by decide +kernel, rfl, by decide +kernel, by decide +kernel⟩
abbrev s__law_round : Stmt := QG.top 31
theorem sc__law_round : FnScope ["flows", "takes"] ["flows", "takes"] (defScope s__law_round) := ⟨rfl, rfl, rfl, by decide +kernel, rfl, by decide +kernel, by decide +kernel⟩
abbrev s__law_walk : Stmt := QG.top 32
theorem sc__law_walk : FnScope ["size", "flows", "takes", "level", "found", "lost", "out", "hour", "taken"] ["size", "flows", "takes", "level"] (defScope s__law_walk) := ⟨rfl, rfl, rfl, by decide +kernel, rfl, by decide +kernel, by decide +kernel⟩
abbrev s__law_last : Stmt := QG.top 33
theorem sc__law_last : FnScope ["size", "flows", "takes", "level", "turn"] ["size", "flows", "takes"] (defScope s__law_last) := ⟨rfl, rfl, rfl, by decide +kernel, rfl, by decide +kernel, by decide +kernel⟩
abbrev s__law_right : Stmt := QG.top 34
theorem sc__law_right : FnScope ["dice", "size", "hour", "flows", "takes", "begin", "around", "last", "rows", "lost", "out", "whole", "least", "own", "good", "bad", "told", "due"] ["dice"] (defScope s__law_right) := ⟨rfl, rfl, rfl, by decide +kernel, rfl, by decide +kernel, by decide +kernel⟩
abbrev s_law : Stmt := QG.top 35
theorem sc_law : FnScope ["script", "spot"] ["script"] (defScope s_law) := ⟨rfl, rfl, rfl, by decide +kernel, rfl, by decide +kernel, by decide +kernel⟩
structure Txt (P : Program) (K : PySem.W.Frag) (mg : Str → Option Value) : Prop where
  bad : ∃ fI cc cda, PySem.QBad.BadTxt P K mg (He.ga K "BadArgument") fI cc cda
  z_abs : mg "abs" = none
  z_all : mg "all" = none
  z_bool : mg "bool" = none
  z_int : mg "int" = none
  z_isinstance : mg "isinstance" = none
  z_len : mg "len" = none
  z_max : mg "max" = none
  z_min : mg "min" = none
  z_range : mg "range" = none
  z_sum : mg "sum" = none
  z_tuple : mg "tuple" = none
  c_MOST_FLOWS : ∃ t, mg "MOST_FLOWS" = some (.int 30 t)
  c_MOST_RUN : ∃ t, mg "MOST_RUN" = some (.int 1000 t)
  c_MOST_SIZE : ∃ t, mg "MOST_SIZE" = some (.int 2000 t)
  g_is_integer : mg "is_integer" = some (.ref (He.ga K "is_integer"))
  f_is_integer : QG.FnP K "is_integer" s_is_integer (He.ga K "is_integer") (fdOf K "is_integer")
  g_need_integer : mg "need_integer" = some (.ref (He.ga K "need_integer"))
  f_need_integer : QG.FnP K "need_integer" s_need_integer (He.ga K "need_integer") (fdOf K "need_integer")
  g_common : mg "common" = some (.ref (He.ga K "common"))
  f_common : QG.FnP K "common" s_common (He.ga K "common") (fdOf K "common")
  g_ratio : mg "ratio" = some (.ref (He.ga K "ratio"))
  f_ratio : QG.FnP K "ratio" s_ratio (He.ga K "ratio") (fdOf K "ratio")
  g_are_flows : mg "are_flows" = some (.ref (He.ga K "are_flows"))
  f_are_flows : QG.FnP K "are_flows" s_are_flows (He.ga K "are_flows") (fdOf K "are_flows")
  g_need_pool : mg "need_pool" = some (.ref (He.ga K "need_pool"))
  f_need_pool : QG.FnP K "need_pool" s_need_pool (He.ga K "need_pool") (fdOf K "need_pool")
  g_round_of : mg "round_of" = some (.ref (He.ga K "round_of"))
  f_round_of : QG.FnP K "round_of" s_round_of (He.ga K "round_of") (fdOf K "round_of")
  g_walked : mg "walked" = some (.ref (He.ga K "walked"))
  f_walked : QG.FnP K "walked" s_walked (He.ga K "walked") (fdOf K "walked")
  g_levels : mg "levels" = some (.ref (He.ga K "levels"))
  f_levels : QG.FnP K "levels" s_levels (He.ga K "levels") (fdOf K "levels")
  g_last_begin : mg "last_begin" = some (.ref (He.ga K "last_begin"))
  f_last_begin : QG.FnP K "last_begin" s_last_begin (He.ga K "last_begin") (fdOf K "last_begin")
  g_level_at_last : mg "level_at_last" = some (.ref (He.ga K "level_at_last"))
  f_level_at_last : QG.FnP K "level_at_last" s_level_at_last (He.ga K "level_at_last") (fdOf K "level_at_last")
  g_lost_part : mg "lost_part" = some (.ref (He.ga K "lost_part"))
  f_lost_part : QG.FnP K "lost_part" s_lost_part (He.ga K "lost_part") (fdOf K "lost_part")
  g_lost_of : mg "lost_of" = some (.ref (He.ga K "lost_of"))
  f_lost_of : QG.FnP K "lost_of" s_lost_of (He.ga K "lost_of") (fdOf K "lost_of")
  g_out_at_last : mg "out_at_last" = some (.ref (He.ga K "out_at_last"))
  f_out_at_last : QG.FnP K "out_at_last" s_out_at_last (He.ga K "out_at_last") (fdOf K "out_at_last")
  g_least_pool : mg "least_pool" = some (.ref (He.ga K "least_pool"))
  f_least_pool : QG.FnP K "least_pool" s_least_pool (He.ga K "least_pool") (fdOf K "least_pool")
  g_full_takes : mg "full_takes" = some (.ref (He.ga K "full_takes"))
  f_full_takes : QG.FnP K "full_takes" s_full_takes (He.ga K "full_takes") (fdOf K "full_takes")
  g__law_dice : mg "_law_dice" = some (.ref (He.ga K "_law_dice"))
  f__law_dice : QG.FnP K "_law_dice" s__law_dice (He.ga K "_law_dice") (fdOf K "_law_dice")
  g__law_roll : mg "_law_roll" = some (.ref (He.ga K "_law_roll"))
  f__law_roll : QG.FnP K "_law_roll" s__law_roll (He.ga K "_law_roll") (fdOf K "_law_roll")
  g__law_pick : mg "_law_pick" = some (.ref (He.ga K "_law_pick"))
  f__law_pick : QG.FnP K "_law_pick" s__law_pick (He.ga K "_law_pick") (fdOf K "_law_pick")
  g__law_refused : mg "_law_refused" = some (.ref (He.ga K "_law_refused"))
  f__law_refused : QG.FnP K "_law_refused" s__law_refused (He.ga K "_law_refused") (fdOf K "_law_refused")
  g__law_gcd : mg "_law_gcd" = some (.ref (He.ga K "_law_gcd"))
  f__law_gcd : QG.FnP K "_law_gcd" s__law_gcd (He.ga K "_law_gcd") (fdOf K "_law_gcd")
  g__law_frac : mg "_law_frac" = some (.ref (He.ga K "_law_frac"))
  f__law_frac : QG.FnP K "_law_frac" s__law_frac (He.ga K "_law_frac") (fdOf K "_law_frac")
  g__law_round : mg "_law_round" = some (.ref (He.ga K "_law_round"))
  f__law_round : QG.FnP K "_law_round" s__law_round (He.ga K "_law_round") (fdOf K "_law_round")
  g__law_walk : mg "_law_walk" = some (.ref (He.ga K "_law_walk"))
  f__law_walk : QG.FnP K "_law_walk" s__law_walk (He.ga K "_law_walk") (fdOf K "_law_walk")
  g__law_last : mg "_law_last" = some (.ref (He.ga K "_law_last"))
  f__law_last : QG.FnP K "_law_last" s__law_last (He.ga K "_law_last") (fdOf K "_law_last")
  g__law_right : mg "_law_right" = some (.ref (He.ga K "_law_right"))
  f__law_right : QG.FnP K "_law_right" s__law_right (He.ga K "_law_right") (fdOf K "_law_right")
  g_law : mg "law" = some (.ref (He.ga K "law"))
  f_law : QG.FnP K "law" s_law (He.ga K "law") (fdOf K "law")
theorem Txt.b_is_integer {P : Program} {K : PySem.W.Frag} {mg : Str → Option Value} (T : Txt P K mg) : Binds K (fdOf K "is_integer") ["value"] [] := T.f_is_integer.bindsN fun _ _ _ _ _ _ us hl => match us, hl with | [_], _ => rfl
theorem Txt.b_need_integer {P : Program} {K : PySem.W.Frag} {mg : Str → Option Value} (T : Txt P K mg) : Binds K (fdOf K "need_integer") ["value", "name", "least", "most"] [] := T.f_need_integer.bindsN fun _ _ _ _ _ _ us hl => match us, hl with | [_, _, _, _], _ => rfl
theorem Txt.b_common {P : Program} {K : PySem.W.Frag} {mg : Str → Option Value} (T : Txt P K mg) : Binds K (fdOf K "common") ["one", "other"] [] := T.f_common.bindsN fun _ _ _ _ _ _ us hl => match us, hl with | [_, _], _ => rfl
theorem Txt.b_ratio {P : Program} {K : PySem.W.Frag} {mg : Str → Option Value} (T : Txt P K mg) : Binds K (fdOf K "ratio") ["above", "below"] [] := T.f_ratio.bindsN fun _ _ _ _ _ _ us hl => match us, hl with | [_, _], _ => rfl
theorem Txt.b_are_flows {P : Program} {K : PySem.W.Frag} {mg : Str → Option Value} (T : Txt P K mg) : Binds K (fdOf K "are_flows") ["value"] [] := T.f_are_flows.bindsN fun _ _ _ _ _ _ us hl => match us, hl with | [_], _ => rfl
theorem Txt.b_need_pool {P : Program} {K : PySem.W.Frag} {mg : Str → Option Value} (T : Txt P K mg) : Binds K (fdOf K "need_pool") ["size", "flows", "takes"] [] := T.f_need_pool.bindsN fun _ _ _ _ _ _ us hl => match us, hl with | [_, _, _], _ => rfl
theorem Txt.b_round_of {P : Program} {K : PySem.W.Frag} {mg : Str → Option Value} (T : Txt P K mg) : Binds K (fdOf K "round_of") ["flows", "takes"] [] := T.f_round_of.bindsN fun _ _ _ _ _ _ us hl => match us, hl with | [_, _], _ => rfl
theorem Txt.b_walked {P : Program} {K : PySem.W.Frag} {mg : Str → Option Value} (T : Txt P K mg) : Binds K (fdOf K "walked") ["size", "flows", "takes", "level"] [] := T.f_walked.bindsN fun _ _ _ _ _ _ us hl => match us, hl with | [_, _, _, _], _ => rfl
theorem Txt.b_levels {P : Program} {K : PySem.W.Frag} {mg : Str → Option Value} (T : Txt P K mg) : Binds K (fdOf K "levels") ["size", "flows", "takes", "begin"] [] := T.f_levels.bindsN fun _ _ _ _ _ _ us hl => match us, hl with | [_, _, _, _], _ => rfl
theorem Txt.kb_levels {P : Program} {K : PySem.W.Frag} {mg : Str → Option Value} (T : Txt P K mg) : KBn K (fdOf K "levels") ["size", "flows", "takes", "begin"] 3 ["begin"] (fun us ws => us ++ ws) (fun vs zs => vs ++ zs) := Go.kb_mk T.f_levels fun _ _ _ _ _ _ us ws h1 h2 => match us, ws, h1, h2 with | [_, _, _], [_], _, _ => rfl
theorem Txt.b_last_begin {P : Program} {K : PySem.W.Frag} {mg : Str → Option Value} (T : Txt P K mg) : Binds K (fdOf K "last_begin") ["size", "flows", "takes"] [] := T.f_last_begin.bindsN fun _ _ _ _ _ _ us hl => match us, hl with | [_, _, _], _ => rfl
theorem Txt.b_level_at_last {P : Program} {K : PySem.W.Frag} {mg : Str → Option Value} (T : Txt P K mg) : Binds K (fdOf K "level_at_last") ["size", "flows", "takes"] [] := T.f_level_at_last.bindsN fun _ _ _ _ _ _ us hl => match us, hl with | [_, _, _], _ => rfl
theorem Txt.kb_level_at_last {P : Program} {K : PySem.W.Frag} {mg : Str → Option Value} (T : Txt P K mg) : KBn K (fdOf K "level_at_last") ["size", "flows", "takes"] 2 ["takes"] (fun us ws => us ++ ws) (fun vs zs => vs ++ zs) := Go.kb_mk T.f_level_at_last fun _ _ _ _ _ _ us ws h1 h2 => match us, ws, h1, h2 with | [_, _], [_], _, _ => rfl
theorem Txt.b_lost_part {P : Program} {K : PySem.W.Frag} {mg : Str → Option Value} (T : Txt P K mg) : Binds K (fdOf K "lost_part") ["size", "flows", "takes"] [] := T.f_lost_part.bindsN fun _ _ _ _ _ _ us hl => match us, hl with | [_, _, _], _ => rfl
theorem Txt.kb_lost_part {P : Program} {K : PySem.W.Frag} {mg : Str → Option Value} (T : Txt P K mg) : KBn K (fdOf K "lost_part") ["size", "flows", "takes"] 2 ["takes"] (fun us ws => us ++ ws) (fun vs zs => vs ++ zs) := Go.kb_mk T.f_lost_part fun _ _ _ _ _ _ us ws h1 h2 => match us, ws, h1, h2 with | [_, _], [_], _, _ => rfl
theorem Txt.b_lost_of {P : Program} {K : PySem.W.Frag} {mg : Str → Option Value} (T : Txt P K mg) : Binds K (fdOf K "lost_of") ["size", "flows", "takes"] [] := T.f_lost_of.bindsN fun _ _ _ _ _ _ us hl => match us, hl with | [_, _, _], _ => rfl
theorem Txt.b_out_at_last {P : Program} {K : PySem.W.Frag} {mg : Str → Option Value} (T : Txt P K mg) : Binds K (fdOf K "out_at_last") ["size", "flows", "takes"] [] := T.f_out_at_last.bindsN fun _ _ _ _ _ _ us hl => match us, hl with | [_, _, _], _ => rfl
theorem Txt.kb_out_at_last {P : Program} {K : PySem.W.Frag} {mg : Str → Option Value} (T : Txt P K mg) : KBn K (fdOf K "out_at_last") ["size", "flows", "takes"] 2 ["takes"] (fun us ws => us ++ ws) (fun vs zs => vs ++ zs) := Go.kb_mk T.f_out_at_last fun _ _ _ _ _ _ us ws h1 h2 => match us, ws, h1, h2 with | [_, _], [_], _, _ => rfl
theorem Txt.b_least_pool {P : Program} {K : PySem.W.Frag} {mg : Str → Option Value} (T : Txt P K mg) : Binds K (fdOf K "least_pool") ["flows", "takes"] [] := T.f_least_pool.bindsN fun _ _ _ _ _ _ us hl => match us, hl with | [_, _], _ => rfl
theorem Txt.kb_least_pool {P : Program} {K : PySem.W.Frag} {mg : Str → Option Value} (T : Txt P K mg) : KBn K (fdOf K "least_pool") ["flows", "takes"] 1 ["takes"] (fun us ws => us ++ ws) (fun vs zs => vs ++ zs) := Go.kb_mk T.f_least_pool fun _ _ _ _ _ _ us ws h1 h2 => match us, ws, h1, h2 with | [_], [_], _, _ => rfl
theorem Txt.b_full_takes {P : Program} {K : PySem.W.Frag} {mg : Str → Option Value} (T : Txt P K mg) : Binds K (fdOf K "full_takes") ["size", "flows", "takes"] [] := T.f_full_takes.bindsN fun _ _ _ _ _ _ us hl => match us, hl with | [_, _, _], _ => rfl
theorem Txt.kb_full_takes {P : Program} {K : PySem.W.Frag} {mg : Str → Option Value} (T : Txt P K mg) : KBn K (fdOf K "full_takes") ["size", "flows", "takes"] 2 ["takes"] (fun us ws => us ++ ws) (fun vs zs => vs ++ zs) := Go.kb_mk T.f_full_takes fun _ _ _ _ _ _ us ws h1 h2 => match us, ws, h1, h2 with | [_, _], [_], _, _ => rfl
theorem Txt.b__law_dice {P : Program} {K : PySem.W.Frag} {mg : Str → Option Value} (T : Txt P K mg) : Binds K (fdOf K "_law_dice") ["script", "spot"] [] := T.f__law_dice.bindsN fun _ _ _ _ _ _ us hl => match us, hl with | [_, _], _ => rfl
theorem Txt.b__law_roll {P : Program} {K : PySem.W.Frag} {mg : Str → Option Value} (T : Txt P K mg) : Binds K (fdOf K "_law_roll") ["dice", "many"] [] := T.f__law_roll.bindsN fun _ _ _ _ _ _ us hl => match us, hl with | [_, _], _ => rfl
theorem Txt.b__law_pick {P : Program} {K : PySem.W.Frag} {mg : Str → Option Value} (T : Txt P K mg) : Binds K (fdOf K "_law_pick") ["dice", "things"] [] := T.f__law_pick.bindsN fun _ _ _ _ _ _ us hl => match us, hl with | [_, _], _ => rfl
theorem Txt.b__law_refused {P : Program} {K : PySem.W.Frag} {mg : Str → Option Value} (T : Txt P K mg) : Binds K (fdOf K "_law_refused") ["call"] [] := T.f__law_refused.bindsN fun _ _ _ _ _ _ us hl => match us, hl with | [_], _ => rfl
theorem Txt.b__law_gcd {P : Program} {K : PySem.W.Frag} {mg : Str → Option Value} (T : Txt P K mg) : Binds K (fdOf K "_law_gcd") ["one", "other"] [] := T.f__law_gcd.bindsN fun _ _ _ _ _ _ us hl => match us, hl with | [_, _], _ => rfl
theorem Txt.b__law_frac {P : Program} {K : PySem.W.Frag} {mg : Str → Option Value} (T : Txt P K mg) : Binds K (fdOf K "_law_frac") ["above", "below"] [] := T.f__law_frac.bindsN fun _ _ _ _ _ _ us hl => match us, hl with | [_, _], _ => rfl
theorem Txt.b__law_round {P : Program} {K : PySem.W.Frag} {mg : Str → Option Value} (T : Txt P K mg) : Binds K (fdOf K "_law_round") ["flows", "takes"] [] := T.f__law_round.bindsN fun _ _ _ _ _ _ us hl => match us, hl with | [_, _], _ => rfl
theorem Txt.b__law_walk {P : Program} {K : PySem.W.Frag} {mg : Str → Option Value} (T : Txt P K mg) : Binds K (fdOf K "_law_walk") ["size", "flows", "takes", "level"] [] := T.f__law_walk.bindsN fun _ _ _ _ _ _ us hl => match us, hl with | [_, _, _, _], _ => rfl
theorem Txt.b__law_last {P : Program} {K : PySem.W.Frag} {mg : Str → Option Value} (T : Txt P K mg) : Binds K (fdOf K "_law_last") ["size", "flows", "takes"] [] := T.f__law_last.bindsN fun _ _ _ _ _ _ us hl => match us, hl with | [_, _, _], _ => rfl
theorem Txt.b__law_right {P : Program} {K : PySem.W.Frag} {mg : Str → Option Value} (T : Txt P K mg) : Binds K (fdOf K "_law_right") ["dice"] [] := T.f__law_right.bindsN fun _ _ _ _ _ _ us hl => match us, hl with | [_], _ => rfl
theorem Txt.b_law {P : Program} {K : PySem.W.Frag} {mg : Str → Option Value} (T : Txt P K mg) : Binds K (fdOf K "law") ["script"] [] := T.f_law.bindsN fun _ _ _ _ _ _ us hl => match us, hl with | [_], _ => rfl
end QP

set_option Elab.async false
set_option linter.all false
set_option maxRecDepth 100000
set_option maxHeartbeats 2000000

/-! one step of a reading; the steps that ask nothing -/
local macro_rules | `(tactic| walk_at "goσ") => `(tactic| ((try dsimp only [List.set]); (try exact rfl)))
local macro_rules | `(tactic| walk_at "start") => `(tactic| (rw [Go.start_eq]; dsimp only [Go.startL, L2.cxOf, List.map]))
local macro_rules | `(tactic| walk_at "go1") => `(tactic| first
  | (with_reducible refine Go.nxI ?_) | (with_reducible refine Go.rtI ?_) | (with_reducible refine Go.bkI ?_) | (with_reducible refine Go.ctI ?_)
  | (with_reducible refine Go.seq ?_) | (with_reducible refine Go.asg ?_) | (with_reducible refine Go.ret ?_) | (with_reducible refine Go.retN ?_) | (with_reducible refine Go.next ?_) | (with_reducible refine Go.brk ?_) | (with_reducible refine Go.cnt ?_) | (with_reducible refine Go.drop ?_)
  | ((with_reducible refine' Go.var ?e ?_); (case e => exact rfl))
  | (with_reducible refine Go.con ?_) | (with_reducible refine Go.op ?_) | (with_reducible refine Go.un ?_) | (with_reducible refine Go.i0 ?_) | (with_reducible refine Go.uI ?_)
  | (with_reducible refine Go.test ?_) | (with_reducible refine Go.tB_ ?_) | (with_reducible refine Go.kb ?_)
  | ((with_reducible refine' Go.name ?e ?_); (case e => walk_at "goσ"))
  | (with_reducible refine Go.cons ?_) | (with_reducible refine Go.nil ?_) | (with_reducible refine Go.cb ?_) | (with_reducible refine Go.call ?_) | (with_reducible refine Go.callS ?_) | (with_reducible refine Go.callN ?_)
  | (with_reducible refine Go.ifs ?_) | (with_reducible refine Go.ifx ?_) | (with_reducible refine Go.and_ ?_) | (with_reducible refine Go.or_ ?_) | (with_reducible refine Go.not_ ?_)
  | (with_reducible refine Go.andV ?_) | (with_reducible refine Go.kandV ?_) | (with_reducible refine Go.orV ?_) | (with_reducible refine Go.korV ?_) | (with_reducible refine Go.notV ?_) | (with_reducible refine Go.knotV ?_)
  | (with_reducible refine Go.par ?_) | ((with_reducible refine' Go.kpar ?e ?_); (case e => walk_at "goσ")) | (with_reducible refine Go.par3 ?_) | ((with_reducible refine' Go.kpar3 ?e ?_); (case e => walk_at "goσ"))
  | (with_reducible refine Go.chain ?_) | (with_reducible refine Go.kchain ?_)
  | ((with_reducible refine' Go.aug ?e ?_); (case e => exact rfl)) | (with_reducible refine Go.ipi ?_)
  | (with_reducible refine Go.abs_ ?_) | (with_reducible refine Go.max_ ?_) | (with_reducible refine Go.min_ ?_) | (with_reducible refine Go.int_ ?_)
  | ((with_reducible refine' Go.eq_ ?e ?_); (case e => exact rfl)) | ((with_reducible refine' Go.ne_ ?e ?_); (case e => exact rfl)) | (with_reducible refine Go.isN ?_) | (with_reducible refine Go.notN ?_)
  | (with_reducible refine L2.iteT ?_) | (with_reducible refine L2.iteF ?_) | (with_reducible refine Go.nT ?_) | (with_reducible refine Go.nF ?_)
  | (with_reducible refine Go.tup ?_) | (with_reducible refine Go.lst ?_) | ((with_reducible refine' Go.ktup ?e ?_); (case e => exact Nat.le_of_ble_eq_true rfl)) | ((with_reducible refine' Go.klst ?e ?_); (case e => exact Nat.le_of_ble_eq_true rfl))
  | (with_reducible refine Go.for_ ?_) | (with_reducible refine Go.lc_ ?_) | (with_reducible refine Go.rng1 ?_) | (with_reducible refine Go.itup ?_) | (with_reducible refine Go.ilist ?_)
  | (with_reducible refine Go.bmL ?_) | (with_reducible refine Go.sub ?_) | (with_reducible refine Go.gcons ?_) | (with_reducible refine Go.gnil ?_) | (with_reducible refine Go.sl ?_) | (with_reducible refine Go.part ?_) | (with_reducible refine Go.kpart ?_) | (with_reducible refine Go.noPart ?_))
local macro_rules | `(tactic| walk_at "go") => `(tactic| ((try walk_at "start"); repeat (walk_at "go1")))

namespace QP
open PySem PySem.Spec PyProof.Rows L2
/-! ### what a value is -/
def Kd (K : PySem.W.Frag) (H : Hp) (x : V) (a b c : Bool) : Prop := ∃ t, TyX K H x t ∧ PySem.W.kitOne K t (.type "int") = some a ∧ PySem.W.kitOne K t (.type "bool") = some b ∧ PySem.W.kitOne K t (.type "tuple") = some c
section
variable {K : PySem.W.Frag} {H : Hp} {p : Addr} {xs : List V}
theorem kd_int {i : Int} : Kd K H (.int i) true false false := ⟨_, .base (.int i), kit_ty (by decide +kernel), kit_ty (by decide +kernel), kit_ty (by decide +kernel)⟩
theorem kd_bl {b : Bool} : Kd K H (.bl b) true true false := ⟨_, .base (.bl b), kit_ty (by decide +kernel), kit_ty (by decide +kernel), kit_ty (by decide +kernel)⟩
theorem kd_non : Kd K H .non false false false := ⟨_, .base .non, kit_ty (by decide +kernel), kit_ty (by decide +kernel), kit_ty (by decide +kernel)⟩
theorem kd_tup (h : H p = some (.tup xs)) : Kd K H (.ref p) false false true := ⟨_, .base (.tup h), kit_ty (by decide +kernel), kit_ty (by decide +kernel), kit_ty (by decide +kernel)⟩
theorem kd_lst (h : H p = some (.lst xs)) : Kd K H (.ref p) false false false := ⟨_, .base (.lst h), kit_ty (by decide +kernel), kit_ty (by decide +kernel), kit_ty (by decide +kernel)⟩
end
theorem isi_ {K : PySem.W.Frag} {H : Hp} {x : V} {n : String} {t : Value} {b : Bool} {Q : VK} (h : TyX K H x t) (e : PySem.W.kitOne K t (.type n) = some b) (q : Q (.bl b) H) : rIsi K [x, .ty n] H Q := ⟨x, .ty n, t, .type n, b, rfl, .ty n, h, e, q⟩
section
variable {P : Program} {w : World} {K : PySem.W.Frag} {mg : Str → Option Value} {base : Heap} (T : Txt P K mg)
/-! ### is_integer -/
def spIsInt (K : PySem.W.Frag) : Sp := fun vs H Q _ => ∃ (x : V) (a b c : Bool), vs = [x] ∧ Kd K H x a b c ∧ Q (.bl (a && !b)) H
include T in
theorem ok_is_integer : FnOk P w K mg base CX0 1 (He.ga K "is_integer") (fdOf K "is_integer") ["value"] (spIsInt K) := by
  refine T.f_is_integer.ok sc_is_integer (fun vs H Q E h => ?_) (fun cdv A outer s H vs Q E hr h => ⟨_, PSs.nox (pss_one (ps_ret (pe_and (pe_callB (Go.c_isiK (K := K) rfl) (by rfl) T.z_isinstance (by decide +kernel) (pa_cons (pv 0) (pa_cons (pe_bltn (v := .ty "int") (by rfl) T.z_int (by decide +kernel) rfl) pa_nil))) (pe_one (pe_not (pe_callB (Go.c_isiK (K := K) rfl) (by rfl) T.z_isinstance (by decide +kernel) (pa_cons (pv 0) (pa_cons (pe_bltn (v := .ty "bool") (by rfl) T.z_bool (by decide +kernel) rfl) pa_nil)))))))) , ?_⟩)
  · obtain ⟨x, a, b, c, rfl, _⟩ := h
    rfl
  obtain ⟨x, a, b, c, rfl, ⟨t, h1, h2, h3, _⟩, q⟩ := h
  walk_at "go"
  refine isi_ h1 h2 ?_
  walk_at "go"
  cases a with
  | false => exact iteF q
  | true =>
    refine iteT ?_
    walk_at "go"
    refine isi_ h1 h3 ?_
    walk_at "go"
    exact q
/-! ### need_integer -/
def InB (x : V) (lo hi : Int) : Prop := ∃ i, x = .int i ∧ lo ≤ i ∧ i ≤ hi
def spNeedInt (K : PySem.W.Frag) (C : Addr) : Sp := fun vs H Q E => ∃ (x : V) (z : Str) (lo hi : Int) (a b c : Bool), vs = [x, .str z, .int lo, .int hi] ∧ z.length ≤ 1000 ∧ Kd K H x a b c ∧ ((a && !b) = true → ∃ i, x = .int i) ∧ ((a && !b) = false → ∀ i, x ≠ .int i) ∧
  (InB x lo hi → Q .non H) ∧ (¬ InB x lo hi → ∀ d, H d = none → E (.ref C) (some d) (upd H d (badD z)))
include T in
theorem ok_need_integer : FnOk P w K mg base (L2.CX P w) 2 (He.ga K "need_integer") (fdOf K "need_integer") ["value", "name", "least", "most"] (spNeedInt K (He.ga K "BadArgument")) := by
  have G_is_integer := ok_is_integer (P := P) (w := w) (base := base) T
  obtain ⟨fI, cc, cda, TB⟩ := T.bad
  refine T.f_need_integer.ok sc_need_integer (fun vs H Q E h => ?_) (fun cdv A outer s H vs Q E hr h => ⟨_, (pss_one (ps_if (PW.pt (pw_or (pt_not (pt_val (pe_call G_is_integer (hr.mono (by decide)) (by rfl) T.g_is_integer T.f_is_integer.kp T.b_is_integer .nil pass0 (pa_cons (pv 0) pa_nil)))) (pw_or (pt_cmpR op_lt (pv 0) (pv 2) (nomark _)) (pw_or1 (pt_cmpR op_gt (pv 0) (pv 3) (nomark _)))))) (pss_one (ps_raiseBad rfl TB hr (takes_of rfl rfl rfl rfl) (pa_cons (pv 1) pa_nil))) pss_nil)) , ?_⟩)
  · obtain ⟨x, z, lo, hi, a, b, c, rfl, _⟩ := h
    rfl
  obtain ⟨x, z, lo, hi, a, b, c, rfl, hz, hk, h1, h2, k1, k2⟩ := h
  have raise_ : ¬ InB x lo hi → tRaiseBad (He.ga K "BadArgument") (fun cls d _ H => E cls d H) (tCons (tVar 1) tNil) ⟨fun _ H' => Q .non H', Q, fun _ _ => False, fun _ _ => False⟩ [some x, some (.str z), some (.int lo), some (.int hi)] H := fun n =>
    ⟨_, rfl, _, rfl, hz, fun d hd => k2 n d hd⟩
  walk_at "go"
  refine ⟨x, a, b, c, rfl, hk, ?_⟩
  walk_at "go"
  cases e : (a && !b) with
  | false =>
    rw [Bool.not_false]
    walk_at "go"
    exact raise_ fun ⟨i, e1, _⟩ => h2 e i e1
  | true =>
    obtain ⟨i, rfl⟩ := h1 e
    rw [Bool.not_true]
    walk_at "go"
    refine ite2 (fun c1 => ?_) (fun c1 => ?_)
    · walk_at "go"
      exact raise_ fun ⟨j, e1, e2, _⟩ => by
        cases e1
        exact absurd (of_decide_eq_true c1) (by omega)
    · walk_at "go"
      refine ite2 (fun c2 => ?_) (fun c2 => ?_)
      · walk_at "go"
        exact raise_ fun ⟨j, e1, _, e2⟩ => by
          cases e1
          exact absurd (of_decide_eq_true c2) (by omega)
      · walk_at "go"
        have c1' : ¬ i < lo := fun z => c1 (decide_eq_true z)
        have c2' : ¬ hi < i := fun z => c2 (decide_eq_true z)
        exact k1 ⟨i, rfl, by omega, by omega⟩
end
end QP

set_option Elab.async false
set_option linter.all false
set_option maxRecDepth 100000
set_option maxHeartbeats 2000000

namespace QP
open PySem PySem.Spec PyProof.Rows L2
/-! ### plain: Euclid -/
theorem abs_if (i : Int) : (if i < 0 then -i else i) = (i.natAbs : Int) := by split <;> omega
theorem gcd_turn (a b : Nat) : Nat.gcd b (a % b) = Nat.gcd a b := by rw [Nat.gcd_comm a b, Nat.gcd_rec b a, Nat.gcd_comm]
set_option exponentiation.threshold 1000
/-- behind k turns of the bounded Euclid -/
def Euc (g : Nat) (k : Nat) (a b : Nat) : Prop := Nat.gcd a b = g ∧ (k = 0 → b < 2 ^ 150) ∧ (0 < k → b < a ∧ a * b * 2 ^ (k - 1) < 2 ^ 300)
theorem Euc.step {g k a b : Nat} (h : Euc g k a b) (hb : 0 < b) : Euc g (k + 1) b (a % b) := by
  obtain ⟨h1, h2, h3⟩ := h
  have hm := Nat.mod_lt a hb
  refine ⟨(gcd_turn a b).trans h1, fun z => by omega, fun _ => ⟨hm, ?_⟩⟩
  rw [Nat.add_sub_cancel]
  by_cases hk : k = 0
  · subst hk
    have hb2 := h2 rfl
    rw [Nat.pow_zero, Nat.mul_one]
    calc b * (a % b) ≤ b * b := Nat.mul_le_mul_left b (Nat.le_of_lt hm)
      _ < 2 ^ 150 * 2 ^ 150 := Nat.mul_lt_mul'' hb2 hb2
      _ = 2 ^ 300 := by decide
  · obtain ⟨hba, hp⟩ := h3 (by omega)
    obtain ⟨j, rfl⟩ : ∃ j, k = j + 1 := ⟨k - 1, by omega⟩
    rw [Nat.add_sub_cancel] at hp
    have h2m : 2 * (a % b) ≤ a := by
      have e := Nat.div_add_mod a b
      have q1 : 1 ≤ a / b := (Nat.le_div_iff_mul_le hb).mpr (by omega)
      have q2 : b * 1 ≤ b * (a / b) := Nat.mul_le_mul_left b q1
      omega
    calc b * (a % b) * 2 ^ (j + 1) = b * (2 * (a % b)) * 2 ^ j := by rw [Nat.pow_succ]; rw [Nat.mul_assoc b, Nat.mul_assoc b, Nat.mul_comm (2 ^ j) 2, ← Nat.mul_assoc (a % b), Nat.mul_comm (a % b) 2]
      _ ≤ b * a * 2 ^ j := Nat.mul_le_mul_right _ (Nat.mul_le_mul_left b h2m)
      _ = a * b * 2 ^ j := by rw [Nat.mul_comm b a]
      _ < 2 ^ 300 := hp
theorem Euc.done {g a b : Nat} (h : Euc g 400 a b) : a = g := by
  obtain ⟨h1, _, h3⟩ := h
  obtain ⟨hba, hp⟩ := h3 (by omega)
  have h0 : a * b = 0 := by
    rcases Nat.eq_zero_or_pos (a * b) with z | z
    · exact z
    · have : 1 * 2 ^ 399 ≤ a * b * 2 ^ (400 - 1) := Nat.mul_le_mul_right _ z
      have e : (2 : Nat) ^ 300 < 2 ^ 399 := by decide
      rw [Nat.one_mul] at this
      exact absurd (Nat.lt_of_le_of_lt this hp) (by omega)
  rcases Nat.mul_eq_zero.mp h0 with z | z
  · omega
  · rw [z, Nat.gcd_zero_right] at h1
    exact h1
theorem Euc.zero {g k a : Nat} (h : Euc g k a 0) : a = g := by
  have := h.1
  rw [Nat.gcd_zero_right] at this
  exact this
/-- a fraction in lowest terms -/
def frac (a b : Int) : Int × Int := (a / (Int.gcd a b : Nat), b / (Int.gcd a b : Nat))
set_option exponentiation.threshold 1000
section
variable {P : Program} {w : World} {K : PySem.W.Frag} {mg : Str → Option Value} {base : Heap} (T : Txt P K mg)
def spCommon : Sp := fun vs H Q _ => ∃ i j : Int, vs = [.int i, .int j] ∧ Q (.int (Int.gcd i j : Nat)) H
include T in
theorem ok_common : FnOk P w K mg base CX0 1 (He.ga K "common") (fdOf K "common") ["one", "other"] spCommon := by
  refine T.f_common.ok sc_common (fun vs H Q E h => ?_) (fun cdv A outer s H vs Q E hr h => ⟨_, PSs.nox (pss_cons (ps_set (i := 0) sc_common.nd rfl (Or.inl rfl) (pe_callB Go.c_abs (by rfl) T.z_abs (by decide +kernel) (pa_cons (pv 0) pa_nil)))
    (pss_cons (ps_set (i := 1) sc_common.nd rfl (Or.inl rfl) (pe_callB Go.c_abs (by rfl) T.z_abs (by decide +kernel) (pa_cons (pv 1) pa_nil)))
    (pss_cons (ps_while PassesOwn.never (pt_cmpR op_gt (pv 1) pe_int (nomark _)) (pss_one (ps_par (i := 0) (j := 1) (by rfl) sc_common.nd rfl rfl (by decide) rfl rfl (pa_cons (pv 1) (pa_cons (pe_op op_mod (pv 0) (pv 1)) pa_nil)) (by rfl))))
    (pss_one (ps_ret (pv 0)))))) , ?_⟩)
  · obtain ⟨i, j, rfl, _⟩ := h
    rfl
  obtain ⟨i, j, rfl, q⟩ := h
  walk_at "go"
  rw [abs_if, abs_if]
  refine Go.while_ (fun σ H' => H' = H ∧ ∃ a b : Nat, σ = [some (.int a), some (.int b)] ∧ Nat.gcd a b = Int.gcd i j) (fun σ => match σ with | [_, some (.int b)] => b.toNat | _ => 0) ⟨rfl, _, _, rfl, rfl⟩ ?_
  rintro σ H' ⟨rfl, a, b, rfl, e⟩
  walk_at "go"
  refine Go.turn (fun c => ?_) (fun c => ?_)
  · have c' : 0 < (b : Int) := of_decide_eq_true c
    walk_at "go"
    refine Go.i1 c' ?_
    walk_at "go"
    have hl := Int.emod_lt_of_pos (a : Int) c'
    have h0 := Int.emod_nonneg (a : Int) (by omega : (b : Int) ≠ 0)
    exact ⟨by show ((a : Int) % b).toNat < (b : Int).toNat; omega, rfl, b, a % b, rfl, (gcd_turn a b).trans e⟩
  · have c' : ¬ 0 < (b : Int) := of_decide_eq_false c
    walk_at "go"
    obtain rfl : b = 0 := by omega
    rw [Nat.gcd_zero_right] at e
    rw [e]
    exact q
def spRatio : Sp := fun vs H Q _ => ∃ a b : Int, vs = [.int a, .int b] ∧ 0 < b ∧ b < 1073741824 ∧ ∀ p, H p = none → Q (.ref p) (upd H p (.tup [.int (frac a b).1, .int (frac a b).2]))
theorem gcd_div {a b : Int} (h0 : 0 < b) (h1 : b < 1073741824) : CDiv a (Int.gcd a b : Nat) := by
  have e : 0 < Int.gcd a b := Int.gcd_pos_of_ne_zero_right a (by omega)
  have l : Int.gcd a b ≤ b.natAbs := Nat.le_of_dvd (by omega) (Int.gcd_dvd_natAbs_right a b)
  exact ⟨by omega, by omega⟩
include T in
theorem ok_ratio : FnOk P w K mg base CX0 2 (He.ga K "ratio") (fdOf K "ratio") ["above", "below"] spRatio := by
  have G_common := ok_common (P := P) (w := w) (base := base) T
  refine T.f_ratio.ok sc_ratio (fun vs H Q E h => ?_) (fun cdv A outer s H vs Q E hr h => ⟨_, PSs.nox (pss_cons (ps_set (i := 2) sc_ratio.nd rfl (Or.inl rfl) (pe_call G_common (hr.mono (by decide)) (by rfl) T.g_common T.f_common.kp T.b_common .nil pass0 (pa_cons (pv 0) (pa_cons (pv 1) pa_nil))))
    (pss_one (ps_ret (pe_tup (pa_cons (pe_op op_fdiv (pv 0) (pv 2)) (pa_cons (pe_op op_fdiv (pv 1) (pv 2)) pa_nil)))))) , ?_⟩)
  · obtain ⟨a, b, rfl, _⟩ := h
    rfl
  obtain ⟨a, b, rfl, h0, h1, q⟩ := h
  walk_at "go"
  refine ⟨a, b, rfl, ?_⟩
  walk_at "go"
  refine Go.i1 (gcd_div h0 h1) ?_
  walk_at "go"
  refine Go.i1 ⟨(gcd_div (a := a) h0 h1).1, (gcd_div (a := a) h0 h1).2⟩ ?_
  walk_at "go"
  exact q
def spLawGcd : Sp := fun vs H Q _ => ∃ i j : Int, vs = [.int i, .int j] ∧ j.natAbs < 2 ^ 150 ∧ Q (.int (Int.gcd i j : Nat)) H
include T in
theorem ok_law_gcd : FnOk P w K mg base CX0 1 (He.ga K "_law_gcd") (fdOf K "_law_gcd") ["one", "other"] spLawGcd := by
  refine T.f__law_gcd.ok sc__law_gcd (fun vs H Q E h => ?_) (fun cdv A outer s H vs Q E hr h => ⟨_, PSs.nox (pss_cons (ps_par (i := 0) (j := 1) (by rfl) sc__law_gcd.nd rfl rfl (by decide) rfl rfl (pa_cons (pe_callB Go.c_abs (by rfl) T.z_abs (by decide +kernel) (pa_cons (pv 0) pa_nil)) (pa_cons (pe_callB Go.c_abs (by rfl) T.z_abs (by decide +kernel) (pa_cons (pv 1) pa_nil)) pa_nil)) (by rfl))
    (pss_cons (ps_for PassesOwn.never rfl (pi_range1 (by rfl) T.z_range (pa_cons pe_int pa_nil)) (pg_name (i := 2) sc__law_gcd.nd rfl (Or.inl rfl)) (pss_cons (ps_if (pt_cmpR op_eq (pv 1) pe_int (nomark _)) (pss_one ps_break) pss_nil)
    (pss_one (ps_par (i := 0) (j := 1) (by rfl) sc__law_gcd.nd rfl rfl (by decide) rfl rfl (pa_cons (pv 1) (pa_cons (pe_op op_mod (pv 0) (pv 1)) pa_nil)) (by rfl)))))
    (pss_one (ps_ret (pv 0))))) , ?_⟩)
  · obtain ⟨i, j, rfl, _⟩ := h
    rfl
  obtain ⟨i, j, rfl, hj, q⟩ := h
  walk_at "go"
  rw [abs_if, abs_if]
  refine Go.kr1 (by decide) (by decide) ?_
  refine Go.forR (fun k σ H' => H' = H ∧ ∃ (a b : Nat) (t : Option V), σ = [some (.int a), some (.int b), t] ∧ Euc (Int.gcd i j) k a b) ⟨rfl, _, _, _, rfl, rfl, fun _ => hj, fun z => absurd z (by decide)⟩ ?_ ?_
  · rintro k σ H' hk ⟨rfl, a, b, t, rfl, e⟩
    walk_at "go"
    refine ite2 (fun c => ?_) (fun c => ?_)
    · have c' : (b : Int) = 0 := V.int.inj (of_decide_eq_true c)
      obtain rfl : b = 0 := by omega
      walk_at "go"
      rw [e.zero]
      exact q
    · have c' : 0 < (b : Int) := by
        have : ¬ b = 0 := fun z => c (decide_eq_true (by rw [z]; rfl))
        omega
      walk_at "go"
      refine Go.i1 c' ?_
      walk_at "go"
      exact ⟨rfl, b, a % b, _, rfl, e.step (by omega)⟩
  · rintro σ H' ⟨rfl, a, b, t, rfl, e⟩
    walk_at "go"
    rw [e.done]
    exact q
def spLawFrac : Sp := fun vs H Q _ => ∃ a b : Int, vs = [.int a, .int b] ∧ 0 < b ∧ b < 1073741824 ∧ ∀ p, H p = none → Q (.ref p) (upd H p (.tup [.int (frac a b).1, .int (frac a b).2]))
include T in
theorem ok_law_frac : FnOk P w K mg base CX0 2 (He.ga K "_law_frac") (fdOf K "_law_frac") ["above", "below"] spLawFrac := by
  have G__law_gcd := ok_law_gcd (P := P) (w := w) (base := base) T
  refine T.f__law_frac.ok sc__law_frac (fun vs H Q E h => ?_) (fun cdv A outer s H vs Q E hr h => ⟨_, PSs.nox (pss_cons (ps_set (i := 2) sc__law_frac.nd rfl (Or.inl rfl) (pe_call G__law_gcd (hr.mono (by decide)) (by rfl) T.g__law_gcd T.f__law_gcd.kp T.b__law_gcd .nil pass0 (pa_cons (pv 0) (pa_cons (pv 1) pa_nil))))
    (pss_one (ps_ret (pe_tup (pa_cons (pe_op op_fdiv (pv 0) (pv 2)) (pa_cons (pe_op op_fdiv (pv 1) (pv 2)) pa_nil)))))) , ?_⟩)
  · obtain ⟨a, b, rfl, _⟩ := h
    rfl
  obtain ⟨a, b, rfl, h0, h1, q⟩ := h
  walk_at "go"
  refine ⟨a, b, rfl, ?_, ?_⟩
  · have : b.natAbs < 1073741824 := by omega
    exact Nat.lt_trans this (by decide)
  walk_at "go"
  refine Go.i1 (gcd_div h0 h1) ?_
  walk_at "go"
  refine Go.i1 ⟨(gcd_div (a := a) h0 h1).1, (gcd_div (a := a) h0 h1).2⟩ ?_
  walk_at "go"
  exact q
end
end QP

set_option Elab.async false
set_option linter.all false
set_option maxRecDepth 100000
set_option maxHeartbeats 2000000

namespace QP
open PySem PySem.Spec PyProof.Rows L2
theorem Same.fresh {H H' : Hp} {p : Addr} (e : Same H H') (h : H' p = none) : H p = none := L2.Same.free e h
/-- the dice: a great number's digits, a number mixed, a count -/
def DiceL (a m c : Int) : HO := .lst [.int a, .int m, .int c]
structure DOk (a m c : Int) (N : Nat) : Prop where
  a0 : 0 ≤ a
  m0 : 0 ≤ m
  m1 : m < 2147480009
  c0 : 0 ≤ c
  c1 : c ≤ N
def DiceAt (H : Hp) (d : Addr) (N : Nat) : Prop := ∃ a m c, H d = some (DiceL a m c) ∧ DOk a m c N
theorem mod_bd (x : Int) {n : Int} (h : 0 < n) : 0 ≤ x % n ∧ x % n < n := ⟨Int.emod_nonneg _ (by omega), Int.emod_lt_of_pos _ h⟩
section
variable {P : Program} {w : World} {K : PySem.W.Frag} {mg : Str → Option Value} {base : Heap} (T : Txt P K mg)
def spDice (K : PySem.W.Frag) : Sp := fun vs H Q _ => ∃ (a : Addr) (ns : List Int) (k : Int), vs = [.ref a, .int k] ∧ SqL K H a (ns.map V.int) ∧ ns.length ≤ 63 ∧ 0 ≤ k ∧ k ≤ 100 ∧ ∀ H' p, Same H H' → H p = none → DiceAt H' p 0 → Q (.ref p) H'
include T in
theorem ok_law_dice : FnOk P w K mg base CX0 1 (He.ga K "_law_dice") (fdOf K "_law_dice") ["script", "spot"] (spDice K) := by
  refine T.f__law_dice.ok sc__law_dice (fun vs H Q E h => ?_) (fun cdv A outer s H vs Q E hr h => ⟨_, PSs.nox (pss_cons (ps_set (i := 2) sc__law_dice.nd rfl (Or.inl rfl) (pe_ifExp (pt_cmpR op_lt (pv 1) (pe_callB (Go.c_lenK (K := K) rfl) (by rfl) T.z_len (by decide +kernel) (pa_cons (pv 0) pa_nil)) (nomark _)) (pe_ix (Go.ix_listK (K := K) rfl) (pv 0) (pv 1) (fun _ _ => rfl)) (pe_op op_add (pe_op op_mul pe_int (pv 1)) pe_int)))
    (pss_cons (ps_set (i := 3) sc__law_dice.nd rfl (Or.inl rfl) (pe_op op_add pe_int (pe_op op_mul pe_int (pv 1))))
    (pss_cons (ps_for PassesOwn.never rfl (pi_list (pe_op op_cat (pe_slice sl_list (pv 0) po_none (po_some pe_int)) (pe_lst (pa_cons (pv 2) pa_nil)))) (pg_name (i := 4) sc__law_dice.nd rfl (Or.inl rfl)) (pss_one (ps_set (i := 3) sc__law_dice.nd rfl (Or.inl rfl) (pe_op op_mod (pe_callTy Go.c_int (by rfl) T.z_int (by decide +kernel) (pa_cons (pe_op op_add (pe_op op_mul (pv 3) pe_int) (pe_op op_mod (pe_callTy Go.c_int (by rfl) T.z_int (by decide +kernel) (pa_cons (pv 4) pa_nil)) pe_int)) pa_nil)) pe_int))))
    (pss_one (ps_ret (pe_lst (pa_cons (pe_ifExp (PW.pt (pw_or (pt_cmpR op_lt (pv 2) pe_int (nomark _)) (pw_or1 (pt_cmpR op_ge (pv 2) (pe_op op_pow pe_int pe_int) (nomark _))))) (pe_callB Go.c_abs (by rfl) T.z_abs (by decide +kernel) (pa_cons (pv 2) pa_nil)) pe_int) (pa_cons (pv 3) (pa_cons pe_int pa_nil))))))))) , ?_⟩)
  · obtain ⟨a, ns, k, rfl, _⟩ := h
    rfl
  obtain ⟨a, ns, k, rfl, hS, hl, k0, k1, q⟩ := h
  have hlen : (ns.map V.int).length = ns.length := List.length_map _
  walk_at "go"
  refine Go.lenL hS ?_
  walk_at "go"
  rw [hlen]
  refine Go.ifJ (fun v H' => H' = H ∧ ∃ own : Int, v = .int own) (fun c Q q => ?_) (fun c Q q => ?_) ?_
  · have c' : k < (ns.length : Int) := of_decide_eq_true c
    obtain ⟨j, rfl⟩ : ∃ j : Nat, k = j := ⟨k.toNat, by omega⟩
    have hj : j < ns.length := by omega
    walk_at "go"
    exact Go.ixL hS (atI_nat (v := .int ns[j]) (by rw [List.getElem?_map, List.getElem?_eq_getElem hj]; rfl)) (q _ _ ⟨rfl, _, rfl⟩)
  · walk_at "go"
    refine Go.i1 (.inl (by decide)) ?_
    walk_at "go"
    exact q _ _ ⟨rfl, _, rfl⟩
  rintro v H' ⟨rfl, own, rfl⟩
  walk_at "go"
  refine Go.i1 (.inl (by decide)) ?_
  walk_at "go"
  refine Go.slL hS fun p1 n1 => ?_
  walk_at "go"
  refine fun p2 n2 => ?_
  have hz1 : (cutV (ns.map V.int) none (some 6)).length ≤ 63 := Nat.le_trans (cutV_length _ _ _) (by rw [hlen]; exact hl)
  have e1 : upd (upd H' p1 (HO.lst (cutV (List.map V.int ns) none (some 6)))) p2 (HO.lst [V.int own]) p1 = some (HO.lst (cutV (List.map V.int ns) none (some 6))) := by rw [upd_ne (ne_of_none upd_same n2)]; exact upd_same
  refine Go.cat e1 upd_same (Nat.le_trans (Nat.add_le_add_right hz1 _) (Nat.le_of_ble_eq_true rfl)) fun p3 n3 => ?_
  have s3 : Same H' (upd (upd (upd H' p1 (HO.lst (cutV (List.map V.int ns) none (some 6)))) p2 (HO.lst [V.int own])) p3 (HO.lst (cutV (List.map V.int ns) none (some 6) ++ [V.int own]))) := ((Go.same_new n1).trans (Go.same_new n2)).trans (Go.same_new n3)
  have all : ∀ x ∈ cutV (ns.map V.int) none (some 6) ++ [V.int own], ∃ i, x = V.int i := fun x hx => by
    rcases List.mem_append.mp hx with hx | hx
    · obtain ⟨i, _, e⟩ := List.mem_map.mp (List.mem_of_mem_drop (List.mem_of_mem_take hx))
      exact ⟨i, e.symm⟩
    · exact ⟨own, List.mem_singleton.mp hx⟩
  have f3 : upd (upd (upd H' p1 (HO.lst (cutV (List.map V.int ns) none (some 6)))) p2 (HO.lst [V.int own])) p3 (HO.lst (cutV (List.map V.int ns) none (some 6) ++ [V.int own])) p3 = some (.lst (cutV (List.map V.int ns) none (some 6) ++ [V.int own])) := upd_same
  generalize upd (upd (upd H' p1 (HO.lst (cutV (List.map V.int ns) none (some 6)))) p2 (HO.lst [V.int own])) p3 (HO.lst (cutV (List.map V.int ns) none (some 6) ++ [V.int own])) = H3 at s3 f3 ⊢
  generalize cutV (ns.map V.int) none (some 6) ++ [V.int own] = L at all f3
  refine Go.kl1 (SqL.of f3) ?_
  refine Go.forL (xs := L) (fun i σ H4 => H4 = H3 ∧ ∃ (m : Int) (x : Option V), σ = [some (.ref a), some (.int k), some (.int own), some (.int m), x] ∧ 0 ≤ m ∧ m < 2147480009) ⟨rfl, _, _, rfl, by omega, by omega⟩ (fun i σ H4 _ p => by rw [p.1]; exact SqL.of f3) ?_ ?_
  · rintro i x σ H4 hi ⟨rfl, m, y, rfl, m0, m1⟩
    obtain ⟨z, rfl⟩ := all x (List.mem_of_getElem? hi)
    walk_at "go"
    refine Go.i1 (.inl ⟨by omega, by omega⟩) ?_
    walk_at "go"
    refine Go.i1 (by decide) ?_
    walk_at "go"
    refine Go.i1 (by decide) ?_
    walk_at "go"
    have hb := mod_bd (m * 48271 + z % 2147480009) (n := 2147480009) (by decide)
    exact ⟨rfl, _, _, rfl, hb.1, hb.2⟩
  · rintro σ H4 ⟨rfl, m, y, rfl, m0, m1⟩
    have fin : ∀ x : Int, 0 ≤ x → ∀ p4 : Addr, H4 p4 = none → Q (.ref p4) (upd H4 p4 (.lst [.int x, .int m, .int 0])) := fun x h0 p4 n4 =>
      q _ _ (s3.trans (Go.same_new n4)) (Same.fresh s3 n4) ⟨x, m, 0, upd_same, h0, m0, m1, by decide, by decide⟩
    walk_at "go"
    refine ite2 (fun c => ?_) (fun c => ?_)
    · walk_at "go"
      exact fin _ (by split <;> omega)
    · walk_at "go"
      refine Go.i1 ⟨by decide, by decide, by decide⟩ ?_
      walk_at "go"
      refine ite2 (fun c2 => ?_) (fun c2 => ?_)
      · walk_at "go"
        exact fin _ (by split <;> omega)
      · walk_at "go"
        exact fin _ (by decide)
/-! ### a roll -/
def spRoll : Sp := fun vs H Q _ => ∃ (d : Addr) (n : Int) (N : Nat), vs = [.ref d, .int n] ∧ DiceAt H d N ∧ N ≤ 1000000000 ∧ 0 < n ∧ n < 1073741824 ∧ ∀ (r : Int) (u : HO), 0 ≤ r → r < n → (∃ a m c, u = DiceL a m c ∧ DOk a m c (N + 1)) → Q (.int r) (upd H d u)
include T in
theorem ok_law_roll : FnOk P w K mg base CX0 1 (He.ga K "_law_roll") (fdOf K "_law_roll") ["dice", "many"] spRoll := by
  refine T.f__law_roll.ok sc__law_roll (fun vs H Q E h => ?_) (fun cdv A outer s H vs Q E hr h => ⟨_, PSs.nox (pss_cons (ps_if (pt_cmpR op_gt (pe_ix (Go.ix_listK (K := K) rfl) (pv 0) pe_int (fun _ _ => rfl)) pe_int (nomark _)) (pss_cons (ps_set (i := 2) sc__law_roll.nd rfl (Or.inl rfl) (pe_op op_mod (pe_callTy Go.c_int (by rfl) T.z_int (by decide +kernel) (pa_cons (pe_ix (Go.ix_listK (K := K) rfl) (pv 0) pe_int (fun _ _ => rfl)) pa_nil)) (pv 1)))
    (pss_cons (ps_asg (pe_op op_fdivW (pe_ix ix_list (pv 0) pe_int (fun _ _ => rfl)) (pv 1)) (pg_sub (pv 0) pe_int set_list))
    (pss_one (ps_ret (pv 2))))) pss_nil)
    (pss_cons (ps_asg (pe_op op_add (pe_ix (Go.ix_listK (K := K) rfl) (pv 0) pe_int (fun _ _ => rfl)) pe_int) (pg_sub (pv 0) pe_int set_list))
    (pss_cons (ps_asg (pe_op op_mod (pe_callTy Go.c_int (by rfl) T.z_int (by decide +kernel) (pa_cons (pe_op op_add (pe_op op_add (pe_op op_mul (pe_ix (Go.ix_listK (K := K) rfl) (pv 0) pe_int (fun _ _ => rfl)) pe_int) (pe_op op_mul (pe_op op_mul (pe_ix (Go.ix_listK (K := K) rfl) (pv 0) pe_int (fun _ _ => rfl)) (pe_ix (Go.ix_listK (K := K) rfl) (pv 0) pe_int (fun _ _ => rfl))) pe_int)) pe_int) pa_nil)) pe_int) (pg_sub (pv 0) pe_int set_list))
    (pss_one (ps_ret (pe_op op_mod (pe_callTy Go.c_int (by rfl) T.z_int (by decide +kernel) (pa_cons (pe_op op_fdiv (pe_ix (Go.ix_listK (K := K) rfl) (pv 0) pe_int (fun _ _ => rfl)) pe_int) pa_nil)) (pv 1))))))) , ?_⟩)
  · obtain ⟨d, n, N, rfl, _⟩ := h
    rfl
  obtain ⟨d, n, N, rfl, ⟨a, m, c, hd, ho⟩, hN, n0, n1, q⟩ := h
  have at0 : ∀ {x y z : V}, atI [x, y, z] 0 = some x := rfl
  have at1 : ∀ {x y z : V}, atI [x, y, z] 1 = some y := rfl
  have at2 : ∀ {x y z : V}, atI [x, y, z] 2 = some z := rfl
  obtain ⟨a0, m0, m1, c0, c1⟩ := ho
  walk_at "go"
  refine Go.ixL (SqL.of hd) at0 ?_
  walk_at "go"
  refine ite2 (fun k => ?_) (fun k => ?_)
  · walk_at "go"
    refine Go.ixL (SqL.of hd) at0 ?_
    walk_at "go"
    refine Go.i1 n0 ?_
    walk_at "go"
    refine Go.ixL (SqL.of hd) at0 ?_
    walk_at "go"
    refine Go.i1 (wide_div n0 (b := 30) (by omega) (by decide) (by decide)) ?_
    walk_at "go"
    refine Go.setL hd (show ixN 3 0 = some 0 from rfl) ?_
    walk_at "go"
    have hb := mod_bd a n0
    exact q _ _ hb.1 hb.2 ⟨a / n, m, c, rfl, Int.ediv_nonneg a0 (by omega), m0, m1, c0, by omega⟩
  · walk_at "go"
    refine Go.ixL (SqL.of hd) at2 ?_
    walk_at "go"
    refine Go.setL hd (show ixN 3 2 = some 2 from rfl) ?_
    walk_at "go"
    have h1 : upd H d (.lst [.int a, .int m, .int (c + 1)]) d = some (.lst [.int a, .int m, .int (c + 1)]) := upd_same
    refine Go.ixL (SqL.of h1) at1 ?_
    walk_at "go"
    refine Go.i1 (.inl ⟨by omega, by omega⟩) ?_
    walk_at "go"
    refine Go.ixL (SqL.of h1) at2 ?_
    walk_at "go"
    refine Go.ixL (SqL.of h1) at2 ?_
    walk_at "go"
    refine Go.i1 (.inl ⟨by omega, by omega⟩) ?_
    walk_at "go"
    refine Go.i1 (.inr ⟨by omega, by omega⟩) ?_
    walk_at "go"
    refine Go.i1 (by decide) ?_
    walk_at "go"
    refine Go.setL h1 (show ixN 3 1 = some 1 from rfl) ?_
    walk_at "go"
    have hb := mod_bd (m * 52501 + (c + 1) * (c + 1) * 1009 + 77) (n := 2147480009) (by decide)
    rw [upd_upd]
    refine Go.ixL (SqL.of upd_same) at1 ?_
    walk_at "go"
    refine Go.i1 (show CDiv _ 211 from ⟨by decide, by decide⟩) ?_
    walk_at "go"
    refine Go.i1 n0 ?_
    walk_at "go"
    have hb2 := mod_bd ((m * 52501 + (c + 1) * (c + 1) * 1009 + 77) % 2147480009 / 211) n0
    exact q _ _ hb2.1 hb2.2 ⟨a, _, c + 1, rfl, a0, hb.1, hb.2, by omega, by omega⟩
/-! ### a pick -/
def spPick : Sp := fun vs H Q _ => ∃ (d b : Addr) (N : Nat) (xs : List V), vs = [.ref d, .ref b] ∧ DiceAt H d N ∧ N ≤ 1000000000 ∧ H b = some (.lst xs) ∧ b ≠ d ∧ 0 < xs.length ∧ xs.length ≤ 1000 ∧
  ∀ (j : Nat) (v : V) (u : HO), xs[j]? = some v → (∃ a m c, u = DiceL a m c ∧ DOk a m c (N + 1)) → Q v (upd H d u)
include T in
theorem ok_law_pick : FnOk P w K mg base CX0 2 (He.ga K "_law_pick") (fdOf K "_law_pick") ["dice", "things"] spPick := by
  have G__law_roll := ok_law_roll (P := P) (w := w) (base := base) T
  refine T.f__law_pick.ok sc__law_pick (fun vs H Q E h => ?_) (fun cdv A outer s H vs Q E hr h => ⟨_, PSs.nox (pss_one (ps_ret (pe_ix (Go.ix_listK (K := K) rfl) (pv 1) (pe_call G__law_roll (hr.mono (by decide)) (by rfl) T.g__law_roll T.f__law_roll.kp T.b__law_roll .nil pass0 (pa_cons (pv 0) (pa_cons (pe_callB (Go.c_lenK (K := K) rfl) (by rfl) T.z_len (by decide +kernel) (pa_cons (pv 1) pa_nil)) pa_nil))) (fun _ _ => rfl)))) , ?_⟩)
  · obtain ⟨d, b, N, xs, rfl, _⟩ := h
    rfl
  obtain ⟨d, b, N, xs, rfl, hd, hN, hb, hbd, l0, l1, q⟩ := h
  walk_at "go"
  refine Go.lenL (SqL.of hb) ?_
  walk_at "go"
  refine ⟨d, _, N, rfl, hd, hN, by omega, by omega, fun r u r0 r1 hu => ?_⟩
  obtain ⟨j, rfl⟩ : ∃ j : Nat, r = j := ⟨r.toNat, by omega⟩
  have hj : j < xs.length := by omega
  refine Go.ixL (SqL.of (by rw [upd_ne hbd]; exact hb)) (atI_nat (List.getElem?_eq_getElem hj)) ?_
  walk_at "go"
  exact q j _ u (List.getElem?_eq_getElem hj) hu
end
end QP

set_option Elab.async false
set_option linter.all false
set_option maxRecDepth 100000
set_option maxHeartbeats 2000000

namespace QP
open PySem PySem.Spec PyProof.Rows L2
theorem okC {P : Program} {w : World} {K : PySem.W.Frag} {mg : Str → Option Value} {base : Heap} {x qual : Str} {params : Arguments} {body : List Stmt} {scope : Scope} {dvs : List V} {kws : List (Str × V)} {f : Addr} {fd : FuncData} {CX : CXT} {N ps : List Str} {k : Nat} {sp : Sp} {c : Addr} (F : FunD K x qual params body scope dvs kws f fd) (hc : fd.code = .ref c) (S : FnScope N ps scope) (len : ∀ vs H Q E, sp vs H Q E → vs.length = ps.length)
    (hbody : ∀ (A : Around) (outer : List Env) (s : Shared) (H : Hp) (vs : List V) (Q : VK) (E : XK), Room k (A.deeper (envOfC qual scope s.heap.objs.size f (.ref c))) → sp vs H Q E →
      ∃ t, PSs (cxOf CX P w K mg base N qual scope f (.ref c) A outer s H E) body t ∧ t { nx := fun _ H' => Q .non H', rt := Q } (start N vs) H) : FnOk P w K mg base CX (k + 1) f fd ps sp := by
  obtain ⟨oc, od, dV, kV, doc, pm, an, cdv, ct, osl, rfl, lk, hcd, _, _⟩ := F.ex
  obtain rfl : cdv = .ref c := hc
  exact fn_of lk hcd S len fun A outer s H vs Q E hr hsp => hbody A outer s H vs Q E hr hsp
/-! ### the tables of the two defs that make code objects -/
def qF : Str := (envOfC "are_flows" (defScope s_are_flows) 0 0 .none).qual ++ "<genexpr>"
def qL : Str := (envOfC "_law_right" (defScope s__law_right) 0 0 .none).qual ++ "<lambda>"
structure TT (K : PySem.W.Frag) (mg : Str → Option Value) (base : Heap) (cF PF cL PL : Addr) : Prop where
  kF : (fdOf K "are_flows").code = .ref cF
  kL : (fdOf K "_law_right").code = .ref cL
  tF : LamX.TabB base mg cF PF
  tL : LamX.TabB base mg cL PL
  ne : PF ≠ PL
abbrev TL (PF PL : Addr) : List (Addr × Str) := [(PF, qF), (PL, qL)]
section
variable {K : PySem.W.Frag} {mg : Str → Option Value} {base : Heap} {cF PF cL PL : Addr}
theorem TT.mF (_ : TT K mg base cF PF cL PL) : (PF, qF) ∈ TL PF PL := List.mem_cons_self ..
theorem TT.mL (_ : TT K mg base cF PF cL PL) : (PL, qL) ∈ TL PF PL := List.mem_cons_of_mem _ (List.mem_cons_self ..)
theorem TT.uF (t : TT K mg base cF PF cL PL) : ∀ p ∈ TL PF PL, p.1 = PF → p.2 = qF := fun p hp e => by
  rcases List.mem_cons.mp hp with rfl | hp
  · rfl
  · rw [List.mem_singleton.mp hp] at e
    exact absurd e.symm t.ne
theorem TT.uL (t : TT K mg base cF PF cL PL) : ∀ p ∈ TL PF PL, p.1 = PL → p.2 = qL := fun p hp e => by
  rcases List.mem_cons.mp hp with rfl | hp
  · exact absurd e t.ne
  · rw [List.mem_singleton.mp hp]
end
/-! ### the generator's element -/
def gen1 : Stmt → Expr × Scope × Scope
  | .Return (some (.Call _ [.GeneratorExp e _ sc _] _ _)) _ => (e, sc, sc)
  | _ => (.Constant .none 0 ⟨0, 0, 0, 0⟩, defScope (QG.top 3), defScope (QG.top 3))
def lastS (b : List Stmt) : Stmt := b.getD (b.length - 1) (.Pass ⟨0, 0, 0, 0⟩)
abbrev eF : Expr := (gen1 (lastS (defBody s_are_flows))).1
abbrev scF : Scope := (gen1 (lastS (defBody s_are_flows))).2.1
def pF : V → Bool
  | .int i => decide (0 ≤ i) && decide (i ≤ 1000)
  | _ => false
theorem genSF {env : Env} : GxR.GenS env scF "one" := ⟨rfl, rfl, by decide +kernel, rfl, rfl, fun y hy e => absurd e ((by decide +kernel : ∀ y ∈ scF.names, y.2 ≠ .free) y hy)⟩
theorem elt_flows {P : Program} {W : World} {K : PySem.W.Frag} {mg : Str → Option Value} (T : Txt P K mg) (X : Cx) (hP : X.prog = P) (hK : X.K = K) (hm : X.mg = mg) (hr : Room 1 X.A) : QG.EltV X scF "one" eF (X.A.depth + 1) (X.A.units + 8) pF := by
  subst hP hK hm
  intro cenv A' E' v u s₂ m₂ h1 h2 h3 hA hD hU B hn hm r hf
  have hk : cenv.scope.kind = .function := by rw [h1]; rfl
  have kd : ∀ x k, scF.names.lookup x = some k → cenv.kindOf x = some k := fun x k e => by
    show cenv.scope.names.lookup x = _
    rw [h1]; exact e
  have one : ∀ {pos : Pos} {A E} {s : Shared} {Q : Value → Shared → Prop}, s.heap.Ns cenv.locals m₂ → Q u s → wpAny (model X.prog X.w) A (eval (.Name "one" pos) cenv) Q E s := fun h q =>
    wpAny_Name (wpAny_loadName_local (v := u) hk (kd "one" .local rfl) h hm q) (by decide)
  have dep := hr.dp
  show wpAny _ _ (eval (.BoolOp .And _ _) cenv) _ _ _
  refine BoolOp_and ?_
  refine wpAny_Call_Name_kw (QG.ld_bareG B hk h2 (kd "is_integer" .globalImplicit rfl) T.g_is_integer ?_)
  refine PySem.W.callWith_K (h₀ := s₂.heap) (K := X.K) B.kin T.f_is_integer.kp (Calls.spliced_cons (one hn (Calls.spliced_nil ⟨B.kin, ?_⟩)))
  refine wpAny_call (QG.isint_raw T.f_is_integer B (by show A'.depth < _; omega) T.z_isinstance T.z_int T.z_bool hf r fun h' tk k => ?_)
  refine wpAny_truthy_bool ?_
  have B' := B.keeps k
  have hn' := hn.keeps k
  cases v with
  | bl b => exact ⟨rfl, h', tk, rfl, k⟩
  | int i =>
    obtain ⟨t, rfl⟩ := r
    show wpAny _ _ (eval _ cenv) _ _ _
    refine BoolOp_one (Compare_chain ?_)
    refine wpAny_Constant_int ?_
    refine chain_link (one (by exact hn') ?_)
    refine PyProof.Rows.le_int (wpAny_truthy_bool ?_)
    by_cases c1 : (0 : Int) ≤ i
    · rw [if_pos (decide_eq_true c1)]
      obtain ⟨tm, em⟩ := T.c_MOST_RUN
      refine chain_last (QG.ld_bareG (by exact B') hk h2 (kd "MOST_RUN" .globalImplicit rfl) em ?_)
      refine PyProof.Rows.le_int ?_
      refine ⟨?_, ?_⟩
      · show Value.bool _ = .bool (decide (0 ≤ i) && decide (i ≤ 1000))
        rw [decide_eq_true c1, Bool.true_and]
      · exact ⟨h', _, rfl, k⟩
    · rw [if_neg (by simpa using c1)]
      refine ⟨?_, ?_⟩
      · show Value.bool _ = .bool (decide (0 ≤ i) && decide (i ≤ 1000))
        rw [decide_eq_false c1, Bool.false_and]
      · exact ⟨h', _, rfl, k⟩
  | _ => cases hf
end QP

set_option Elab.async false
set_option linter.all false
set_option maxRecDepth 100000
set_option maxHeartbeats 2000000

namespace PM
theorem gcd_le {a b : Nat} (ha : 1 ≤ a) : 1 ≤ Nat.gcd a b ∧ Nat.gcd a b ≤ a := ⟨Nat.gcd_pos_of_pos_left _ ha, Nat.le_of_dvd ha (Nat.gcd_dvd_left a b)⟩
theorem rnd_pos {a b : Nat} (ha : 1 ≤ a) (hb : 1 ≤ b) : 1 ≤ rnd a b := Nat.mul_pos (Nat.div_pos (gcd_le ha).2 (gcd_le ha).1) hb
theorem rnd_le {a b : Nat} : rnd a b ≤ a * b := Nat.mul_le_mul_right _ (Nat.div_le_self a _)
theorem rnd_900 {a b : Nat} (ha : a ≤ 30) (hb : b ≤ 30) : rnd a b ≤ 900 := Nat.le_trans rnd_le (Nat.mul_le_mul ha hb)
theorem lvls_len {s l : Int} {xs ys : List Int} {n : Nat} : (lvls s xs ys l n).length = n := by simp [lvls]
theorem lvls_get {s l : Int} {xs ys : List Int} {n i : Nat} (h : i < n) : (lvls s xs ys l n)[i]? = some (L s xs ys l (i + 1)) := by simp [lvls, h]
theorem lvls_succ {s l : Int} {xs ys : List Int} {n : Nat} : lvls s xs ys l (n + 1) = lvls s xs ys l n ++ [L s xs ys l (n + 1)] := by simp [lvls, List.range_succ]
end PM
namespace QP
open PySem PySem.Spec PyProof.Rows L2
/-! ### what stands for a run of flows -/
structure FlN (xs : List Int) : Prop where
  l1 : 1 ≤ xs.length
  l30 : xs.length ≤ 30
  bd : ∀ x ∈ xs, 0 ≤ x ∧ x ≤ 1000
theorem FlN.nn {xs : List Int} (h : FlN xs) : PM.Nn xs := fun x hx => (h.bd x hx).1
structure Fl (H : Hp) (p : Addr) (xs : List Int) : Prop extends FlN xs where
  at_ : H p = some (.tup (xs.map V.int))
theorem Fl.same {H H' : Hp} {p : Addr} {xs : List Int} (h : Fl H p xs) (e : Same H H') : Fl H' p xs := ⟨h.toFlN, e _ _ h.at_⟩
theorem Fl.ext {T : List (Addr × Str)} {H H' : Hp} {p : Addr} {xs : List Int} (h : Fl H p xs) (e : Go.Ext T H H') : Fl H' p xs := ⟨h.toFlN, Go.ExtX.tup e (fun z => z) h.at_⟩
theorem Fl.get {H : Hp} {p : Addr} {xs : List Int} (h : Fl H p xs) (i : Nat) : atI (xs.map V.int) ((i : Int) % (xs.length : Int)) = some (.int (PM.at_ xs i)) := by
  have l := h.l1
  have hi : i % xs.length < xs.length := Nat.mod_lt _ (by omega)
  have e : ((i : Int) % (xs.length : Int)) = ((i % xs.length : Nat) : Int) := rfl
  rw [e]
  refine atI_nat ?_
  unfold PM.at_
  rw [List.getElem?_map, List.getD_eq_getElem?_getD, List.getElem?_eq_getElem hi]
  rfl
def flB (xs : List V) : Bool := decide (1 ≤ xs.length) && decide (xs.length ≤ 30) && xs.all pF
/-- an argument that may be a run of flows, and whether it is one -/
inductive ArgF (H : Hp) : V → Bool → Prop
  | non : ArgF H .non false
  | lst {p : Addr} {xs : List V} : H p = some (.lst xs) → ArgF H (.ref p) false
  | tup {p : Addr} {xs : List V} : H p = some (.tup xs) → xs.all QG.flatIB = true → xs.length ≤ 1000 → ArgF H (.ref p) (flB xs)
theorem Fl.all {H : Hp} {p : Addr} {xs : List Int} (h : Fl H p xs) : flB (xs.map V.int) = true := by
  unfold flB
  rw [List.length_map, decide_eq_true h.l1, decide_eq_true h.l30, Bool.true_and, Bool.true_and, List.all_eq_true]
  intro v hv
  obtain ⟨i, hi, rfl⟩ := List.mem_map.mp hv
  have := h.bd i hi
  show (decide (0 ≤ i) && decide (i ≤ 1000)) = true
  rw [decide_eq_true this.1, decide_eq_true this.2, Bool.true_and]
theorem Fl.arg {H : Hp} {p : Addr} {xs : List Int} (h : Fl H p xs) : ArgF H (.ref p) true := by
  rw [← h.all]
  refine .tup h.at_ (List.all_eq_true.mpr fun v hv => ?_) ?_
  · obtain ⟨i, _, rfl⟩ := List.mem_map.mp hv
    rfl
  · rw [List.length_map]
    have := h.l30
    omega
theorem ArgF.ext {T : List (Addr × Str)} {H H' : Hp} {x : V} {b : Bool} (e : Go.Ext T H H') (h : ArgF H x b) : ArgF H' x b := by
  cases h with
  | non => exact .non
  | lst h => exact .lst (Go.ExtX.lst e (fun z => z) h)
  | tup h1 h2 h3 => exact .tup (Go.ExtX.tup e (fun z => z) h1) h2 h3
/-! ### are_flows -/
section
variable {P : Program} {w : World} {K : PySem.W.Frag} {mg : Str → Option Value} {base : Heap} {cF PF cL PL : Addr} (T : Txt P K mg) (TT : TT K mg base cF PF cL PL)
def spFlows (TT : List (Addr × Str)) : Sp := fun vs H Q _ => ∃ x b, vs = [x] ∧ ArgF H x b ∧ LamX.Tabs TT H ∧ ∀ H', Go.Ext TT H H' → LamX.Tabs TT H' → Q (.bl b) H'
include T TT in
theorem ok_are_flows : FnOk P w K mg base CX0 2 (He.ga K "are_flows") (fdOf K "are_flows") ["value"] (spFlows (TL PF PL)) := by
  refine okC T.f_are_flows TT.kF sc_are_flows (fun vs H Q E h => ?_) (fun A outer s H vs Q E hr h => ⟨_, PSs.nox (pss_cons (ps_if (PW.pt (pw_or (pt_not (pt_val (pe_callB (Go.c_isiK (K := K) rfl) (by rfl) T.z_isinstance (by decide +kernel) (pa_cons (pv 0) (pa_cons (pe_bltn (v := .ty "tuple") (by rfl) T.z_tuple (by decide +kernel) rfl) pa_nil))))) (pw_or1 (pt_not (pt_chain op_le op_le pe_int (pe_callB (Go.c_lenK (K := K) rfl) (by rfl) T.z_len (by decide +kernel) (pa_cons (pv 0) pa_nil)) (pe_glob (v := .int (30)) rfl (T.c_MOST_FLOWS).choose_spec ⟨_, rfl⟩)))))) (pss_one (ps_ret pe_bl)) pss_nil)
    (pss_one (ps_ret (QG.pe_allV (elt := eF) (scope := scF) hr (by rfl) T.z_all PyProof.Rows.Boot.all TT.tF TT.mF TT.uF rfl genSF (pv 0) (elt_flows (W := w) T _ rfl rfl rfl (hr.mono (by decide))) (fun _ => rfl))))) , ?_⟩)
  · obtain ⟨x, b, rfl, _⟩ := h
    rfl
  obtain ⟨x, b, rfl, ha, ht, q⟩ := h
  walk_at "go"
  cases ha with
  | non =>
    obtain ⟨t, h1, h2, h3, h4⟩ := kd_non (K := K) (H := H)
    refine isi_ h1 h4 ?_
    walk_at "go"
    exact q H (.refl) ht
  | lst hl =>
    obtain ⟨t, h1, h2, h3, h4⟩ := kd_lst (K := K) hl
    refine isi_ h1 h4 ?_
    walk_at "go"
    exact q H (.refl) ht
  | @tup p xs hl hf hz =>
    obtain ⟨t, h1, h2, h3, h4⟩ := kd_tup (K := K) hl
    refine isi_ h1 h4 ?_
    walk_at "go"
    refine Go.lenT (SqT.of hl) ?_
    walk_at "go"
    refine ite2 (fun c1 => ?_) (fun c1 => ?_)
    · walk_at "go"
      refine ite2 (fun c2 => ?_) (fun c2 => ?_)
      · walk_at "go"
        have e : flB xs = false := by
          unfold flB
          have : ¬ xs.length ≤ 30 := fun z => by
            have z' : ((xs.length : Nat) : Int) ≤ 30 := by omega
            rw [decide_eq_true z'] at c2
            exact absurd c2 (by decide)
          rw [decide_eq_false this, Bool.and_false, Bool.false_and]
        rw [e] at q
        exact q H (.refl) ht
      · walk_at "go"
        have e : flB xs = xs.all pF := by
          unfold flB
          have z1 : 1 ≤ xs.length := by
            have := of_decide_eq_true c1
            omega
          have z2 : xs.length ≤ 30 := by
            by_cases z : ((xs.length : Nat) : Int) ≤ 30
            · omega
            · rw [decide_eq_false z] at c2
              exact absurd rfl c2
          rw [decide_eq_true z1, decide_eq_true z2, Bool.true_and, Bool.true_and]
        refine ⟨.ref p, rfl, p, xs, rfl, SqT.of hl, hf, ht, fun H2 e1 e2 => ?_⟩
        rw [e] at q
        exact q H2 (Go.Ext.lam e1 e2) e2
    · walk_at "go"
      have e : flB xs = false := by
        unfold flB
        have : ¬ 1 ≤ xs.length := fun z => c1 (decide_eq_true (by omega))
        rw [decide_eq_false this, Bool.false_and, Bool.false_and]
      rw [e] at q
      exact q H (.refl) ht
/-! ### need_pool -/
/-- a size or a beginning: whatever -/
inductive ArgI : V → Prop
  | int (i : Int) : ArgI (.int i)
  | non : ArgI .non
def inB (x : V) (lo hi : Int) : Bool := match x with
  | .int i => decide (lo ≤ i) && decide (i ≤ hi)
  | _ => false
theorem inB_iff {x : V} {lo hi : Int} : inB x lo hi = true ↔ InB x lo hi := by
  unfold inB InB
  cases x with
  | int i =>
    constructor
    · intro h
      rw [Bool.and_eq_true] at h
      exact ⟨i, rfl, of_decide_eq_true h.1, of_decide_eq_true h.2⟩
    · rintro ⟨j, e, h1, h2⟩
      cases e
      show (decide _ && decide _) = true
      rw [decide_eq_true h1, decide_eq_true h2]
      rfl
  | _ =>
    constructor
    · intro h
      cases h
    · rintro ⟨j, e, _⟩
      cases e
/-- refused by the name z -/
def Rf (TT : List (Addr × Str)) (C : Addr) (H : Hp) (E : XK) (z : Str) : Prop := ∀ d H', Go.Ext TT H H' → H' d = some (badD z) → LamX.Tabs TT H' → E (.ref C) (some d) H'
def oSize (x : V) : Option Str := if inB x 0 2000 = true then none else some "size"
def oFl (b : Bool) (z : Str) : Option Str := if b = true then none else some z
/-- the first that speaks -/
def fst_ : List (Option Str) → Option Str
  | [] => none
  | some z :: _ => some z
  | none :: r => fst_ r
/-- as it speaks -/
def Vd (TT : List (Addr × Str)) (C : Addr) (H : Hp) (E : XK) (o : Option Str) (K : Prop) : Prop := match o with
  | none => K
  | some z => Rf TT C H E z
def spPool (TT : List (Addr × Str)) (C : Addr) : Sp := fun vs H Q E => ∃ x f t bf bt, vs = [x, f, t] ∧ ArgI x ∧ ArgF H f bf ∧ ArgF H t bt ∧ LamX.Tabs TT H ∧ Vd TT C H E (fst_ [oSize x, oFl bf "flows", oFl bt "takes"]) (∀ H', Go.Ext TT H H' → LamX.Tabs TT H' → Q .non H')
/-- need_integer for a size, a beginning -/
theorem need_of {K : PySem.W.Frag} {TT : List (Addr × Str)} {C : Addr} {H : Hp} {Q : VK} {E : XK} {x : V} {z : Str} {lo hi : Int} (h : ArgI x) (hz : z.length ≤ 1000) (hT : LamX.Tabs TT H) (h1 : inB x lo hi = true → Q .non H) (h2 : inB x lo hi = false → Rf TT C H E z) : spNeedInt K C [x, .str z, .int lo, .int hi] H Q E := by
  have no : ¬ InB x lo hi → ∀ d, H d = none → E (.ref C) (some d) (upd H d (badD z)) := fun n d hd => by
    refine h2 ?_ d _ (Go.ExtX.new hd) upd_same (Go.Tabs_same (Go.same_new hd) hT)
    cases e : inB x lo hi with
    | false => rfl
    | true => exact absurd (inB_iff.mp e) n
  cases h with
  | int i => exact ⟨_, _, _, _, true, false, false, rfl, hz, kd_int, fun _ => ⟨i, rfl⟩, fun e => (by cases e), fun p => h1 (inB_iff.mpr p), no⟩
  | non => exact ⟨_, _, _, _, false, false, false, rfl, hz, kd_non, fun e => (by cases e), fun _ i e => (by cases e), fun p => h1 (inB_iff.mpr p), no⟩
include T TT in
theorem ok_need_pool : FnOk P w K mg base (L2.CX P w) 3 (He.ga K "need_pool") (fdOf K "need_pool") ["size", "flows", "takes"] (spPool (TL PF PL) (He.ga K "BadArgument")) := by
  have G_need_integer := ok_need_integer (P := P) (w := w) (base := base) T
  have G_are_flows := ok_are_flows (P := P) (w := w) (base := base) T TT
  obtain ⟨fI, cc, cda, TB⟩ := T.bad
  refine T.f_need_pool.ok sc_need_pool (fun vs H Q E h => ?_) (fun cdv A outer s H vs Q E hr h => ⟨_, (pss_cons (ps_expr (pe_call G_need_integer (hr.mono (by decide)) (by rfl) T.g_need_integer T.f_need_integer.kp T.b_need_integer .nil (passes_call (W := fun cls d _ H => E cls d H) (takes_of rfl rfl rfl rfl) (fun _ _ _ _ h => h)) (pa_cons (pv 0) (pa_cons pe_str (pa_cons pe_int (pa_cons (pe_glob (v := .int (2000)) rfl (T.c_MOST_SIZE).choose_spec ⟨_, rfl⟩) pa_nil))))))
    (pss_cons (ps_if (pt_not (pt_val (pe_call G_are_flows (hr.mono (by decide)) (by rfl) T.g_are_flows T.f_are_flows.kp T.b_are_flows .nil pass0 (pa_cons (pv 1) pa_nil)))) (pss_one (ps_raiseBad rfl TB hr (takes_of rfl rfl rfl rfl) (pa_cons pe_str pa_nil))) pss_nil)
    (pss_one (ps_if (pt_not (pt_val (pe_call G_are_flows (hr.mono (by decide)) (by rfl) T.g_are_flows T.f_are_flows.kp T.b_are_flows .nil pass0 (pa_cons (pv 2) pa_nil)))) (pss_one (ps_raiseBad rfl TB hr (takes_of rfl rfl rfl rfl) (pa_cons pe_str pa_nil))) pss_nil)))) , ?_⟩)
  · obtain ⟨x, f, t, bf, bt, rfl, _⟩ := h
    rfl
  obtain ⟨x, f, t, bf, bt, rfl, hx, hf, ht, hT, hv⟩ := h
  walk_at "go"
  refine need_of hx (by decide +kernel) hT (fun e => ?_) (fun e => ?_)
  · have e1 : oSize x = none := if_pos e
    rw [e1] at hv
    walk_at "go"
    refine ⟨f, bf, rfl, hf, hT, fun H1 x1 T1 => ?_⟩
    cases bf with
    | false =>
      walk_at "go"
      exact ⟨_, rfl, by decide +kernel, fun d hd => hv d _ (x1.trans (Go.ExtX.new hd)) upd_same (Go.Tabs_same (Go.same_new hd) T1)⟩
    | true =>
      walk_at "go"
      refine ⟨t, bt, rfl, ht.ext x1, T1, fun H2 x2 T2 => ?_⟩
      cases bt with
      | false =>
        walk_at "go"
        exact ⟨_, rfl, by decide +kernel, fun d hd => hv d _ ((x1.trans x2).trans (Go.ExtX.new hd)) upd_same (Go.Tabs_same (Go.same_new hd) T2)⟩
      | true =>
        walk_at "go"
        exact hv H2 (x1.trans x2) T2
  · have e1 : oSize x = some "size" := if_neg (by rw [e]; decide)
    rw [e1] at hv
    exact hv
/-! ### round_of, walked -/
def spRound : Sp := fun vs H Q _ => ∃ p q xs ys, vs = [.ref p, .ref q] ∧ Fl H p xs ∧ Fl H q ys ∧ Q (.int (PM.rnd xs.length ys.length)) H
include T in
theorem ok_round_of : FnOk P w K mg base CX0 1 (He.ga K "round_of") (fdOf K "round_of") ["flows", "takes"] spRound := by
  refine T.f_round_of.ok sc_round_of (fun vs H Q E h => ?_) (fun cdv A outer s H vs Q E hr h => ⟨_, PSs.nox (pss_cons (ps_set (i := 2) sc_round_of.nd rfl (Or.inl rfl) (pe_callB (Go.c_lenK (K := K) rfl) (by rfl) T.z_len (by decide +kernel) (pa_cons (pv 0) pa_nil)))
    (pss_cons (ps_set (i := 3) sc_round_of.nd rfl (Or.inl rfl) (pe_callB (Go.c_lenK (K := K) rfl) (by rfl) T.z_len (by decide +kernel) (pa_cons (pv 1) pa_nil)))
    (pss_cons (ps_while PassesOwn.never (pt_cmpR op_gt (pv 3) pe_int (nomark _)) (pss_one (ps_par (i := 2) (j := 3) (by rfl) sc_round_of.nd rfl rfl (by decide) rfl rfl (pa_cons (pv 3) (pa_cons (pe_op op_mod (pv 2) (pv 3)) pa_nil)) (by rfl))))
    (pss_one (ps_ret (pe_op op_mul (pe_op op_fdiv (pe_callB (Go.c_lenK (K := K) rfl) (by rfl) T.z_len (by decide +kernel) (pa_cons (pv 0) pa_nil)) (pv 2)) (pe_callB (Go.c_lenK (K := K) rfl) (by rfl) T.z_len (by decide +kernel) (pa_cons (pv 1) pa_nil)))))))) , ?_⟩)
  · obtain ⟨p, q, xs, ys, rfl, _⟩ := h
    rfl
  obtain ⟨p, q, xs, ys, rfl, hx, hy, hq⟩ := h
  have ex : (xs.map V.int).length = xs.length := List.length_map _
  have ey : (ys.map V.int).length = ys.length := List.length_map _
  walk_at "go"
  refine Go.lenT (SqT.of hx.at_) ?_
  walk_at "go"
  refine Go.lenT (SqT.of hy.at_) ?_
  walk_at "go"
  rw [ex, ey]
  refine Go.while_ (fun σ H' => H' = H ∧ ∃ a b : Nat, σ = [some (.ref p), some (.ref q), some (.int a), some (.int b)] ∧ Nat.gcd a b = Nat.gcd xs.length ys.length) (fun σ => match σ with | [_, _, _, some (.int b)] => b.toNat | _ => 0) ⟨rfl, _, _, rfl, rfl⟩ ?_
  rintro σ H' ⟨rfl, a, b, rfl, e⟩
  walk_at "go"
  refine Go.turn (fun c => ?_) (fun c => ?_)
  · have c' : 0 < (b : Int) := of_decide_eq_true c
    walk_at "go"
    refine Go.i1 c' ?_
    walk_at "go"
    have hl := Int.emod_lt_of_pos (a : Int) c'
    have h0 := Int.emod_nonneg (a : Int) (by omega : (b : Int) ≠ 0)
    exact ⟨by show ((a : Int) % b).toNat < (b : Int).toNat; omega, rfl, b, a % b, rfl, (gcd_turn a b).trans e⟩
  · have c' : ¬ 0 < (b : Int) := of_decide_eq_false c
    walk_at "go"
    obtain rfl : b = 0 := by omega
    rw [Nat.gcd_zero_right] at e
    refine Go.lenT (SqT.of hx.at_) ?_
    walk_at "go"
    have g1 := PM.gcd_le (b := ys.length) hx.l1
    have l30 := hx.l30
    refine Go.i1 ⟨by omega, by omega⟩ ?_
    walk_at "go"
    refine Go.lenT (SqT.of hy.at_) ?_
    walk_at "go"
    rw [ex, ey, e]
    have y30 := hy.l30
    refine Go.i1 (.inr ⟨by omega, by omega⟩) ?_
    exact hq
end
end QP

set_option Elab.async false
set_option linter.all false
set_option maxRecDepth 100000
set_option maxHeartbeats 2000000

namespace QP
open PySem PySem.Spec PyProof.Rows L2
abbrev iL (l : List Int) : HO := .lst (l.map V.int)
section
variable {P : Program} {w : World} {K : PySem.W.Frag} {mg : Str → Option Value} {base : Heap} {cF PF cL PL : Addr} (T : Txt P K mg) (TT : TT K mg base cF PF cL PL)
/-- what a walk of a round brings -/
structure Wk (H : Hp) (a : Addr) (s l : Int) (xs ys : List Int) (n : Nat) : Prop where
  ex : ∃ b, H a = some (.tup [.ref b, .int (PM.lost s xs ys l n), .int (PM.out s xs ys l n)]) ∧ H b = some (iL (PM.lvls s xs ys l n))
def spWalked : Sp := fun vs H Q _ => ∃ (s l : Int) (p q : Addr) (xs ys : List Int), vs = [.int s, .ref p, .ref q, .int l] ∧ Fl H p xs ∧ Fl H q ys ∧ ∀ H' a, Same H H' → H a = none → Wk H' a s l xs ys (PM.rnd xs.length ys.length) → Q (.ref a) H'
include T in
theorem ok_walked : FnOk P w K mg base CX0 2 (He.ga K "walked") (fdOf K "walked") ["size", "flows", "takes", "level"] spWalked := by
  have G_round_of := ok_round_of (P := P) (w := w) (base := base) T
  refine T.f_walked.ok sc_walked (fun vs H Q E h => ?_) (fun cdv A outer s H vs Q E hr h => ⟨_, PSs.nox (pss_cons (ps_set (i := 4) sc_walked.nd rfl (Or.inl rfl) (pe_lst pa_nil))
    (pss_cons (ps_set (i := 5) sc_walked.nd rfl (Or.inl rfl) pe_int)
    (pss_cons (ps_set (i := 6) sc_walked.nd rfl (Or.inl rfl) pe_int)
    (pss_cons (ps_for PassesOwn.never rfl (pi_range1 (by rfl) T.z_range (pa_cons (pe_call G_round_of (hr.mono (by decide)) (by rfl) T.g_round_of T.f_round_of.kp T.b_round_of .nil pass0 (pa_cons (pv 1) (pa_cons (pv 2) pa_nil))) pa_nil)) (pg_name (i := 7) sc_walked.nd rfl (Or.inl rfl)) (pss_cons (ps_aug (i := 3) sc_walked.nd rfl (Or.inl rfl) (pe_ix (Go.ix_tupK (K := K) rfl) (pv 1) (pe_op op_mod (pv 7) (pe_callB (Go.c_lenK (K := K) rfl) (by rfl) T.z_len (by decide +kernel) (pa_cons (pv 1) pa_nil))) (fun _ _ => rfl)) ip_add)
    (pss_cons (ps_aug (i := 5) sc_walked.nd rfl (Or.inl rfl) (pe_callB (Go.c_max rfl) (by rfl) T.z_max (by decide +kernel) (pa_cons pe_int (pa_cons (pe_op op_sub (pv 3) (pv 0)) pa_nil))) ip_add)
    (pss_cons (ps_set (i := 3) sc_walked.nd rfl (Or.inl rfl) (pe_callB (Go.c_min rfl) (by rfl) T.z_min (by decide +kernel) (pa_cons (pv 0) (pa_cons (pv 3) pa_nil))))
    (pss_cons (ps_set (i := 8) sc_walked.nd rfl (Or.inl rfl) (pe_callB (Go.c_min rfl) (by rfl) T.z_min (by decide +kernel) (pa_cons (pv 3) (pa_cons (pe_ix (Go.ix_tupK (K := K) rfl) (pv 2) (pe_op op_mod (pv 7) (pe_callB (Go.c_lenK (K := K) rfl) (by rfl) T.z_len (by decide +kernel) (pa_cons (pv 2) pa_nil))) (fun _ _ => rfl)) pa_nil))))
    (pss_cons (ps_aug (i := 6) sc_walked.nd rfl (Or.inl rfl) (pv 8) ip_add)
    (pss_cons (ps_aug (i := 3) sc_walked.nd rfl (Or.inl rfl) (pv 8) ip_sub)
    (pss_one (ps_expr (pe_bm PySem.F.plainAttrs_list PySem.F.slot_list_append PySem.F.type_list_append mt_append (pv 4) (pa_cons (pv 3) pa_nil)))))))))))
    (pss_one (ps_ret (pe_tup (pa_cons (pv 4) (pa_cons (pv 5) (pa_cons (pv 6) pa_nil)))))))))) , ?_⟩)
  · obtain ⟨s, l, p, q, xs, ys, rfl, _⟩ := h
    rfl
  obtain ⟨s, l, p, q, xs, ys, rfl, hx, hy, hq⟩ := h
  have ex : (xs.map V.int).length = xs.length := List.length_map _
  have ey : (ys.map V.int).length = ys.length := List.length_map _
  have x1 := hx.l1
  have x30 := hx.l30
  have y1 := hy.l1
  have y30 := hy.l30
  have r9 := PM.rnd_900 x30 y30
  walk_at "go"
  refine fun b nb => ?_
  walk_at "go"
  have s0 : Same H (upd H b (.lst [])) := Go.same_new nb
  refine ⟨p, q, xs, ys, rfl, hx.same s0, hy.same s0, ?_⟩
  refine Go.kr1 (by omega) (by omega) ?_
  rw [Int.toNat_natCast]
  refine Go.forR (fun k σ H' => Same H H' ∧ H' b = some (iL (PM.lvls s xs ys l k)) ∧ ∃ (h t : Option V), σ = [some (.int s), some (.ref p), some (.ref q), some (.int (PM.L s xs ys l k)), some (.ref b), some (.int (PM.lost s xs ys l k)), some (.int (PM.out s xs ys l k)), h, t]) ⟨s0, upd_same, _, _, rfl⟩ ?_ ?_
  · rintro k σ H' hk ⟨e, hb, h, t, rfl⟩
    have hx' := hx.same e
    have hy' := hy.same e
    walk_at "go"
    refine Go.lenT (SqT.of hx'.at_) ?_
    walk_at "go"
    rw [ex]
    refine Go.i1 (by omega) ?_
    walk_at "go"
    refine Go.ixT (SqT.of hx'.at_) (hx'.get k) ?_
    walk_at "go"
    refine Go.lenT (SqT.of hy'.at_) ?_
    walk_at "go"
    rw [ey]
    refine Go.i1 (by omega) ?_
    walk_at "go"
    refine Go.ixT (SqT.of hy'.at_) (hy'.get k) ?_
    walk_at "go"
    refine ⟨Go.tyL hb, ?_⟩
    walk_at "go"
    have hn : ((PM.lvls s xs ys l k).map V.int).length ≤ 900 := by rw [List.length_map, PM.lvls_len]; omega
    refine Go.app hb (Nat.lt_of_le_of_lt hn (Nat.lt_of_lt_of_eq (by decide) sizeLine_eq.symm)) ?_
    walk_at "go"
    have eT : (if PM.L s xs ys l k + PM.at_ xs k < s then PM.L s xs ys l k + PM.at_ xs k else s) = PM.top_ s (PM.at_ xs k) (PM.L s xs ys l k) := by
      unfold PM.top_
      split <;> omega
    have eO : (if PM.at_ ys k < PM.top_ s (PM.at_ xs k) (PM.L s xs ys l k) then PM.at_ ys k else PM.top_ s (PM.at_ xs k) (PM.L s xs ys l k)) = PM.ou s (PM.at_ xs k) (PM.at_ ys k) (PM.L s xs ys l k) := by
      unfold PM.ou
      split <;> omega
    have eS : (if PM.L s xs ys l k + PM.at_ xs k - s > 0 then PM.L s xs ys l k + PM.at_ xs k - s else 0) = PM.ls s (PM.at_ xs k) (PM.L s xs ys l k) := by
      unfold PM.ls
      split <;> omega
    have eL : PM.top_ s (PM.at_ xs k) (PM.L s xs ys l k) - PM.ou s (PM.at_ xs k) (PM.at_ ys k) (PM.L s xs ys l k) = PM.L s xs ys l (k + 1) := rfl
    rw [eT, eO, eS, eL]
    refine ⟨Go.Same.mutL e nb, ?_, _, _, rfl⟩
    rw [upd_same, PM.lvls_succ]
    show some (HO.lst _) = some (HO.lst _)
    rw [List.map_append]
    rfl
  · rintro σ H' ⟨e, hb, h, t, rfl⟩
    walk_at "go"
    intro a na
    have e2 : Same H' (upd H' a (.tup [.ref b, .int (PM.lost s xs ys l (PM.rnd xs.length ys.length)), .int (PM.out s xs ys l (PM.rnd xs.length ys.length))])) := Go.same_new na
    exact hq _ _ (e.trans e2) (Same.fresh e na) ⟨b, upd_same, e2 _ _ hb⟩
/-! ### levels -/
def spLevels (TT : List (Addr × Str)) (C : Addr) : Sp := fun vs H Q E => ∃ x f t y bf bt, vs = [x, f, t, y] ∧ ArgI x ∧ ArgF H f bf ∧ ArgF H t bt ∧ ArgI y ∧ LamX.Tabs TT H ∧
  Vd TT C H E (fst_ [oSize x, oFl bf "flows", oFl bt "takes"]) (∃ s : Int, x = .int s ∧ (inB y 0 s = false → Rf TT C H E "begin") ∧ ∀ p q xs ys l, f = .ref p → t = .ref q → Fl H p xs → Fl H q ys → y = .int l → 0 ≤ l → l ≤ s → ∀ H' a, Go.Ext TT H H' → LamX.Tabs TT H' → H' a = some (.tup ((PM.lvls s xs ys l (PM.rnd xs.length ys.length)).map V.int)) → Q (.ref a) H')
/-- what a good run of flows is -/
theorem flB_fl {H : Hp} {p : Addr} {xs : List V} (h : H p = some (.tup xs)) (hb : flB xs = true) : ∃ ns, Fl H p ns := by
  unfold flB at hb
  rw [Bool.and_eq_true, Bool.and_eq_true] at hb
  obtain ⟨⟨h1, h2⟩, h3⟩ := hb
  have toI : ∀ xs : List V, xs.all pF = true → ∃ ns : List Int, xs = ns.map V.int ∧ ∀ x ∈ ns, 0 ≤ x ∧ x ≤ 1000 := fun xs => by
    induction xs with
    | nil => exact fun _ => ⟨[], rfl, fun x hx => by cases hx⟩
    | cons v xs ih =>
      intro h
      rw [List.all_cons, Bool.and_eq_true] at h
      obtain ⟨ns, e, hn⟩ := ih h.2
      cases v with
      | int i =>
        have := h.1
        unfold pF at this
        rw [Bool.and_eq_true] at this
        refine ⟨i :: ns, by rw [e]; rfl, fun x hx => ?_⟩
        rcases List.mem_cons.mp hx with rfl | hx
        · exact ⟨of_decide_eq_true this.1, of_decide_eq_true this.2⟩
        · exact hn x hx
      | _ => exact absurd h.1 (by unfold pF; simp)
  obtain ⟨ns, rfl, hn⟩ := toI xs h3
  rw [List.length_map] at h1 h2
  exact ⟨ns, ⟨of_decide_eq_true h1, of_decide_eq_true h2, hn⟩, h⟩
theorem argF_fl {H : Hp} {x : V} (h : ArgF H x true) : ∃ p ns, x = .ref p ∧ Fl H p ns := by
  generalize e : true = b at h
  cases h with
  | non => cases e
  | lst => cases e
  | tup h1 h2 h3 =>
    obtain ⟨ns, h4⟩ := flB_fl h1 e.symm
    exact ⟨_, ns, rfl, h4⟩
/-- the three good -/
theorem three {x : V} {bf bt : Bool} (e : fst_ [oSize x, oFl bf "flows", oFl bt "takes"] = none) : (∃ s : Int, x = .int s ∧ 0 ≤ s ∧ s ≤ 2000) ∧ bf = true ∧ bt = true := by
  unfold oSize oFl at e
  by_cases c : inB x 0 2000 = true
  · refine ⟨inB_iff.mp c, ?_⟩
    rw [if_pos c] at e
    cases bf <;> cases bt <;> first | (cases e; done) | exact ⟨rfl, rfl⟩
  · rw [if_neg c] at e
    cases e
theorem Rf.mono {TT : List (Addr × Str)} {C : Addr} {H H' : Hp} {E : XK} {z : Str} (h : Rf TT C H E z) (e : Go.Ext TT H H') : Rf TT C H' E z := fun d H2 x => h d H2 (e.trans x)
/-- need_pool's promise from a verdict's -/
theorem pool_of {TT : List (Addr × Str)} {C : Addr} {H : Hp} {E : XK} {Q : VK} {x f t : V} {bf bt : Bool} {Kk : Prop} (hx : ArgI x) (hf : ArgF H f bf) (ht : ArgF H t bt) (hT : LamX.Tabs TT H) (hv : Vd TT C H E (fst_ [oSize x, oFl bf "flows", oFl bt "takes"]) Kk)
    (q : ∀ (s : Int) p p' xs ys, x = .int s → 0 ≤ s → s ≤ 2000 → f = .ref p → t = .ref p' → Fl H p xs → Fl H p' ys → Kk → ∀ H', Go.Ext TT H H' → LamX.Tabs TT H' → Q .non H') : spPool TT C [x, f, t] H Q E := by
  refine ⟨x, f, t, bf, bt, rfl, hx, hf, ht, hT, ?_⟩
  cases e : fst_ [oSize x, oFl bf "flows", oFl bt "takes"] with
  | some z =>
    rw [e] at hv
    exact hv
  | none =>
    rw [e] at hv
    obtain ⟨⟨s, es, s0, s1⟩, rfl, rfl⟩ := three e
    obtain ⟨p, xs, ep, hp⟩ := argF_fl hf
    obtain ⟨p', ys, ep', hp'⟩ := argF_fl ht
    exact q s p p' xs ys es s0 s1 ep ep' hp hp' hv
include T TT in
theorem ok_levels : FnOk P w K mg base (L2.CX P w) 4 (He.ga K "levels") (fdOf K "levels") ["size", "flows", "takes", "begin"] (spLevels (TL PF PL) (He.ga K "BadArgument")) := by
  have G_need_integer := ok_need_integer (P := P) (w := w) (base := base) T
  have G_need_pool := ok_need_pool (P := P) (w := w) (base := base) T TT
  have G_walked := ok_walked (P := P) (w := w) (base := base) T
  refine T.f_levels.ok sc_levels (fun vs H Q E h => ?_) (fun cdv A outer s H vs Q E hr h => ⟨_, (pss_cons (ps_expr (pe_call G_need_pool (hr.mono (by decide)) (by rfl) T.g_need_pool T.f_need_pool.kp T.b_need_pool .nil (passes_call (W := fun cls d _ H => E cls d H) (takes_of rfl rfl rfl rfl) (fun _ _ _ _ h => h)) (pa_cons (pv 0) (pa_cons (pv 1) (pa_cons (pv 2) pa_nil)))))
    (pss_cons (ps_expr (pe_call G_need_integer (hr.mono (by decide)) (by rfl) T.g_need_integer T.f_need_integer.kp T.b_need_integer .nil (passes_call (W := fun cls d _ H => E cls d H) (takes_of rfl rfl rfl rfl) (fun _ _ _ _ h => h)) (pa_cons (pv 3) (pa_cons pe_str (pa_cons pe_int (pa_cons (pv 0) pa_nil))))))
    (pss_one (ps_ret (pe_callTy (Go.c_tupK (K := K) rfl) (by rfl) T.z_tuple (by decide +kernel) (pa_cons (pe_ix (Go.ix_tupK (K := K) rfl) (pe_call G_walked (hr.mono (by decide)) (by rfl) T.g_walked T.f_walked.kp T.b_walked .nil pass0 (pa_cons (pv 0) (pa_cons (pv 1) (pa_cons (pv 2) (pa_cons (pv 3) pa_nil))))) pe_int (fun _ _ => rfl)) pa_nil)))))) , ?_⟩)
  · obtain ⟨x, f, t, y, bf, bt, rfl, _⟩ := h
    rfl
  obtain ⟨x, f, t, y, bf, bt, rfl, hx, hf, ht, hy, hT, hv⟩ := h
  walk_at "go"
  refine pool_of hx hf ht hT hv fun s p p' xs ys e0 s0 s1 e1 e2 hp hp' ⟨s', e3, v1, v2⟩ H1 x1 T1 => ?_
  subst e0 e1 e2
  cases e3
  walk_at "go"
  refine need_of hy (by decide +kernel) T1 (fun e => ?_) (fun e => (v1 e).mono x1)
  obtain ⟨l, rfl, l0, l1⟩ := inB_iff.mp e
  walk_at "go"
  refine ⟨s, l, p, p', xs, ys, rfl, hp.ext x1, hp'.ext x1, fun H2 a e2 na hw => ?_⟩
  obtain ⟨b, h1, h2⟩ := hw.ex
  walk_at "go"
  refine Go.ixT (SqT.of h1) (show atI [_, _, _] 0 = some _ from rfl) ?_
  walk_at "go"
  refine Go.tupL (SqL.of h2) fun m nm => ?_
  exact v2 p p' xs ys l rfl rfl hp hp' rfl l0 l1 _ _ ((x1.trans (Go.ExtX.same e2)).trans (Go.ExtX.new nm)) (Go.Tabs_same (Go.same_new nm) (Go.Tabs_same e2 T1)) upd_same
end
end QP

set_option Elab.async false
set_option linter.all false
set_option maxRecDepth 100000
set_option maxHeartbeats 2000000

namespace QP
open PySem PySem.Spec PyProof.Rows L2
theorem hu1 {k : Nat} {A : Around} (hr : Room k A) : A.units + 1 < cLine := by have := hr.un; omega
section
variable {P : Program} {w : World} {K : PySem.W.Frag} {mg : Str → Option Value} {base : Heap} {cF PF cL PL : Addr} (T : Txt P K mg) (TT : TT K mg base cF PF cL PL)
/-- the keys met so far -/
def Seen (f : Int → Int) (k : Nat) (kvs : List (Key × V)) : Prop := kvs.length ≤ k ∧ ∀ i : Int, (valV kvs (.inl i)).isSome = true ↔ ∃ j, j < k ∧ i = PM.iter f j
theorem Seen.put {f : Int → Int} {k : Nat} {kvs : List (Key × V)} {v : V} (h : Seen f k kvs) : Seen f (k + 1) (putK kvs (.inl (PM.iter f k)) v) := by
  refine ⟨?_, fun i => ?_⟩
  · have := h.1
    unfold putK
    split
    · rw [List.length_map]; omega
    · rw [List.length_append]
      show _ + 1 ≤ _
      omega
  · rw [valV_put]
    by_cases e : (Sum.inl i : Key) = .inl (PM.iter f k)
    · rw [if_pos e]
      have e' : i = PM.iter f k := Sum.inl.inj e
      exact ⟨fun _ => ⟨k, by omega, e'⟩, fun _ => rfl⟩
    · rw [if_neg e, h.2]
      constructor
      · rintro ⟨j, hj, e1⟩
        exact ⟨j, by omega, e1⟩
      · rintro ⟨j, hj, e1⟩
        refine ⟨j, ?_, e1⟩
        rcases Nat.lt_succ_iff_lt_or_eq.mp hj with z | z
        · exact z
        · exact absurd (by rw [e1, z]) e
def spLast : Sp := fun vs H Q _ => ∃ (s : Int) (p q : Addr) (xs ys : List Int), vs = [.int s, .ref p, .ref q] ∧ 0 ≤ s ∧ s ≤ 2000 ∧ Fl H p xs ∧ Fl H q ys ∧ ∀ H', Same H H' → Q (.int (PM.last s xs ys)) H'
include T in
theorem ok_last_begin : FnOk P w K mg base CX0 3 (He.ga K "last_begin") (fdOf K "last_begin") ["size", "flows", "takes"] spLast := by
  have G_walked := ok_walked (P := P) (w := w) (base := base) T
  refine T.f_last_begin.ok sc_last_begin (fun vs H Q E h => ?_) (fun cdv A outer s H vs Q E hr h => ?_)
  · obtain ⟨s, p, q, xs, ys, rfl, _⟩ := h
    rfl
  refine ⟨_, PSs.nox (pss_cons (ps_set (i := 3) sc_last_begin.nd rfl (Or.inl rfl) pe_int)
    (pss_cons (ps_set (i := 4) sc_last_begin.nd rfl (Or.inl rfl) pe_dnewK)
    (pss_cons (ps_while PassesOwn.never (pt_cmp (pc_dnotin (QP.hu1 hr) (pv 3) (pv 4))) (pss_cons (ps_dput (QP.hu1 hr) (pv 4) (pv 3) pe_bl rfl)
    (pss_cons (ps_set (i := 5) sc_last_begin.nd rfl (Or.inl rfl) (pe_ix (Go.ix_tupK (K := K) rfl) (pe_call G_walked (hr.mono (by decide)) (by rfl) T.g_walked T.f_walked.kp T.b_walked .nil pass0 (pa_cons (pv 0) (pa_cons (pv 1) (pa_cons (pv 2) (pa_cons (pv 3) pa_nil))))) pe_int (fun _ _ => rfl)))
    (pss_one (ps_set (i := 3) sc_last_begin.nd rfl (Or.inl rfl) (pe_ix (Go.ix_listK (K := K) rfl) (pv 5) (pe_op op_sub (pe_callB (Go.c_lenK (K := K) rfl) (by rfl) T.z_len (by decide +kernel) (pa_cons (pv 5) pa_nil)) pe_int) (fun _ _ => rfl)))))))
    (pss_one (ps_ret (pv 3)))))) , ?_⟩
  obtain ⟨s, p, q, xs, ys, rfl, s0, s1, hx, hy, hq⟩ := h
  walk_at "go"
  refine fun d nd => ?_
  walk_at "go"
  have F_bd := PM.F_bd hx.nn hy.nn s0
  have F_mono := PM.F_mono (s := s) (xs := xs) (ys := ys)
  refine Go.whileM (fun m σ H' => Same H H' ∧ ∃ (k : Nat) (kvs : List (Key × V)) (r : Option V), σ = [some (.int s), some (.ref p), some (.ref q), some (.int (PM.iter (PM.F s xs ys) k)), some (.ref d), r] ∧ m + k = s.toNat + 2 ∧ H' d = some (.dK kvs) ∧ Seen (PM.F s xs ys) k kvs) (s.toNat + 2) ⟨Go.same_new nd, 0, [], none, rfl, rfl, upd_same, Nat.le_refl _, fun i => ⟨fun z => (by cases z), fun ⟨j, hj, _⟩ => absurd hj (by omega)⟩⟩ ?_
  rintro m σ H' ⟨e, k, kvs, r, rfl, hm, hd, hk⟩
  walk_at "go"
  refine ⟨_, rfl, _, rfl, d, _, rfl, DGet.k (k := .inl (PM.iter (PM.F s xs ys) k)) hd, ?_⟩
  refine Go.kb ?_
  refine Go.turnM (fun c => ?_) (fun c => ?_)
  · have nk : ∀ j, j < k → PM.iter (PM.F s xs ys) k ≠ PM.iter (PM.F s xs ys) j := fun j hj z => by
      have := (hk.2 (PM.iter (PM.F s xs ys) k)).mpr ⟨j, hj, z⟩
      rw [this] at c
      cases c
    have hks : (k : Int) ≤ s := by
      cases k with
      | zero => exact s0
      | succ k =>
        have a1 := PM.iter_up F_bd s0 F_mono k
        have a2 := nk k (by omega)
        have a3 := (PM.iter_bd F_bd s0 (k + 1)).2
        rcases PM.iter_climb F_bd s0 F_mono k with z | z
        · exact absurd z a2
        · omega
    have hkl := hk.1
    walk_at "go"
    refine ⟨_, rfl, _, rfl, d, _, rfl, DPut.k (k := .inl (PM.iter (PM.F s xs ys) k)) hd (Nat.lt_of_le_of_lt (show kvs.length ≤ 2000 by omega) (Nat.lt_of_lt_of_eq (by decide) sizeLine_eq.symm)), ?_⟩
    have e1 : Same H (upd H' d (.dK (putK kvs (.inl (PM.iter (PM.F s xs ys) k)) (.bl true)))) := Go.Same.mutL e nd
    walk_at "go"
    refine ⟨s, _, p, q, xs, ys, rfl, hx.same e1, hy.same e1, fun H2 a e2 na hw => ?_⟩
    obtain ⟨b, h1, h2⟩ := hw.ex
    walk_at "go"
    refine Go.ixT (SqT.of h1) (show atI [_, _, _] 0 = some _ from rfl) ?_
    walk_at "go"
    refine Go.lenL (SqL.of h2) ?_
    walk_at "go"
    have r1 := PM.rnd_pos hx.l1 hy.l1
    have en : (((PM.lvls s xs ys (PM.iter (PM.F s xs ys) k) (PM.rnd xs.length ys.length)).map V.int).length : Int) - 1 = ((PM.rnd xs.length ys.length - 1 : Nat) : Int) := by
      rw [List.length_map, PM.lvls_len]
      omega
    rw [en]
    have eg : atI ((PM.lvls s xs ys (PM.iter (PM.F s xs ys) k) (PM.rnd xs.length ys.length)).map V.int) ((PM.rnd xs.length ys.length - 1 : Nat) : Int) = some (.int (PM.iter (PM.F s xs ys) (k + 1))) := by
      refine atI_nat ?_
      rw [List.getElem?_map, PM.lvls_get (by omega)]
      have : PM.rnd xs.length ys.length - 1 + 1 = PM.rnd xs.length ys.length := by omega
      rw [this]
      rfl
    refine Go.ixL (SqL.of h2) eg ?_
    walk_at "go"
    refine ⟨m - 1, by omega, e1.trans e2, k + 1, _, _, rfl, by omega, e2 _ _ upd_same, hk.put⟩
  · walk_at "go"
    have hs : (valV kvs (.inl (PM.iter (PM.F s xs ys) k))).isSome = true := by
      cases z : (valV kvs (.inl (PM.iter (PM.F s xs ys) k))).isSome with
      | true => rfl
      | false =>
        rw [z] at c
        cases c
    obtain ⟨j, hj, ej⟩ := (hk.2 _).mp hs
    have fj := PM.iter_again F_bd s0 F_mono hj ej.symm
    rw [PM.last_of hx.nn hy.nn s0 (k := k) (by rw [ej]; exact fj)]
    exact hq _ e
/-! ### level_at_last -/
/-- what the three that ask need_pool first promise -/
def spAsk (TT : List (Addr × Str)) (C : Addr) (R : Int → List Int → List Int → Hp → (V → Hp → Prop) → Prop) : Sp := fun vs H Q E => ∃ x f t bf bt, vs = [x, f, t] ∧ ArgI x ∧ ArgF H f bf ∧ ArgF H t bt ∧ LamX.Tabs TT H ∧
  Vd TT C H E (fst_ [oSize x, oFl bf "flows", oFl bt "takes"]) (∀ s p q xs ys, x = .int s → f = .ref p → t = .ref q → Fl H p xs → Fl H q ys → R s xs ys H Q)
def rInt (TT : List (Addr × Str)) (g : Int → List Int → List Int → V) : Int → List Int → List Int → Hp → (V → Hp → Prop) → Prop := fun s xs ys H Q => ∀ H', Go.Ext TT H H' → LamX.Tabs TT H' → Q (g s xs ys) H'
include T TT in
theorem ok_level_at_last : FnOk P w K mg base (L2.CX P w) 4 (He.ga K "level_at_last") (fdOf K "level_at_last") ["size", "flows", "takes"] (spAsk (TL PF PL) (He.ga K "BadArgument") (rInt (TL PF PL) fun s xs ys => .int (PM.last s xs ys))) := by
  have G_need_pool := ok_need_pool (P := P) (w := w) (base := base) T TT
  have G_last_begin := ok_last_begin (P := P) (w := w) (base := base) T
  refine T.f_level_at_last.ok sc_level_at_last (fun vs H Q E h => ?_) (fun cdv A outer s H vs Q E hr h => ⟨_, (pss_cons (ps_expr (pe_call G_need_pool (hr.mono (by decide)) (by rfl) T.g_need_pool T.f_need_pool.kp T.b_need_pool .nil (passes_call (W := fun cls d _ H => E cls d H) (takes_of rfl rfl rfl rfl) (fun _ _ _ _ h => h)) (pa_cons (pv 0) (pa_cons (pv 1) (pa_cons (pv 2) pa_nil)))))
    (pss_one (ps_ret (pe_call G_last_begin (hr.mono (by decide)) (by rfl) T.g_last_begin T.f_last_begin.kp T.b_last_begin .nil pass0 (pa_cons (pv 0) (pa_cons (pv 1) (pa_cons (pv 2) pa_nil))))))) , ?_⟩)
  · obtain ⟨x, f, t, bf, bt, rfl, _⟩ := h
    rfl
  obtain ⟨x, f, t, bf, bt, rfl, hx, hf, ht, hT, hv⟩ := h
  walk_at "go"
  refine pool_of hx hf ht hT hv fun s p p' xs ys e0 s0 s1 e1 e2 hp hp' v H1 x1 T1 => ?_
  subst e0 e1 e2
  walk_at "go"
  refine ⟨s, p, p', xs, ys, rfl, s0, s1, hp.ext x1, hp'.ext x1, fun H2 e2 => ?_⟩
  exact v s p p' xs ys rfl rfl rfl hp hp' H2 (x1.trans (Go.ExtX.same e2)) (Go.Tabs_same e2 T1)
/-! ### lost_of, lost_part -/
/-- the sums of the runs -/
theorem whole_sum {xs : List Int} : ∀ n, ((List.range n).map (PM.at_ xs)).sum = PM.whole xs n
  | 0 => rfl
  | n + 1 => by
    rw [List.range_succ, List.map_append, List.sum_append, whole_sum n]
    show _ + (_ + 0) = _ + _
    omega
/-- sum([f[hour % len(f)] for hour in range(around)]) -/
theorem sumC {K : PySem.W.Frag} {a h i : Nat} {p : Addr} {xs : List Int} {n : Nat} {σ : L2.St} {H : Hp} {Q : VK} (ea : σ[a]? = some (some (.int n))) (ei : ∀ x, ((σ.set h none).set h x)[i]? = some (some (.ref p))) (eh : ∀ x, ((σ.set h none).set h x)[h]? = some x) (hx : Fl H p xs) (hn : n ≤ 900) (q : ∀ H', Same H H' → Q (.int (PM.whole xs n)) H') :
    tCB (rSum K) (tCons (tLc (iRng1 (tCons (tVar a) tNil)) (gName h) tYes (tOp (rIxT K) (tVar i) (tOp (rI (fun _ j => 0 < j) fun i j => V.int (i % j)) (tVar h) (tCB (Go.rLenS K) (tCons (tVar i) tNil)))) [h]) tNil) σ H Q := by
  refine Go.cb (Go.cons (Go.lc_ (Go.rng1 (Go.cons (Go.var ea (Go.nil ?_))))))
  refine Go.kr1 (by omega) (by omega) ?_
  rw [Int.toNat_natCast]
  refine Go.lcR (m := n) (fun D k H' => Same H H' ∧ H' D = some (.lst ((List.range k).map fun j => V.int (PM.at_ xs j)))) (fun D hD => ⟨Go.same_new hD, upd_same⟩) (fun D k H' hD hk ⟨e, hd⟩ => ?_) fun D H' hD ⟨e, hd⟩ => ?_
  · have hx' := hx.same e
    refine Go.op (Go.var (ei _) (Go.op (Go.var (eh _) (Go.cb (Go.cons (Go.var (ei _) (Go.nil (Go.lenT (SqT.of hx'.at_) ?_))))))))
    rw [List.length_map]
    have l1 := hx.l1
    refine Go.i1 (by omega) ?_
    refine Go.ixT (SqT.of hx'.at_) (hx'.get k) ?_
    refine Go.kel hd ?_ ⟨Go.Same.mutL e hD, ?_⟩
    · rw [List.length_map, List.length_range]
      exact Nat.lt_of_lt_of_le hk (Nat.le_trans hn (Nat.le_of_lt (Nat.lt_of_lt_of_eq (by decide) sizeLine_eq.symm)))
    · rw [upd_same, List.range_succ, List.map_append]
      rfl
  · refine Go.nil (Go.sum_ (ns := (List.range n).map (PM.at_ xs)) (SqL.of ?_) ?_)
    · rw [hd, List.map_map]
      rfl
    · rw [whole_sum]
      exact q H' e
def lostV (s : Int) (xs ys : List Int) (H' : Hp) : V → Prop := fun v => (PM.whole xs (PM.rnd xs.length ys.length) = 0 ∧ v = .non) ∨ (PM.whole xs (PM.rnd xs.length ys.length) ≠ 0 ∧ ∃ a, v = .ref a ∧ H' a = some (.tup [.int (frac (PM.lostL s xs ys) (PM.whole xs (PM.rnd xs.length ys.length))).1, .int (frac (PM.lostL s xs ys) (PM.whole xs (PM.rnd xs.length ys.length))).2]))
def spLostOf : Sp := fun vs H Q _ => ∃ (s : Int) (p q : Addr) (xs ys : List Int), vs = [.int s, .ref p, .ref q] ∧ 0 ≤ s ∧ s ≤ 2000 ∧ Fl H p xs ∧ Fl H q ys ∧ ∀ H' v, Same H H' → lostV s xs ys H' v → Q v H'
include T in
theorem ok_lost_of : FnOk P w K mg base CX0 4 (He.ga K "lost_of") (fdOf K "lost_of") ["size", "flows", "takes"] spLostOf := by
  have G_round_of := ok_round_of (P := P) (w := w) (base := base) T
  have G_walked := ok_walked (P := P) (w := w) (base := base) T
  have G_last_begin := ok_last_begin (P := P) (w := w) (base := base) T
  have G_ratio := ok_ratio (P := P) (w := w) (base := base) T
  refine T.f_lost_of.ok sc_lost_of (fun vs H Q E h => ?_) (fun cdv A outer s H vs Q E hr h => ⟨_, PSs.nox (pss_cons (ps_set (i := 3) sc_lost_of.nd rfl (Or.inl rfl) (pe_call G_round_of (hr.mono (by decide)) (by rfl) T.g_round_of T.f_round_of.kp T.b_round_of .nil pass0 (pa_cons (pv 1) (pa_cons (pv 2) pa_nil))))
    (pss_cons (ps_set (i := 5) sc_lost_of.nd rfl (Or.inl rfl) (pe_callB (cr_sum rfl) (by rfl) T.z_sum (by decide +kernel) (pa_cons (pe_lc (own := [("hour", 4)]) (g := gName 4) (tt := tYes) (by rfl) sc_lost_of.nd (pi_range1 (by rfl) T.z_range (pa_cons (pv 3) pa_nil)) (blkOk_by (own := [("hour", 4)]) (N := ["size", "flows", "takes", "around", "hour", "whole"]) (sc := defScope s_lost_of) (by decide +kernel)) (fun _ _ _ _ _ => (pg_name (i := 4) sc_lost_of.nd rfl (Or.inl rfl))) (fun _ _ _ _ _ => pts_nil) (fun _ _ _ _ _ => (pe_ix (Go.ix_tupK (K := K) rfl) (pv 1) (pe_op op_mod (pv 4) (pe_callB (Go.c_lenK (K := K) rfl) (by rfl) T.z_len (by decide +kernel) (pa_cons (pv 1) pa_nil))) (fun _ _ => rfl)))) pa_nil)))
    (pss_cons (ps_if (pt_cmpR op_eq (pv 5) pe_int (nomark _)) (pss_one (ps_ret pe_non)) pss_nil)
    (pss_one (ps_ret (pe_call G_ratio (hr.mono (by decide)) (by rfl) T.g_ratio T.f_ratio.kp T.b_ratio .nil pass0 (pa_cons (pe_ix (Go.ix_tupK (K := K) rfl) (pe_call G_walked (hr.mono (by decide)) (by rfl) T.g_walked T.f_walked.kp T.b_walked .nil pass0 (pa_cons (pv 0) (pa_cons (pv 1) (pa_cons (pv 2) (pa_cons (pe_call G_last_begin (hr.mono (by decide)) (by rfl) T.g_last_begin T.f_last_begin.kp T.b_last_begin .nil pass0 (pa_cons (pv 0) (pa_cons (pv 1) (pa_cons (pv 2) pa_nil)))) pa_nil))))) pe_int (fun _ _ => rfl)) (pa_cons (pv 5) pa_nil)))))))) , ?_⟩)
  · obtain ⟨s, p, q, xs, ys, rfl, _⟩ := h
    rfl
  obtain ⟨s, p, q, xs, ys, rfl, s0, s1, hx, hy, hq⟩ := h
  have x30 := hx.l30
  have y30 := hy.l30
  have r9 := PM.rnd_900 x30 y30
  have wb := PM.whole_bd hx.nn (B := 1000) (fun x h => (hx.bd x h).2) (by decide) (PM.rnd xs.length ys.length)
  walk_at "go"
  refine ⟨p, q, xs, ys, rfl, hx, hy, ?_⟩
  walk_at "goσ"
  refine Go.name rfl ?_
  dsimp only [List.set]
  refine Go.seq (Go.asg ?_)
  refine sumC (n := PM.rnd xs.length ys.length) rfl (fun _ => rfl) (fun _ => rfl) hx r9 fun H1 e1 => ?_
  walk_at "go"
  have la := PM.last_bd hx.nn hy.nn s0
  refine ite2 (fun c => ?_) (fun c => ?_)
  · walk_at "go"
    exact hq H1 _ e1 (.inl ⟨V.int.inj (of_decide_eq_true c), rfl⟩)
  · walk_at "go"
    refine ⟨s, p, q, xs, ys, rfl, s0, s1, hx.same e1, hy.same e1, fun H2 e2 => ?_⟩
    walk_at "go"
    refine ⟨s, _, p, q, xs, ys, rfl, (hx.same e1).same e2, (hy.same e1).same e2, fun H3 a e3 na hw => ?_⟩
    obtain ⟨b, h1, h2⟩ := hw.ex
    walk_at "go"
    refine Go.ixT (SqT.of h1) (show atI [_, _, _] 1 = some _ from rfl) ?_
    walk_at "go"
    have nz : PM.whole xs (PM.rnd xs.length ys.length) ≠ 0 := fun z => c (decide_eq_true (by rw [z]))
    refine ⟨_, _, rfl, by omega, by omega, fun r nr => ?_⟩
    exact hq _ _ (((e1.trans e2).trans e3).trans (Go.same_new nr)) (.inr ⟨nz, r, rfl, upd_same⟩)
end
end QP

set_option Elab.async false
set_option linter.all false
set_option maxRecDepth 100000
set_option maxHeartbeats 2000000

namespace QP
open PySem PySem.Spec PyProof.Rows L2
section
variable {P : Program} {w : World} {K : PySem.W.Frag} {mg : Str → Option Value} {base : Heap} {cF PF cL PL : Addr} (T : Txt P K mg) (TT : TT K mg base cF PF cL PL)
def rLost (TT : List (Addr × Str)) : Int → List Int → List Int → Hp → (V → Hp → Prop) → Prop := fun s xs ys H Q => ∀ H' v, Go.Ext TT H H' → LamX.Tabs TT H' → lostV s xs ys H' v → Q v H'
include T TT in
theorem ok_lost_part : FnOk P w K mg base (L2.CX P w) 5 (He.ga K "lost_part") (fdOf K "lost_part") ["size", "flows", "takes"] (spAsk (TL PF PL) (He.ga K "BadArgument") (rLost (TL PF PL))) := by
  have G_need_pool := ok_need_pool (P := P) (w := w) (base := base) T TT
  have G_lost_of := ok_lost_of (P := P) (w := w) (base := base) T
  refine T.f_lost_part.ok sc_lost_part (fun vs H Q E h => ?_) (fun cdv A outer s H vs Q E hr h => ⟨_, (pss_cons (ps_expr (pe_call G_need_pool (hr.mono (by decide)) (by rfl) T.g_need_pool T.f_need_pool.kp T.b_need_pool .nil (passes_call (W := fun cls d _ H => E cls d H) (takes_of rfl rfl rfl rfl) (fun _ _ _ _ h => h)) (pa_cons (pv 0) (pa_cons (pv 1) (pa_cons (pv 2) pa_nil)))))
    (pss_one (ps_ret (pe_call G_lost_of (hr.mono (by decide)) (by rfl) T.g_lost_of T.f_lost_of.kp T.b_lost_of .nil pass0 (pa_cons (pv 0) (pa_cons (pv 1) (pa_cons (pv 2) pa_nil))))))) , ?_⟩)
  · obtain ⟨x, f, t, bf, bt, rfl, _⟩ := h
    rfl
  obtain ⟨x, f, t, bf, bt, rfl, hx, hf, ht, hT, hv⟩ := h
  walk_at "go"
  refine pool_of hx hf ht hT hv fun s p p' xs ys e0 s0 s1 e1 e2 hp hp' v H1 x1 T1 => ?_
  subst e0 e1 e2
  walk_at "go"
  refine ⟨s, p, p', xs, ys, rfl, s0, s1, hp.ext x1, hp'.ext x1, fun H2 u e2 hu => ?_⟩
  exact v s p p' xs ys rfl rfl rfl hp hp' H2 u (x1.trans (Go.ExtX.same e2)) (Go.Tabs_same e2 T1) hu
/-- what goes out in a round at last -/
def outL (s : Int) (xs ys : List Int) : Int := PM.out s xs ys (PM.last s xs ys) (PM.rnd xs.length ys.length)
include T TT in
theorem ok_out_at_last : FnOk P w K mg base (L2.CX P w) 4 (He.ga K "out_at_last") (fdOf K "out_at_last") ["size", "flows", "takes"] (spAsk (TL PF PL) (He.ga K "BadArgument") (rInt (TL PF PL) fun s xs ys => .int (outL s xs ys))) := by
  have G_need_pool := ok_need_pool (P := P) (w := w) (base := base) T TT
  have G_last_begin := ok_last_begin (P := P) (w := w) (base := base) T
  have G_walked := ok_walked (P := P) (w := w) (base := base) T
  refine T.f_out_at_last.ok sc_out_at_last (fun vs H Q E h => ?_) (fun cdv A outer s H vs Q E hr h => ⟨_, (pss_cons (ps_expr (pe_call G_need_pool (hr.mono (by decide)) (by rfl) T.g_need_pool T.f_need_pool.kp T.b_need_pool .nil (passes_call (W := fun cls d _ H => E cls d H) (takes_of rfl rfl rfl rfl) (fun _ _ _ _ h => h)) (pa_cons (pv 0) (pa_cons (pv 1) (pa_cons (pv 2) pa_nil)))))
    (pss_one (ps_ret (pe_ix (Go.ix_tupK (K := K) rfl) (pe_call G_walked (hr.mono (by decide)) (by rfl) T.g_walked T.f_walked.kp T.b_walked .nil pass0 (pa_cons (pv 0) (pa_cons (pv 1) (pa_cons (pv 2) (pa_cons (pe_call G_last_begin (hr.mono (by decide)) (by rfl) T.g_last_begin T.f_last_begin.kp T.b_last_begin .nil pass0 (pa_cons (pv 0) (pa_cons (pv 1) (pa_cons (pv 2) pa_nil)))) pa_nil))))) pe_int (fun _ _ => rfl))))) , ?_⟩)
  · obtain ⟨x, f, t, bf, bt, rfl, _⟩ := h
    rfl
  obtain ⟨x, f, t, bf, bt, rfl, hx, hf, ht, hT, hv⟩ := h
  walk_at "go"
  refine pool_of hx hf ht hT hv fun s p p' xs ys e0 s0 s1 e1 e2 hp hp' v H1 x1 T1 => ?_
  subst e0 e1 e2
  walk_at "go"
  refine ⟨s, p, p', xs, ys, rfl, s0, s1, hp.ext x1, hp'.ext x1, fun H2 e2 => ?_⟩
  walk_at "go"
  refine ⟨s, _, p, p', xs, ys, rfl, (hp.ext x1).same e2, (hp'.ext x1).same e2, fun H3 a e3 na hw => ?_⟩
  obtain ⟨b, h1, h2⟩ := hw.ex
  walk_at "go"
  refine Go.ixT (SqT.of h1) (show atI [_, _, _] 2 = some _ from rfl) ?_
  exact v s p p' xs ys rfl rfl rfl hp hp' H3 (x1.trans (Go.ExtX.same (e2.trans e3))) (Go.Tabs_same (e2.trans e3) T1)
include T TT in
theorem ok_full_takes : FnOk P w K mg base (L2.CX P w) 4 (He.ga K "full_takes") (fdOf K "full_takes") ["size", "flows", "takes"] (spAsk (TL PF PL) (He.ga K "BadArgument") (rInt (TL PF PL) fun s xs ys => .bl (decide (outL s xs ys = PM.whole ys (PM.rnd xs.length ys.length))))) := by
  have G_need_pool := ok_need_pool (P := P) (w := w) (base := base) T TT
  have G_last_begin := ok_last_begin (P := P) (w := w) (base := base) T
  have G_walked := ok_walked (P := P) (w := w) (base := base) T
  have G_round_of := ok_round_of (P := P) (w := w) (base := base) T
  refine T.f_full_takes.ok sc_full_takes (fun vs H Q E h => ?_) (fun cdv A outer s H vs Q E hr h => ⟨_, (pss_cons (ps_expr (pe_call G_need_pool (hr.mono (by decide)) (by rfl) T.g_need_pool T.f_need_pool.kp T.b_need_pool .nil (passes_call (W := fun cls d _ H => E cls d H) (takes_of rfl rfl rfl rfl) (fun _ _ _ _ h => h)) (pa_cons (pv 0) (pa_cons (pv 1) (pa_cons (pv 2) pa_nil)))))
    (pss_cons (ps_set (i := 3) sc_full_takes.nd rfl (Or.inl rfl) (pe_call G_round_of (hr.mono (by decide)) (by rfl) T.g_round_of T.f_round_of.kp T.b_round_of .nil pass0 (pa_cons (pv 1) (pa_cons (pv 2) pa_nil))))
    (pss_cons (ps_set (i := 5) sc_full_takes.nd rfl (Or.inl rfl) (pe_callB (cr_sum rfl) (by rfl) T.z_sum (by decide +kernel) (pa_cons (pe_lc (own := [("hour", 4)]) (g := gName 4) (tt := tYes) (by rfl) sc_full_takes.nd (pi_range1 (by rfl) T.z_range (pa_cons (pv 3) pa_nil)) (blkOk_by (own := [("hour", 4)]) (N := ["size", "flows", "takes", "around", "hour", "wanted"]) (sc := defScope s_full_takes) (by decide +kernel)) (fun _ _ _ _ _ => (pg_name (i := 4) sc_full_takes.nd rfl (Or.inl rfl))) (fun _ _ _ _ _ => pts_nil) (fun _ _ _ _ _ => (pe_ix (Go.ix_tupK (K := K) rfl) (pv 2) (pe_op op_mod (pv 4) (pe_callB (Go.c_lenK (K := K) rfl) (by rfl) T.z_len (by decide +kernel) (pa_cons (pv 2) pa_nil))) (fun _ _ => rfl)))) pa_nil)))
    (pss_one (ps_ret (pe_cmpR op_eq (pe_ix (Go.ix_tupK (K := K) rfl) (pe_call G_walked (hr.mono (by decide)) (by rfl) T.g_walked T.f_walked.kp T.b_walked .nil pass0 (pa_cons (pv 0) (pa_cons (pv 1) (pa_cons (pv 2) (pa_cons (pe_call G_last_begin (hr.mono (by decide)) (by rfl) T.g_last_begin T.f_last_begin.kp T.b_last_begin .nil pass0 (pa_cons (pv 0) (pa_cons (pv 1) (pa_cons (pv 2) pa_nil)))) pa_nil))))) pe_int (fun _ _ => rfl)) (pv 5) (nomark _))))))) , ?_⟩)
  · obtain ⟨x, f, t, bf, bt, rfl, _⟩ := h
    rfl
  obtain ⟨x, f, t, bf, bt, rfl, hx, hf, ht, hT, hv⟩ := h
  walk_at "go"
  refine pool_of hx hf ht hT hv fun s p p' xs ys e0 s0 s1 e1 e2 hp hp' v H1 x1 T1 => ?_
  subst e0 e1 e2
  have x30 := hp.l30
  have y30 := hp'.l30
  have r9 := PM.rnd_900 x30 y30
  have hp1 := hp.ext x1
  have hp1' := hp'.ext x1
  walk_at "go"
  refine ⟨p, p', xs, ys, rfl, hp1, hp1', ?_⟩
  refine Go.name rfl ?_
  dsimp only [List.set]
  refine Go.seq (Go.asg ?_)
  refine sumC (n := PM.rnd xs.length ys.length) rfl (fun _ => rfl) (fun _ => rfl) hp1' r9 fun H2 e2 => ?_
  walk_at "go"
  refine ⟨s, p, p', xs, ys, rfl, s0, s1, hp1.same e2, hp1'.same e2, fun H3 e3 => ?_⟩
  walk_at "go"
  refine ⟨s, _, p, p', xs, ys, rfl, (hp1.same e2).same e3, (hp1'.same e2).same e3, fun H4 a e4 na hw => ?_⟩
  obtain ⟨b, h1, h2⟩ := hw.ex
  walk_at "go"
  refine Go.ixT (SqT.of h1) (show atI [_, _, _] 2 = some _ from rfl) ?_
  walk_at "go"
  have e : decide (V.int (outL s xs ys) = V.int (PM.whole ys (PM.rnd xs.length ys.length))) = decide (outL s xs ys = PM.whole ys (PM.rnd xs.length ys.length)) := decide_eq_decide.mpr ⟨fun z => V.int.inj z, fun z => by rw [z]⟩
  show Q (.bl (decide (V.int (outL s xs ys) = V.int (PM.whole ys (PM.rnd xs.length ys.length))))) H4
  rw [e]
  exact v s p p' xs ys rfl rfl rfl hp hp' H4 (x1.trans (Go.ExtX.same ((e2.trans e3).trans e4))) (Go.Tabs_same ((e2.trans e3).trans e4) T1)
/-! ### least_pool -/
def LeastOk (xs ys : List Int) (v : V) : Prop := (v = .non ∧ ∀ s : Int, 0 ≤ s → s ≤ 2000 → PM.lostL s xs ys ≠ 0) ∨ ∃ m : Int, v = .int m ∧ 0 ≤ m ∧ m ≤ 2000 ∧ PM.lostL m xs ys = 0 ∧ (0 < m → PM.lostL (m - 1) xs ys ≠ 0)
def spLeast (TT : List (Addr × Str)) (C : Addr) : Sp := fun vs H Q E => ∃ f t bf bt, vs = [f, t] ∧ ArgF H f bf ∧ ArgF H t bt ∧ LamX.Tabs TT H ∧
  Vd TT C H E (fst_ [oFl bf "flows", oFl bt "takes"]) (∀ p q xs ys, f = .ref p → t = .ref q → Fl H p xs → Fl H q ys → ∀ H' v, Go.Ext TT H H' → LamX.Tabs TT H' → LeastOk xs ys v → Q v H')
include T TT in
theorem ok_least_pool : FnOk P w K mg base (L2.CX P w) 4 (He.ga K "least_pool") (fdOf K "least_pool") ["flows", "takes"] (spLeast (TL PF PL) (He.ga K "BadArgument")) := by
  have G_are_flows := ok_are_flows (P := P) (w := w) (base := base) T TT
  have G_last_begin := ok_last_begin (P := P) (w := w) (base := base) T
  have G_walked := ok_walked (P := P) (w := w) (base := base) T
  obtain ⟨fI, cc, cda, TB⟩ := T.bad
  refine T.f_least_pool.ok sc_least_pool (fun vs H Q E h => ?_) (fun cdv A outer s H vs Q E hr h => ⟨_, (pss_cons (ps_if (pt_not (pt_val (pe_call G_are_flows (hr.mono (by decide)) (by rfl) T.g_are_flows T.f_are_flows.kp T.b_are_flows .nil pass0 (pa_cons (pv 0) pa_nil)))) (pss_one (ps_raiseBad rfl TB hr (takes_of rfl rfl rfl rfl) (pa_cons pe_str pa_nil))) pss_nil)
    (pss_cons (ps_if (pt_not (pt_val (pe_call G_are_flows (hr.mono (by decide)) (by rfl) T.g_are_flows T.f_are_flows.kp T.b_are_flows .nil pass0 (pa_cons (pv 1) pa_nil)))) (pss_one (ps_raiseBad rfl TB hr (takes_of rfl rfl rfl rfl) (pa_cons pe_str pa_nil))) pss_nil)
    (pss_cons (ps_set (i := 2) sc_least_pool.nd rfl (Or.inl rfl) pe_int)
    (pss_cons (ps_set (i := 3) sc_least_pool.nd rfl (Or.inl rfl) (pe_op op_add (pe_glob (v := .int (2000)) rfl (T.c_MOST_SIZE).choose_spec ⟨_, rfl⟩) pe_int))
    (pss_cons (ps_while (passes_of rfl) (pt_cmpR op_lt (pv 2) (pv 3) (nomark _)) (pss_cons (ps_set (i := 4) sc_least_pool.nd rfl (Or.inl rfl) (pe_op op_fdiv (pe_op op_add (pv 2) (pv 3)) pe_int))
    (pss_one (ps_if (PW.pt (pw_or (pt_cmpR op_gt (pv 4) (pe_glob (v := .int (2000)) rfl (T.c_MOST_SIZE).choose_spec ⟨_, rfl⟩) (nomark _)) (pw_or1 (pt_cmpR op_eq (pe_ix (Go.ix_tupK (K := K) rfl) (pe_call G_walked (hr.mono (by decide)) (by rfl) T.g_walked T.f_walked.kp T.b_walked .nil pass0 (pa_cons (pv 4) (pa_cons (pv 0) (pa_cons (pv 1) (pa_cons (pe_call G_last_begin (hr.mono (by decide)) (by rfl) T.g_last_begin T.f_last_begin.kp T.b_last_begin .nil pass0 (pa_cons (pv 4) (pa_cons (pv 0) (pa_cons (pv 1) pa_nil)))) pa_nil))))) pe_int (fun _ _ => rfl)) pe_int (nomark _))))) (pss_one (ps_set (i := 3) sc_least_pool.nd rfl (Or.inl rfl) (pv 4))) (pss_one (ps_set (i := 2) sc_least_pool.nd rfl (Or.inl rfl) (pe_op op_add (pv 4) pe_int)))))))
    (pss_one (ps_ret (pe_ifExp (pt_cmpR op_le (pv 2) (pe_glob (v := .int (2000)) rfl (T.c_MOST_SIZE).choose_spec ⟨_, rfl⟩) (nomark _)) (pv 2) pe_non)))))))) , ?_⟩)
  · obtain ⟨f, t, bf, bt, rfl, _⟩ := h
    rfl
  obtain ⟨f, t, bf, bt, rfl, hf, ht, hT, hv⟩ := h
  walk_at "go"
  refine ⟨f, bf, rfl, hf, hT, fun H1 x1 T1 => ?_⟩
  cases bf with
  | false =>
    walk_at "go"
    exact ⟨_, rfl, by decide +kernel, fun d hd => hv d _ (x1.trans (Go.ExtX.new hd)) upd_same (Go.Tabs_same (Go.same_new hd) T1)⟩
  | true =>
    walk_at "go"
    refine ⟨t, bt, rfl, ht.ext x1, T1, fun H2 x2 T2 => ?_⟩
    cases bt with
    | false =>
      walk_at "go"
      exact ⟨_, rfl, by decide +kernel, fun d hd => hv d _ ((x1.trans x2).trans (Go.ExtX.new hd)) upd_same (Go.Tabs_same (Go.same_new hd) T2)⟩
    | true =>
      obtain ⟨p, xs, rfl, hp⟩ := argF_fl hf
      obtain ⟨q, ys, rfl, hq⟩ := argF_fl ht
      have hx := hp.nn
      have hy := hq.nn
      walk_at "go"
      refine Go.while_ (fun σ H' => ∃ (lo hi : Int) (r : Option V), σ = [some (.ref p), some (.ref q), some (.int lo), some (.int hi), r] ∧ Go.Ext (TL PF PL) H H' ∧ LamX.Tabs (TL PF PL) H' ∧ 0 ≤ lo ∧ lo ≤ hi ∧ hi ≤ 2001 ∧ (lo = 0 ∨ PM.lostL (lo - 1) xs ys ≠ 0) ∧ (hi = 2001 ∨ PM.lostL hi xs ys = 0))
        (fun σ => match σ with | [_, _, some (.int lo), some (.int hi), _] => (hi - lo).toNat | _ => 0) ⟨0, 2001, _, rfl, x1.trans x2, T2, by decide, by decide, by decide, .inl rfl, .inl rfl⟩ ?_
      rintro σ H3 ⟨lo, hi, r, rfl, x3, T3, l0, lh, h1, il, ih⟩
      walk_at "go"
      refine Go.turn (fun c => ?_) (fun c => ?_)
      · have c' : lo < hi := of_decide_eq_true c
        walk_at "go"
        refine Go.i1 (show CDiv _ 2 from ⟨by decide, by decide⟩) ?_
        walk_at "go"
        have m0 : lo ≤ (lo + hi) / 2 := by omega
        have m1 : (lo + hi) / 2 < hi := by omega
        generalize (lo + hi) / 2 = mid at m0 m1
        refine ite2 (fun c2 => ?_) (fun c2 => ?_)
        · exact absurd (of_decide_eq_true c2) (by omega)
        · walk_at "go"
          have hp3 := hp.ext x3
          have hq3 := hq.ext x3
          refine ⟨mid, p, q, xs, ys, rfl, by omega, by omega, hp3, hq3, fun H4 e4 => ?_⟩
          walk_at "go"
          refine ⟨mid, _, p, q, xs, ys, rfl, hp3.same e4, hq3.same e4, fun H5 a e5 na hw => ?_⟩
          obtain ⟨b, g1, g2⟩ := hw.ex
          walk_at "go"
          refine Go.ixT (SqT.of g1) (show atI [_, _, _] 1 = some _ from rfl) ?_
          walk_at "go"
          have x5 := x3.trans (Go.ExtX.same (e4.trans e5))
          have T5 := Go.Tabs_same (e4.trans e5) T3
          refine ite2 (fun c3 => ?_) (fun c3 => ?_)
          · walk_at "go"
            have z : PM.lostL mid xs ys = 0 := V.int.inj (of_decide_eq_true c3)
            exact ⟨by show (mid - lo).toNat < (hi - lo).toNat; omega, lo, mid, _, rfl, x5, T5, l0, m0, by omega, il, .inr z⟩
          · walk_at "go"
            have z : PM.lostL mid xs ys ≠ 0 := fun z => c3 (decide_eq_true (by show V.int (PM.lostL mid xs ys) = _; rw [z]))
            exact ⟨by show (hi - (mid + 1)).toNat < (hi - lo).toNat; omega, mid + 1, hi, _, rfl, x5, T5, by omega, by omega, by omega, .inr (by rw [show mid + 1 - 1 = mid by omega]; exact z), ih⟩
      · have c' : ¬ lo < hi := of_decide_eq_false c
        walk_at "go"
        obtain rfl : lo = hi := by omega
        refine ite2 (fun c2 => ?_) (fun c2 => ?_)
        · walk_at "go"
          have c2' : lo ≤ 2000 := of_decide_eq_true c2
          refine hv p q xs ys rfl rfl hp hq _ _ x3 T3 (.inr ⟨lo, rfl, l0, c2', ?_, fun z => ?_⟩)
          · rcases ih with z | z
            · omega
            · exact z
          · rcases il with z1 | z1
            · omega
            · exact z1
        · walk_at "go"
          have c2' : ¬ lo ≤ 2000 := fun z => c2 (decide_eq_true z)
          refine hv p q xs ys rfl rfl hp hq _ _ x3 T3 (.inl ⟨rfl, fun s s0 s1 z => ?_⟩)
          rcases il with z1 | z1
          · omega
          · exact z1 (PM.lostL_mono hx hy s0 (by omega) z)
end
end QP

set_option Elab.async false
set_option linter.all false
set_option maxRecDepth 100000
set_option maxHeartbeats 2000000

namespace QP
open PySem PySem.Spec PyProof.Rows L2
section
variable {P : Program} {w : World} {K : PySem.W.Frag} {mg : Str → Option Value} {base : Heap} {cF PF cL PL : Addr} (T : Txt P K mg) (TT : TT K mg base cF PF cL PL)
include T in
theorem ok_law_round : FnOk P w K mg base CX0 2 (He.ga K "_law_round") (fdOf K "_law_round") ["flows", "takes"] spRound := by
  have G__law_gcd := ok_law_gcd (P := P) (w := w) (base := base) T
  refine T.f__law_round.ok sc__law_round (fun vs H Q E h => ?_) (fun cdv A outer s H vs Q E hr h => ⟨_, PSs.nox (pss_one (ps_ret (pe_op op_mul (pe_op op_fdiv (pe_callB (Go.c_lenK (K := K) rfl) (by rfl) T.z_len (by decide +kernel) (pa_cons (pv 0) pa_nil)) (pe_call G__law_gcd (hr.mono (by decide)) (by rfl) T.g__law_gcd T.f__law_gcd.kp T.b__law_gcd .nil pass0 (pa_cons (pe_callB (Go.c_lenK (K := K) rfl) (by rfl) T.z_len (by decide +kernel) (pa_cons (pv 0) pa_nil)) (pa_cons (pe_callB (Go.c_lenK (K := K) rfl) (by rfl) T.z_len (by decide +kernel) (pa_cons (pv 1) pa_nil)) pa_nil)))) (pe_callB (Go.c_lenK (K := K) rfl) (by rfl) T.z_len (by decide +kernel) (pa_cons (pv 1) pa_nil))))) , ?_⟩)
  · obtain ⟨p, q, xs, ys, rfl, _⟩ := h
    rfl
  obtain ⟨p, q, xs, ys, rfl, hx, hy, hq⟩ := h
  have ex : (xs.map V.int).length = xs.length := List.length_map _
  have ey : (ys.map V.int).length = ys.length := List.length_map _
  have g1 := PM.gcd_le (b := ys.length) hx.l1
  have x30 := hx.l30
  have y30 := hy.l30
  walk_at "go"
  refine Go.lenT (SqT.of hx.at_) ?_
  walk_at "go"
  refine Go.lenT (SqT.of hx.at_) ?_
  walk_at "go"
  refine Go.lenT (SqT.of hy.at_) ?_
  walk_at "go"
  rw [ex, ey]
  refine ⟨_, _, rfl, Nat.lt_of_le_of_lt (show ((ys.length : Nat) : Int).natAbs ≤ 30 by omega) (by decide), ?_⟩
  show rI _ _ (V.int (xs.length : Nat)) (V.int (Nat.gcd xs.length ys.length : Nat)) _ _
  refine Go.i1 ⟨by omega, by omega⟩ ?_
  walk_at "go"
  refine Go.lenT (SqT.of hy.at_) ?_
  rw [ey]
  refine Go.i1 (.inr ⟨by omega, by omega⟩) ?_
  exact hq
def spLWalk : Sp := fun vs H Q _ => ∃ (s l : Int) (p q : Addr) (xs ys : List Int), vs = [.int s, .ref p, .ref q, .int l] ∧ Fl H p xs ∧ Fl H q ys ∧ ∀ H' a, Same H H' → Wk H' a s l xs ys (PM.rnd xs.length ys.length) → Q (.ref a) H'
include T in
theorem ok_law_walk : FnOk P w K mg base CX0 3 (He.ga K "_law_walk") (fdOf K "_law_walk") ["size", "flows", "takes", "level"] spLWalk := by
  have G__law_round := ok_law_round (P := P) (w := w) (base := base) T
  refine T.f__law_walk.ok sc__law_walk (fun vs H Q E h => ?_) (fun cdv A outer s H vs Q E hr h => ⟨_, PSs.nox (pss_cons (ps_par3 (i := 4) (j := 5) (l := 6) (by rfl) sc__law_walk.nd rfl rfl rfl (by decide) (by decide) (by decide) rfl rfl rfl (pa_cons (pe_lst pa_nil) (pa_cons pe_int (pa_cons pe_int pa_nil))) (by rfl))
    (pss_cons (ps_for PassesOwn.never rfl (pi_range1 (by rfl) T.z_range (pa_cons (pe_call G__law_round (hr.mono (by decide)) (by rfl) T.g__law_round T.f__law_round.kp T.b__law_round .nil pass0 (pa_cons (pv 1) (pa_cons (pv 2) pa_nil))) pa_nil)) (pg_name (i := 7) sc__law_walk.nd rfl (Or.inl rfl)) (pss_cons (ps_set (i := 3) sc__law_walk.nd rfl (Or.inl rfl) (pe_op op_add (pv 3) (pe_ix (Go.ix_tupK (K := K) rfl) (pv 1) (pe_op op_mod (pv 7) (pe_callB (Go.c_lenK (K := K) rfl) (by rfl) T.z_len (by decide +kernel) (pa_cons (pv 1) pa_nil))) (fun _ _ => rfl))))
    (pss_cons (ps_par (i := 5) (j := 3) (by rfl) sc__law_walk.nd rfl rfl (by decide) rfl rfl (pa_cons (pe_op op_add (pv 5) (pe_ifExp (pt_cmpR op_gt (pv 3) (pv 0) (nomark _)) (pe_op op_sub (pv 3) (pv 0)) pe_int)) (pa_cons (pe_ifExp (pt_cmpR op_gt (pv 3) (pv 0) (nomark _)) (pv 0) (pv 3)) pa_nil)) (by rfl))
    (pss_cons (ps_set (i := 8) sc__law_walk.nd rfl (Or.inl rfl) (pe_ifExp (pt_cmpR op_lt (pe_ix (Go.ix_tupK (K := K) rfl) (pv 2) (pe_op op_mod (pv 7) (pe_callB (Go.c_lenK (K := K) rfl) (by rfl) T.z_len (by decide +kernel) (pa_cons (pv 2) pa_nil))) (fun _ _ => rfl)) (pv 3) (nomark _)) (pe_ix (Go.ix_tupK (K := K) rfl) (pv 2) (pe_op op_mod (pv 7) (pe_callB (Go.c_lenK (K := K) rfl) (by rfl) T.z_len (by decide +kernel) (pa_cons (pv 2) pa_nil))) (fun _ _ => rfl)) (pv 3)))
    (pss_cons (ps_par (i := 6) (j := 3) (by rfl) sc__law_walk.nd rfl rfl (by decide) rfl rfl (pa_cons (pe_op op_add (pv 6) (pv 8)) (pa_cons (pe_op op_sub (pv 3) (pv 8)) pa_nil)) (by rfl))
    (pss_one (ps_expr (pe_bm PySem.F.plainAttrs_list PySem.F.slot_list_append PySem.F.type_list_append mt_append (pv 4) (pa_cons (pv 3) pa_nil)))))))))
    (pss_one (ps_ret (pe_tup (pa_cons (pv 4) (pa_cons (pv 5) (pa_cons (pv 6) pa_nil)))))))) , ?_⟩)
  · obtain ⟨s, l, p, q, xs, ys, rfl, _⟩ := h
    rfl
  obtain ⟨s, l, p, q, xs, ys, rfl, hx, hy, hq⟩ := h
  have ex : (xs.map V.int).length = xs.length := List.length_map _
  have ey : (ys.map V.int).length = ys.length := List.length_map _
  have x1 := hx.l1
  have x30 := hx.l30
  have y1 := hy.l1
  have y30 := hy.l30
  have r9 := PM.rnd_900 x30 y30
  walk_at "go"
  refine fun b nb => ?_
  walk_at "go"
  have s0 : Same H (upd H b (.lst [])) := Go.same_new nb
  refine ⟨p, q, xs, ys, rfl, hx.same s0, hy.same s0, ?_⟩
  refine Go.kr1 (by omega) (by omega) ?_
  rw [Int.toNat_natCast]
  refine Go.forR (fun k σ H' => Same H H' ∧ H' b = some (iL (PM.lvls s xs ys l k)) ∧ ∃ (h t : Option V), σ = [some (.int s), some (.ref p), some (.ref q), some (.int (PM.L s xs ys l k)), some (.ref b), some (.int (PM.lost s xs ys l k)), some (.int (PM.out s xs ys l k)), h, t]) ⟨s0, upd_same, _, _, rfl⟩ ?_ ?_
  · rintro k σ H' hk ⟨e, hb, h, t, rfl⟩
    have hx' := hx.same e
    have hy' := hy.same e
    walk_at "go"
    refine Go.lenT (SqT.of hx'.at_) ?_
    walk_at "go"
    rw [ex]
    refine Go.i1 (by omega) ?_
    walk_at "go"
    refine Go.ixT (SqT.of hx'.at_) (hx'.get k) ?_
    walk_at "go"
    refine Go.ifJ (fun v H2 => H2 = H' ∧ v = .int (PM.ls s (PM.at_ xs k) (PM.L s xs ys l k))) (fun c Q q => ?_) (fun c Q q => ?_) ?_
    · walk_at "go"
      refine q _ _ ⟨rfl, ?_⟩
      have := of_decide_eq_true c
      unfold PM.ls
      congr 1
      omega
    · walk_at "go"
      refine q _ _ ⟨rfl, ?_⟩
      have := of_decide_eq_false c
      unfold PM.ls
      congr 1
      omega
    rintro _ H' ⟨rfl, rfl⟩
    walk_at "go"
    refine Go.ifJ (fun v H2 => H2 = H' ∧ v = .int (PM.top_ s (PM.at_ xs k) (PM.L s xs ys l k))) (fun c Q q => ?_) (fun c Q q => ?_) ?_
    · walk_at "go"
      refine q _ _ ⟨rfl, ?_⟩
      have := of_decide_eq_true c
      unfold PM.top_
      congr 1
      omega
    · walk_at "go"
      refine q _ _ ⟨rfl, ?_⟩
      have := of_decide_eq_false c
      unfold PM.top_
      congr 1
      omega
    rintro _ H' ⟨rfl, rfl⟩
    walk_at "go"
    refine Go.lenT (SqT.of hy'.at_) ?_
    walk_at "go"
    rw [ey]
    refine Go.i1 (by omega) ?_
    walk_at "go"
    refine Go.ixT (SqT.of hy'.at_) (hy'.get k) ?_
    walk_at "go"
    refine Go.ifJ (fun v H2 => H2 = H' ∧ v = .int (PM.ou s (PM.at_ xs k) (PM.at_ ys k) (PM.L s xs ys l k))) (fun c Q q => ?_) (fun c Q q => ?_) ?_
    · walk_at "go"
      refine Go.lenT (SqT.of hy'.at_) ?_
      walk_at "go"
      rw [ey]
      refine Go.i1 (by omega) ?_
      walk_at "go"
      refine Go.ixT (SqT.of hy'.at_) (hy'.get k) ?_
      refine q _ _ ⟨rfl, ?_⟩
      have := of_decide_eq_true c
      unfold PM.ou
      congr 1
      omega
    · walk_at "go"
      refine q _ _ ⟨rfl, ?_⟩
      have := of_decide_eq_false c
      unfold PM.ou
      congr 1
      omega
    rintro _ H' ⟨rfl, rfl⟩
    walk_at "go"
    refine ⟨Go.tyL hb, ?_⟩
    walk_at "go"
    have hn : ((PM.lvls s xs ys l k).map V.int).length ≤ 900 := by rw [List.length_map, PM.lvls_len]; omega
    refine Go.app hb (Nat.lt_of_le_of_lt hn (Nat.lt_of_lt_of_eq (by decide) sizeLine_eq.symm)) ?_
    walk_at "go"
    have eL : PM.top_ s (PM.at_ xs k) (PM.L s xs ys l k) - PM.ou s (PM.at_ xs k) (PM.at_ ys k) (PM.L s xs ys l k) = PM.L s xs ys l (k + 1) := rfl
    rw [eL]
    refine ⟨Go.Same.mutL e nb, ?_, _, _, rfl⟩
    rw [upd_same, PM.lvls_succ]
    show some (HO.lst _) = some (HO.lst _)
    rw [List.map_append]
    rfl
  · rintro σ H' ⟨e, hb, h, t, rfl⟩
    walk_at "go"
    intro a na
    have e2 : Same H' (upd H' a (.tup [.ref b, .int (PM.lost s xs ys l (PM.rnd xs.length ys.length)), .int (PM.out s xs ys l (PM.rnd xs.length ys.length))])) := Go.same_new na
    exact hq _ _ (e.trans e2) ⟨b, upd_same, e2 _ _ hb⟩
theorem atI_last {α : Type} {xs : List α} {v : α} (h0 : 1 ≤ xs.length) (h : xs[xs.length - 1]? = some v) : atI xs (-1) = some v := by
  have e : ixN xs.length (-1) = some (xs.length - 1) := by
    unfold ixN
    rw [if_neg (by decide), if_pos (by omega)]
    congr 1
    omega
  unfold atI
  rw [e]
  exact h
include T in
theorem ok_law_last : FnOk P w K mg base CX0 4 (He.ga K "_law_last") (fdOf K "_law_last") ["size", "flows", "takes"] spLast := by
  have G__law_walk := ok_law_walk (P := P) (w := w) (base := base) T
  refine T.f__law_last.ok sc__law_last (fun vs H Q E h => ?_) (fun cdv A outer s H vs Q E hr h => ⟨_, PSs.nox (pss_cons (ps_set (i := 3) sc__law_last.nd rfl (Or.inl rfl) pe_int)
    (pss_cons (ps_for PassesOwn.never rfl (pi_range1 (by rfl) T.z_range (pa_cons (pe_op op_add (pv 0) pe_int) pa_nil)) (pg_name (i := 4) sc__law_last.nd rfl (Or.inl rfl)) (pss_one (ps_set (i := 3) sc__law_last.nd rfl (Or.inl rfl) (pe_ix (Go.ix_listK (K := K) rfl) (pe_ix (Go.ix_tupK (K := K) rfl) (pe_call G__law_walk (hr.mono (by decide)) (by rfl) T.g__law_walk T.f__law_walk.kp T.b__law_walk .nil pass0 (pa_cons (pv 0) (pa_cons (pv 1) (pa_cons (pv 2) (pa_cons (pv 3) pa_nil))))) pe_int (fun _ _ => rfl)) (pe_un un_neg pe_int) (fun _ _ => rfl)))))
    (pss_one (ps_ret (pv 3))))) , ?_⟩)
  · obtain ⟨s, p, q, xs, ys, rfl, _⟩ := h
    rfl
  obtain ⟨s, p, q, xs, ys, rfl, s0, s1, hx, hy, hq⟩ := h
  walk_at "go"
  refine Go.kr1 (by omega) (by omega) ?_
  refine Go.forR (fun k σ H' => Same H H' ∧ ∃ t, σ = [some (.int s), some (.ref p), some (.ref q), some (.int (PM.iter (PM.F s xs ys) k)), t]) ⟨Same.refl _, _, rfl⟩ ?_ ?_
  · rintro k σ H' hk ⟨e, t, rfl⟩
    walk_at "go"
    refine ⟨s, _, p, q, xs, ys, rfl, hx.same e, hy.same e, fun H2 a e2 hw => ?_⟩
    obtain ⟨b, h1, h2⟩ := hw.ex
    walk_at "go"
    refine Go.ixT (SqT.of h1) (show atI [_, _, _] 0 = some _ from rfl) ?_
    walk_at "go"
    have r1 := PM.rnd_pos hx.l1 hy.l1
    have eg : atI ((PM.lvls s xs ys (PM.iter (PM.F s xs ys) k) (PM.rnd xs.length ys.length)).map V.int) (-1) = some (.int (PM.iter (PM.F s xs ys) (k + 1))) := by
      have el : ((PM.lvls s xs ys (PM.iter (PM.F s xs ys) k) (PM.rnd xs.length ys.length)).map V.int).length = PM.rnd xs.length ys.length := by rw [List.length_map, PM.lvls_len]
      refine atI_last (by rw [el]; exact r1) ?_
      rw [el, List.getElem?_map, PM.lvls_get (by omega)]
      have : PM.rnd xs.length ys.length - 1 + 1 = PM.rnd xs.length ys.length := by omega
      rw [this]
      rfl
    refine Go.ixL (SqL.of h2) eg ?_
    walk_at "go"
    exact ⟨e.trans e2, _, rfl⟩
  · rintro σ H' ⟨e, t, rfl⟩
    walk_at "go"
    rw [show (s + 2).toNat = s.toNat + 2 by omega]
    exact hq _ e
end
end QP

set_option Elab.async false
set_option linter.all false
set_option maxRecDepth 100000
set_option maxHeartbeats 2000000

namespace QP
open PySem PySem.Spec PyProof.Rows L2
theorem hu64 {k : Nat} {A : Around} (hr : Room k A) : A.units + 64 < cLine := by have := hr.un; omega
section
variable {P : Program} {w : World} {K : PySem.W.Frag} {mg : Str → Option Value} {base : Heap} {cF PF cL PL : Addr} (T : Txt P K mg) (TT : TT K mg base cF PF cL PL)
include T TT in
theorem pe_ref {X : Cx} {params : Arguments} {body : Expr} {scope : Scope} {t : XK → TE} {p lpos pos : Pos} (hP : X.prog = P) (hK : X.K = K) (hm : X.mg = mg) (hb : X.base = base) (hg : Gl X "_law_refused") (hq : X.env.qual ++ "<lambda>" = qL) (hcode : X.env.code = .ref cL) (hr : Room 7 X.A) (hsc : X.env.scope = defScope s__law_right) (hL : LamX.lamSB (defScope s__law_right) scope = true)
    (hdef : defaultsOf params X.env = ([], [])) (hbind : ∀ (q : Str) (cl : List (Str × Addr)) (pm cv ctv : Value), bindArgs (PySem.W.kla_fn "<lambda>" q params body scope cl pm cv ctv) ⟨[], []⟩ = pure [])
    (hbody : ∀ (A : Around) (outer : List Env) (s : Shared) (H : Hp) (E : XK) (f c' : Addr), Room 5 (A.deeper (LamX.lamEnv X scope s.heap.objs.size f c')) → PE (LamX.lamCx X A outer s H E scope f c') body (t E)) :
    PE X (.Call (.Name "_law_refused" p) [.Lambda params body scope lpos] [] pos) (LamX.tLam (TL PF PL) (QR.TRef (He.ga K "BadArgument")) t) := by
  have L : LamX.LamS X.env.scope scope := hsc ▸ LamX.lamS_by hL
  subst hP hK hm hb
  obtain ⟨fI, cc, cda, TB⟩ := T.bad
  have hbd := T.b__law_refused
  have kp := T.f__law_refused.kp
  obtain ⟨oc, od, dV, kV, doc, pm, an, cdv, ct, osl, efd, lk, hcd, hD, _⟩ := T.f__law_refused.ex
  rw [efd] at lk hbd
  have mL := TT.mL
  have uL := TT.uL
  rw [← hq] at mL uL
  exact LamX.pe_lamcall hg T.g__law_refused kp lk hcd hbd QR.scRef rfl (by first | exact Or.inl rfl | exact Or.inr (Or.inl rfl)) (QR.ref_gives TB) TT.tL hcode mL uL hr L hdef hbind hbody
def spRight (TT : List (Addr × Str)) : Sp := fun vs H Q _ => ∃ d, vs = [.ref d] ∧ LamX.Tabs TT H ∧ DiceAt H d 0 ∧ ∀ H', Go.ExtD TT d H H' → LamX.Tabs TT H' → Q (.bl true) H'
/-- the dice stand, the tables are good -/
def Ok1 (TT : List (Addr × Str)) (d : Addr) (N : Nat) (H : Hp) : Prop := LamX.Tabs TT H ∧ DiceAt H d N
theorem DOk.mono {a m c : Int} {N N' : Nat} (h : DOk a m c N) (hn : N ≤ N') : DOk a m c N' := ⟨h.a0, h.m0, h.m1, h.c0, by have := h.c1; omega⟩
theorem Ok1.mono {TT : List (Addr × Str)} {d : Addr} {N N' : Nat} {H : Hp} (h : Ok1 TT d N H) (hn : N ≤ N') : Ok1 TT d N' H :=
  ⟨h.1, let ⟨a, m, c, e, o⟩ := h.2; ⟨a, m, c, e, o.mono hn⟩⟩
theorem DiceAt.lst {H : Hp} {d : Addr} {N : Nat} (h : DiceAt H d N) : ∃ ys, H d = some (.lst ys) := let ⟨_, _, _, e, _⟩ := h; ⟨_, e⟩
theorem Ok1.put {TT : List (Addr × Str)} {d : Addr} {N : Nat} {H : Hp} (h : Ok1 TT d N H) {u : HO} {N' : Nat} (hu : ∃ a m c, u = DiceL a m c ∧ DOk a m c N') : Ok1 TT d N' (upd H d u) ∧ Go.ExtD TT d H (upd H d u) := by
  obtain ⟨ys, e⟩ := h.2.lst
  obtain ⟨a, m, c, rfl, o⟩ := hu
  exact ⟨⟨Go.Tabs_put e (fun _ z => by cases z) (fun _ _ => Go.lst_code) h.1, a, m, c, upd_same, o⟩, Go.ExtX.putL rfl e⟩
theorem Ok1.ext {TT : List (Addr × Str)} {d : Addr} {N : Nat} {H H' : Hp} (h : Ok1 TT d N H) (e : Go.Ext TT H H') : Ok1 TT d N H' := ⟨e.2 h.1, let ⟨a, m, c, q, o⟩ := h.2; ⟨a, m, c, Go.ExtX.lst e (fun z => z) q, o⟩⟩
theorem Fl.extD {TT : List (Addr × Str)} {d p : Addr} {N : Nat} {H H' : Hp} {xs : List Int} (h : Fl H p xs) (e : Go.ExtD TT d H H') (hd : Ok1 TT d N H) : Fl H' p xs := by
  obtain ⟨ys, q⟩ := hd.2.lst
  exact ⟨h.toFlN, Go.ExtX.tup e (ne_of h.at_ q fun z => by cases z) h.at_⟩
theorem roll1 {TT : List (Addr × Str)} {d : Addr} {N : Nat} {H : Hp} {n : Int} {Q : VK} {E : XK} (h : Ok1 TT d N H) (hN : N ≤ 1000) (n0 : 0 < n) (n1 : n < 1073741824) (q : ∀ r H', 0 ≤ r → r < n → Ok1 TT d (N + 1) H' → Go.ExtD TT d H H' → (∀ b, b ≠ d → H' b = H b) → Q (.int r) H') : spRoll [.ref d, .int n] H Q E :=
  ⟨d, n, N, rfl, h.2, by omega, n0, n1, fun r u r0 r1 hu => q r _ r0 r1 (h.put hu).1 (h.put hu).2 fun b hb => upd_ne hb⟩
theorem pick1 {TT : List (Addr × Str)} {d b : Addr} {N : Nat} {H : Hp} {xs : List V} {Q : VK} {E : XK} (h : Ok1 TT d N H) (hN : N ≤ 1000) (hb : H b = some (.lst xs)) (hbd : b ≠ d) (l0 : 0 < xs.length) (l1 : xs.length ≤ 1000) (q : ∀ v H', v ∈ xs → Ok1 TT d (N + 1) H' → Go.ExtD TT d H H' → (∀ b, b ≠ d → H' b = H b) → Q v H') : spPick [.ref d, .ref b] H Q E :=
  ⟨d, b, N, xs, rfl, h.2, by omega, hb, hbd, l0, l1, fun j v u hv hu => q v _ (List.mem_of_getElem? hv) (h.put hu).1 (h.put hu).2 fun b hb => upd_ne hb⟩
/-- a drawn run of flows -/
theorem flowsC {K : PySem.W.Frag} {TT : List (Addr × Str)} {d : Addr} {N : Nat} {n : Int} {σ : L2.St} {H : Hp} {Q : VK} (e0 : σ[0]? = some (some (.ref d))) (e1 : ∀ x, ((σ.set 2 none).set 2 x)[0]? = some (some (.ref d))) (h : Ok1 TT d N H) (hN : N ≤ 500) (n0 : 0 < n) (n1 : n ≤ 1000) (q : ∀ H' p xs, Fl H' p xs → Ok1 TT d (N + 20) H' → Go.ExtD TT d H H' → Q (.ref p) H') :
    tCB (Go.rTupO K) (tCons (tLc (iRng1 (tCons (tOp (rI0 fun i j => V.int (i + j)) (tC (V.int 1)) (tCall spRoll [] E0 (tCons (tVar 0) (tCons (tC (V.int 4)) tNil)))) tNil)) (gName 2) tYes
      (tCall spPick [] E0 (tCons (tVar 0) (tCons (tLst (tCons (tC (V.int 0)) (tCons (tCall spRoll [] E0 (tCons (tVar 0) (tCons (tC (V.int n)) tNil))) tNil))) tNil))) [2]) tNil) σ H Q := by
  refine Go.cb (Go.cons (Go.lc_ (Go.rng1 (Go.cons (Go.op (Go.con (Go.call (Go.cons (Go.var e0 (Go.cons (Go.con (Go.nil ?_)))))))))))) 
  refine roll1 h (by omega) (by decide) (by decide) fun r H1 r0 r1 o1 x1 k1 => ?_
  refine Go.i0 (Go.nil (Go.kr1 (by omega) (by omega) ?_))
  obtain ⟨m, rfl⟩ : ∃ m : Nat, r = m := ⟨r.toNat, by omega⟩
  rw [show (1 + (m : Int)).toNat = m + 1 by omega]
  refine Go.lcR (m := m + 1) (fun D k H' => Go.ExtD TT d H1 H' ∧ Ok1 TT d (N + 1 + 2 * k) H' ∧ ∃ ns : List Int, H' D = some (.lst (ns.map V.int)) ∧ ns.length = k ∧ ∀ x ∈ ns, 0 ≤ x ∧ x ≤ 1000) (fun D hD => ⟨Go.ExtX.new hD, o1.ext (Go.ExtX.new hD), [], upd_same, rfl, fun x hx => by cases hx⟩) (fun D k H' hD hk ⟨e, o, ns, hd, hl, hb⟩ => ?_) fun D H' hD ⟨e, o, ns, hd, hl, hb⟩ => ?_
  · obtain ⟨ys, hdd⟩ := o1.2.lst
    have Dd : D ≠ d := (ne_of_none hdd hD).symm
    refine Go.call (Go.cons (Go.var (e1 _) (Go.cons (Go.lst (Go.cons (Go.con (Go.cons (Go.call (Go.cons (Go.var (e1 _) (Go.cons (Go.con (Go.nil ?_))))))))))))) 
    refine roll1 o (by omega) n0 (by omega) fun r2 H2 r20 r21 o2 x2 k2 => ?_
    refine Go.nil (Go.klst (Nat.le_of_ble_eq_true rfl) fun b nb => Go.nil ?_)
    have xb : Go.Ext TT H2 (upd H2 b (.lst [.int 0, .int r2])) := Go.ExtX.new nb
    obtain ⟨zs, hdz⟩ := o2.2.lst
    refine pick1 (o2.ext xb) (by omega) upd_same (ne_of_none hdz nb).symm (Nat.zero_lt_succ _) (Nat.le_of_ble_eq_true rfl) fun v H3 hv o3 x3 k3 => ?_
    obtain ⟨i, rfl, i0, i1⟩ : ∃ i : Int, v = .int i ∧ 0 ≤ i ∧ i ≤ 1000 := by
      rcases List.mem_cons.mp hv with rfl | hv
      · exact ⟨0, rfl, by decide, by decide⟩
      · rw [List.mem_singleton.mp hv]
        exact ⟨r2, rfl, r20, by omega⟩
    have h2 : H2 D = some (.lst (ns.map V.int)) := (k2 D Dd).trans hd
    have Db : D ≠ b := ne_of_none h2 nb
    have h3 : H3 D = some (.lst (ns.map V.int)) := (k3 D Dd).trans ((upd_ne Db).trans h2)
    have e3 : Go.ExtD TT d H1 H3 := ((e.trans x2).trans xb.wide).trans x3
    refine Go.kel h3 ?_ ⟨Go.ExtX.mutL e3 hD h3, ⟨(Go.ExtX.mutL e3 hD h3).2 o1.1, ?_⟩, ns ++ [i], ?_, ?_, ?_⟩
    · rw [List.length_map]
      exact Nat.lt_of_le_of_lt (show ns.length ≤ 10 by omega) (Nat.lt_of_lt_of_eq (by decide) sizeLine_eq.symm)
    · obtain ⟨a', m', c', q1, q2⟩ := o3.2
      exact ⟨a', m', c', by rw [upd_ne Dd.symm]; exact q1, q2.mono (by omega)⟩
    · rw [upd_same, List.map_append]
      rfl
    · rw [List.length_append, hl]
      rfl
    · intro x hx
      rcases List.mem_append.mp hx with hx | hx
      · exact hb x hx
      · rw [List.mem_singleton.mp hx]
        exact ⟨i0, i1⟩
  · refine Go.nil (Go.tupL (SqL.of hd) fun p np => ?_)
    have xb : Go.Ext TT H' (upd H' p (.tup (ns.map V.int))) := Go.ExtX.new np
    exact q _ p ns ⟨⟨by omega, by omega, hb⟩, upd_same⟩ ((o.ext xb).mono (by omega)) ((x1.trans e).trans xb.wide)
theorem sumK {K : PySem.W.Frag} {h i : Nat} {p : Addr} {xs : List Int} {n : Nat} {σ : L2.St} {H : Hp} {Q : VK} (ei : ∀ x, ((σ.set h none).set h x)[i]? = some (some (.ref p))) (eh : ∀ x, ((σ.set h none).set h x)[h]? = some x) (hx : Fl H p xs) (hn : n ≤ 900) (q : ∀ H', Same H H' → Q (.int (PM.whole xs n)) H') :
    Go.KR1 (Go.KLc (gName h) tYes (tOp (rIxT K) (tVar i) (tOp (rI (fun _ j => 0 < j) fun i j => V.int (i % j)) (tVar h) (tCB (Go.rLenS K) (tCons (tVar i) tNil)))) [h] σ fun x H1 => tNil σ H1 fun ys H2 => rSum K (x :: ys) H2 Q) [.int n] H := by
  refine Go.kr1 (by omega) (by omega) ?_
  rw [Int.toNat_natCast]
  refine Go.lcR (m := n) (fun D k H' => Same H H' ∧ H' D = some (.lst ((List.range k).map fun j => V.int (PM.at_ xs j)))) (fun D hD => ⟨Go.same_new hD, upd_same⟩) (fun D k H' hD hk ⟨e, hd⟩ => ?_) fun D H' hD ⟨e, hd⟩ => ?_
  · have hx' := hx.same e
    refine Go.op (Go.var (ei _) (Go.op (Go.var (eh _) (Go.cb (Go.cons (Go.var (ei _) (Go.nil (Go.lenT (SqT.of hx'.at_) ?_))))))))
    rw [List.length_map]
    have l1 := hx.l1
    refine Go.i1 (by omega) ?_
    refine Go.ixT (SqT.of hx'.at_) (hx'.get k) ?_
    refine Go.kel hd ?_ ⟨Go.Same.mutL e hD, ?_⟩
    · rw [List.length_map, List.length_range]
      exact Nat.lt_of_lt_of_le hk (Nat.le_trans hn (Nat.le_of_lt (Nat.lt_of_lt_of_eq (by decide) sizeLine_eq.symm)))
    · rw [upd_same, List.range_succ, List.map_append]
      rfl
  · refine Go.nil (Go.sum_ (ns := (List.range n).map (PM.at_ xs)) (SqL.of ?_) ?_)
    · rw [hd, List.map_map]
      rfl
    · rw [whole_sum]
      exact q H' e
theorem Fl.inj {H : Hp} {p : Addr} {xs ys : List Int} (h : Fl H p xs) (h' : Fl H p ys) : xs = ys := by
  have e := h.at_.symm.trans h'.at_
  have e2 : xs.map V.int = ys.map V.int := HO.tup.inj (Option.some.inj e)
  exact (List.map_inj_right fun _ _ z => V.int.inj z).mp e2
theorem vd3 {TT : List (Addr × Str)} {C : Addr} {H : Hp} {E : XK} {s : Int} {Kk : Prop} (s0 : 0 ≤ s) (s1 : s ≤ 2000) (k : Kk) : Vd TT C H E (fst_ [oSize (.int s), oFl true "flows", oFl true "takes"]) Kk := by
  have e : oSize (.int s) = none := if_pos (inB_iff.mpr ⟨s, rfl, s0, s1⟩)
  rw [e]
  exact k
/-- asked with good arguments -/
theorem ask1 {TT : List (Addr × Str)} {C : Addr} {R : Int → List Int → List Int → Hp → (V → Hp → Prop) → Prop} {s : Int} {p q : Addr} {xs ys : List Int} {H : Hp} {Q : VK} {E : XK} (s0 : 0 ≤ s) (s1 : s ≤ 2000) (hx : Fl H p xs) (hy : Fl H q ys) (hT : LamX.Tabs TT H) (k : R s xs ys H Q) : spAsk TT C R [.int s, .ref p, .ref q] H Q E := by
  refine ⟨_, _, _, true, true, rfl, .int s, hx.arg, hy.arg, hT, vd3 s0 s1 fun s' p' q' xs' ys' e1 e2 e3 hx' hy' => ?_⟩
  cases e1
  cases e2
  cases e3
  rw [← hx.inj hx', ← hy.inj hy']
  exact k
theorem levels1 {TT : List (Addr × Str)} {C : Addr} {s l : Int} {p q : Addr} {xs ys : List Int} {H : Hp} {Q : VK} {E : XK} (s0 : 0 ≤ s) (s1 : s ≤ 2000) (l0 : 0 ≤ l) (l1 : l ≤ s) (hx : Fl H p xs) (hy : Fl H q ys) (hT : LamX.Tabs TT H) (k : ∀ H' a, Go.Ext TT H H' → LamX.Tabs TT H' → H' a = some (.tup ((PM.lvls s xs ys l (PM.rnd xs.length ys.length)).map V.int)) → Q (.ref a) H') : spLevels TT C [.int s, .ref p, .ref q, .int l] H Q E := by
  refine ⟨_, _, _, _, true, true, rfl, .int s, hx.arg, hy.arg, .int l, hT, vd3 s0 s1 ⟨s, rfl, fun z => ?_, fun p' q' xs' ys' l' e1 e2 hx' hy' e3 _ _ => ?_⟩⟩
  · have : inB (.int l) 0 s = true := inB_iff.mpr ⟨l, rfl, l0, l1⟩
    rw [this] at z
    cases z
  · cases e1
    cases e2
    cases e3
    rw [← hx.inj hx', ← hy.inj hy']
    exact k
theorem least1 {TT : List (Addr × Str)} {C : Addr} {p q : Addr} {xs ys : List Int} {H : Hp} {Q : VK} {E : XK} (hx : Fl H p xs) (hy : Fl H q ys) (hT : LamX.Tabs TT H) (k : ∀ H' v, Go.Ext TT H H' → LamX.Tabs TT H' → LeastOk xs ys v → Q v H') : spLeast TT C [.ref p, .ref q] H Q E := by
  refine ⟨_, _, true, true, rfl, hx.arg, hy.arg, hT, fun p' q' xs' ys' e1 e2 hx' hy' => ?_⟩
  cases e1
  cases e2
  rw [← hx.inj hx', ← hy.inj hy']
  exact k
theorem told1 {TT : List (Addr × Str)} {C : Addr} {sp : Sp} {tu : TA} {vs : List V} {σ : L2.St} {H : Hp} {Q : VK} {z : Str} (hT : LamX.Tabs TT H) (ht : ∀ H1 (QA : List V → Hp → Prop), QA vs H1 → tu σ H1 QA) (hs : ∀ H1 Q' E', Go.Ext TT H H1 → LamX.Tabs TT H1 → Rf TT C H1 E' z → sp vs H1 Q' E') (q : ∀ H2, Go.Ext TT H H2 → LamX.Tabs TT H2 → Q (.str z) H2) :
    LamX.tLam TT (QR.TRef C) (fun E => tCall sp [] E tu) σ H Q := by
  refine ⟨hT, fun H1 e1 T1 => ?_⟩
  have x1 : Go.Ext TT H H1 := Go.Ext.lam e1 T1
  show tCall sp [] _ tu σ H1 _
  refine Go.call (ht H1 _ ?_)
  rw [List.append_nil]
  exact hs H1 _ _ x1 T1 fun d H2 x2 hd T2 => ⟨rfl, d, z, rfl, hd, q H2 (x1.trans x2) T2⟩
theorem vdz {TT : List (Addr × Str)} {C : Addr} {H : Hp} {E : XK} {o : Option Str} {z : Str} {Kk : Prop} (e : o = some z) (h : Rf TT C H E z) : Vd TT C H E o Kk := by
  rw [e]
  exact h
theorem oSize_ok {s : Int} (s0 : 0 ≤ s) (s1 : s ≤ 2000) : oSize (.int s) = none := if_pos (inB_iff.mpr ⟨s, rfl, s0, s1⟩)
theorem ArgF.extD {TT : List (Addr × Str)} {d : Addr} {H H' : Hp} {x : V} {b : Bool} (e : Go.ExtD TT d H H') (hx : x ≠ .ref d) (h : ArgF H x b) : ArgF H' x b := by
  cases h with
  | non => exact .non
  | lst h => exact .lst (Go.ExtX.lst e (fun z => hx (by rw [z])) h)
  | tup h1 h2 h3 => exact .tup (Go.ExtX.tup e (fun z => hx (by rw [z])) h1) h2 h3
/-- what the least pool and one less are held against -/
def Gd (xs ys : List Int) (v : V) (g : Bool) : Prop := v = .non ∨ ∃ i : Int, v = .int i ∧ (0 ≤ i → i ≤ 2000 ∧ decide (PM.lostL i xs ys = 0) = g)
end
end QP

set_option Elab.async false
set_option linter.all false
set_option maxRecDepth 100000
set_option maxHeartbeats 2000000

namespace QP
open PySem PySem.Spec PyProof.Rows L2
section
variable {K : PySem.W.Frag} {PF PL : Addr}
def tBadL (K : PySem.W.Frag) : TA := tCons (tC V.non) (tCons (tTup tNil) (tCons (tLst (tCons (tC (V.int 1)) tNil)) (tCons (tTup (tCons (tUn (rU fun i => V.int (-i)) (tC (V.int 1))) tNil)) (tCons (tTup (tCons (tC (V.int 1001)) tNil))
  (tCons (tOp (rRepT K) (tTup (tCons (tC (V.int 1)) tNil)) (tC (V.int 31))) (tCons (tTup (tCons (tC (V.bl true)) tNil)) tNil))))))
def lamc (PF PL C : Addr) (sp : Sp) (tu : TA) : TE := LamX.tLam (TL PF PL) (QR.TRef C) fun E2 => tCall sp [] E2 tu
def tTold (PF PL C : Addr) : TA :=
  tCons (lamc PF PL C (spLevels (TL PF PL) C) (tCons (tUn (rU fun i => V.int (-i)) (tC (V.int 1))) (tCons (tC V.non) (tCons (tC V.non) (tCons (tC V.non) tNil)))))
  (tCons (lamc PF PL C (spLevels (TL PF PL) C) (tCons (tVar 1) (tCons (tVar 15) (tCons (tC V.non) (tCons (tC V.non) tNil)))))
  (tCons (lamc PF PL C (spLevels (TL PF PL) C) (tCons (tVar 1) (tCons (tVar 3) (tCons (tVar 15) (tCons (tC V.non) tNil)))))
  (tCons (lamc PF PL C (spLevels (TL PF PL) C) (tCons (tVar 1) (tCons (tVar 3) (tCons (tVar 4) (tCons (tOp (rI0 fun i j => V.int (i + j)) (tVar 1) (tC (V.int 1))) tNil)))))
  (tCons (lamc PF PL C (spAsk (TL PF PL) C (rInt (TL PF PL) fun s xs ys => .int (PM.last s xs ys))) (tCons (tC (V.int 2001)) (tCons (tVar 3) (tCons (tVar 4) tNil))))
  (tCons (lamc PF PL C (spAsk (TL PF PL) C (rLost (TL PF PL))) (tCons (tVar 1) (tCons (tVar 3) (tCons (tVar 15) tNil))))
  (tCons (lamc PF PL C (spAsk (TL PF PL) C (rInt (TL PF PL) fun s xs ys => .int (outL s xs ys))) (tCons (tVar 1) (tCons (tVar 15) (tCons (tVar 4) tNil))))
  (tCons (lamc PF PL C (spAsk (TL PF PL) C (rInt (TL PF PL) fun s xs ys => .bl (decide (outL s xs ys = PM.whole ys (PM.rnd xs.length ys.length))))) (tCons (tC V.non) (tCons (tVar 3) (tCons (tVar 4) tNil))))
  (tCons (lamc PF PL C (spLeast (TL PF PL) C) (tCons (tVar 15) (tCons (tVar 4) tNil)))
  (tCons (lamc PF PL C (spLeast (TL PF PL) C) (tCons (tVar 3) (tCons (tVar 15) tNil))) tNil)))))))))
def tDue : TA := tCons (tC (V.str "size")) (tCons (tC (V.str "flows")) (tCons (tC (V.str "takes")) (tCons (tC (V.str "begin")) (tCons (tC (V.str "size")) (tCons (tC (V.str "takes")) (tCons (tC (V.str "flows")) (tCons (tC (V.str "size")) (tCons (tC (V.str "flows")) (tCons (tC (V.str "takes")) tNil)))))))))
def tTail (K : PySem.W.Frag) (PF PL C : Addr) : TS := tSeq (tAsg (tCall spPick [] E0 (tCons (tVar 0) (tCons (tLst (tBadL K)) tNil))) (gName 15))
  (tSeq (tAsg (tLst (tTold PF PL C)) (gName 16)) (tSeq (tAsg (tLst tDue) (gName 17)) (tRet (tOp (rEqD K) (tVar 16) (tVar 17)))))
/-- the list of wrong runs -/
theorem badL {TT : List (Addr × Str)} {d : Addr} {N : Nat} {σ : L2.St} {H : Hp} {QA : List V → Hp → Prop} (h : Ok1 TT d N H) (q : ∀ xs H', xs.length = 7 → Same H H' → (∀ x ∈ xs, ArgF H' x false ∧ x ≠ .ref d) → QA xs H') : tBadL K σ H QA := by
  obtain ⟨ys, hd⟩ := h.2.lst
  unfold tBadL
  walk_at "go"
  intro p1 n1
  have s1 : Same H (upd H p1 (.tup [])) := Go.same_new n1
  have f1 : upd H p1 (.tup []) p1 = some (.tup []) := upd_same
  generalize upd H p1 (.tup []) = H1 at s1 f1 ⊢
  walk_at "go"
  intro p2 n2
  have d2 : p2 ≠ d := (ne_of_none (s1 _ _ hd) n2).symm
  have s2 : Same H1 (upd H1 p2 (.lst [.int 1])) := Go.same_new n2
  have f2 : upd H1 p2 (.lst [.int 1]) p2 = some (.lst [.int 1]) := upd_same
  generalize upd H1 p2 (.lst [.int 1]) = H2 at s2 f2 ⊢
  walk_at "go"
  intro p3 n3
  have s3 : Same H2 (upd H2 p3 (.tup [.int (-1)])) := Go.same_new n3
  have f3 : upd H2 p3 (.tup [.int (-1)]) p3 = some (.tup [.int (-1)]) := upd_same
  generalize upd H2 p3 (.tup [.int (-1)]) = H3 at s3 f3 ⊢
  walk_at "go"
  intro p4 n4
  have s4 : Same H3 (upd H3 p4 (.tup [.int 1001])) := Go.same_new n4
  have f4 : upd H3 p4 (.tup [.int 1001]) p4 = some (.tup [.int 1001]) := upd_same
  generalize upd H3 p4 (.tup [.int 1001]) = H4 at s4 f4 ⊢
  walk_at "go"
  intro p5 n5
  have s5 : Same H4 (upd H4 p5 (.tup [.int 1])) := Go.same_new n5
  have f5 : upd H4 p5 (.tup [.int 1]) p5 = some (.tup [.int 1]) := upd_same
  generalize upd H4 p5 (.tup [.int 1]) = H5 at s5 f5 ⊢
  walk_at "go"
  refine ⟨p5, 31, [.int 1], rfl, rfl, SqT.of f5, by simp, by decide, by decide, by simp, fun p6 n6 => ?_⟩
  have s6 : Same H5 (upd H5 p6 (.tup (List.replicate (31 : Int).toNat [V.int 1]).flatten)) := Go.same_new n6
  have f6 : upd H5 p6 (.tup (List.replicate (31 : Int).toNat [V.int 1]).flatten) p6 = some (.tup (List.replicate (31 : Int).toNat [V.int 1]).flatten) := upd_same
  generalize upd H5 p6 (.tup (List.replicate (31 : Int).toNat [V.int 1]).flatten) = H6 at s6 f6 ⊢
  walk_at "go"
  intro p7 n7
  have s7 : Same H6 (upd H6 p7 (.tup [.bl true])) := Go.same_new n7
  have f7 : upd H6 p7 (.tup [.bl true]) p7 = some (.tup [.bl true]) := upd_same
  generalize upd H6 p7 (.tup [.bl true]) = H7 at s7 f7 ⊢
  walk_at "go"
  have sall : Same H H7 := (((((s1.trans s2).trans s3).trans s4).trans s5).trans s6).trans s7
  have nt : ∀ {pp xs}, H7 pp = some (.tup xs) → V.ref pp ≠ .ref d := fun hh z => by
    have := V.ref.inj z
    rw [this, sall _ _ hd] at hh
    cases hh
  have tupF : ∀ {pp : Addr} {xs : List V}, H7 pp = some (.tup xs) → xs.all QG.flatIB = true → xs.length ≤ 1000 → flB xs = false → ArgF H7 (.ref pp) false ∧ V.ref pp ≠ .ref d := fun h1 h2 h3 h4 => ⟨h4 ▸ .tup h1 h2 h3, nt h1⟩
  have a1 : H7 p1 = some (.tup []) := s7 _ _ (s6 _ _ (s5 _ _ (s4 _ _ (s3 _ _ (s2 _ _ f1)))))
  have a2 : H7 p2 = some (.lst [.int 1]) := s7 _ _ (s6 _ _ (s5 _ _ (s4 _ _ (s3 _ _ f2))))
  have a3 : H7 p3 = some (.tup [.int (-1)]) := s7 _ _ (s6 _ _ (s5 _ _ (s4 _ _ f3)))
  have a4 : H7 p4 = some (.tup [.int 1001]) := s7 _ _ (s6 _ _ (s5 _ _ f4))
  have a6 := s7 _ _ f6
  refine q _ H7 rfl sall fun x hx => ?_
  simp only [List.mem_cons, List.not_mem_nil, or_false] at hx
  rcases hx with rfl | rfl | rfl | rfl | rfl | rfl | rfl
  · exact ⟨.non, fun z => by cases z⟩
  · exact tupF a1 rfl (by decide) rfl
  · exact ⟨.lst a2, fun z => d2 (V.ref.inj z)⟩
  · exact tupF a3 rfl (by decide) rfl
  · exact tupF a4 rfl (by decide) rfl
  · exact tupF a6 rfl (by decide) rfl
  · exact tupF f7 rfl (by decide) rfl
theorem tail {C : Addr} {d p q : Addr} {N : Nat} {s : Int} {xs ys : List Int} {H : Hp} {D : Ends} {o2 o5 o6 o7 o8 o9 o10 o11 o12 o13 o14 o15 o16 o17 : Option V} (h : Ok1 (TL PF PL) d N H) (hN : N ≤ 1000) (s0 : 0 ≤ s) (s1 : s ≤ 2000) (hx : Fl H p xs) (hy : Fl H q ys)
    (k : ∀ H', Go.ExtD (TL PF PL) d H H' → LamX.Tabs (TL PF PL) H' → D.rt (.bl true) H') : tTail K PF PL C D [some (.ref d), some (.int s), o2, some (.ref p), some (.ref q), o5, o6, o7, o8, o9, o10, o11, o12, o13, o14, o15, o16, o17] H := by
  unfold tTail
  walk_at "go"
  refine badL h fun bs H1 lb e1 hb => ?_
  have h1 : Ok1 (TL PF PL) d N H1 := h.ext (Go.ExtX.same e1)
  refine Go.klst (by rw [lb]; exact Nat.le_of_ble_eq_true rfl) fun pb nb => ?_
  walk_at "go"
  have e2 : Same H1 (upd H1 pb (.lst bs)) := Go.same_new nb
  obtain ⟨zs, hz⟩ := h1.2.lst
  have x2 : Go.ExtD (TL PF PL) d H (upd H1 pb (.lst bs)) := Go.ExtX.same (e1.trans e2)
  refine pick1 (h1.ext (Go.ExtX.same e2)) hN upd_same (ne_of_none hz nb).symm (by omega) (by omega) fun v H3 hv o3 x3 _ => ?_
  have hvF : ArgF H3 v false := ((hb v hv).1.ext (Go.ExtX.same (T := TL PF PL) e2)).extD x3 (hb v hv).2
  have hx3 : Fl H3 p xs := ((hx.same e1).same e2).extD x3 (h1.ext (Go.ExtX.same e2))
  have hy3 : Fl H3 q ys := ((hy.same e1).same e2).extD x3 (h1.ext (Go.ExtX.same e2))
  have X3 : Go.ExtD (TL PF PL) d H H3 := x2.trans x3
  have T3 := o3.1
  clear x2 x3 hb hv e1 e2 h1 o3 nb lb hx hy h hz
  refine Go.name rfl ?_
  dsimp only [List.set]
  refine Go.seq (Go.asg (Go.lst ?_))
  unfold tTold lamc
  have eS := oSize_ok s0 s1
  refine Go.cons (told1 (z := "size") T3 (fun H1 QA qa => by walk_at "go"; exact qa) (fun H1 Q' E' x T1 r => ⟨_, _, _, _, false, false, rfl, .int _, .non, .non, .non, T1, vdz rfl r⟩) fun H4 x4 T4 => ?_)
  refine Go.cons (told1 (z := "flows") T4 (fun H1 QA qa => by walk_at "go"; exact qa) (fun H1 Q' E' x T1 r => ⟨_, _, _, _, false, false, rfl, .int _, hvF.ext (x4.trans x), .non, .non, T1, vdz (by rw [eS]; rfl) r⟩) fun H5 x5 T5 => ?_)
  have x5' := x4.trans x5
  refine Go.cons (told1 (z := "takes") T5 (fun H1 QA qa => by walk_at "go"; exact qa) (fun H1 Q' E' x T1 r => ⟨_, _, _, _, true, false, rfl, .int _, (hx3.ext (x5'.trans x)).arg, hvF.ext (x5'.trans x), .non, T1, vdz (by rw [eS]; rfl) r⟩) fun H6 x6 T6 => ?_)
  have x6' := x5'.trans x6
  refine Go.cons (told1 (z := "begin") T6 (fun H1 QA qa => by walk_at "go"; exact qa) (fun H1 Q' E' x T1 r => ⟨_, _, _, _, true, true, rfl, .int _, (hx3.ext (x6'.trans x)).arg, (hy3.ext (x6'.trans x)).arg, .int _, T1, vd3 s0 s1 ⟨s, rfl, fun _ => r, fun p' q' xs' ys' l _ _ _ _ e _ l1 => (by cases e; omega)⟩⟩) fun H7 x7 T7 => ?_)
  have x7' := x6'.trans x7
  refine Go.cons (told1 (z := "size") T7 (fun H1 QA qa => by walk_at "go"; exact qa) (fun H1 Q' E' x T1 r => ⟨_, _, _, true, true, rfl, .int _, (hx3.ext (x7'.trans x)).arg, (hy3.ext (x7'.trans x)).arg, T1, vdz rfl r⟩) fun H8 x8 T8 => ?_)
  have x8' := x7'.trans x8
  refine Go.cons (told1 (z := "takes") T8 (fun H1 QA qa => by walk_at "go"; exact qa) (fun H1 Q' E' x T1 r => ⟨_, _, _, true, false, rfl, .int _, (hx3.ext (x8'.trans x)).arg, hvF.ext (x8'.trans x), T1, vdz (by rw [eS]; rfl) r⟩) fun H9 x9 T9 => ?_)
  have x9' := x8'.trans x9
  refine Go.cons (told1 (z := "flows") T9 (fun H1 QA qa => by walk_at "go"; exact qa) (fun H1 Q' E' x T1 r => ⟨_, _, _, false, true, rfl, .int _, hvF.ext (x9'.trans x), (hy3.ext (x9'.trans x)).arg, T1, vdz (by rw [eS]; rfl) r⟩) fun H10 x10 T10 => ?_)
  have x10' := x9'.trans x10
  refine Go.cons (told1 (z := "size") T10 (fun H1 QA qa => by walk_at "go"; exact qa) (fun H1 Q' E' x T1 r => ⟨_, _, _, true, true, rfl, .non, (hx3.ext (x10'.trans x)).arg, (hy3.ext (x10'.trans x)).arg, T1, vdz rfl r⟩) fun H11 x11 T11 => ?_)
  have x11' := x10'.trans x11
  refine Go.cons (told1 (z := "flows") T11 (fun H1 QA qa => by walk_at "go"; exact qa) (fun H1 Q' E' x T1 r => ⟨_, _, false, true, rfl, hvF.ext (x11'.trans x), (hy3.ext (x11'.trans x)).arg, T1, vdz rfl r⟩) fun H12 x12 T12 => ?_)
  have x12' := x11'.trans x12
  refine Go.cons (told1 (z := "takes") T12 (fun H1 QA qa => by walk_at "go"; exact qa) (fun H1 Q' E' x T1 r => ⟨_, _, true, false, rfl, (hx3.ext (x12'.trans x)).arg, hvF.ext (x12'.trans x), T1, vdz rfl r⟩) fun H13 x13 T13 => ?_)
  have x13' := x12'.trans x13
  unfold tDue
  refine Go.nil (Go.klst (Nat.le_of_ble_eq_true rfl) fun pt nt => ?_)
  walk_at "go"
  intro pd nd
  walk_at "go"
  have e13 : Same H13 _ := Go.same_new (o := .lst [.str "size", .str "flows", .str "takes", .str "begin", .str "size", .str "takes", .str "flows", .str "size", .str "flows", .str "takes"]) nt
  have e14 := Go.same_new (o := .lst [.str "size", .str "flows", .str "takes", .str "begin", .str "size", .str "takes", .str "flows", .str "size", .str "flows", .str "takes"]) nd
  have al : ∀ H', DpAll K H' [V.str "size", .str "flows", .str "takes", .str "begin", .str "size", .str "takes", .str "flows", .str "size", .str "flows", .str "takes"] [PyData.str "size", .str "flows", .str "takes", .str "begin", .str "size", .str "takes", .str "flows", .str "size", .str "flows", .str "takes"] := fun H' =>
    .cons (.str _) (.cons (.str _) (.cons (.str _) (.cons (.str _) (.cons (.str _) (.cons (.str _) (.cons (.str _) (.cons (.str _) (.cons (.str _) (.cons (.str _) .nil)))))))))
  refine Go.eqD (.lst (SqL.of (e14 _ _ upd_same)) (al _)) (.lst (SqL.of upd_same) (al _)) (by decide +kernel) (by decide +kernel) ?_
  have ev : PyData.eqv (.list [PyData.str "size", .str "flows", .str "takes", .str "begin", .str "size", .str "takes", .str "flows", .str "size", .str "flows", .str "takes"]) (.list [PyData.str "size", .str "flows", .str "takes", .str "begin", .str "size", .str "takes", .str "flows", .str "size", .str "flows", .str "takes"]) = true := by
    simp [PyData.eqv, PyData.eqvAll]
  rw [ev]
  exact k _ (X3.trans (Go.Ext.wide (x13'.trans (Go.ExtX.same (e13.trans e14))))) (Go.Tabs_same (e13.trans e14) T13)
end
end QP

set_option Elab.async false
set_option linter.all false
set_option maxRecDepth 100000
set_option maxHeartbeats 2000000

namespace QP
open PySem PySem.Spec PyProof.Rows L2
section
variable {P : Program} {w : World} {K : PySem.W.Frag} {mg : Str → Option Value} {base : Heap} {cF PF cL PL : Addr} (T : Txt P K mg) (TT : TT K mg base cF PF cL PL)
include T TT in
theorem ok_law_right : FnOk P w K mg base CX0 8 (He.ga K "_law_right") (fdOf K "_law_right") ["dice"] (spRight (TL PF PL)) := by
  have G__law_roll := ok_law_roll (P := P) (w := w) (base := base) T
  have G__law_pick := ok_law_pick (P := P) (w := w) (base := base) T
  have G__law_round := ok_law_round (P := P) (w := w) (base := base) T
  have G__law_walk := ok_law_walk (P := P) (w := w) (base := base) T
  have G__law_last := ok_law_last (P := P) (w := w) (base := base) T
  have G__law_frac := ok_law_frac (P := P) (w := w) (base := base) T
  have G_levels := ok_levels (P := P) (w := w) (base := base) T TT
  have G_level_at_last := ok_level_at_last (P := P) (w := w) (base := base) T TT
  have G_out_at_last := ok_out_at_last (P := P) (w := w) (base := base) T TT
  have G_lost_part := ok_lost_part (P := P) (w := w) (base := base) T TT
  have G_full_takes := ok_full_takes (P := P) (w := w) (base := base) T TT
  have G_least_pool := ok_least_pool (P := P) (w := w) (base := base) T TT
  refine okC T.f__law_right TT.kL sc__law_right (fun vs H Q E h => ?_) (fun A outer s H vs Q E hr h => ⟨_, PSs.nox (pss_cons (ps_set (i := 1) sc__law_right.nd rfl (Or.inr rfl) (pe_call G__law_roll (hr.mono (by decide)) (by rfl) T.g__law_roll T.f__law_roll.kp T.b__law_roll .nil pass0 (pa_cons (pv 0) (pa_cons pe_int pa_nil))))
    (pss_cons (ps_set (i := 3) sc__law_right.nd rfl (Or.inr rfl) (pe_callTy (Go.c_tupK (K := K) rfl) (by rfl) T.z_tuple (by decide +kernel) (pa_cons (pe_lc (own := [("hour", 2)]) (g := gName 2) (tt := tYes) (by rfl) sc__law_right.nd (pi_range1 (by rfl) T.z_range (pa_cons (pe_op op_add pe_int (pe_call G__law_roll (hr.mono (by decide)) (by rfl) T.g__law_roll T.f__law_roll.kp T.b__law_roll .nil pass0 (pa_cons (pv 0) (pa_cons pe_int pa_nil)))) pa_nil)) (blkOk_by (own := [("hour", 2)]) (N := ["dice", "size", "hour", "flows", "takes", "begin", "around", "last", "rows", "lost", "out", "whole", "least", "own", "good", "bad", "told", "due"]) (sc := defScope s__law_right) (by decide +kernel)) (fun _ _ _ _ _ => (pg_name (i := 2) sc__law_right.nd rfl (Or.inl rfl))) (fun _ _ _ _ _ => pts_nil) (fun _ _ _ _ _ => (pe_call G__law_pick (hr.mono (by decide)) (by rfl) T.g__law_pick T.f__law_pick.kp T.b__law_pick .nil pass0 (pa_cons (pv 0) (pa_cons (pe_lst (pa_cons pe_int (pa_cons (pe_call G__law_roll (hr.mono (by decide)) (by rfl) T.g__law_roll T.f__law_roll.kp T.b__law_roll .nil pass0 (pa_cons (pv 0) (pa_cons pe_int pa_nil))) pa_nil))) pa_nil))))) pa_nil)))
    (pss_cons (ps_set (i := 4) sc__law_right.nd rfl (Or.inr rfl) (pe_callTy (Go.c_tupK (K := K) rfl) (by rfl) T.z_tuple (by decide +kernel) (pa_cons (pe_lc (own := [("hour", 2)]) (g := gName 2) (tt := tYes) (by rfl) sc__law_right.nd (pi_range1 (by rfl) T.z_range (pa_cons (pe_op op_add pe_int (pe_call G__law_roll (hr.mono (by decide)) (by rfl) T.g__law_roll T.f__law_roll.kp T.b__law_roll .nil pass0 (pa_cons (pv 0) (pa_cons pe_int pa_nil)))) pa_nil)) (blkOk_by (own := [("hour", 2)]) (N := ["dice", "size", "hour", "flows", "takes", "begin", "around", "last", "rows", "lost", "out", "whole", "least", "own", "good", "bad", "told", "due"]) (sc := defScope s__law_right) (by decide +kernel)) (fun _ _ _ _ _ => (pg_name (i := 2) sc__law_right.nd rfl (Or.inl rfl))) (fun _ _ _ _ _ => pts_nil) (fun _ _ _ _ _ => (pe_call G__law_pick (hr.mono (by decide)) (by rfl) T.g__law_pick T.f__law_pick.kp T.b__law_pick .nil pass0 (pa_cons (pv 0) (pa_cons (pe_lst (pa_cons pe_int (pa_cons (pe_call G__law_roll (hr.mono (by decide)) (by rfl) T.g__law_roll T.f__law_roll.kp T.b__law_roll .nil pass0 (pa_cons (pv 0) (pa_cons pe_int pa_nil))) pa_nil))) pa_nil))))) pa_nil)))
    (pss_cons (ps_par (i := 5) (j := 6) (by rfl) sc__law_right.nd rfl rfl (by decide) rfl rfl (pa_cons (pe_call G__law_roll (hr.mono (by decide)) (by rfl) T.g__law_roll T.f__law_roll.kp T.b__law_roll .nil pass0 (pa_cons (pv 0) (pa_cons (pe_op op_add (pv 1) pe_int) pa_nil))) (pa_cons (pe_call G__law_round (hr.mono (by decide)) (by rfl) T.g__law_round T.f__law_round.kp T.b__law_round .nil pass0 (pa_cons (pv 3) (pa_cons (pv 4) pa_nil))) pa_nil)) (by rfl))
    (pss_cons (ps_if (pt_cmpR (Go.op_neDK (K := K) (hu64 hr)) (pe_callN G_levels (hr.mono (by decide)) (by rfl) T.g_levels T.f_levels.kp T.kb_levels passL (pa_cons (pv 1) (pa_cons (pv 3) (pa_cons (pv 4) pa_nil))) (pk_cons (pv 5) pk_nil)) (pe_callTy (Go.c_tupK (K := K) rfl) (by rfl) T.z_tuple (by decide +kernel) (pa_cons (pe_ix (Go.ix_tupK (K := K) rfl) (pe_call G__law_walk (hr.mono (by decide)) (by rfl) T.g__law_walk T.f__law_walk.kp T.b__law_walk .nil pass0 (pa_cons (pv 1) (pa_cons (pv 3) (pa_cons (pv 4) (pa_cons (pv 5) pa_nil))))) pe_int (fun _ _ => rfl)) pa_nil)) (nomark _)) (pss_one (ps_ret pe_bl)) pss_nil)
    (pss_cons (ps_set (i := 7) sc__law_right.nd rfl (Or.inl rfl) (pe_call G__law_last (hr.mono (by decide)) (by rfl) T.g__law_last T.f__law_last.kp T.b__law_last .nil pass0 (pa_cons (pv 1) (pa_cons (pv 3) (pa_cons (pv 4) pa_nil)))))
    (pss_cons (ps_asg (pe_call G__law_walk (hr.mono (by decide)) (by rfl) T.g__law_walk T.f__law_walk.kp T.b__law_walk .nil pass0 (pa_cons (pv 1) (pa_cons (pv 3) (pa_cons (pv 4) (pa_cons (pv 7) pa_nil))))) (pg_tup (by rfl) (pgs_cons (pg_name (i := 8) sc__law_right.nd rfl (Or.inl rfl)) (pgs_cons (pg_name (i := 9) sc__law_right.nd rfl (Or.inl rfl)) (pgs_cons (pg_name (i := 10) sc__law_right.nd rfl (Or.inl rfl)) pgs_nil)))))
    (pss_cons (ps_set (i := 11) sc__law_right.nd rfl (Or.inl rfl) (pe_callB (cr_sum rfl) (by rfl) T.z_sum (by decide +kernel) (pa_cons (pe_lc (own := [("hour", 2)]) (g := gName 2) (tt := tYes) (by rfl) sc__law_right.nd (pi_range1 (by rfl) T.z_range (pa_cons (pv 6) pa_nil)) (blkOk_by (own := [("hour", 2)]) (N := ["dice", "size", "hour", "flows", "takes", "begin", "around", "last", "rows", "lost", "out", "whole", "least", "own", "good", "bad", "told", "due"]) (sc := defScope s__law_right) (by decide +kernel)) (fun _ _ _ _ _ => (pg_name (i := 2) sc__law_right.nd rfl (Or.inl rfl))) (fun _ _ _ _ _ => pts_nil) (fun _ _ _ _ _ => (pe_ix (Go.ix_tupK (K := K) rfl) (pv 3) (pe_op op_mod (pv 2) (pe_callB (Go.c_lenK (K := K) rfl) (by rfl) T.z_len (by decide +kernel) (pa_cons (pv 3) pa_nil))) (fun _ _ => rfl)))) pa_nil)))
    (pss_cons (ps_if (PW.pt (pw_or (pt_cmpR op_ne (pe_callN G_level_at_last (hr.mono (by decide)) (by rfl) T.g_level_at_last T.f_level_at_last.kp T.kb_level_at_last passL (pa_cons (pv 1) (pa_cons (pv 3) pa_nil)) (pk_cons (pv 4) pk_nil)) (pv 7) (nomark _)) (pw_or (pt_cmpR op_ne (pe_ix (Go.ix_listK (K := K) rfl) (pv 8) (pe_un un_neg pe_int) (fun _ _ => rfl)) (pv 7) (nomark _)) (pw_or1 (pt_cmpR op_ne (pe_callN G_out_at_last (hr.mono (by decide)) (by rfl) T.g_out_at_last T.f_out_at_last.kp T.kb_out_at_last passL (pa_cons (pv 1) (pa_cons (pv 3) pa_nil)) (pk_cons (pv 4) pk_nil)) (pv 10) (nomark _)))))) (pss_one (ps_ret pe_bl)) pss_nil)
    (pss_cons (ps_if (PW.pt (pw_or (pt_cmpR (Go.op_neDK (K := K) (hu64 hr)) (pe_callN G_lost_part (hr.mono (by decide)) (by rfl) T.g_lost_part T.f_lost_part.kp T.kb_lost_part passL (pa_cons (pv 1) (pa_cons (pv 3) pa_nil)) (pk_cons (pv 4) pk_nil)) (pe_ifExp (pt_cmpR op_eq (pv 11) pe_int (nomark _)) pe_non (pe_call G__law_frac (hr.mono (by decide)) (by rfl) T.g__law_frac T.f__law_frac.kp T.b__law_frac .nil pass0 (pa_cons (pv 9) (pa_cons (pv 11) pa_nil)))) (nomark _)) (pw_or1 (pt_cmpR op_ne (pe_op op_add (pv 9) (pv 10)) (pv 11) (nomark _))))) (pss_one (ps_ret pe_bl)) pss_nil)
    (pss_cons (ps_if (pt_cmpR op_ne (pe_callN G_full_takes (hr.mono (by decide)) (by rfl) T.g_full_takes T.f_full_takes.kp T.kb_full_takes passL (pa_cons (pv 1) (pa_cons (pv 3) pa_nil)) (pk_cons (pv 4) pk_nil)) (pe_cmpR op_eq (pv 10) (pe_callB (cr_sum rfl) (by rfl) T.z_sum (by decide +kernel) (pa_cons (pe_lc (own := [("hour", 2)]) (g := gName 2) (tt := tYes) (by rfl) sc__law_right.nd (pi_range1 (by rfl) T.z_range (pa_cons (pv 6) pa_nil)) (blkOk_by (own := [("hour", 2)]) (N := ["dice", "size", "hour", "flows", "takes", "begin", "around", "last", "rows", "lost", "out", "whole", "least", "own", "good", "bad", "told", "due"]) (sc := defScope s__law_right) (by decide +kernel)) (fun _ _ _ _ _ => (pg_name (i := 2) sc__law_right.nd rfl (Or.inl rfl))) (fun _ _ _ _ _ => pts_nil) (fun _ _ _ _ _ => (pe_ix (Go.ix_tupK (K := K) rfl) (pv 4) (pe_op op_mod (pv 2) (pe_callB (Go.c_lenK (K := K) rfl) (by rfl) T.z_len (by decide +kernel) (pa_cons (pv 4) pa_nil))) (fun _ _ => rfl)))) pa_nil)) (nomark _)) (nomark _)) (pss_one (ps_ret pe_bl)) pss_nil)
    (pss_cons (ps_set (i := 12) sc__law_right.nd rfl (Or.inl rfl) (pe_callN G_least_pool (hr.mono (by decide)) (by rfl) T.g_least_pool T.f_least_pool.kp T.kb_least_pool passL (pa_cons (pv 3) pa_nil) (pk_cons (pv 4) pk_nil)))
    (pss_cons (ps_for PassesOwn.never rfl (pi_tup (pe_tup (pa_cons (pe_tup (pa_cons (pv 12) (pa_cons pe_bl pa_nil))) (pa_cons (pe_tup (pa_cons (pe_ifExp (pt_cmpR op_notN1 (pv 12) pe_non (nomark _)) (pe_op op_sub (pv 12) pe_int) pe_int) (pa_cons pe_bl pa_nil))) pa_nil)))) (pg_tup (by rfl) (pgs_cons (pg_name (i := 13) sc__law_right.nd rfl (Or.inl rfl)) (pgs_cons (pg_name (i := 14) sc__law_right.nd rfl (Or.inl rfl)) pgs_nil))) (pss_one (ps_if (PW.pt (pw_and (pt_cmpR op_notN1 (pv 13) pe_non (nomark _)) (pw_and (pt_cmpR op_ge (pv 13) pe_int (nomark _)) (pw_and1 (pt_cmpR op_ne (pe_cmpR op_eq (pe_ix (Go.ix_tupK (K := K) rfl) (pe_call G__law_walk (hr.mono (by decide)) (by rfl) T.g__law_walk T.f__law_walk.kp T.b__law_walk .nil pass0 (pa_cons (pv 13) (pa_cons (pv 3) (pa_cons (pv 4) (pa_cons (pe_call G__law_last (hr.mono (by decide)) (by rfl) T.g__law_last T.f__law_last.kp T.b__law_last .nil pass0 (pa_cons (pv 13) (pa_cons (pv 3) (pa_cons (pv 4) pa_nil)))) pa_nil))))) pe_int (fun _ _ => rfl)) pe_int (nomark _)) (pv 14) (nomark _)))))) (pss_one (ps_ret pe_bl)) pss_nil)))
    (pss_cons (ps_set (i := 15) sc__law_right.nd rfl (Or.inr rfl) (pe_call G__law_pick (hr.mono (by decide)) (by rfl) T.g__law_pick T.f__law_pick.kp T.b__law_pick .nil pass0 (pa_cons (pv 0) (pa_cons (pe_lst (pa_cons pe_non (pa_cons (pe_tup pa_nil) (pa_cons (pe_lst (pa_cons pe_int pa_nil)) (pa_cons (pe_tup (pa_cons (pe_un un_neg pe_int) pa_nil)) (pa_cons (pe_tup (pa_cons pe_int pa_nil)) (pa_cons (pe_op (Go.op_repTK (K := K) rfl) (pe_tup (pa_cons pe_int pa_nil)) pe_int) (pa_cons (pe_tup (pa_cons pe_bl pa_nil)) pa_nil)))))))) pa_nil))))
    (pss_cons (ps_set (i := 16) sc__law_right.nd rfl (Or.inl rfl) (pe_lst (pa_cons (pe_ref T TT rfl rfl rfl rfl (by rfl) rfl rfl hr rfl (by decide +kernel) rfl (fun _ _ _ _ _ => rfl) (fun A2 outer2 s2 H2 E2 f2 c2 hr2 => (pe_call G_levels (hr2.mono (by decide)) (by rfl) T.g_levels T.f_levels.kp T.b_levels .nil (passes_call (W := fun cls d _ H => E2 cls d H) (takes_of rfl rfl rfl rfl) (fun _ _ _ _ h => h)) (pa_cons (pe_un un_neg pe_int) (pa_cons pe_non (pa_cons pe_non (pa_cons pe_non pa_nil))))))) (pa_cons (pe_ref T TT rfl rfl rfl rfl (by rfl) rfl rfl hr rfl (by decide +kernel) rfl (fun _ _ _ _ _ => rfl) (fun A2 outer2 s2 H2 E2 f2 c2 hr2 => (pe_call G_levels (hr2.mono (by decide)) (by rfl) T.g_levels T.f_levels.kp T.b_levels .nil (passes_call (W := fun cls d _ H => E2 cls d H) (takes_of rfl rfl rfl rfl) (fun _ _ _ _ h => h)) (pa_cons (pv 1) (pa_cons (pv 15) (pa_cons pe_non (pa_cons pe_non pa_nil))))))) (pa_cons (pe_ref T TT rfl rfl rfl rfl (by rfl) rfl rfl hr rfl (by decide +kernel) rfl (fun _ _ _ _ _ => rfl) (fun A2 outer2 s2 H2 E2 f2 c2 hr2 => (pe_call G_levels (hr2.mono (by decide)) (by rfl) T.g_levels T.f_levels.kp T.b_levels .nil (passes_call (W := fun cls d _ H => E2 cls d H) (takes_of rfl rfl rfl rfl) (fun _ _ _ _ h => h)) (pa_cons (pv 1) (pa_cons (pv 3) (pa_cons (pv 15) (pa_cons pe_non pa_nil))))))) (pa_cons (pe_ref T TT rfl rfl rfl rfl (by rfl) rfl rfl hr rfl (by decide +kernel) rfl (fun _ _ _ _ _ => rfl) (fun A2 outer2 s2 H2 E2 f2 c2 hr2 => (pe_call G_levels (hr2.mono (by decide)) (by rfl) T.g_levels T.f_levels.kp T.b_levels .nil (passes_call (W := fun cls d _ H => E2 cls d H) (takes_of rfl rfl rfl rfl) (fun _ _ _ _ h => h)) (pa_cons (pv 1) (pa_cons (pv 3) (pa_cons (pv 4) (pa_cons (pe_op op_add (pv 1) pe_int) pa_nil))))))) (pa_cons (pe_ref T TT rfl rfl rfl rfl (by rfl) rfl rfl hr rfl (by decide +kernel) rfl (fun _ _ _ _ _ => rfl) (fun A2 outer2 s2 H2 E2 f2 c2 hr2 => (pe_call G_level_at_last (hr2.mono (by decide)) (by rfl) T.g_level_at_last T.f_level_at_last.kp T.b_level_at_last .nil (passes_call (W := fun cls d _ H => E2 cls d H) (takes_of rfl rfl rfl rfl) (fun _ _ _ _ h => h)) (pa_cons pe_int (pa_cons (pv 3) (pa_cons (pv 4) pa_nil)))))) (pa_cons (pe_ref T TT rfl rfl rfl rfl (by rfl) rfl rfl hr rfl (by decide +kernel) rfl (fun _ _ _ _ _ => rfl) (fun A2 outer2 s2 H2 E2 f2 c2 hr2 => (pe_call G_lost_part (hr2.mono (by decide)) (by rfl) T.g_lost_part T.f_lost_part.kp T.b_lost_part .nil (passes_call (W := fun cls d _ H => E2 cls d H) (takes_of rfl rfl rfl rfl) (fun _ _ _ _ h => h)) (pa_cons (pv 1) (pa_cons (pv 3) (pa_cons (pv 15) pa_nil)))))) (pa_cons (pe_ref T TT rfl rfl rfl rfl (by rfl) rfl rfl hr rfl (by decide +kernel) rfl (fun _ _ _ _ _ => rfl) (fun A2 outer2 s2 H2 E2 f2 c2 hr2 => (pe_call G_out_at_last (hr2.mono (by decide)) (by rfl) T.g_out_at_last T.f_out_at_last.kp T.b_out_at_last .nil (passes_call (W := fun cls d _ H => E2 cls d H) (takes_of rfl rfl rfl rfl) (fun _ _ _ _ h => h)) (pa_cons (pv 1) (pa_cons (pv 15) (pa_cons (pv 4) pa_nil)))))) (pa_cons (pe_ref T TT rfl rfl rfl rfl (by rfl) rfl rfl hr rfl (by decide +kernel) rfl (fun _ _ _ _ _ => rfl) (fun A2 outer2 s2 H2 E2 f2 c2 hr2 => (pe_call G_full_takes (hr2.mono (by decide)) (by rfl) T.g_full_takes T.f_full_takes.kp T.b_full_takes .nil (passes_call (W := fun cls d _ H => E2 cls d H) (takes_of rfl rfl rfl rfl) (fun _ _ _ _ h => h)) (pa_cons pe_non (pa_cons (pv 3) (pa_cons (pv 4) pa_nil)))))) (pa_cons (pe_ref T TT rfl rfl rfl rfl (by rfl) rfl rfl hr rfl (by decide +kernel) rfl (fun _ _ _ _ _ => rfl) (fun A2 outer2 s2 H2 E2 f2 c2 hr2 => (pe_call G_least_pool (hr2.mono (by decide)) (by rfl) T.g_least_pool T.f_least_pool.kp T.b_least_pool .nil (passes_call (W := fun cls d _ H => E2 cls d H) (takes_of rfl rfl rfl rfl) (fun _ _ _ _ h => h)) (pa_cons (pv 15) (pa_cons (pv 4) pa_nil))))) (pa_cons (pe_ref T TT rfl rfl rfl rfl (by rfl) rfl rfl hr rfl (by decide +kernel) rfl (fun _ _ _ _ _ => rfl) (fun A2 outer2 s2 H2 E2 f2 c2 hr2 => (pe_call G_least_pool (hr2.mono (by decide)) (by rfl) T.g_least_pool T.f_least_pool.kp T.b_least_pool .nil (passes_call (W := fun cls d _ H => E2 cls d H) (takes_of rfl rfl rfl rfl) (fun _ _ _ _ h => h)) (pa_cons (pv 3) (pa_cons (pv 15) pa_nil))))) pa_nil))))))))))))
    (pss_cons (ps_set (i := 17) sc__law_right.nd rfl (Or.inl rfl) (pe_lst (pa_cons pe_str (pa_cons pe_str (pa_cons pe_str (pa_cons pe_str (pa_cons pe_str (pa_cons pe_str (pa_cons pe_str (pa_cons pe_str (pa_cons pe_str (pa_cons pe_str pa_nil))))))))))))
    (pss_one (ps_ret (pe_cmpR (Go.op_eqDK (K := K) (hu64 hr)) (pv 16) (pv 17) (nomark _)))))))))))))))))))) , ?_⟩)
  · obtain ⟨d, rfl, _⟩ := h
    rfl
  obtain ⟨d, rfl, hT, hd, hq⟩ := h
  walk_at "go"
  refine roll1 (n := 14) ⟨hT, hd⟩ (by decide) (by decide) (by decide) fun s H1 s0 s1 o1 x1 _ => ?_
  refine Go.name rfl ?_
  dsimp only [List.set]
  refine Go.seq (Go.asg (flowsC (n := 6) rfl (fun _ => rfl) o1 (by decide) (by decide) (by decide) fun H2 p xs hx2 o2 x2 => ?_))
  refine Go.name rfl ?_
  dsimp only [List.set]
  refine Go.seq (Go.asg (flowsC (n := 7) rfl (fun _ => rfl) o2 (by decide) (by decide) (by decide) fun H3 q ys hy3 o3 x3 => ?_))
  have hx3 := hx2.extD x3 o2
  walk_at "go"
  refine roll1 (n := s + 1) o3 (by decide) (by omega) (by omega) fun b H4 b0 b1 o4 x4 _ => ?_
  have hx4 := hx3.extD x4 o3
  have hy4 := hy3.extD x4 o3
  have y4 := ((x1.trans x2).trans x3).trans x4
  clear x1 x2 x3 x4 hx2 hx3 hy3 o1 o2 o3
  walk_at "go"
  refine ⟨p, q, xs, ys, rfl, hx4, hy4, ?_⟩
  walk_at "go"
  have xn := hx4.nn
  have yn := hy4.nn
  have s2 : s ≤ 2000 := by omega
  have x30 := hx4.l30
  have y30 := hy4.l30
  have r9 := PM.rnd_900 x30 y30
  have r1 := PM.rnd_pos hx4.l1 hy4.l1
  have lf : PM.F s xs ys (PM.last s xs ys) = PM.last s xs ys := PM.last_fix xn yn s0
  have dT : ∀ x : V, (!decide (x = x)) = false := fun x => by rw [decide_eq_true rfl]; rfl
  refine ⟨rfl, rfl, ?_⟩
  refine levels1 s0 s2 b0 (by omega) hx4 hy4 o4.1 fun H5 a x5 T5 ha => ?_
  have hx5 := hx4.ext x5
  have hy5 := hy4.ext x5
  walk_at "go"
  refine ⟨s, b, p, q, xs, ys, rfl, hx5, hy5, fun H6 c e6 hw => ?_⟩
  obtain ⟨c2, h1, h2⟩ := hw.ex
  walk_at "go"
  refine Go.ixT (SqT.of h1) (show atI [_, _, _] 0 = some _ from rfl) ?_
  walk_at "go"
  refine Go.tupL (SqL.of h2) fun m nm => ?_
  have e7 : Same H6 (upd H6 m (.tup ((PM.lvls s xs ys b (PM.rnd xs.length ys.length)).map V.int))) := Go.same_new nm
  refine Go.neD (Go.dpT (e7 _ _ (e6 _ _ ha))) (Go.dpT upd_same) (Go.shT _) (Go.shT _) ?_
  rw [Go.eqv_tup]
  walk_at "go"
  have x7 : Go.Ext (TL PF PL) H4 (upd H6 m (.tup ((PM.lvls s xs ys b (PM.rnd xs.length ys.length)).map V.int))) := (x5.trans (Go.ExtX.same e6)).trans (Go.ExtX.same e7)
  have T7 := Go.Tabs_same e7 (Go.Tabs_same e6 T5)
  clear e7 h1 h2 hw ha T5 hx5 hy5
  generalize upd H6 m (.tup ((PM.lvls s xs ys b (PM.rnd xs.length ys.length)).map V.int)) = H7 at x7 T7 ⊢
  refine ⟨s, p, q, xs, ys, rfl, s0, s2, hx4.ext x7, hy4.ext x7, fun H8 e8 => ?_⟩
  walk_at "go"
  refine ⟨s, _, p, q, xs, ys, rfl, (hx4.ext x7).same e8, (hy4.ext x7).same e8, fun H9 c e9 hw => ?_⟩
  have x9 : Go.Ext (TL PF PL) H4 H9 := (x7.trans (Go.ExtX.same e8)).trans (Go.ExtX.same e9)
  have T9 := Go.Tabs_same e9 (Go.Tabs_same e8 T7)
  obtain ⟨rw_, h1, h2⟩ := hw.ex
  clear x7 T7 e8 e9 hw x5 e6
  refine Go.gtup (SqT.of h1) rfl ?_
  walk_at "go"
  have hx9 := hx4.ext x9
  have hy9 := hy4.ext x9
  have hr9 : H9 rw_ = some (iL (PM.lvls s xs ys (PM.last s xs ys) (PM.rnd xs.length ys.length))) := h2
  clear h1 h2
  have cons_ := PM.conserve (s := s) (xs := xs) (ys := ys) (l := PM.last s xs ys) (PM.rnd xs.length ys.length)
  have eg : atI ((PM.lvls s xs ys (PM.last s xs ys) (PM.rnd xs.length ys.length)).map V.int) (-1) = some (.int (PM.last s xs ys)) := by
    have el : ((PM.lvls s xs ys (PM.last s xs ys) (PM.rnd xs.length ys.length)).map V.int).length = PM.rnd xs.length ys.length := by rw [List.length_map, PM.lvls_len]
    refine atI_last (by rw [el]; exact r1) ?_
    rw [el, List.getElem?_map, PM.lvls_get (by omega), show PM.rnd xs.length ys.length - 1 + 1 = PM.rnd xs.length ys.length by omega]
    show some (V.int (PM.F s xs ys (PM.last s xs ys))) = _
    rw [lf]
  have wb := PM.whole_bd xn (B := 1000) (fun x h => (hx4.bd x h).2) (by decide) (PM.rnd xs.length ys.length)
  refine sumK (n := PM.rnd xs.length ys.length) (fun _ => rfl) (fun _ => rfl) hx9 r9 fun H10 e10 => ?_
  walk_at "go"
  refine ⟨rfl, rfl, ?_⟩
  have T10 := Go.Tabs_same e10 T9
  refine ask1 s0 s2 (hx9.same e10) (hy9.same e10) T10 fun H11 x11 T11 => ?_
  walk_at "go"
  rw [dT]
  walk_at "go"
  have x11' : Go.Ext (TL PF PL) H9 H11 := (Go.ExtX.same e10).trans x11
  refine Go.ixL (SqL.of (Go.ExtX.lst x11' (fun z => z) hr9)) eg ?_
  walk_at "go"
  rw [dT]
  walk_at "go"
  refine ⟨rfl, rfl, ?_⟩
  refine ask1 s0 s2 (hx9.ext x11') (hy9.ext x11') T11 fun H12 x12 T12 => ?_
  walk_at "go"
  rw [show PM.out s xs ys (PM.last s xs ys) (PM.rnd xs.length ys.length) = outL s xs ys from rfl, dT]
  walk_at "go"
  refine ⟨rfl, rfl, ?_⟩
  have x12' : Go.Ext (TL PF PL) H9 H12 := x11'.trans x12
  refine ask1 s0 s2 (hx9.ext x12') (hy9.ext x12') T12 fun H13 v x13 T13 hv => ?_
  walk_at "go"
  have x13' : Go.Ext (TL PF PL) H9 H13 := x12'.trans x13
  clear x11 x12 x13 e10 T10 T11 T12
  refine Go.ifJ (fun u H' => Same H13 H' ∧ ∃ d e, Dp K H' v d ∧ Dp K H' u e ∧ SeqAt.shaped d = true ∧ SeqAt.shaped e = true ∧ PyData.eqv d e = true) (fun c Q q => ?_) (fun c Q q => ?_) ?_
  · walk_at "go"
    have c' : PM.whole xs (PM.rnd xs.length ys.length) = 0 := V.int.inj (of_decide_eq_true c)
    rcases hv with ⟨_, rfl⟩ | ⟨z, _⟩
    · exact q _ _ ⟨Same.refl _, _, _, .non, .non, rfl, rfl, rfl⟩
    · exact absurd c' z
  · have c' : PM.whole xs (PM.rnd xs.length ys.length) ≠ 0 := fun z => by
      have := of_decide_eq_false c
      exact this (by rw [z])
    walk_at "go"
    rcases hv with ⟨z, _⟩ | ⟨_, a1, rfl, ha⟩
    · exact absurd z c'
    · refine ⟨_, _, rfl, by omega, by omega, fun r nr => ?_⟩
      exact q _ _ ⟨Go.same_new nr, _, _, Go.dpT (ns := [_, _]) (Go.same_new nr _ _ ha), Go.dpT (ns := [_, _]) upd_same, Go.shT _, Go.shT _, Go.eqv_tup _⟩
  rintro u H14 ⟨e14, dd, ee, k1, k2, k3, k4, k5⟩
  refine Go.neD k1 k2 k3 k4 ?_
  rw [k5]
  walk_at "go"
  have T14 := Go.Tabs_same e14 T13
  have x14 : Go.Ext (TL PF PL) H9 H14 := x13'.trans (Go.ExtX.same e14)
  clear k1 k2 k3 k4 k5 e14 T13 x13' x12' x11'
  rw [show outL s xs ys = PM.out s xs ys (PM.last s xs ys) (PM.rnd xs.length ys.length) from rfl]
  have ec : PM.lost s xs ys (PM.last s xs ys) (PM.rnd xs.length ys.length) + PM.out s xs ys (PM.last s xs ys) (PM.rnd xs.length ys.length) = PM.whole xs (PM.rnd xs.length ys.length) := by
    have : PM.L s xs ys (PM.last s xs ys) (PM.rnd xs.length ys.length) = PM.last s xs ys := lf
    omega
  rw [ec, dT]
  walk_at "go"
  refine ⟨rfl, rfl, ?_⟩
  refine ask1 s0 s2 (hx9.ext x14) (hy9.ext x14) T14 fun H15 x15 T15 => ?_
  walk_at "go"
  have x15' : Go.Ext (TL PF PL) H9 H15 := x14.trans x15
  refine sumK (n := PM.rnd xs.length ys.length) (fun _ => rfl) (fun _ => rfl) (hy9.ext x15') r9 fun H16 e16 => ?_
  walk_at "go"
  have eW : decide (V.int (PM.out s xs ys (PM.last s xs ys) (PM.rnd xs.length ys.length)) = V.int (PM.whole ys (PM.rnd xs.length ys.length))) = decide (outL s xs ys = PM.whole ys (PM.rnd xs.length ys.length)) := decide_eq_decide.mpr ⟨fun z => V.int.inj z, fun z => congrArg V.int z⟩
  rw [eW, dT]
  walk_at "go"
  refine ⟨rfl, rfl, ?_⟩
  have x16 : Go.Ext (TL PF PL) H9 H16 := x15'.trans (Go.ExtX.same e16)
  have T16 := Go.Tabs_same e16 T15
  clear x15' x15 x14 e16 T15 T14 eW
  refine least1 (hx9.ext x16) (hy9.ext x16) T16 fun H17 v17 x17 T17 hl => ?_
  have x17' : Go.Ext (TL PF PL) H9 H17 := x16.trans x17
  clear x16 T16 x17
  walk_at "go"
  intro t1 n1
  have e1 : Same H17 (upd H17 t1 (.tup [v17, .bl true])) := Go.same_new n1
  have f1 : upd H17 t1 (.tup [v17, .bl true]) t1 = some (.tup [v17, .bl true]) := upd_same
  generalize upd H17 t1 (.tup [v17, .bl true]) = H18 at e1 f1 ⊢
  walk_at "go"
  refine Go.ifJ (fun u H' => H' = H18 ∧ Gd xs ys u false) (fun c Q q => ?_) (fun c Q q => ?_) ?_
  · rcases hl with ⟨rfl, _⟩ | ⟨m, rfl, m0, m1, z0, z1⟩
    · rw [dT] at c
      cases c
    · walk_at "go"
      refine q _ _ ⟨rfl, .inr ⟨m - 1, rfl, fun z => ⟨by omega, decide_eq_false (z1 (by omega))⟩⟩⟩
  · rcases hl with ⟨rfl, hn⟩ | ⟨m, rfl, m0, m1, z0, z1⟩
    · walk_at "go"
      exact q _ _ ⟨rfl, .inr ⟨60, rfl, fun _ => ⟨by decide, decide_eq_false (hn 60 (by decide) (by decide))⟩⟩⟩
    · rw [decide_eq_false (fun z => by cases z)] at c
      cases c
  rintro u H18' ⟨e18, hu⟩
  rw [e18]
  clear e18
  have hl1 : Gd xs ys v17 true := by
    rcases hl with ⟨rfl, _⟩ | ⟨m, rfl, m0, m1, z0, z1⟩
    · exact .inl rfl
    · exact .inr ⟨m, rfl, fun _ => ⟨m1, decide_eq_true z0⟩⟩
  walk_at "go"
  intro t2 n2
  have e2 : Same H18 (upd H18 t2 (.tup [u, .bl false])) := Go.same_new n2
  have f2 : upd H18 t2 (.tup [u, .bl false]) t2 = some (.tup [u, .bl false]) := upd_same
  generalize upd H18 t2 (.tup [u, .bl false]) = H19 at e2 f2 ⊢
  walk_at "go"
  intro t3 n3
  have e3 : Same H19 (upd H19 t3 (.tup [.ref t1, .ref t2])) := Go.same_new n3
  have f3 : upd H19 t3 (.tup [.ref t1, .ref t2]) t3 = some (.tup [.ref t1, .ref t2]) := upd_same
  generalize upd H19 t3 (.tup [.ref t1, .ref t2]) = H20 at e3 f3 ⊢
  have g1 : H20 t1 = some (.tup [v17, .bl true]) := e3 _ _ (e2 _ _ f1)
  have g2 : H20 t2 = some (.tup [u, .bl false]) := e3 _ _ f2
  have x20 : Go.Ext (TL PF PL) H9 H20 := x17'.trans (Go.ExtX.same ((e1.trans e2).trans e3))
  have T20 := Go.Tabs_same ((e1.trans e2).trans e3) T17
  clear e1 e2 e3 f1 f2 x17' T17 hl
  refine Go.kt1 (SqT.of f3) ?_
  refine Go.forT (xs := [.ref t1, .ref t2]) (fun i σ H' => Go.Ext (TL PF PL) H20 H' ∧ LamX.Tabs (TL PF PL) H' ∧ ∃ o1 o2, σ = [some (V.ref d), some (V.int s), none, some (V.ref p), some (V.ref q), some (V.int b), some (V.int ↑(PM.rnd xs.length ys.length)), some (V.int (PM.last s xs ys)), some (V.ref rw_),
    some (V.int (PM.lost s xs ys (PM.last s xs ys) (PM.rnd xs.length ys.length))), some (V.int (PM.out s xs ys (PM.last s xs ys) (PM.rnd xs.length ys.length))), some (V.int (PM.whole xs (PM.rnd xs.length ys.length))), some v17, o1, o2, none, none, none]) ⟨.refl, T20, _, _, rfl⟩ (fun i σ H' _ w => SqT.of (Go.ExtX.tup w.1 (fun z => z) f3)) ?_ ?_
  · rintro i x σ H' hi ⟨xl, Tl, o1, o2, rfl⟩
    obtain ⟨t, v, g, rfl, ht, hg⟩ : ∃ t v g, x = .ref t ∧ H20 t = some (.tup [v, .bl g]) ∧ Gd xs ys v g := by
      rcases List.mem_cons.mp (List.mem_of_getElem? hi) with rfl | hx
      · exact ⟨t1, _, _, rfl, g1, hl1⟩
      · rw [List.mem_singleton.mp hx]
        exact ⟨t2, _, _, rfl, g2, hu⟩
    refine Go.gtup (SqT.of (Go.ExtX.tup xl (fun z => z) ht)) rfl ?_
    walk_at "go"
    rcases hg with rfl | ⟨j, rfl, hj⟩
    · rw [dT]
      walk_at "go"
      exact ⟨xl, Tl, _, _, rfl⟩
    · rw [show (!decide (V.int j = V.non)) = true by rw [decide_eq_false (fun z => by cases z)]; rfl]
      walk_at "go"
      refine ite2 (fun c => ?_) (fun c => ?_)
      · have j0 : 0 ≤ j := of_decide_eq_true c
        obtain ⟨j1, ej⟩ := hj j0
        walk_at "go"
        have hxl := hx9.ext (x20.trans xl)
        have hyl := hy9.ext (x20.trans xl)
        refine ⟨j, p, q, xs, ys, rfl, j0, j1, hxl, hyl, fun Ha ea => ?_⟩
        walk_at "go"
        refine ⟨j, _, p, q, xs, ys, rfl, hxl.same ea, hyl.same ea, fun Hb c1 eb hw => ?_⟩
        obtain ⟨c2, h1, h2⟩ := hw.ex
        walk_at "go"
        refine Go.ixT (SqT.of h1) (show atI [_, _, _] 1 = some _ from rfl) ?_
        walk_at "go"
        have eW : decide (V.int (PM.lost j xs ys (PM.last j xs ys) (PM.rnd xs.length ys.length)) = V.int 0) = g := by
          rw [← ej]
          exact decide_eq_decide.mpr ⟨fun z => V.int.inj z, fun z => congrArg V.int z⟩
        rw [eW, dT]
        walk_at "go"
        exact ⟨xl.trans (Go.ExtX.same (ea.trans eb)), Go.Tabs_same (ea.trans eb) Tl, _, _, rfl⟩
      · walk_at "go"
        exact ⟨xl, Tl, _, _, rfl⟩
  rintro σ H21 ⟨xl, T21, o1, o2, rfl⟩
  have x21 := x20.trans xl
  clear xl T20 x20 g1 g2 f3 hl1 hu
  refine tail (o4.ext (x9.trans x21)) (by decide) s0 s2 (hx4.ext (x9.trans x21)) (hy4.ext (x9.trans x21)) fun H22 x22 T22 => ?_
  exact hq _ (y4.trans ((Go.Ext.wide (x9.trans x21)).trans x22)) T22
end
end QP

set_option Elab.async false
set_option linter.all false
set_option maxRecDepth 100000
set_option maxHeartbeats 2000000

namespace QP
open PySem PySem.Spec PyProof.Rows L2
section
variable {P : Program} {w : World} {K : PySem.W.Frag} {mg : Str → Option Value} {base : Heap} {cF PF cL PL : Addr} (T : Txt P K mg) (TT : TT K mg base cF PF cL PL)
/-! ### law -/
def spLaw (K : PySem.W.Frag) (TT : List (Addr × Str)) : Sp := fun vs H Q _ => ∃ (a : Addr) (ns : List Int), vs = [.ref a] ∧ SqL K H a (ns.map V.int) ∧ ns.length ≤ 63 ∧ LamX.Tabs TT H ∧ ∀ H', Go.Ext TT H H' → LamX.Tabs TT H' → Q (.bl true) H'
include T TT in
theorem ok_law : FnOk P w K mg base CX0 9 (He.ga K "law") (fdOf K "law") ["script"] (spLaw K (TL PF PL)) := by
  have G__law_dice := ok_law_dice (P := P) (w := w) (base := base) T
  have G__law_right := ok_law_right (P := P) (w := w) (base := base) T TT
  refine T.f_law.ok sc_law (fun vs H Q E h => ?_) (fun cdv A outer s H vs Q E hr h => ⟨_, PSs.nox (pss_cons (ps_for PassesOwn.never rfl (pi_range1 (by rfl) T.z_range (pa_cons (pe_callB (Go.c_max rfl) (by rfl) T.z_max (by decide +kernel) (pa_cons pe_int (pa_cons (pe_callB (Go.c_min rfl) (by rfl) T.z_min (by decide +kernel) (pa_cons pe_int (pa_cons (pe_callB (Go.c_lenK (K := K) rfl) (by rfl) T.z_len (by decide +kernel) (pa_cons (pv 0) pa_nil)) pa_nil))) pa_nil))) pa_nil)) (pg_name (i := 1) sc_law.nd rfl (Or.inl rfl)) (pss_one (ps_if (pt_not (pt_val (pe_call G__law_right (hr.mono (by decide)) (by rfl) T.g__law_right T.f__law_right.kp T.b__law_right .nil pass0 (pa_cons (pe_call G__law_dice (hr.mono (by decide)) (by rfl) T.g__law_dice T.f__law_dice.kp T.b__law_dice .nil pass0 (pa_cons (pv 0) (pa_cons (pv 1) pa_nil))) pa_nil)))) (pss_one (ps_ret pe_bl)) pss_nil)))
    (pss_one (ps_ret pe_bl))) , ?_⟩)
  · obtain ⟨a, ns, rfl, _⟩ := h
    rfl
  obtain ⟨a, ns, rfl, hS, hl, hT, hq⟩ := h
  walk_at "go"
  refine Go.lenL hS ?_
  walk_at "go"
  rw [List.length_map]
  have hm : ∃ m : Nat, 1 ≤ m ∧ m ≤ 5 ∧ (if (if (ns.length : Int) < 5 then (ns.length : Int) else 5) > 1 then (if (ns.length : Int) < 5 then (ns.length : Int) else 5) else 1) = (m : Int) := by
    refine ⟨max 1 (min 5 ns.length), by omega, by omega, ?_⟩
    split <;> split <;> omega
  obtain ⟨m, m1, m5, em⟩ := hm
  rw [em]
  refine Go.kr1 (by omega) (by omega) ?_
  rw [Int.toNat_natCast]
  refine Go.forR (fun i σ H' => Go.Ext (TL PF PL) H H' ∧ LamX.Tabs (TL PF PL) H' ∧ ∃ t, σ = [some (.ref a), t]) ⟨.refl, hT, _, rfl⟩ ?_ ?_
  · rintro i σ H' hi ⟨x, T', t, rfl⟩
    walk_at "go"
    refine ⟨a, ns, i, rfl, Go.Ext.seqL x hS, hl, by omega, by omega, fun H2 p e2 np hd => ?_⟩
    walk_at "go"
    refine ⟨p, rfl, Go.Tabs_same e2 T', hd, fun H3 x3 T3 => ?_⟩
    walk_at "go"
    refine ⟨x.trans ⟨fun b o hb h n => x3.1 b o (fun z => ?_) (e2 b o h) n, fun _ => T3⟩, T3, _, rfl⟩
    rw [z, np] at h
    cases h
  · rintro σ H' ⟨x, T', t, rfl⟩
    walk_at "go"
    exact hq _ x T'
end
end QP

set_option Elab.async false
set_option linter.all false
set_option maxRecDepth 100000
set_option maxHeartbeats 0
namespace QPH
open PySem PySem.Spec PyProof.Rows L2
def d_is_integer : He.DefD := ⟨("is_integer", none), "is_integer", "is_integer", defArgs QP.s_is_integer, defBody QP.s_is_integer, defScope QP.s_is_integer, [], []⟩
def d_need_integer : He.DefD := ⟨("need_integer", none), "need_integer", "need_integer", defArgs QP.s_need_integer, defBody QP.s_need_integer, defScope QP.s_need_integer, [], []⟩
def d_common : He.DefD := ⟨("common", none), "common", "common", defArgs QP.s_common, defBody QP.s_common, defScope QP.s_common, [], []⟩
def d_ratio : He.DefD := ⟨("ratio", none), "ratio", "ratio", defArgs QP.s_ratio, defBody QP.s_ratio, defScope QP.s_ratio, [], []⟩
def d_are_flows : He.DefD := ⟨("are_flows", none), "are_flows", "are_flows", defArgs QP.s_are_flows, defBody QP.s_are_flows, defScope QP.s_are_flows, [], []⟩
def d_need_pool : He.DefD := ⟨("need_pool", none), "need_pool", "need_pool", defArgs QP.s_need_pool, defBody QP.s_need_pool, defScope QP.s_need_pool, [], []⟩
def d_round_of : He.DefD := ⟨("round_of", none), "round_of", "round_of", defArgs QP.s_round_of, defBody QP.s_round_of, defScope QP.s_round_of, [], []⟩
def d_walked : He.DefD := ⟨("walked", none), "walked", "walked", defArgs QP.s_walked, defBody QP.s_walked, defScope QP.s_walked, [], []⟩
def d_levels : He.DefD := ⟨("levels", none), "levels", "levels", defArgs QP.s_levels, defBody QP.s_levels, defScope QP.s_levels, [], []⟩
def d_last_begin : He.DefD := ⟨("last_begin", none), "last_begin", "last_begin", defArgs QP.s_last_begin, defBody QP.s_last_begin, defScope QP.s_last_begin, [], []⟩
def d_level_at_last : He.DefD := ⟨("level_at_last", none), "level_at_last", "level_at_last", defArgs QP.s_level_at_last, defBody QP.s_level_at_last, defScope QP.s_level_at_last, [], []⟩
def d_lost_part : He.DefD := ⟨("lost_part", none), "lost_part", "lost_part", defArgs QP.s_lost_part, defBody QP.s_lost_part, defScope QP.s_lost_part, [], []⟩
def d_lost_of : He.DefD := ⟨("lost_of", none), "lost_of", "lost_of", defArgs QP.s_lost_of, defBody QP.s_lost_of, defScope QP.s_lost_of, [], []⟩
def d_out_at_last : He.DefD := ⟨("out_at_last", none), "out_at_last", "out_at_last", defArgs QP.s_out_at_last, defBody QP.s_out_at_last, defScope QP.s_out_at_last, [], []⟩
def d_least_pool : He.DefD := ⟨("least_pool", none), "least_pool", "least_pool", defArgs QP.s_least_pool, defBody QP.s_least_pool, defScope QP.s_least_pool, [], []⟩
def d_full_takes : He.DefD := ⟨("full_takes", none), "full_takes", "full_takes", defArgs QP.s_full_takes, defBody QP.s_full_takes, defScope QP.s_full_takes, [], []⟩
def d__law_dice : He.DefD := ⟨("_law_dice", none), "_law_dice", "_law_dice", defArgs QP.s__law_dice, defBody QP.s__law_dice, defScope QP.s__law_dice, [], []⟩
def d__law_roll : He.DefD := ⟨("_law_roll", none), "_law_roll", "_law_roll", defArgs QP.s__law_roll, defBody QP.s__law_roll, defScope QP.s__law_roll, [], []⟩
def d__law_pick : He.DefD := ⟨("_law_pick", none), "_law_pick", "_law_pick", defArgs QP.s__law_pick, defBody QP.s__law_pick, defScope QP.s__law_pick, [], []⟩
def d__law_refused : He.DefD := ⟨("_law_refused", none), "_law_refused", "_law_refused", defArgs QP.s__law_refused, defBody QP.s__law_refused, defScope QP.s__law_refused, [], []⟩
def d__law_gcd : He.DefD := ⟨("_law_gcd", none), "_law_gcd", "_law_gcd", defArgs QP.s__law_gcd, defBody QP.s__law_gcd, defScope QP.s__law_gcd, [], []⟩
def d__law_frac : He.DefD := ⟨("_law_frac", none), "_law_frac", "_law_frac", defArgs QP.s__law_frac, defBody QP.s__law_frac, defScope QP.s__law_frac, [], []⟩
def d__law_round : He.DefD := ⟨("_law_round", none), "_law_round", "_law_round", defArgs QP.s__law_round, defBody QP.s__law_round, defScope QP.s__law_round, [], []⟩
def d__law_walk : He.DefD := ⟨("_law_walk", none), "_law_walk", "_law_walk", defArgs QP.s__law_walk, defBody QP.s__law_walk, defScope QP.s__law_walk, [], []⟩
def d__law_last : He.DefD := ⟨("_law_last", none), "_law_last", "_law_last", defArgs QP.s__law_last, defBody QP.s__law_last, defScope QP.s__law_last, [], []⟩
def d__law_right : He.DefD := ⟨("_law_right", none), "_law_right", "_law_right", defArgs QP.s__law_right, defBody QP.s__law_right, defScope QP.s__law_right, [], []⟩
def d_law : He.DefD := ⟨("law", none), "law", "law", defArgs QP.s_law, defBody QP.s_law, defScope QP.s_law, [], []⟩
def fn : List He.DefD := [d_is_integer, d_need_integer, d_common, d_ratio, d_are_flows, d_need_pool, d_round_of, d_walked, d_levels, d_last_begin, d_level_at_last, d_lost_part, d_lost_of, d_out_at_last, d_least_pool, d_full_takes, d__law_dice, d__law_roll, d__law_pick, d__law_refused, d__law_gcd, d__law_frac, d__law_round, d__law_walk, d__law_last, d__law_right, d_law]
def fa0 : List He.Fa := [.glo "BadArgument", .free "super", .free "abs", .free "all", .free "bool", .free "int", .free "isinstance", .free "len", .free "max", .free "min", .free "range", .free "sum", .free "tuple", .int "MOST_FLOWS" (30), .int "MOST_RUN" (1000), .int "MOST_SIZE" (2000), .glo "is_integer", .glo "need_integer", .glo "common", .glo "ratio"]
def fa1 : List He.Fa := [.glo "are_flows", .glo "need_pool", .glo "round_of", .glo "walked", .glo "levels", .glo "last_begin", .glo "level_at_last", .glo "lost_part", .glo "lost_of", .glo "out_at_last", .glo "least_pool", .glo "full_takes", .glo "_law_dice", .glo "_law_roll", .glo "_law_pick", .glo "_law_refused", .glo "_law_gcd", .glo "_law_frac", .glo "_law_round", .glo "_law_walk"]
def fa2 : List He.Fa := [.glo "_law_last", .glo "_law_right", .glo "law"]
def fa : List He.Fa := fa0 ++ fa1 ++ fa2
def names0 : List PySem.Str := ["__name__", "BadArgument", "is_integer", "need_integer", "common", "ratio", "MOST_FLOWS", "MOST_RUN", "are_flows", "MOST_SIZE", "need_pool", "round_of", "walked", "levels", "last_begin", "level_at_last", "lost_part", "lost_of", "out_at_last", "least_pool"]
def names1 : List PySem.Str := ["full_takes", "_law_dice", "_law_roll", "_law_pick", "_law_refused", "_law_gcd", "_law_frac", "_law_round", "_law_walk", "_law_last", "_law_right"]
def names : List PySem.Str := names0 ++ names1
abbrev RW := PySem.Challenge.rw_qanatflow_k10_whole_pools
def tf : List He.Defn := [("are_flows", none), ("_law_right", none)]
def ex (K : PySem.W.Frag) : Bool := !(decide ((He.cT K ("are_flows", none)).2 = (He.cT K ("_law_right", none)).2))
abbrev R : PySem.W.OpenRow := PySem.W.OpenLaw.row RW
abbrev hk : PySem.W.Hook := QH.hook 5 fa fn tf ex
def ob (s : PySem.W.SharedT) : QH.AlY := QH.obs 5 fa fn tf ex (HandSHeadRun.getT s)
theorem ob_eq (s : PySem.W.SharedT) : ob s = hk.obs s.abs := QH.obs_eq (HandSHeadRun.getT_eq s)
theorem fnp {K : PySem.W.Frag} {x : Str} {st : Stmt} (h : ∃ fd, FunD K x x (defArgs st) (defBody st) (defScope st) [] [] (He.ga K x) fd) : QG.FnP K x st (He.ga K x) (QP.fdOf K x) := by
  obtain ⟨fd, F⟩ := h
  have e : QP.fdOf K x = fd := by
    obtain ⟨oc, od, dV, kV, doc, pm, an, cdv, ct, osl, _, lk, _⟩ := F.ex
    unfold QP.fdOf
    rw [lk]
  rw [e]
  exact F
theorem txt_of {P : Program} {K : PySem.W.Frag} {h : Heap} {mg : Str → Option Value} (X : K.In h) (G : h.Ns mainGlobals mg) (c : QH.Says fa fn tf ex h K) (hS : (P.main.scope.names.lookup ("super" : Str)).isSome = false) (hF : P.main.file = QH.file) : QP.Txt P K mg :=
  ⟨⟨_, _, _, QH.bad_of X G (c.d.fact 0 (f := .glo "BadArgument") rfl) (c.d.fact 1 (f := .free "super") rfl) c.iw c.bad hS hF⟩,
    He.free_ok X G (c.d.fact 2 (f := .free "abs") rfl),
    He.free_ok X G (c.d.fact 3 (f := .free "all") rfl),
    He.free_ok X G (c.d.fact 4 (f := .free "bool") rfl),
    He.free_ok X G (c.d.fact 5 (f := .free "int") rfl),
    He.free_ok X G (c.d.fact 6 (f := .free "isinstance") rfl),
    He.free_ok X G (c.d.fact 7 (f := .free "len") rfl),
    He.free_ok X G (c.d.fact 8 (f := .free "max") rfl),
    He.free_ok X G (c.d.fact 9 (f := .free "min") rfl),
    He.free_ok X G (c.d.fact 10 (f := .free "range") rfl),
    He.free_ok X G (c.d.fact 11 (f := .free "sum") rfl),
    He.free_ok X G (c.d.fact 12 (f := .free "tuple") rfl),
    He.int_ok X G (c.d.fact 13 (f := .int "MOST_FLOWS" (30)) rfl),
    He.int_ok X G (c.d.fact 14 (f := .int "MOST_RUN" (1000)) rfl),
    He.int_ok X G (c.d.fact 15 (f := .int "MOST_SIZE" (2000)) rfl),
    He.glo_ok X G (c.d.fact 16 (f := .glo "is_integer") rfl),
    fnp (c.d.def_ 0 (d := d_is_integer) rfl),
    He.glo_ok X G (c.d.fact 17 (f := .glo "need_integer") rfl),
    fnp (c.d.def_ 1 (d := d_need_integer) rfl),
    He.glo_ok X G (c.d.fact 18 (f := .glo "common") rfl),
    fnp (c.d.def_ 2 (d := d_common) rfl),
    He.glo_ok X G (c.d.fact 19 (f := .glo "ratio") rfl),
    fnp (c.d.def_ 3 (d := d_ratio) rfl),
    He.glo_ok X G (c.d.fact 20 (f := .glo "are_flows") rfl),
    fnp (c.d.def_ 4 (d := d_are_flows) rfl),
    He.glo_ok X G (c.d.fact 21 (f := .glo "need_pool") rfl),
    fnp (c.d.def_ 5 (d := d_need_pool) rfl),
    He.glo_ok X G (c.d.fact 22 (f := .glo "round_of") rfl),
    fnp (c.d.def_ 6 (d := d_round_of) rfl),
    He.glo_ok X G (c.d.fact 23 (f := .glo "walked") rfl),
    fnp (c.d.def_ 7 (d := d_walked) rfl),
    He.glo_ok X G (c.d.fact 24 (f := .glo "levels") rfl),
    fnp (c.d.def_ 8 (d := d_levels) rfl),
    He.glo_ok X G (c.d.fact 25 (f := .glo "last_begin") rfl),
    fnp (c.d.def_ 9 (d := d_last_begin) rfl),
    He.glo_ok X G (c.d.fact 26 (f := .glo "level_at_last") rfl),
    fnp (c.d.def_ 10 (d := d_level_at_last) rfl),
    He.glo_ok X G (c.d.fact 27 (f := .glo "lost_part") rfl),
    fnp (c.d.def_ 11 (d := d_lost_part) rfl),
    He.glo_ok X G (c.d.fact 28 (f := .glo "lost_of") rfl),
    fnp (c.d.def_ 12 (d := d_lost_of) rfl),
    He.glo_ok X G (c.d.fact 29 (f := .glo "out_at_last") rfl),
    fnp (c.d.def_ 13 (d := d_out_at_last) rfl),
    He.glo_ok X G (c.d.fact 30 (f := .glo "least_pool") rfl),
    fnp (c.d.def_ 14 (d := d_least_pool) rfl),
    He.glo_ok X G (c.d.fact 31 (f := .glo "full_takes") rfl),
    fnp (c.d.def_ 15 (d := d_full_takes) rfl),
    He.glo_ok X G (c.d.fact 32 (f := .glo "_law_dice") rfl),
    fnp (c.d.def_ 16 (d := d__law_dice) rfl),
    He.glo_ok X G (c.d.fact 33 (f := .glo "_law_roll") rfl),
    fnp (c.d.def_ 17 (d := d__law_roll) rfl),
    He.glo_ok X G (c.d.fact 34 (f := .glo "_law_pick") rfl),
    fnp (c.d.def_ 18 (d := d__law_pick) rfl),
    He.glo_ok X G (c.d.fact 35 (f := .glo "_law_refused") rfl),
    fnp (c.d.def_ 19 (d := d__law_refused) rfl),
    He.glo_ok X G (c.d.fact 36 (f := .glo "_law_gcd") rfl),
    fnp (c.d.def_ 20 (d := d__law_gcd) rfl),
    He.glo_ok X G (c.d.fact 37 (f := .glo "_law_frac") rfl),
    fnp (c.d.def_ 21 (d := d__law_frac) rfl),
    He.glo_ok X G (c.d.fact 38 (f := .glo "_law_round") rfl),
    fnp (c.d.def_ 22 (d := d__law_round) rfl),
    He.glo_ok X G (c.d.fact 39 (f := .glo "_law_walk") rfl),
    fnp (c.d.def_ 23 (d := d__law_walk) rfl),
    He.glo_ok X G (c.d.fact 40 (f := .glo "_law_last") rfl),
    fnp (c.d.def_ 24 (d := d__law_last) rfl),
    He.glo_ok X G (c.d.fact 41 (f := .glo "_law_right") rfl),
    fnp (c.d.def_ 25 (d := d__law_right) rfl),
    He.glo_ok X G (c.d.fact 42 (f := .glo "law") rfl),
    fnp (c.d.def_ 26 (d := d_law) rfl)⟩
theorem code_of {K : PySem.W.Frag} {x : Str} {st : Stmt} (F : QG.FnP K x st (He.ga K x) (QP.fdOf K x)) : (QP.fdOf K x).code = .ref (He.codeOf K (x, none)) := by
  obtain ⟨oc, od, dV, kV, doc, pm, an, cdv, ct, osl, efd, lk, hcd, _⟩ := F.ex
  obtain ⟨c, rfl⟩ := He.codeIn_ref hcd
  have e1 : (QP.fdOf K x).code = .ref c := by rw [efd]
  have e2 := He.codeOf_eq (p := (x, none)) lk e1
  rw [e1, e2]
end QPH

set_option Elab.async false
set_option linter.all false
set_option maxRecDepth 100000
set_option maxHeartbeats 0
namespace QPH
open PySem PySem.Spec PyProof.Rows L2
theorem run (w : World) : HandSHeadRun.RunEq R (PySem.W.view R.prog [35]) hk ob 3000 names w := by
  intro os
  kernel_rfl
end QPH

set_option Elab.async false
set_option linter.all false
set_option maxRecDepth 100000
set_option maxHeartbeats 0
namespace QPH
open PySem PySem.Spec PyProof.Rows L2
theorem lawAt (w : World) (mg : Str → Option Value) (fa' : Addr) (h : Heap) (Y : hk.says w h) (G : h.Ns mainGlobals mg) (hmg : mg "law" = some (.ref fa')) : ∃ K : PySem.W.Frag, K.In h ∧ LamX.LawAtS RW w K L2.CX0 9 63 "script" mg fa' h := by
  obtain ⟨K, X, c⟩ := Y
  have T : QP.Txt RW.prog K mg := txt_of X G c (by decide +kernel) (by rfl)
  have e := hmg.symm.trans T.g_law
  have e2 : fa' = He.ga K "law" := by
    injection e with e
    injection e
  subst e2
  have hh : ∀ p ∈ tf, _ := c.hd
  refine ⟨K, X, QP.fdOf K "law", [He.cT K ("are_flows", none), He.cT K ("_law_right", none)], QP.spLaw K (QP.TL (He.cT K ("are_flows", none)).2 (He.cT K ("_law_right", none)).2), ?_, ?_, ?_, ?_, ?_, ?_⟩
  · intro p hp
    rcases List.mem_cons.mp hp with rfl | hp
    · exact c.empty ("are_flows", none) (List.mem_cons_self ..)
    · rw [List.mem_singleton.mp hp]
      exact c.empty ("_law_right", none) (List.mem_cons_of_mem _ (List.mem_cons_self ..))
  · intro p hp
    rcases List.mem_cons.mp hp with rfl | hp
    · exact c.out ("are_flows", none) (List.mem_cons_self ..)
    · rw [List.mem_singleton.mp hp]
      exact c.out ("_law_right", none) (List.mem_cons_of_mem _ (List.mem_cons_self ..))
  · intro p hp
    rcases List.mem_cons.mp hp with rfl | hp
    · exact PySem.W.codeHd_of_K X (c.hd ("are_flows", none) (List.mem_cons_self ..))
    · rw [List.mem_singleton.mp hp]
      exact PySem.W.codeHd_of_K X (c.hd ("_law_right", none) (List.mem_cons_of_mem _ (List.mem_cons_self ..)))
  · have b := FunD.bindsA (ps := ["script"]) T.f_law fun _ _ _ _ _ _ us hl => match us, hl with | [_], _ => rfl
    exact fun s u => b s [u] rfl
  · intro H a ns hl _ hH hS
    refine ⟨a, ns, rfl, hS, hl, fun p hp => ?_, fun H' _ _ => rfl⟩
    rcases List.mem_cons.mp hp with rfl | hp
    · exact LamX.TabS.nil (hH (He.cT K ("are_flows", none)) (List.mem_cons_self ..))
    · rw [List.mem_singleton.mp hp]
      exact LamX.TabS.nil (hH (He.cT K ("_law_right", none)) (List.mem_cons_of_mem _ (List.mem_cons_self ..)))
  · intro base _ _ tb
    have ne : (He.cT K ("are_flows", none)).2 ≠ (He.cT K ("_law_right", none)).2 := by
      have h1 : (!(decide ((He.cT K ("are_flows", none)).2 = (He.cT K ("_law_right", none)).2))) = true := c.more
      intro z
      rw [decide_eq_true z] at h1
      cases h1
    exact QP.ok_law T ⟨code_of T.f_are_flows, code_of T.f__law_right, tb _ (List.mem_cons_self ..), tb _ (List.mem_cons_of_mem _ (List.mem_cons_self ..)), ne⟩
end QPH
open PySem PySem.W PySem.Calls PyProof.Rows
theorem PySem.Challenge.cw_qanatflow_k10_whole_pools_holds : PySem.Challenge.rw_qanatflow_k10_whole_pools.Holds := by
  w_on; o_law
  refine HandSHeadRun.head_any (r := OpenLaw.row PySem.Challenge.rw_qanatflow_k10_whole_pools) (q := view (OpenLaw.row PySem.Challenge.rw_qanatflow_k10_whole_pools).prog [35]) (H := QPH.hk) (ob := QPH.ob) (M := 3000) (loose := QPH.names) (d := HandSHeadRun.topDef (OpenLaw.row PySem.Challenge.rw_qanatflow_k10_whole_pools).prog 35) (kwd := []) QPH.ob_eq
    (by kernel_rfl) (fun s => by kernel_rfl) QPH.run (by kernel_rfl) (by kernel_rfl) (by kernel_rfl) (by rfl) (by first | assumption | decide +kernel) (by decide +kernel) ⟨rfl, rfl, rfl, rfl, rfl, by decide +kernel⟩ ?hw ?hc
  case hw => w_witness2
  case hc =>
    refine LamX.walk_ofTsE (l := PySem.Challenge.rw_qanatflow_k10_whole_pools) (n := 63) (k := 9) (x := "script") (CX := fun _ => L2.CX0) rfl (by decide) (by kernel_rfl) ⟨rfl, by decide, by decide⟩ ?F (fun _ _ _ _ _ z => z)
    intro w mg fa h Y G hmg0
    have hmg : mg ("law" : PySem.Str) = some (.ref fa) := by
      have e : (HandSHeadRun.topDef (OpenLaw.row PySem.Challenge.rw_qanatflow_k10_whole_pools).prog 35).name = ("law" : PySem.Str) := by kernel_rfl
      rw [← e]
      exact hmg0
    exact QPH.lawAt w mg fa h Y G hmg

