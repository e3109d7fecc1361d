import PyProof.Rows.All
import Wide.All
import OpenK.AllK
import Wide.FinOn
import HandS.ForMost
import HandS.ForExc
import HandS.CallSlots
import HandS.TupAny
import KE.GoesNew
import HandS.IsInst
import HandS.Style
import HandS.Deep
import KE.KExcSuper
import KE.KExcIs
import PyProof.ReprRoads
import HandS.RaiseMore
import HandS.Lambda
import HandS.SortInts
import HandS.Gcd
import HandS.EndTab
import KE.DataFind
import HandS.Conv
import HandS.TupMul
import HandS.SortRule
import HandS.TupLe
import HandS.Defaults
import PySem.Challenge.RW_betweencoats_k04_told_nets
set_option Elab.async false
set_option linter.all false
set_option maxRecDepth 100000
set_option maxHeartbeats 4000000
namespace PySem
namespace RefX
open PySem.W PySem.Calls PyProof.Rows PySem.HandSPX
/-! ### errors whose __init__ says super().__init__(text) and keeps what it is told -/
def iA (p1 p2 : Pos) : Arguments := { posonlyargs := [], args := [{ arg := "self", annotation := none, pos := p1 }, { arg := "what", annotation := none, pos := p2 }], vararg := none, kwonlyargs := [], kw_defaults := [], kwarg := none, defaults := [] }
def iB (q0 q1 q2 q3 q4 q5 q6 q7 q8 q9 : Pos) : List Stmt :=
  [.Expr (.Call (.Attribute (.Call (.Name "super" q0) [] [] q1) "__init__" q2) [.Constant (.str "refused") 0 q3] [] q4) q5, .Assign [.Attribute (.Name "self" q6) "what" q7] (.Name "what" q8) q9]
def iS : Scope := { kind := .function, names := [(PySem.Str.ofString "self", .local), (PySem.Str.ofString "what", .local), (PySem.Str.ofString "__class__", .free), (PySem.Str.ofString "super", .globalImplicit)], isGenerator := false, isCoroutine := false, more := [] }
theorem iS_cell : ∀ y ∈ iS.names, y.2 ≠ NameKind.cell := by decide
/-- what the written part says of the text of __init__, at fI, of the class at D -/
structure InitTxt (prog : Program) (K : Frag) (D fI : Addr) : Prop where
  fn : ∃ (oc : Value) (od : Option Addr) (doc pm : Value) (an : Option Addr) (cda cc : Addr) (ct : Value) (osl : Array (Option Value)) (p1 p2 q0 q1 q2 q3 q4 q5 q6 q7 q8 q9 : Pos), K.lookup fI = some ⟨oc, od, .func (ksFn "__init__" "Refused.__init__" (iA p1 p2) (iB q0 q1 q2 q3 q4 q5 q6 q7 q8 q9) iS .none .none doc pm an (.ref cda) ct cc), osl⟩ ∧
    codeIn K (.ref cda) "Refused.__init__" = true ∧ (∃ (ccl : Value) (cdd : Option Addr) (vs : Array Value) (ccs : Array (Option Value)) (file : Str) (tf : Tok), K.lookup cda = some ⟨ccl, cdd, .fields vs, ccs⟩ ∧ vs[2]? = some (.str file tf) ∧ ((prog.main.file : Str) == file) = true) ∧
    (∃ (cl : Value) (cld : Option Addr) (csl : Array (Option Value)), K.lookup cc = some ⟨cl, cld, .cell (some (.ref D)), csl⟩) ∧
    ∃ pl : Env → Sem Bool, ∀ env : Env, eval (.Call (.Attribute (.Call (.Name "super" q0) [] [] q1) "__init__" q2) [.Constant (.str "refused") 0 q3] [] q4) env = (do
      let ov ← attributeBase (.Call (.Name "super" q0) [] [] q1) "__init__" env (eval (.Call (.Name "super" q0) [] [] q1) env)
      standAt q2.atName
      let (f, first) ← holding [ov] (getMethod ov "__init__" (pl env))
      callWith q4 f first (backTo q4 (starEach [.Constant (.str "refused") 0 q3] env)) [])
  cD : ∃ cdD, clsIn K D = some cdD
  sup : nsIn K mainGlobals "super" = some none
  top : (prog.main.scope.names.lookup ("super" : Str)).isSome = false
  opq : nsIn K cStatics "thirdparty.any" = some none
/-- what the written part says of such a class, at C -/
structure ClsTxt (K : Frag) (D fI C : Addr) : Prop where
  cls : ∃ nm q N bs bm sn sub ab col dd k0 k1 k2 k3 k5, K.lookup C = some (excClassObj nm q C N bs bm true sn sub ab col dd k0 k1 k2 k3 k5 "ValueError.__new__") ∧ refsVE bm = true
  sa : findIn K (.ref C) "__setattr__" = some (some (.builtin "object.__setattr__"))
  noN : findIn K (.ref C) "what" = some none
  iC : findIn K (.ref C) "__init__" = some (some (.ref fI))
  tC : typeIn K (.ref fI) = some (.type "function")
  kC : keepIn K (.ref C) = true
  exC : subIn K (.ref C) (.type "BaseException") = some true
  veC : subIn K (.ref C) (.type "ValueError") = some true
  tyC : typeIn K (.ref C) = some (.type "type")
  sub : mroIn K C (.ref D) = some true
  ga : findIn K (.ref C) "__getattribute__" = some (some (.builtin "BaseException.__getattribute__"))
  gg : findIn K (.ref C) "__getattr__" = some none
  hdC : hasDictIn K C = true
  sup : ks_superIn K C D "__init__" = some (some (.builtin "ValueError.__init__"))
/-- what __init__ leaves of a fresh exception at x -/
structure InitEnd (h h' : Heap) (x C dx t1 : Addr) (v : Value) : Prop where
  keep : ∀ b o, b ≠ x → h.get? b = some o → h'.get? b = some o
  obj : h'.get? x = some { cls := .ref C, dict := some dx, data := .fields #[.ref t1, .none, .none, .none, .bool false, .none] }
  dbig : h.objs.size ≤ dx
  dne : dx ≠ x
  ns : h'.Ns1 dx (fun y => if y = "what" then some v else none)
theorem one_size (v : Value) : [v].length ≤ sizeLine := by
  rw [sizeLine_eq]
  exact (by decide : 1 ≤ 16777216)
section
variable {prog : Program} {w : World} {A : Around} {E : Value → Shared → Prop} {R : Result → Shared → Prop} {s : Shared} {K : Frag} {mg mb : Str → Option Value} {C D fI : Addr}
theorem loadC {M : Model} {s : Shared} {name : Str} {scope : Scope} {L a cc : Addr} {cd : Value} {m : Str → Option Value} {x : Str} {pos : Pos} {v : Value} {Q : Value → Shared → Prop} {A : Around} {E : Value → Shared → Prop} (hn : s.heap.Ns L m) (hv : m x = some v) (h : Q v s)
    (hk : scope.kind = .function) (hl : (ksEnv name scope L a cd cc).kindOf x = some .local) (hd : (x == ("__debug__" : Str)) = false := by decide) :
    wpAny M A (eval (.Name x pos) (ksEnv name scope L a cd cc)) Q E s := wpAny_Name (wpAny_loadName_local hk hl hn hv h) hd
/-- ValueError.__init__ bound to the exception, called -/
theorem call_mw {h : Heap} {g : Array GenState} {d : Drawn} {t : Nat} {os : OsState} {u x t0 : Addr} {rest : List Value} {nm q : Str} {N : Addr} {bs bm : List Value} {hdct : Bool} {sn : List Str} {sub : List Value} {ab : Bool} {col : Option Bool} {dd : Option Addr} {k0 k1 k2 k3 k5 : Option Value} {Q : Value → Shared → Prop}
    (hC : h.get? C = some (excClassObj nm q C N bs bm hdct sn sub ab col dd k0 k1 k2 k3 k5 "ValueError.__new__")) (he : h.get? x = some (HandSPX.excO C t0)) (hu : h.get? u = some (kxs_mw "ValueError.__init__" x)) (hz : rest.length ≤ sizeLine)
    (hq : ∀ h' t1, (∀ b o, b ≠ x → h.get? b = some o → h'.get? b = some o) → h'.get? x = some (HandSPX.excO C t1) → Q .none ⟨h', g, d, t, os⟩) :
    wpAny (model prog w) A (call (.ref u) rest) Q E ⟨h, g, d, t, os⟩ := by
  refine wpAny_call (codeAny_of_tree ?_)
  show wpAny _ A.in1 (callAny (.ref u) ⟨rest, []⟩) _ _ _
  simp only [callAny]
  refine wpAny_bind (wpAny_load hu ?_)
  simp only [kxs_mw, show (Value.type "method-wrapper" == Value.type "method" || Value.type "method-wrapper" == Value.type "builtin_function_or_method" || Value.type "method-wrapper" == Value.type "method-wrapper") = true by decide, if_true]
  refine KFB.if_so (by decide) ?_
  refine wpAny_bind (check_bound_init F.excBase_ValueError.toExcCallFacts hC he rfl ?_)
  refine wpAny_bind (wpAny_pure (wpAny_pure ?_))
  refine ⟨plainId_quiet F.excBase_ValueError.init.plain _, codeAny_builtin F.excBase_ValueError.initEntry ?_⟩
  exact exc_init_tree (cls := .ref C) (t0 := t0) (dv := none) (c2 := .none) (c3 := .none) (b4 := .bool false) he hz fun h' k e _ => hq h' _ k e
theorem ref_init (T : InitTxt prog K D fI) (Tc : ClsTxt K D fI C) {x t0 : Addr} {v : Value} (X : K.In s.heap) (hlim : s.heap.NoLimit) (hg : s.heap.Ns mainGlobals mg) (hm : mg "super" = none) (hb : s.heap.Ns builtinsNs mb) (hmb : mb "super" = bootBuiltins "super")
    (hx : s.heap.get? x = some (HandSPX.excO C t0)) (hnx : K.lookup x = none) (hroom : A.depth < recursionLimit) (hq : ∀ h' tk dx t1, InitEnd s.heap h' x C dx t1 v → R (.ok (.ret .none)) { s with heap := h', toks := tk }) :
    codeAny (model prog w) A (.call (.ref fI) ⟨[.ref x, v], []⟩) R s := by
  obtain ⟨oc, od, doc, pm, an, cda, cc, ct, osl, p1, p2, q0, q1, q2, q3, q4, q5, q6, q7, q8, q9, ho, hcd, ⟨ccl, cdd, vs, ccs, file, tf, hcda, hvs, hfile⟩, ⟨cl, cld, csl, hcc⟩, pl, hev⟩ := T.fn
  obtain ⟨nm, q, N, bs, bm, sn, sub, ab, col, dd, k0, k1, k2, k3, k5, hC, hbm⟩ := Tc.cls
  obtain ⟨cdD, hD⟩ := T.cD
  have hcl : clsIn K C = some { name := nm, bases := bs, mro := .ref C :: bm, ns := N, qualname := q, hasDict := true, slotNames := sn, subclasses := sub, abstract := ab, collection := col, hasDel := false } := by unfold clsIn; rw [hC] <;> rfl
  refine ks_codeAny_call_defAt (fd := ksFn "__init__" "Refused.__init__" (iA p1 p2) (iB q0 q1 q2 q3 q4 q5 q6 q7 q8 q9) iS .none .none doc pm an (.ref cda) ct cc) (body := iB q0 q1 q2 q3 q4 q5 q6 q7 q8 q9) (binds := [("self", .ref x), ("what", v)]) hroom (X _ _ ho) rfl hlim (codeRec_of X hcd) rfl
    (BindsTo.of_eq (by first | rfl | with_unfolding_all rfl)) iS_cell (by first | decide | (intro y hy; simp at hy; rcases hy with rfl | rfl <;> rfl)) (fun h₁ hn k => ?_)
  have X₁ : K.In h₁ := X.keeps k
  have hx₁ := k _ _ hx
  have hC₁ := X₁ _ _ hC
  have hxC : x ≠ C := fun z => by rw [z, hC] at hnx; cases hnx
  obtain ⟨oD, hD1, hD2⟩ : ∃ oD, h₁.get? D = some oD ∧ oD.data = .cls cdD := by
    unfold clsIn at hD
    split at hD
    · rename_i c d cd' sl hoD
      cases hD
      exact ⟨_, X₁ _ _ hoD, rfl⟩
    · cases hD
  have I : InstAt h₁ x (HandSPX.excO C t0) C none := ⟨hx₁, rfl, rfl, trivial⟩
  refine ks_wpAt_execs_cons (ks_wpAt_Expr_any (ks_wpAt_MethodCall (ks_wpAt_super_base rfl rfl rfl rfl (X₁ _ _ ho) rfl rfl rfl (X₁ _ _ hcda) rfl hvs hfile T.top ?_) (hev _)))
  refine ks_loadName_global rfl rfl (loadGlobal_builtin (hg.keeps k) hm (hb.keeps k) (hmb.trans (by decide +kernel)) ⟨rfl, ?_⟩)
  refine wpAny_loadName_free rfl rfl rfl ⟨_, X₁ _ _ hcc, rfl⟩ ?_
  refine wpAny_loadName_local (v := .ref x) rfl rfl hn rfl ?_
  refine ks_wpAny_isType_cls hD1 hD2 ⟨rfl, ?_⟩
  refine ks_wpAny_call_super hD1 hD2 hx₁ rfl (fun c z => by cases z) (looks_mroIn X₁ Tc.sub) (fun h₂ hso k₂ => ?_)
  have X₂ : K.In h₂ := X₁.keeps k₂
  have hx₂ := k₂ _ _ hx₁
  have I₂ : InstAt h₂ x (HandSPX.excO C t0) C none := ⟨hx₂, rfl, rfl, trivial⟩
  have hsup : alongIn K "__init__" ((((.ref C :: bm) : List Value).dropWhile (· != .ref D)).drop 1) = some (some (.builtin "ValueError.__init__")) := by
    have z := Tc.sup
    unfold ks_superIn at z
    rw [hcl] at z
    exact z
  refine kxs_getMethod kxs_ValueError hso (looks_opaque X₂ T.opq) (l₀ := .ref C :: bm) ((looks_clsIn X₂ hcl).andThen .now) rfl X₂ hsup (I₂.type.andThen (looks_subIn X₂ Tc.veC)) hxC rfl ?_
  refine kxs_callWith (i := "ValueError.__init__") (x := x) rfl (evalArgs_plain ?_)
  refine Calls.spliced_cons (Calls.Constant_str (k := 0) (pos := q3) (Calls.spliced_nil ⟨Heap.get?_push_at rfl rfl, ?_⟩))
  have hx₃ : (h₂.push (kxs_mw "ValueError.__init__" x)).get? x = some (HandSPX.excO C t0) := Heap.get?_push_of_some _ hx₂
  refine call_mw (Heap.get?_push_of_some _ (X₂ _ _ hC)) hx₃ (Heap.get?_push_at rfl rfl) (one_size _) fun h₃ t1 k₃ hx₄ => ?_
  have kk : ∀ b o, b ≠ x → h₁.get? b = some o → h₃.get? b = some o := fun b o hb e => k₃ b o hb (Heap.get?_push_of_some _ (k₂ b o e))
  have X₃ : K.In h₃ := fun b o e => kk b o (fun z => by rw [z, hnx] at e; cases e) (X₁ b o e)
  have hn₃ : h₃.Ns s.heap.objs.size (fun y => ([("self", Value.ref x), ("what", v)] : List (Str × Value)).reverse.lookup y) := by
    obtain ⟨o, es, ep, e1, e2⟩ := hn
    exact ⟨o, es, ep, kk _ _ (Nat.ne_of_gt (Heap.lt_size hx)) e1, e2⟩
  refine ks_wpAt_execs_cons (wpAt_of_wpAny (plainObj_wpAny_Assign_Attribute ?_))
  refine loadC (v := v) hn₃ rfl (loadC (v := .ref x) hn₃ rfl ?_ rfl rfl) rfl rfl
  refine set_plain X₃ (ox := HandSPX.excO C t1) (od := none) ⟨hx₄, rfl, rfl, trivial⟩ Tc.sa ?_
  refine HandSPX.exc_osa X₃ hx₄ hcl (show refsVE (.ref C :: bm) = true from hbm) rfl Tc.noN (fun h₅ tk₅ dx k₅ dn dne hx₅ hn₅ => ?_)
  have z : s.heap.objs.size ≤ h₃.objs.size := by
    obtain ⟨o, es, ep, e1, e2⟩ := hn₃
    exact Nat.le_of_lt (Heap.lt_size e1)
  exact wpAt_of_wpAny (wpAny_execs_nil (hq h₅ tk₅ dx t1 ⟨fun b o hb e => k₅ b o hb (kk b o hb (k b o e)), hx₅, Nat.le_trans z dn, dne, hn₅⟩))
/-- a made error -/
structure OwnMade (h h' : Heap) (e C d : Addr) (v : Value) : Prop where
  keep : ∀ b o, h.get? b = some o → h'.get? b = some o
  new : h.objs.size ≤ e
  obj : ∃ oe vs, h'.get? e = some oe ∧ oe.cls = .ref C ∧ oe.dict = some d ∧ oe.data = .fields vs ∧ vs[1]? = some .none
  dbig : h.objs.size ≤ d
  dne : d ≠ e
  ns : h'.Ns1 d (fun y => if y = "what" then some v else none)
theorem ref_made (T : InitTxt prog K D fI) (Tc : ClsTxt K D fI C) {v : Value} (X : K.In s.heap) (hlim : s.heap.NoLimit) (hg : s.heap.Ns mainGlobals mg) (hm : mg "super" = none) (hb : s.heap.Ns builtinsNs mb) (hmb : mb "super" = bootBuiltins "super") (hroom : A.depth + 1 < recursionLimit)
    (hq : ∀ h' tk e d, OwnMade s.heap h' e C d v → R (.ok (.ret (.ref e))) { s with heap := h', toks := tk }) :
    codeAny (model prog w) A (.call (.ref C) ⟨[v], []⟩) R s := by
  obtain ⟨nm, q, N, bs, bm, sn, sub, ab, col, dd, k0, k1, k2, k3, k5, hC, hbm⟩ := Tc.cls
  obtain ⟨hp, g, dr, tk, os⟩ := s
  have k : ∀ b o, hp.get? b = some o → ((hp.push (kdv_tup [v])).push (HandSPX.excO C hp.objs.size)).get? b = some o := fun b o e => Heap.get?_push_of_some _ (Heap.get?_push_of_some _ e)
  have hget : ((hp.push (kdv_tup [v])).push (HandSPX.excO C hp.objs.size)).get? (hp.objs.size + 1) = some (HandSPX.excO C hp.objs.size) := by heap_get
  have hnx : K.lookup (hp.objs.size + 1) = none := by
    cases e : K.lookup (hp.objs.size + 1) with
    | none => rfl
    | some o =>
      have z : hp.get? (hp.objs.size + 1) = some o := X _ _ e
      exact absurd (Nat.lt_of_succ_lt (Heap.lt_size z)) (Nat.lt_irrefl _)
  refine HandSPX.call_own F.excBase_ValueError (fun X => refsVE_contains X bm hbm) (X _ _ hC) (looks_findIn X Tc.iC) (fun self => bind_fn X self Tc.tC) (one_size v) ?_
  refine ref_init (s := ⟨(hp.push (kdv_tup [v])).push (HandSPX.excO C hp.objs.size), g, dr, tk, os⟩) T Tc (X.keeps k) (hlim.keeps k) (hg.keeps k) hm (hb.keeps k) hmb hget hnx ?_ fun h' tk' dx t1 ⟨k', hx, dn, dne, hns⟩ => ?_
  · show A.depth + 1 < recursionLimit
    exact hroom
  · have old : ∀ b o, hp.get? b = some o → h'.get? b = some o := fun b o e => k' b o (Nat.ne_of_lt (Nat.lt_succ_of_lt (Heap.lt_size e))) (k b o e)
    have z : hp.objs.size + 1 + 1 ≤ dx := by
      first
        | (simpa only [Heap.size_push] using dn)
        | exact dn
        | (have q := dn; rw [Heap.size_push, Heap.size_push] at q; exact q)
    exact ⟨rfl, hq h' tk' (hp.objs.size + 1) dx ⟨old, Nat.le_succ _, ⟨_, _, hx, rfl, rfl, rfl, rfl⟩, Nat.le_trans (Nat.le_trans (Nat.le_succ _) (Nat.le_succ _)) z, dne, hns⟩⟩
end
end RefX
end PySem
/-! The layer: what a text of Python does, said of plain data. -/
namespace BC
open PySem PySem.Spec PyProof.Rows L2

def Ex (H H' : Hp) : Prop := ∀ a o, H a = some o → H' a = some o
theorem Ex.refl (K0 : Hp) : Ex K0 K0 := fun _ _ h9 => h9
theorem Ex.trans {H H1 H2 : Hp} (a : Ex H H1) (b : Ex H1 H2) : Ex H H2 := fun x o h => b x o (a x o h)
theorem Ex.new {H : Hp} {p : Addr} {o : HO} (h : H p = none) : Ex H (upd H p o) := fun a u e => by
  rw [upd_ne (ne_of_none e h)]
  exact e
theorem Ex.rd {H H' : Hp} {a : Addr} {u : HO} (e : Ex H H') (h : Rd H a u) : Rd H' a u := by
  rcases h with h | ⟨o, h⟩
  · exact Or.inl (e a _ h)
  · exact Or.inr ⟨o, e a _ h⟩
theorem Ex.l {K : PySem.W.Frag} {H H' : Hp} {a : Addr} {xs : List V} (e : Ex H H') (h : SqL K H a xs) : SqL K H' a xs := by
  rcases h with h | h
  · exact Or.inl (e.rd h)
  · exact Or.inr h
theorem Ex.t {K : PySem.W.Frag} {H H' : Hp} {a : Addr} {xs : List V} (e : Ex H H') (h : SqT K H a xs) : SqT K H' a xs := by
  rcases h with h | h
  · exact Or.inl (e.rd h)
  · exact Or.inr h
theorem Ex.nn {H H' : Hp} {p : Addr} (e : Ex H H') (h : H' p = none) : H p = none := by
  cases q : H p with
  | none => rfl
  | some o =>
    rw [e p o q] at h
    cases h

/-! ### plain data and how values bear it -/
class Rp (α : Type) where
  rp : PySem.W.Frag → α → V → Hp → Prop
  mono : ∀ {K x v H H'}, Ex H H' → rp K x v H → rp K x v H'
instance : Rp Int := ⟨fun _ i v _ => v = .int i, fun _ h => h⟩
instance : Rp Bool := ⟨fun _ i v _ => v = .bl i, fun _ h => h⟩
instance : Rp Str := ⟨fun _ i v _ => v = .str i, fun _ h => h⟩
instance : Rp Unit := ⟨fun _ _ v _ => v = .non, fun _ h => h⟩
/-- all of a row -/
def Al (α : Type) [Rp α] (K : PySem.W.Frag) (H : Hp) : List α → List V → Prop
  | [], vs => vs = []
  | x :: xs, vs => ∃ v r, vs = v :: r ∧ Rp.rp K x v H ∧ Al α K H xs r
section
variable {α : Type} [Rp α] {K : PySem.W.Frag} {H H' : Hp}
theorem Al.mono (e : Ex H H') : ∀ {xs : List α} {vs : List V}, Al α K H xs vs → Al α K H' xs vs
  | [], _, h => h
  | _ :: _, _, ⟨v, r, e1, h1, h2⟩ => ⟨v, r, e1, Rp.mono e h1, Al.mono e h2⟩
theorem Al.nil : Al α K H [] [] := rfl
theorem Al.cons {x : α} {xs : List α} {v : V} {vs : List V} (h : Rp.rp K x v H) (t : Al α K H xs vs) : Al α K H (x :: xs) (v :: vs) := ⟨v, vs, rfl, h, t⟩
theorem Al.len : ∀ {xs : List α} {vs : List V}, Al α K H xs vs → vs.length = xs.length
  | [], _, h => by rw [show _ = ([] : List V) from h]; rfl
  | _ :: _, _, ⟨v, r, e1, h1, h2⟩ => by rw [e1, List.length_cons, List.length_cons, Al.len h2]
theorem Al.app : ∀ {xs ys : List α} {vs ws : List V}, Al α K H xs vs → Al α K H ys ws → Al α K H (xs ++ ys) (vs ++ ws)
  | [], _, _, _, h, t => by rw [show _ = ([] : List V) from h]; exact t
  | _ :: _, _, _, _, ⟨v, r, e1, h1, h2⟩, t => by rw [e1]; exact ⟨v, _, rfl, h1, Al.app h2 t⟩
theorem Al.get : ∀ {xs : List α} {vs : List V} {i : Nat} {x : α}, Al α K H xs vs → xs[i]? = some x → ∃ v, vs[i]? = some v ∧ Rp.rp K x v H
  | [], _, _, _, _, e => by simp at e
  | _ :: _, _, 0, _, ⟨v, r, e1, h1, h2⟩, e => by
    simp at e
    subst e
    exact ⟨v, by rw [e1]; rfl, h1⟩
  | _ :: xs, _, i + 1, x, ⟨v, r, e1, h1, h2⟩, e => by
    obtain ⟨u, a, b⟩ := Al.get (i := i) (x := x) h2 (by simpa using e)
    exact ⟨u, by rw [e1]; simpa using a, b⟩
theorem Al.take : ∀ {xs : List α} {vs : List V} (n : Nat), Al α K H xs vs → Al α K H (xs.take n) (vs.take n)
  | _, _, 0, _ => rfl
  | [], _, n + 1, h => by rw [show _ = ([] : List V) from h]; rfl
  | _ :: _, _, n + 1, ⟨v, r, e1, h1, h2⟩ => by rw [e1]; exact ⟨v, _, rfl, h1, Al.take n h2⟩
theorem Al.drop : ∀ {xs : List α} {vs : List V} (n : Nat), Al α K H xs vs → Al α K H (xs.drop n) (vs.drop n)
  | _, _, 0, h => h
  | [], _, n + 1, h => by rw [show _ = ([] : List V) from h]; rfl
  | _ :: _, _, n + 1, ⟨v, r, e1, h1, h2⟩ => by rw [e1]; exact Al.drop n h2
theorem Al.set {y : α} {w : V} (hy : Rp.rp K y w H) : ∀ {xs : List α} {vs : List V} (n : Nat), Al α K H xs vs → Al α K H (xs.set n y) (vs.set n w)
  | [], _, n, h => by rw [show _ = ([] : List V) from h]; rfl
  | _ :: _, _, 0, ⟨v, r, e1, h1, h2⟩ => by rw [e1]; exact ⟨w, _, rfl, hy, h2⟩
  | _ :: _, _, n + 1, ⟨v, r, e1, h1, h2⟩ => by rw [e1]; exact ⟨v, _, rfl, h1, Al.set hy n h2⟩
theorem Al.rev {xs : List α} {vs : List V} (h : Al α K H xs vs) : Al α K H xs.reverse vs.reverse := by
  induction xs generalizing vs with
  | nil => rw [show _ = ([] : List V) from h]; rfl
  | cons x xs ih =>
    obtain ⟨v, r, e1, h1, h2⟩ := h
    rw [e1, List.reverse_cons, List.reverse_cons]
    exact Al.app (ih h2) (Al.cons h1 Al.nil)
end
/-- a Python list (a plain List is a tuple) -/
structure Lst (α : Type) where
  l : List α
instance {α : Type} [Rp α] : Rp (List α) := ⟨fun K xs v H => ∃ a vs, v = .ref a ∧ SqT K H a vs ∧ Al α K H xs vs, fun e ⟨a, vs, h1, h2, h3⟩ => ⟨a, vs, h1, e.t h2, h3.mono e⟩⟩
instance {α : Type} [Rp α] : Rp (Lst α) := ⟨fun K xs v H => ∃ a vs, v = .ref a ∧ H a = some (.lst vs) ∧ Al α K H xs.l vs, fun e ⟨a, vs, h1, h2, h3⟩ => ⟨a, vs, h1, e _ _ h2, h3.mono e⟩⟩
instance {α β : Type} [Rp α] [Rp β] : Rp (α × β) := ⟨fun K x v H => ∃ a u w, v = .ref a ∧ SqT K H a [u, w] ∧ Rp.rp K x.1 u H ∧ Rp.rp K x.2 w H, fun e ⟨a, u, w, h1, h2, h3, h4⟩ => ⟨a, u, w, h1, e.t h2, Rp.mono e h3, Rp.mono e h4⟩⟩
structure T3 (α β γ : Type) where
  a : α
  b : β
  c : γ
instance {α β γ : Type} [Rp α] [Rp β] [Rp γ] : Rp (T3 α β γ) := ⟨fun K x v H => ∃ a u w z, v = .ref a ∧ SqT K H a [u, w, z] ∧ Rp.rp K x.a u H ∧ Rp.rp K x.b w H ∧ Rp.rp K x.c z H,
  fun e ⟨a, u, w, z, h1, h2, h3, h4, h5⟩ => ⟨a, u, w, z, h1, e.t h2, Rp.mono e h3, Rp.mono e h4, Rp.mono e h5⟩⟩
instance {α : Type} [Rp α] : Rp (Option α) := ⟨fun K x v H => match x with
  | none => v = .non
  | some y => Rp.rp K y v H, fun {K x v H H'} e h => by
  cases x with
  | none => exact h
  | some y => exact Rp.mono (α := α) e h⟩

/-- a value's predicate -/
structure VP where
  p : PySem.W.Frag → V → Hp → Prop
  mono : ∀ {K v H H'}, Ex H H' → p K v H → p K v H'
def rv {α : Type} [Rp α] (x : α) : VP := ⟨fun K v H => Rp.rp K x v H, fun e h => Rp.mono e h⟩

/-! ### the tables of code objects that lambdas are made by -/
class TabL where
  T : List (Addr × Str)
variable [TabL]
/-! ### worlds: what never changes, what stands, whose it is -/
structure Wd where
  Hi : Hp
  H : Hp
  O : Addr → Option Nat
  pa : Nat → Option Addr
/-- no table, no code object -/
def NT (o : HO) : Prop := (∀ ps, o ≠ .tbl ps) ∧ ∀ f, o ≠ .ext f
theorem nt_lst {vs : List V} : NT (.lst vs) := ⟨fun _ z => (by cases z), fun _ z => (by cases z)⟩
structure Wd.Ok (w : Wd) : Prop where
  sub : Ex w.Hi w.H
  ho : ∀ a i, w.O a = some i → w.Hi a = none ∧ w.H a ≠ none
  pl : ∀ a i, w.O a = some i → (∀ ps, w.H a ≠ some (.tbl ps)) ∧ ∀ f, w.H a ≠ some (.ext f)
  tb : (∀ b ps, w.Hi b ≠ some (.tbl ps)) ∧ ∀ p ∈ TabL.T, LamX.TabS w.H p.1 p.2
structure Le (w w' : Wd) : Prop where
  hi : Ex w.Hi w'.Hi
  kp : ∀ b o, w.H b = some o → w.O b = none → NT o → w'.H b = some o ∧ w'.O b = none ∧ w'.Hi b = w.Hi b
  dm : ∀ b, w.H b ≠ none → w'.H b ≠ none
  pa : w'.pa = w.pa
  tx : ∀ b o, w.H b = some o → ¬ NT o → ∃ o', w'.H b = some o' ∧ ¬ NT o'
theorem Le.refl (w : Wd) : Le w w := ⟨Ex.refl _, fun _ _ h k _ => ⟨h, k, rfl⟩, fun _ h => h, rfl, fun _ o h n => ⟨o, h, n⟩⟩
theorem Le.trans {w w1 w2 : Wd} (a : Le w w1) (b : Le w1 w2) : Le w w2 where
  hi := a.hi.trans b.hi
  kp := fun c o h k nt => by
    obtain ⟨h1, k1, e1⟩ := a.kp c o h k nt
    obtain ⟨h2, k2, e2⟩ := b.kp c o h1 k1 nt
    exact ⟨h2, k2, e2.trans e1⟩
  dm := fun c h => b.dm c (a.dm c h)
  pa := b.pa.trans a.pa
  tx := fun c o h n => by
    obtain ⟨o1, h1, n1⟩ := a.tx c o h n
    exact b.tx c o1 h1 n1
theorem Le.none {w w' : Wd} (l : Le w w') {d : Addr} (h : w'.H d = none) : w.H d = none := by
  cases q : w.H d with
  | none => rfl
  | some o => exact absurd h (l.dm d (by rw [q]; exact fun z => by cases z))
/-- a list is given away: what stood stands, but it -/
structure LeX (p : Addr) (w w' : Wd) : Prop where
  hi : Ex w.Hi w'.Hi
  kp : ∀ b o, w.H b = some o → w.O b = none → NT o → w'.H b = some o ∧ w'.O b = none ∧ w'.Hi b = w.Hi b
  dm : ∀ b, b ≠ p → w.H b ≠ none → w'.H b ≠ none
  pa : w'.pa = w.pa
  tx : ∀ b o, b ≠ p → w.H b = some o → ¬ NT o → ∃ o', w'.H b = some o' ∧ ¬ NT o'
  no : w'.H p = none
  ow : ∀ o, w.H p = some o → NT o ∧ w.O p ≠ none
theorem nnt {o : HO} (n : ¬ NT o) : (∃ ps, o = .tbl ps) ∨ ∃ f, o = .ext f := Classical.byContradiction fun z => n ⟨fun ps e => z (.inl ⟨ps, e⟩), fun f e => z (.inr ⟨f, e⟩)⟩
theorem Le.x {w w' : Wd} (l : Le w w') {p : Addr} (h : w'.H p = Option.none) : LeX p w w' := ⟨l.hi, l.kp, fun b _ => l.dm b, l.pa, fun b o _ => l.tx b o, h, fun o q => by rw [Le.none l h] at q; cases q⟩
theorem Le.transX {p : Addr} {w w1 w2 : Wd} (a : Le w w1) (b : LeX p w1 w2) : LeX p w w2 where
  hi := a.hi.trans b.hi
  kp := fun c o h k nt => by
    obtain ⟨h1, k1, e1⟩ := a.kp c o h k nt
    obtain ⟨h2, k2, e2⟩ := b.kp c o h1 k1 nt
    exact ⟨h2, k2, e2.trans e1⟩
  dm := fun c n h => b.dm c n (a.dm c h)
  pa := b.pa.trans a.pa
  tx := fun c o n h k => by
    obtain ⟨o1, h1, n1⟩ := a.tx c o h k
    exact b.tx c o1 n h1 n1
  no := b.no
  ow := fun o h => by
    by_cases nt : NT o
    · refine ⟨nt, fun k => ?_⟩
      obtain ⟨h1, k1, _⟩ := a.kp p o h k nt
      exact (b.ow o h1).2 k1
    · obtain ⟨o1, h1, n1⟩ := a.tx p o h nt
      exact absurd (b.ow o1 h1).1 n1
theorem LeX.le {p : Addr} {w w' : Wd} (l : LeX p w w') (h : w.O p = Option.none) : Le w w' := by
  have hp : w.H p = none := by
    cases q : w.H p with
    | none => rfl
    | some o => exact absurd h (l.ow o q).2
  exact ⟨l.hi, l.kp, fun b hb => l.dm b (fun z => by rw [z] at hb; exact hb hp) hb, l.pa, fun b o hb => l.tx b o (fun z => by rw [z, hp] at hb; cases hb) hb⟩
structure Slot where
  p : PySem.W.Frag → Nat → Option V → Wd → Prop
  mono : ∀ {K i s w w'}, p K i s w → Ex w.Hi w'.Hi → (∀ a, w.O a = some i → w'.O a = some i ∧ w'.H a = w.H a) → w'.pa = w.pa → p K i s w'
def un : Slot := ⟨fun _ _ _ _ => True, fun h _ _ _ => h⟩
def im (P : VP) : Slot := ⟨fun K _ s w => ∃ v, s = some v ∧ P.p K v w.Hi, fun ⟨v, e, h⟩ x _ _ => ⟨v, e, P.mono x h⟩⟩
/-- a list of one's own -/
def own {α : Type} [Rp α] (xs : List α) : Slot := ⟨fun K i s w => ∃ a vs, s = some (.ref a) ∧ w.O a = some i ∧ w.H a = some (.lst vs) ∧ Al α K w.Hi xs vs,
  fun ⟨a, vs, e, o, h, l⟩ x k _ => ⟨a, vs, e, (k a o).1, (k a o).2.trans h, l.mono x⟩⟩
/-- a list that was handed in to be changed -/
def par {α : Type} [Rp α] (xs : List α) : Slot := ⟨fun K i s w => ∃ a vs, s = some (.ref a) ∧ w.pa i = some a ∧ w.O a = some i ∧ w.H a = some (.lst vs) ∧ Al α K w.Hi xs vs,
  fun ⟨a, vs, e, q, o, h, l⟩ x k z => ⟨a, vs, e, by rw [z]; exact q, (k a o).1, (k a o).2.trans h, l.mono x⟩⟩
structure Rep (K : PySem.W.Frag) (env : List Slot) (σ : L2.St) (w : Wd) : Prop where
  ok : w.Ok
  len : σ.length = env.length
  sl : ∀ (i : Nat) (s : Slot), env[i]? = some s → ∃ x, σ[i]? = some x ∧ s.p K i x w
section
variable {K : PySem.W.Frag} {env env' : List Slot} {σ : L2.St} {w w' : Wd}
theorem Rep.to (R : Rep K env σ w) (ok : w'.Ok) (hi : Ex w.Hi w'.Hi) (k : ∀ a i, w.O a = some i → w'.O a = some i ∧ w'.H a = w.H a) (pa : w'.pa = w.pa) : Rep K env σ w' :=
  ⟨ok, R.len, fun i s e => let ⟨x, e1, h⟩ := R.sl i s e; ⟨x, e1, s.mono h hi (fun a => k a i) pa⟩⟩
/-- a new thing that never changes -/
def Wd.add (w : Wd) (p : Addr) (o : HO) : Wd := { w with Hi := upd w.Hi p o, H := upd w.H p o }
/-- a new thing that stands beside -/
def Wd.put (w : Wd) (p : Addr) (o : HO) : Wd := { w with H := upd w.H p o }
/-- a new thing of slot i -/
def Wd.new (w : Wd) (i : Nat) (p : Addr) (o : HO) : Wd := { w with H := upd w.H p o, O := fun b => if b = p then some i else w.O b }
theorem Wd.Ok.fresh (ok : w.Ok) {p : Addr} (h : w.H p = none) : w.Hi p = none ∧ w.O p = none := by
  refine ⟨ok.sub.nn h, ?_⟩
  cases q : w.O p with
  | none => rfl
  | some i => exact absurd h (ok.ho p i q).2
theorem Ex.both {H H' : Hp} {p : Addr} {o : HO} (e : Ex H H') : Ex (upd H p o) (upd H' p o) := fun a u h => by
  by_cases q : a = p
  · subst q
    rw [upd_same] at h ⊢
    exact h
  · rw [upd_ne q] at h ⊢
    exact e a u h
theorem Ex.put {H H' : Hp} {p : Addr} {o : HO} (e : Ex H H') (h : H p = none) : Ex H (upd H' p o) := fun a u q => by
  rw [upd_ne (ne_of_none q h)]
  exact e a u q
theorem upd_dom {H : Hp} {p : Addr} {o : HO} {b : Addr} (h : H b ≠ none) : upd H p o b ≠ none := by
  by_cases q : b = p
  · subst q
    rw [upd_same]
    exact fun z => by cases z
  · rw [upd_ne q]
    exact h
/-- what tables and code objects ask of a change: they stay -/
theorem tabs_mv (ok : w.Ok) (hi : ∀ b ps, w'.Hi b ≠ some (.tbl ps)) (k : ∀ b o, w.H b = some o → ((∃ ps, o = .tbl ps) ∨ ∃ f, o = .ext f) → w'.H b = some o) : (∀ b ps, w'.Hi b ≠ some (.tbl ps)) ∧ ∀ p ∈ TabL.T, LamX.TabS w'.H p.1 p.2 := ⟨hi, fun p hp => by
  obtain ⟨ps, h2, h3, h4⟩ := ok.tb.2 p hp
  refine ⟨ps, k _ _ h2 (.inl ⟨ps, rfl⟩), h3, fun pos cv hc => ?_⟩
  obtain ⟨c, e1, e2⟩ := h4 pos cv hc
  exact ⟨c, e1, k _ _ e2 (.inr ⟨_, rfl⟩)⟩⟩
theorem pl_ne (ok : w.Ok) {a b : Addr} {i : Nat} {o : HO} (ha : w.O a = some i) (hb : w.H b = some o) (ho : (∃ ps, o = .tbl ps) ∨ ∃ f, o = .ext f) : b ≠ a := fun z => by
  subst z
  rcases ho with ⟨ps, rfl⟩ | ⟨f, rfl⟩
  · exact (ok.pl b i ha).1 ps hb
  · exact (ok.pl b i ha).2 f hb
theorem own_nt (ok : w.Ok) {a : Addr} {i : Nat} {o : HO} (ha : w.O a = some i) (hb : w.H a = some o) : NT o := ⟨fun ps z => (ok.pl a i ha).1 ps (by rw [hb, z]), fun f z => (ok.pl a i ha).2 f (by rw [hb, z])⟩
theorem lst_pl {H : Hp} {a : Addr} {vs : List V} (h : H a = some (.lst vs)) : (∀ ps, H a ≠ some (.tbl ps)) ∧ ∀ f, H a ≠ some (.ext f) := ⟨fun ps z => (by rw [h] at z; cases z), fun f z => (by rw [h] at z; cases z)⟩
theorem pl_up {H : Hp} {a p : Addr} {o : HO} (ne : a ≠ p) (h : (∀ ps, H a ≠ some (.tbl ps)) ∧ ∀ f, H a ≠ some (.ext f)) : (∀ ps, upd H p o a ≠ some (.tbl ps)) ∧ ∀ f, upd H p o a ≠ some (.ext f) := by
  rw [upd_ne ne]
  exact h
theorem add_ok (ok : w.Ok) {p : Addr} {o : HO} (h : w.H p = none) (hp : ∀ ps, o ≠ .tbl ps := by exact fun _ z => (by cases z)) : (w.add p o).Ok := by
  obtain ⟨h1, h2⟩ := ok.fresh h
  have nep : ∀ a i, w.O a = some i → a ≠ p := fun a i q z => by
    subst z
    rw [h2] at q
    cases q
  refine ⟨ok.sub.both, fun a i q => ?_, fun a i q => pl_up (nep a i q) (ok.pl a i q), tabs_mv ok (fun b ps z => by
    by_cases e : b = p
    · subst e
      exact hp ps (Option.some.inj (upd_same.symm.trans z))
    · exact ok.tb.1 b ps ((upd_ne e).symm.trans z)) fun b u hb _ => (upd_ne (ne_of_none hb h)).trans hb⟩
  refine ⟨?_, upd_dom (ok.ho a i q).2⟩
  show upd w.Hi p o a = none
  rw [upd_ne (nep a i q)]
  exact (ok.ho a i q).1
theorem put_ok (ok : w.Ok) {p : Addr} {o : HO} (h : w.H p = none) : (w.put p o).Ok := by
  obtain ⟨h1, h2⟩ := ok.fresh h
  have nep : ∀ a i, w.O a = some i → a ≠ p := fun a i q z => by
    subst z
    rw [h2] at q
    cases q
  exact ⟨ok.sub.put h1, fun a i q => ⟨(ok.ho a i q).1, upd_dom (ok.ho a i q).2⟩, fun a i q => pl_up (nep a i q) (ok.pl a i q), tabs_mv ok ok.tb.1 fun b u hb _ => (upd_ne (ne_of_none hb h)).trans hb⟩
theorem new_ok (ok : w.Ok) {i : Nat} {p : Addr} {o : HO} (h : w.H p = none) (hp : (∀ ps, o ≠ .tbl ps) ∧ ∀ f, o ≠ .ext f := by exact ⟨fun _ z => (by cases z), fun _ z => (by cases z)⟩) : (w.new i p o).Ok := by
  obtain ⟨h1, h2⟩ := ok.fresh h
  refine ⟨ok.sub.put h1, fun a j q => ?_, fun a j q => ?_, tabs_mv ok ok.tb.1 fun b u hb _ => (upd_ne (ne_of_none hb h)).trans hb⟩
  rotate_left
  · by_cases e : a = p
    · subst e
      exact ⟨fun ps z => hp.1 ps (Option.some.inj (upd_same.symm.trans z)), fun f z => hp.2 f (Option.some.inj (upd_same.symm.trans z))⟩
    · have q' : w.O a = some j := by
        have : (if a = p then some i else w.O a) = some j := q
        rw [if_neg e] at this
        exact this
      exact pl_up e (ok.pl a j q')
  by_cases e : a = p
  · subst e
    refine ⟨h1, ?_⟩
    show upd w.H a o a ≠ none
    rw [upd_same]
    exact fun z => by cases z
  · have q' : w.O a = some j := by
      have : (if a = p then some i else w.O a) = some j := q
      rw [if_neg e] at this
      exact this
    exact ⟨(ok.ho a j q').1, upd_dom (ok.ho a j q').2⟩
theorem add_le (ok : w.Ok) {p : Addr} {o : HO} (h : w.H p = none) : Le w (w.add p o) := by
  obtain ⟨h1, h2⟩ := ok.fresh h
  refine ⟨Ex.new h1, fun b u q k _ => ?_, fun b q => upd_dom q, rfl, fun b u q n => ⟨u, (upd_ne (ne_of_none q h)).trans q, n⟩⟩
  have ne : b ≠ p := ne_of_none q h
  exact ⟨(upd_ne ne).trans q, k, upd_ne ne⟩
theorem put_le (ok : w.Ok) {p : Addr} {o : HO} (h : w.H p = none) : Le w (w.put p o) := by
  refine ⟨Ex.refl _, fun b u q k _ => ?_, fun b q => upd_dom q, rfl, fun b u q n => ⟨u, (upd_ne (ne_of_none q h)).trans q, n⟩⟩
  have ne : b ≠ p := ne_of_none q h
  exact ⟨(upd_ne ne).trans q, k, rfl⟩
theorem new_le (ok : w.Ok) {i : Nat} {p : Addr} {o : HO} (h : w.H p = none) : Le w (w.new i p o) := by
  refine ⟨Ex.refl _, fun b u q k _ => ?_, fun b q => upd_dom q, rfl, fun b u q n => ⟨u, (upd_ne (ne_of_none q h)).trans q, n⟩⟩
  have ne : b ≠ p := ne_of_none q h
  exact ⟨(upd_ne ne).trans q, (if_neg ne).trans k, rfl⟩
theorem Rep.add (R : Rep K env σ w) {p : Addr} {o : HO} (h : w.H p = none) (hp : ∀ ps, o ≠ .tbl ps := by exact fun _ z => (by cases z)) : Rep K env σ (w.add p o) := by
  obtain ⟨h1, h2⟩ := R.ok.fresh h
  refine R.to (add_ok R.ok h hp) (Ex.new h1) (fun a i q => ⟨q, ?_⟩) rfl
  exact upd_ne fun z => by subst z; rw [h2] at q; cases q
theorem Rep.put (R : Rep K env σ w) {p : Addr} {o : HO} (h : w.H p = none) : Rep K env σ (w.put p o) := by
  obtain ⟨h1, h2⟩ := R.ok.fresh h
  refine R.to (put_ok R.ok h) (Ex.refl _) (fun a i q => ⟨q, ?_⟩) rfl
  exact upd_ne fun z => by subst z; rw [h2] at q; cases q
theorem Rep.new (R : Rep K env σ w) {i : Nat} {p : Addr} {o : HO} (h : w.H p = none) (hp : (∀ ps, o ≠ .tbl ps) ∧ ∀ f, o ≠ .ext f := by exact ⟨fun _ z => (by cases z), fun _ z => (by cases z)⟩) : Rep K env σ (w.new i p o) := by
  obtain ⟨h1, h2⟩ := R.ok.fresh h
  refine R.to (new_ok R.ok h hp) (Ex.refl _) (fun a j q => ?_) rfl
  have ne : a ≠ p := fun z => by subst z; rw [h2] at q; cases q
  exact ⟨(if_neg ne).trans q, upd_ne ne⟩
/-- a slot is bound -/
theorem Rep.set (R : Rep K env σ w) {i : Nat} {s : Slot} {x : Option V} (h : s.p K i x w) : Rep K (env.set i s) (σ.set i x) w := by
  refine ⟨R.ok, by rw [List.length_set, List.length_set]; exact R.len, fun j t e => ?_⟩
  have hlt : j < env.length := by
    have := (List.getElem?_eq_some_iff.mp e).1
    rw [List.length_set] at this
    exact this
  by_cases q : i = j
  · subst q
    rw [List.getElem?_set_self hlt] at e
    cases e
    exact ⟨x, List.getElem?_set_self (by rw [R.len]; exact hlt), h⟩
  · rw [List.getElem?_set_ne q] at e
    rw [List.getElem?_set_ne q]
    exact R.sl j t e
/-- slots forgotten -/
theorem Rep.weak (R : Rep K env σ w) (hl : env'.length = env.length) (h : ∀ (i : Nat) (s : Slot), env'[i]? = some s → env[i]? = some s ∨ s = un) : Rep K env' σ w := by
  refine ⟨R.ok, by rw [hl]; exact R.len, fun i s e => ?_⟩
  rcases h i s e with q | q
  · exact R.sl i s q
  · have hlt : i < σ.length := by
      rw [R.len, ← hl]
      exact (List.getElem?_eq_some_iff.mp e).1
    exact ⟨σ[i], List.getElem?_eq_getElem hlt, by rw [q]; trivial⟩
end

/-! ### judgements: expressions -/
def tE (K : PySem.W.Frag) (env env' : List Slot) (P : VP) : TE := fun σ H Q => ∃ w : Wd, w.H = H ∧ Rep K env σ w ∧ ∀ v w', Rep K env' σ w' → Le w w' → P.p K v w'.Hi → Q v w'.H
abbrev HE (X : Cx) (e : Expr) (env env' : List Slot) (P : VP) : Prop := PE X e (tE X.K env env' P)
def tT (K : PySem.W.Frag) (env env' : List Slot) (b : Bool) : TT := fun σ H Q => ∃ w : Wd, w.H = H ∧ Rep K env σ w ∧ ∀ w', Rep K env' σ w' → Le w w' → Q b w'.H
abbrev HB (X : Cx) (e : Expr) (env env' : List Slot) (b : Bool) : Prop := PT X e (tT X.K env env' b)
abbrev HW (X : Cx) (e : Expr) (env env' : List Slot) (b : Bool) : Prop := PW X e (tT X.K env env' b)
def AlP (K : PySem.W.Frag) (H : Hp) : List VP → List V → Prop
  | [], vs => vs = []
  | P :: Ps, vs => ∃ v r, vs = v :: r ∧ P.p K v H ∧ AlP K H Ps r
theorem AlP.mono {K : PySem.W.Frag} {H H' : Hp} (e : Ex H H') : ∀ {Ps : List VP} {vs : List V}, AlP K H Ps vs → AlP K H' Ps vs
  | [], _, h => h
  | P :: _, _, ⟨v, r, e1, h1, h2⟩ => ⟨v, r, e1, P.mono e h1, AlP.mono e h2⟩
def tA (K : PySem.W.Frag) (env env' : List Slot) (Ps : List VP) : TA := fun σ H Q => ∃ w : Wd, w.H = H ∧ Rep K env σ w ∧ ∀ vs w', Rep K env' σ w' → Le w w' → AlP K w'.Hi Ps vs → Q vs w'.H
abbrev HA (X : Cx) (es : List Expr) (env env' : List Slot) (Ps : List VP) : Prop := PA X es (tA X.K env env' Ps)
/-- a fresh list -/
def tL {α : Type} [Rp α] (K : PySem.W.Frag) (env env' : List Slot) (xs : List α) : TE := fun σ H Q => ∃ w : Wd, w.H = H ∧ Rep K env σ w ∧ ∀ p vs w', Rep K env' σ w' → Le w w' → w'.H p = none → Al α K w'.Hi xs vs → Q (.ref p) (upd w'.H p (.lst vs))
abbrev HL {α : Type} [Rp α] (X : Cx) (e : Expr) (env env' : List Slot) (xs : List α) : Prop := PE X e (tL X.K env env' xs)
theorem _root_.L2.PE.imp {X : Cx} {e : Expr} {t t' : TE} (h : PE X e t) (k : ∀ σ H Q, t' σ H Q → t σ H Q) : PE X e t' := ⟨fun pins s σ H Q I q => h.run pins s σ H Q I (k σ H Q q)⟩
theorem _root_.L2.PT.imp {X : Cx} {e : Expr} {t t' : TT} (h : PT X e t) (k : ∀ σ H Q, t' σ H Q → t σ H Q) : PT X e t' := ⟨fun pins s σ H Q I q => h.run pins s σ H Q I (k σ H Q q)⟩
theorem _root_.L2.PW.imp {X : Cx} {e : Expr} {t t' : TT} (h : PW X e t) (k : ∀ σ H Q, t' σ H Q → t σ H Q) : PW X e t' := ⟨fun wh pins s σ H Q I q => h.run wh pins s σ H Q I (k σ H Q q)⟩
theorem _root_.L2.PA.imp {X : Cx} {es : List Expr} {t t' : TA} (h : PA X es t) (k : ∀ σ H Q, t' σ H Q → t σ H Q) : PA X es t' := ⟨fun pos pins s σ H Q I q => h.run pos pins s σ H Q I (k σ H Q q)⟩
theorem _root_.L2.PS.imp {X : Cx} {e : Stmt} {t t' : TS} (h : PS X e t) (k : ∀ D σ H, t' D σ H → t D σ H) : PS X e t' := ⟨fun pins s σ H D I q => h.run pins s σ H D I (k D σ H q)⟩
theorem _root_.L2.PSs.imp {X : Cx} {e : List Stmt} {t t' : TS} (h : PSs X e t) (k : ∀ D σ H, t' D σ H → t D σ H) : PSs X e t' := ⟨fun pins s σ H D I q => h.run pins s σ H D I (k D σ H q)⟩
section
variable {X : Cx} {env env1 env2 env3 : List Slot} {P R S : VP} {a b e : Expr} {pos : Pos}
theorem he_to (h : HE X e env env1 P) (k : ∀ K v H, P.p K v H → R.p K v H) : HE X e env env1 R :=
  h.imp fun σ H Q ⟨w, e1, R1, q⟩ => ⟨w, e1, R1, fun v w' R' l p => q v w' R' l (k _ _ _ p)⟩
theorem he_eq {α : Type} [Rp α] {x y : α} (h : HE X e env env1 (rv x)) (k : x = y) : HE X e env env1 (rv y) := by rw [← k]; exact h
theorem he_env (h : HE X e env env1 P) (k : env1 = env2) : HE X e env env2 P := by rw [← k]; exact h
theorem hb_eq {c d : Bool} (h : HB X e env env1 c) (k : c = d) : HB X e env env1 d := by rw [← k]; exact h
/-! names and constants -/
theorem he_var (i : Nat) {x : Str} (hi : env[i]? = some (im P)) (hN : X.N[i]? = some x := by rfl)
    (hv : Vis X.env.scope x := by first | exact Or.inl rfl | exact Or.inr (Or.inl rfl) | exact Or.inr (Or.inr rfl)) (hd : (x == ("__debug__" : Str)) = false := by decide) (hcd : (x == ("__classdict__" : Str)) = false := by decide) : HE X (.Name x pos) env env P :=
  (pe_var hN hv hd hcd).imp fun σ H Q ⟨w, e1, R1, q⟩ => by
    subst e1
    obtain ⟨x, h1, v, h2, h3⟩ := R1.sl i _ hi
    exact ⟨v, by rw [h1, h2], q v w R1 (Le.refl w) h3⟩
theorem he_c {v : V} (h : PE X e (tC v)) (hp : ∀ K H, P.p K v H) : HE X e env env P := h.imp fun σ H Q ⟨w, e1, R1, q⟩ => by
  subst e1
  exact q v w R1 (Le.refl w) (hp _ _)
theorem he_int {i : Int} {j} : HE X (.Constant (.int i) j pos) env env (rv i) := he_c pe_int fun _ _ => rfl
theorem he_bl {i : Bool} {j} : HE X (.Constant (.bool i) j pos) env env (rv i) := he_c pe_bl fun _ _ => rfl
theorem he_str {i : Str} {j} : HE X (.Constant (.str i) j pos) env env (rv i) := he_c pe_str fun _ _ => rfl
theorem he_non {j} : HE X (.Constant .none j pos) env env (rv ()) := he_c pe_non fun _ _ => rfl
theorem he_gint {x : Str} {i : Int} (hm : ∃ t, X.mg x = some (.int i t)) (hg : Gl X x := by rfl) (hd : (x == ("__debug__" : Str)) = false := by decide) : HE X (.Name x pos) env env (rv i) := by
  obtain ⟨t, hm⟩ := hm
  exact he_c (pe_glob (v := .int i) hg hm ⟨t, rfl⟩ hd) fun _ _ => rfl
/-! operators -/
def OpV (X : Cx) (r : R2) (P R S : VP) : Prop := ∀ env σ x y w, Rep X.K env σ w → P.p X.K x w.Hi → R.p X.K y w.Hi → ∀ Q : VK, (∀ v w', Rep X.K env σ w' → Le w w' → S.p X.K v w'.Hi → Q v w'.H) → r x y w.H Q
theorem to_op {r : R2} {ta tb : TE} {K : PySem.W.Frag} (hK : K = X.K) (ha : ta = tE K env env1 P) (hb : tb = tE K env1 env2 R) (h : OpV X r P R S) : ∀ σ H Q, tE X.K env env2 S σ H Q → tOp r ta tb σ H Q := by
  subst hK ha hb
  rintro σ H Q ⟨w, rfl, R1, q⟩
  exact ⟨w, rfl, R1, fun x w1 R2 l1 p1 => ⟨w1, rfl, R2, fun y w2 R3 l2 p2 => h env2 σ x y w2 R3 (P.mono l2.hi p1) p2 Q fun v w3 R4 l3 p3 => q v w3 R4 ((l1.trans l2).trans l3) p3⟩⟩
theorem he_op {op : Operator} {r : R2} (ho : OpR X (binaryOp op) r) (h : OpV X r P R S) (ha : HE X a env env1 P) (hb : HE X b env1 env2 R) : HE X (.BinOp a op b pos) env env2 S :=
  (pe_op ho ha hb).imp (to_op rfl rfl rfl h)
theorem he_cmp {op : CmpOp} {r : R2} (ho : OpR X (compareOp op) r) (h : OpV X r P R S) (hm : behindInMarks op b = false) (ha : HE X a env env1 P) (hb : HE X b env1 env2 R) : HE X (.Compare a [op] [b] pos) env env2 S :=
  (pe_cmpR ho ha hb hm).imp (to_op rfl rfl rfl h)
theorem hb_cmp {op : CmpOp} {r : R2} {c : Bool} (ho : OpR X (compareOp op) r) (h : OpV X r P R (rv c)) (hm : behindInMarks op b = false) (ha : HE X a env env1 P) (hb : HE X b env1 env2 R) : HB X (.Compare a [op] [b] pos) env env2 c :=
  (pt_cmpR ho ha hb hm).imp fun σ H Q ⟨w, e1, R1, q⟩ => by
    refine to_op rfl rfl rfl h σ H _ ⟨w, e1, R1, fun v w' R' l p => ⟨c, p, q w' R' l⟩⟩
theorem ov_I {g : Int → Int → V} {i j : Int} {S : VP} (h : ∀ K H, S.p K (g i j) H) : OpV X (rI0 g) (rv i) (rv j) S := fun env σ x y w R1 hx hy Q q => ⟨i, j, hx, hy, q _ w R1 (Le.refl w) (h _ _)⟩
theorem ov_C {C : Int → Int → Prop} {g : Int → Int → V} {i j : Int} {S : VP} (hc : C i j) (h : ∀ K H, S.p K (g i j) H) : OpV X (rI C g) (rv i) (rv j) S := fun env σ x y w R1 hx hy Q q => ⟨i, j, hx, hy, hc, q _ w R1 (Le.refl w) (h _ _)⟩
section
variable {i j : Int}
theorem he_add (ha : HE X a env env1 (rv i)) (hb : HE X b env1 env2 (rv j)) : HE X (.BinOp a .Add b pos) env env2 (rv (i + j)) := he_op op_add (ov_I fun _ _ => rfl) ha hb
theorem he_sub (ha : HE X a env env1 (rv i)) (hb : HE X b env1 env2 (rv j)) : HE X (.BinOp a .Sub b pos) env env2 (rv (i - j)) := he_op op_sub (ov_I fun _ _ => rfl) ha hb
theorem he_mul (hc : CMul i j) (ha : HE X a env env1 (rv i)) (hb : HE X b env1 env2 (rv j)) : HE X (.BinOp a .Mult b pos) env env2 (rv (i * j)) := he_op op_mul (ov_C hc fun _ _ => rfl) ha hb
theorem he_fdiv (hc : CDiv i j) (ha : HE X a env env1 (rv i)) (hb : HE X b env1 env2 (rv j)) : HE X (.BinOp a .FloorDiv b pos) env env2 (rv (i / j)) := he_op op_fdiv (ov_C hc fun _ _ => rfl) ha hb
theorem he_mod (hc : 0 < j) (ha : HE X a env env1 (rv i)) (hb : HE X b env1 env2 (rv j)) : HE X (.BinOp a .Mod b pos) env env2 (rv (i % j)) := he_op op_mod (ov_C hc fun _ _ => rfl) ha hb
theorem he_pow (hc : CPow i j) (ha : HE X a env env1 (rv i)) (hb : HE X b env1 env2 (rv j)) : HE X (.BinOp a .Pow b pos) env env2 (rv (i ^ j.toNat)) := he_op op_pow (ov_C hc fun _ _ => rfl) ha hb
theorem he_neg (ha : HE X a env env1 (rv i)) : HE X (.UnaryOp .USub a pos) env env1 (rv (-i)) := (pe_un un_neg ha).imp fun σ H Q ⟨w, e1, R1, q⟩ => ⟨w, e1, R1, fun v w' R' l p => ⟨i, p, q _ w' R' l rfl⟩⟩
theorem he_lt (ha : HE X a env env1 (rv i)) (hb : HE X b env1 env2 (rv j)) : HE X (.Compare a [.Lt] [b] pos) env env2 (rv (decide (i < j))) := he_cmp op_lt (ov_I fun _ _ => rfl) (nomark _) ha hb
theorem he_le (ha : HE X a env env1 (rv i)) (hb : HE X b env1 env2 (rv j)) : HE X (.Compare a [.LtE] [b] pos) env env2 (rv (decide (i ≤ j))) := he_cmp op_le (ov_I fun _ _ => rfl) (nomark _) ha hb
theorem he_gt (ha : HE X a env env1 (rv i)) (hb : HE X b env1 env2 (rv j)) : HE X (.Compare a [.Gt] [b] pos) env env2 (rv (decide (j < i))) := he_cmp op_gt (ov_I fun _ _ => rfl) (nomark _) ha hb
theorem he_ge (ha : HE X a env env1 (rv i)) (hb : HE X b env1 env2 (rv j)) : HE X (.Compare a [.GtE] [b] pos) env env2 (rv (decide (j ≤ i))) := he_cmp op_ge (ov_I fun _ _ => rfl) (nomark _) ha hb
theorem hb_lt (ha : HE X a env env1 (rv i)) (hb : HE X b env1 env2 (rv j)) : HB X (.Compare a [.Lt] [b] pos) env env2 (decide (i < j)) := hb_cmp op_lt (ov_I fun _ _ => rfl) (nomark _) ha hb
theorem hb_le (ha : HE X a env env1 (rv i)) (hb : HE X b env1 env2 (rv j)) : HB X (.Compare a [.LtE] [b] pos) env env2 (decide (i ≤ j)) := hb_cmp op_le (ov_I fun _ _ => rfl) (nomark _) ha hb
theorem hb_gt (ha : HE X a env env1 (rv i)) (hb : HE X b env1 env2 (rv j)) : HB X (.Compare a [.Gt] [b] pos) env env2 (decide (j < i)) := hb_cmp op_gt (ov_I fun _ _ => rfl) (nomark _) ha hb
theorem hb_ge (ha : HE X a env env1 (rv i)) (hb : HE X b env1 env2 (rv j)) : HB X (.Compare a [.GtE] [b] pos) env env2 (decide (j ≤ i)) := hb_cmp op_ge (ov_I fun _ _ => rfl) (nomark _) ha hb
end
/-! == and != of scalars -/
class Sc (α : Type) [Rp α] where
  dec : DecidableEq α
  eq : ∀ (K : PySem.W.Frag) (x y : α) (u v : V) (H : Hp), Rp.rp K x u H → Rp.rp K y v H → scal u v = true ∧ (u = v ↔ x = y)
instance : Sc Int := ⟨inferInstance, fun K x y u v H h1 h2 => by rw [show u = .int x from h1, show v = .int y from h2]; exact ⟨rfl, by simp⟩⟩
instance : Sc Bool := ⟨inferInstance, fun K x y u v H h1 h2 => by rw [show u = .bl x from h1, show v = .bl y from h2]; exact ⟨rfl, by simp⟩⟩
instance : Sc Str := ⟨inferInstance, fun K x y u v H h1 h2 => by rw [show u = .str x from h1, show v = .str y from h2]; exact ⟨rfl, by simp⟩⟩
theorem ov_eq {α : Type} [Rp α] [s : Sc α] [DecidableEq α] {x y : α} : OpV X rEq (rv x) (rv y) (rv (decide (x = y))) := fun env σ u v w R1 hx hy Q q => by
  obtain ⟨h1, h2⟩ := s.eq _ _ _ _ _ _ hx hy
  exact ⟨h1, q _ w R1 (Le.refl w) (show V.bl _ = V.bl _ by congr 1; exact decide_eq_decide.mpr h2)⟩
theorem ov_ne {α : Type} [Rp α] [s : Sc α] [DecidableEq α] {x y : α} : OpV X rNe (rv x) (rv y) (rv (!decide (x = y))) := fun env σ u v w R1 hx hy Q q => by
  obtain ⟨h1, h2⟩ := s.eq _ _ _ _ _ _ hx hy
  exact ⟨h1, q _ w R1 (Le.refl w) (show V.bl _ = V.bl _ by congr 2; exact decide_eq_decide.mpr h2)⟩
section
variable {α : Type} [Rp α] [Sc α] [DecidableEq α] {x y : α}
theorem he_eqS (ha : HE X a env env1 (rv x)) (hb : HE X b env1 env2 (rv y)) : HE X (.Compare a [.Eq] [b] pos) env env2 (rv (decide (x = y))) := he_cmp op_eq ov_eq (nomark _) ha hb
theorem he_neS (ha : HE X a env env1 (rv x)) (hb : HE X b env1 env2 (rv y)) : HE X (.Compare a [.NotEq] [b] pos) env env2 (rv (!decide (x = y))) := he_cmp op_ne ov_ne (nomark _) ha hb
theorem hb_eqS (ha : HE X a env env1 (rv x)) (hb : HE X b env1 env2 (rv y)) : HB X (.Compare a [.Eq] [b] pos) env env2 (decide (x = y)) := hb_cmp op_eq ov_eq (nomark _) ha hb
theorem hb_neS (ha : HE X a env env1 (rv x)) (hb : HE X b env1 env2 (rv y)) : HB X (.Compare a [.NotEq] [b] pos) env env2 (!decide (x = y)) := hb_cmp op_ne ov_ne (nomark _) ha hb
end
/-! a chain of two comparisons of rng -/
def VB (f : Int → Int → Bool) (r : R2) : Prop := r = rI0 fun i j => .bl (f i j)
theorem to_chain {f g : Int → Int → Bool} {ta tb tc : TE} {i j k : Int} {env3 : List Slot} (ha : ta = tE X.K env env1 (rv i)) (hb : tb = tE X.K env1 env2 (rv j)) (hc : tc = tE X.K env2 env3 (rv k)) (h3 : env3 = env2) :
    ∀ σ H Q, tE X.K env env2 (rv (f i j && g j k)) σ H Q → tChain (rI0 fun i j => .bl (f i j)) (rI0 fun i j => .bl (g i j)) ta tb tc σ H Q := by
  subst ha hb hc h3
  rintro σ H Q ⟨w, rfl, R1, q⟩
  refine ⟨w, rfl, R1, fun x w1 R2 l1 p1 => ⟨w1, rfl, R2, fun y w2 R3 l2 p2 => ⟨i, j, p1, p2, f i j, rfl, ?_⟩⟩⟩
  cases e1 : f i j with
  | true =>
    rw [if_pos rfl]
    refine ⟨w2, rfl, R3, fun z w3 R4 l3 p3 => ⟨j, k, p2, p3, ?_⟩⟩
    exact q _ w3 R4 ((l1.trans l2).trans l3) (by rw [e1]; rfl)
  | false =>
    rw [if_neg Bool.false_ne_true]
    exact q _ w2 R3 (l1.trans l2) (by rw [e1]; rfl)
theorem he_chain {op op' : CmpOp} {f g : Int → Int → Bool} {c : Expr} {i j k : Int} (ho : OpR X (compareOp op) (rI0 fun i j => .bl (f i j))) (ho' : OpR X (compareOp op') (rI0 fun i j => .bl (g i j))) (hp : ∀ ta tb tc, PE X a ta → PE X b tb → PE X c tc → PE X (.Compare a [op, op'] [b, c] pos) (tChain (rI0 fun i j => .bl (f i j)) (rI0 fun i j => .bl (g i j)) ta tb tc))
    (ha : HE X a env env1 (rv i)) (hb : HE X b env1 env2 (rv j)) (hc : HE X c env2 env2 (rv k)) : HE X (.Compare a [op, op'] [b, c] pos) env env2 (rv (f i j && g j k)) :=
  (hp _ _ _ ha hb hc).imp (to_chain rfl rfl rfl rfl)
/-! and, or, not, conditional expressions -/
theorem hb_val {c : Bool} (h : HE X e env env1 (rv c)) (he : ∀ whole, isTrue e X.env whole = (do let v ← whole; standAt e.pos; holding [v] (truthy v)) := by intro _; rfl) : HB X e env env1 c :=
  (pt_val h he).imp fun σ H Q ⟨w, e1, R1, q⟩ => ⟨w, e1, R1, fun v w' R' l p => ⟨c, p, q w' R' l⟩⟩
theorem hb_not {c : Bool} (h : HB X a env env1 c) : HB X (.UnaryOp .Not a pos) env env1 (!c) :=
  (pt_not h).imp fun σ H Q ⟨w, e1, R1, q⟩ => ⟨w, e1, R1, fun w' R' l => q w' R' l⟩
theorem he_not {c : Bool} (h : HE X a env env1 (rv c)) : HE X (.UnaryOp .Not a pos) env env1 (rv (!c)) :=
  (pe_not h).imp fun σ H Q ⟨w, e1, R1, q⟩ => ⟨w, e1, R1, fun v w' R' l p => ⟨c, p, q _ w' R' l rfl⟩⟩
theorem hw1 {c : Bool} (h : HB X a env env1 c) : HW X (.BoolOp .And [a] pos) env env1 c := pw_and1 h
theorem hwo1 {c : Bool} (h : HB X a env env1 c) : HW X (.BoolOp .Or [a] pos) env env1 c := pw_or1 h
/-- what is never come to -/
theorem pe_no : PE X e (fun _ _ _ => False) := ⟨fun _ _ _ _ _ _ h => h.elim⟩
theorem pt_no : PT X e (fun _ _ _ => False) := ⟨fun _ _ _ _ _ _ h => h.elim⟩
theorem pw_no : PW X e (fun _ _ _ => False) := ⟨fun _ _ _ _ _ _ _ h => h.elim⟩
theorem pss_no {ss : List Stmt} : PSs X ss (fun _ _ _ => False) := ⟨fun _ _ _ _ _ _ h => h.elim⟩
/-- a and b: the second asked where the first holds -/
theorem hw_and {c d : Bool} {rest : List Expr} (ha : HB X a env env1 c) (hb : c = true → HW X (.BoolOp .And (b :: rest) pos) env1 env2 d) (hn : c = false → env1 = env2 := by intros; rfl) : HW X (.BoolOp .And (a :: b :: rest) pos) env env2 (c && d) := by
  cases c with
  | true => exact (pw_and ha (hb rfl)).imp fun σ H Q ⟨w, e1, R1, q⟩ => ⟨w, e1, R1, fun w' R' l => by
      refine iteT ?_
      exact ⟨w', rfl, R', fun w2 R2 l2 => q w2 R2 (l.trans l2)⟩⟩
  | false => exact (pw_and ha pw_no).imp fun σ H Q ⟨w, e1, R1, q⟩ => ⟨w, e1, R1, fun w' R' l => by
      refine iteF ?_
      rw [hn rfl] at R'
      exact q w' R' l⟩
theorem hw_or {c d : Bool} {rest : List Expr} (ha : HB X a env env1 c) (hb : c = false → HW X (.BoolOp .Or (b :: rest) pos) env1 env2 d) (hn : c = true → env1 = env2 := by intros; rfl) : HW X (.BoolOp .Or (a :: b :: rest) pos) env env2 (c || d) := by
  cases c with
  | false => exact (pw_or ha (hb rfl)).imp fun σ H Q ⟨w, e1, R1, q⟩ => ⟨w, e1, R1, fun w' R' l => by
      refine iteF ?_
      exact ⟨w', rfl, R', fun w2 R2 l2 => q w2 R2 (l.trans l2)⟩⟩
  | true => exact (pw_or ha pw_no).imp fun σ H Q ⟨w, e1, R1, q⟩ => ⟨w, e1, R1, fun w' R' l => by
      refine iteT ?_
      rw [hn rfl] at R'
      exact q w' R' l⟩
theorem hb_w {c : Bool} (h : HW X e env env1 c) : HB X e env env1 c := h.pt
/-! as values -/
theorem he_one {op : BoolOp} {c : Bool} (h : HE X a env env1 (rv c)) : HE X (.BoolOp op [a] pos) env env1 (rv c) := pe_one h
theorem he_and {c d : Bool} {rest : List Expr} (ha : HE X a env env1 (rv c)) (hb : c = true → HE X (.BoolOp .And (b :: rest) pos) env1 env2 (rv d)) (hn : c = false → env1 = env2 := by intros; rfl) : HE X (.BoolOp .And (a :: b :: rest) pos) env env2 (rv (c && d)) := by
  cases c with
  | true => exact (pe_and ha (hb rfl)).imp fun σ H Q ⟨w, e1, R1, q⟩ => ⟨w, e1, R1, fun v w' R' l p => ⟨true, p, by
      refine iteT ?_
      exact ⟨w', rfl, R', fun v2 w2 R2 l2 p2 => q v2 w2 R2 (l.trans l2) p2⟩⟩⟩
  | false => exact (pe_and ha pe_no).imp fun σ H Q ⟨w, e1, R1, q⟩ => ⟨w, e1, R1, fun v w' R' l p => ⟨false, p, by
      refine iteF ?_
      rw [hn rfl] at R'
      exact q _ w' R' l rfl⟩⟩
theorem he_or {c d : Bool} {rest : List Expr} (ha : HE X a env env1 (rv c)) (hb : c = false → HE X (.BoolOp .Or (b :: rest) pos) env1 env2 (rv d)) (hn : c = true → env1 = env2 := by intros; rfl) : HE X (.BoolOp .Or (a :: b :: rest) pos) env env2 (rv (c || d)) := by
  cases c with
  | false => exact (pe_or ha (hb rfl)).imp fun σ H Q ⟨w, e1, R1, q⟩ => ⟨w, e1, R1, fun v w' R' l p => ⟨false, p, by
      refine iteF ?_
      exact ⟨w', rfl, R', fun v2 w2 R2 l2 p2 => q v2 w2 R2 (l.trans l2) p2⟩⟩⟩
  | true => exact (pe_or ha pe_no).imp fun σ H Q ⟨w, e1, R1, q⟩ => ⟨w, e1, R1, fun v w' R' l p => ⟨true, p, by
      refine iteT ?_
      rw [hn rfl] at R'
      exact q _ w' R' l rfl⟩⟩
theorem he_if {t : Expr} {c : Bool} (ht : HB X t env env1 c) (h1 : c = true → HE X a env1 env2 P) (h2 : c = false → HE X b env1 env2 P) : HE X (.IfExp t a b pos) env env2 P := by
  cases c with
  | true => exact (pe_ifExp ht (h1 rfl) pe_no).imp fun σ H Q ⟨w, e1, R1, q⟩ => ⟨w, e1, R1, fun w' R' l => by
      refine iteT ?_
      exact ⟨w', rfl, R', fun v2 w2 R2 l2 p2 => q v2 w2 R2 (l.trans l2) p2⟩⟩
  | false => exact (pe_ifExp ht pe_no (h2 rfl)).imp fun σ H Q ⟨w, e1, R1, q⟩ => ⟨w, e1, R1, fun w' R' l => by
      refine iteF ?_
      exact ⟨w', rfl, R', fun v2 w2 R2 l2 p2 => q v2 w2 R2 (l.trans l2) p2⟩⟩
theorem he_ifv {α : Type} [Rp α] {x y : α} {t : Expr} {c : Bool} (ht : HB X t env env1 c) (h1 : c = true → HE X a env1 env2 (rv x)) (h2 : c = false → HE X b env1 env2 (rv y)) : HE X (.IfExp t a b pos) env env2 (rv (if c = true then x else y)) :=
  he_if ht (fun h => by rw [if_pos h]; exact h1 h) fun h => by rw [if_neg (by rw [h]; exact Bool.false_ne_true)]; exact h2 h
/-! ### argument lists, tuples, lists -/
theorem ha_nil : HA X [] env env [] := pa_nil.imp fun σ H Q ⟨w, e1, R1, q⟩ => by
  subst e1
  exact q [] w R1 (Le.refl w) rfl
theorem ha_cons {es : List Expr} {Ps : List VP} (h : HE X e env env1 P) (t : HA X es env1 env2 Ps) (hs : starEach (e :: es) X.env = (false, eval e X.env) :: starEach es X.env := by rfl) : HA X (e :: es) env env2 (P :: Ps) :=
  (pa_cons h t hs).imp fun σ H Q ⟨w, e1, R1, q⟩ => ⟨w, e1, R1, fun v w' R' l p => ⟨w', rfl, R', fun vs w2 R2 l2 p2 => q (v :: vs) w2 R2 (l.trans l2) ⟨v, vs, rfl, P.mono l2.hi p, p2⟩⟩⟩
def rvs {α : Type} [Rp α] (xs : List α) : List VP := xs.map rv
theorem alP_al {α : Type} [Rp α] {K : PySem.W.Frag} {H : Hp} : ∀ {xs : List α} {vs : List V}, AlP K H (rvs xs) vs → Al α K H xs vs
  | [], _, h => h
  | _ :: _, _, ⟨v, r, e1, h1, h2⟩ => ⟨v, r, e1, h1, alP_al h2⟩
theorem alP_len {K : PySem.W.Frag} {H : Hp} : ∀ {Ps : List VP} {vs : List V}, AlP K H Ps vs → vs.length = Ps.length
  | [], _, h => by rw [show _ = ([] : List V) from h]; rfl
  | _ :: _, _, ⟨v, r, e1, h1, h2⟩ => by rw [e1, List.length_cons, List.length_cons, alP_len h2]
/-- arguments of one kind -/
def HAl {α : Type} [Rp α] (X : Cx) (es : List Expr) (env env' : List Slot) (xs : List α) : Prop := HA X es env env' (rvs xs)
theorem al_nil {α : Type} [Rp α] : HAl (α := α) X [] env env [] := ha_nil
theorem al_cons {α : Type} [Rp α] {x : α} {xs : List α} {es : List Expr} (h : HE X e env env1 (rv x)) (t : HAl X es env1 env2 xs) (hs : starEach (e :: es) X.env = (false, eval e X.env) :: starEach es X.env := by rfl) : HAl X (e :: es) env env2 (x :: xs) := ha_cons h t hs
/-- a tuple display: any wish that a new tuple of such things fulfils -/
theorem he_tup' {es : List Expr} {Ps : List VP} {x1} (h : HA X es env env1 Ps) (hz : Ps.length ≤ 1000) (hP : ∀ p vs H, H p = some (.tup vs) → AlP X.K H Ps vs → P.p X.K (.ref p) H) : HE X (.Tuple es x1 pos) env env1 P :=
  (pe_tup h).imp fun σ H Q ⟨w, e1, R1, q⟩ => ⟨w, e1, R1, fun vs w' R' l p => ⟨by rw [alP_len p]; exact Nat.le_trans hz (by decide), fun a ha => by
    have h1 := (R'.ok.fresh ha).1
    exact q (.ref a) (w'.add a (.tup vs)) (R'.add ha) (l.trans (add_le R'.ok ha)) (hP a vs _ upd_same (p.mono (Ex.new h1)))⟩⟩
theorem he_tup {α : Type} [Rp α] {es : List Expr} {xs : List α} {x1} (h : HAl X es env env1 xs) (hz : xs.length ≤ 1000 := by first | decide | exact Nat.le_of_ble_eq_true rfl) : HE X (.Tuple es x1 pos) env env1 (rv xs) :=
  he_tup' h (by unfold rvs; rw [List.length_map]; exact hz) fun p vs H hp ha => ⟨p, vs, rfl, SqT.of hp, alP_al ha⟩
theorem he_pair {α β : Type} [Rp α] [Rp β] {x : α} {y : β} {x1} (ha : HE X a env env1 (rv x)) (hb : HE X b env1 env2 (rv y)) (hs : starEach [a, b] X.env = (false, eval a X.env) :: starEach [b] X.env := by rfl) (hs2 : starEach [b] X.env = (false, eval b X.env) :: starEach [] X.env := by rfl) : HE X (.Tuple [a, b] x1 pos) env env2 (rv (x, y)) :=
  he_tup' (ha_cons ha (ha_cons hb ha_nil hs2) hs) (by show 2 ≤ 1000; decide) fun p vs H hp ⟨u, r, e1, h1, z, r2, e2, h2, e3⟩ => by
    subst e1 e2
    rw [show r2 = [] from e3] at hp
    exact ⟨p, u, z, rfl, SqT.of hp, h1, h2⟩
theorem hl_lst {α : Type} [Rp α] {es : List Expr} {xs : List α} (h : HAl X es env env1 xs) (hz : xs.length ≤ 1000 := by first | decide | exact Nat.le_of_ble_eq_true rfl) : HL X (.List es pos) env env1 xs :=
  (pe_lst h).imp fun σ H Q ⟨w, e1, R1, q⟩ => ⟨w, e1, R1, fun vs w' R' l p => ⟨by rw [alP_len p]; unfold rvs; rw [List.length_map]; exact Nat.le_trans hz (by decide), fun a ha => q a vs w' R' l ha (alP_al p)⟩⟩
/-- a fresh list kept as it is -/
theorem he_lst {α : Type} [Rp α] {xs : List α} (h : HL X e env env1 xs) : HE X e env env1 (rv (Lst.mk xs)) := h.imp fun σ H Q ⟨w, e1, R1, q⟩ => ⟨w, e1, R1, fun a vs w' R' l ha p => by
  have h1 := (R'.ok.fresh ha).1
  exact q (.ref a) (w'.add a (.lst vs)) (R'.add ha) (l.trans (add_le R'.ok ha)) ⟨a, vs, rfl, upd_same, p.mono (Ex.new h1)⟩⟩
/-! ### len, items -/
def Sq (α : Type) [Rp α] (xs : List α) (P : VP) : Prop := ∀ K v H, P.p K v H → ∃ a vs, v = .ref a ∧ (SqL K H a vs ∨ SqT K H a vs) ∧ Al α K H xs vs
theorem sq_tup {α : Type} [Rp α] {xs : List α} : Sq α xs (rv xs) := fun K v H ⟨a, vs, h1, h2, h3⟩ => ⟨a, vs, h1, .inr h2, h3⟩
theorem sq_lst {α : Type} [Rp α] {xs : Lst α} : Sq α xs.l (rv xs) := fun K v H ⟨a, vs, h1, h2, h3⟩ => ⟨a, vs, h1, .inl (SqL.of h2), h3⟩
theorem he_len {α : Type} [Rp α] {xs : List α} {p : Pos} (h : HE X e env env1 P) (sq : Sq α xs P) (hm : X.mg "len" = none) (hg : Gl X "len" := by rfl) (hs : starEach [e] X.env = (false, eval e X.env) :: starEach [] X.env := by rfl) (hpl : (backTo pos (starEach [] X.env)).any (·.1) = false := by rfl) :
    HE X (.Call (.Name "len" p) [e] [] pos) env env1 (rv (xs.length : Int)) :=
  (pe_callB call_len_seq hg hm PySem.boot_len (pa_cons h pa_nil hs) (he := hs) (hpl := hpl)).imp fun σ H Q ⟨w, e1, R1, q⟩ => ⟨w, e1, R1, fun v w' R' l p => by
    obtain ⟨a, vs, e2, h2, h3⟩ := sq _ _ _ p
    subst e2
    refine ⟨a, vs, rfl, h2.imp (Ex.l R'.ok.sub) (Ex.t R'.ok.sub), ?_⟩
    rw [h3.len]
    exact q _ w' R' l rfl⟩
theorem atI_map {α : Type} [Rp α] {K : PySem.W.Frag} {H : Hp} {xs : List α} {vs : List V} {i : Int} {x : α} (h : Al α K H xs vs) (e : atI xs i = some x) : ∃ v, atI vs i = some v ∧ Rp.rp K x v H := by
  unfold atI at e ⊢
  rw [h.len]
  cases q : ixN xs.length i with
  | none => rw [q] at e; cases e
  | some j =>
    rw [q] at e
    exact h.get e
theorem ov_ixT {α : Type} [Rp α] {xs : List α} {i : Int} {x : α} (hx : atI xs i = some x) : OpV X (rIxT X.K) (rv xs) (rv i) (rv x) := fun env σ u v w R1 ⟨a, vs, e1, h1, h2⟩ hy Q q => by
  obtain ⟨z, e2, h3⟩ := atI_map h2 hx
  exact ⟨a, vs, i, z, e1, hy, Ex.t R1.ok.sub h1, e2, q z w R1 (Le.refl w) h3⟩
theorem ov_ixL {α : Type} [Rp α] {xs : Lst α} {i : Int} {x : α} (hx : atI xs.l i = some x) : OpV X (rIxL X.K) (rv xs) (rv i) (rv x) := fun env σ u v w R1 ⟨a, vs, e1, h1, h2⟩ hy Q q => by
  obtain ⟨z, e2, h3⟩ := atI_map h2 hx
  exact ⟨a, vs, i, z, e1, hy, SqL.of (R1.ok.sub _ _ h1), e2, q z w R1 (Le.refl w) h3⟩
theorem he_ixT {α : Type} [Rp α] {xs : List α} {i : Int} {x : α} (hx : atI xs i = some x) (ha : HE X a env env1 (rv xs)) (hb : HE X b env1 env2 (rv i)) (hs : PlainIx b := by intro _ _; rfl) : HE X (.Subscript a b pos) env env2 (rv x) :=
  (pe_ix ix_tup ha hb hs).imp (to_op rfl rfl rfl (ov_ixT hx))
theorem he_ixL {α : Type} [Rp α] {xs : Lst α} {i : Int} {x : α} (hx : atI xs.l i = some x) (ha : HE X a env env1 (rv xs)) (hb : HE X b env1 env2 (rv i)) (hs : PlainIx b := by intro _ _; rfl) : HE X (.Subscript a b pos) env env2 (rv x) :=
  (pe_ix ix_list ha hb hs).imp (to_op rfl rfl rfl (ov_ixL hx))
end

/-! ### statements -/
inductive Oc where
  | nx (e : List Slot)
  | rt (P : VP) (e : List Slot)
  | bk (e : List Slot)
  | ct (e : List Slot)
  | er (c : Addr) (P : VP) (e : List Slot)
  | rl (Ps : List VP) (e : List Slot)
def Oc.sat (K : PySem.W.Frag) (We : WX) (w0 : Wd) (D : Ends) : Oc → Prop
  | .nx e => ∀ σ w, Rep K e σ w → Le w0 w → D.nx σ w.H
  | .rt P e => ∀ σ v w, Rep K e σ w → Le w0 w → P.p K v w.Hi → D.rt v w.H
  | .bk e => ∀ σ w, Rep K e σ w → Le w0 w → D.bk σ w.H
  | .ct e => ∀ σ w, Rep K e σ w → Le w0 w → D.ct σ w.H
  | .er c P e => ∀ σ w d v, Rep K e σ w → Le w0 w → w0.H d = none → w.H d = some (.xd [("what", v)]) → w.O d = none → w.Hi d = none → P.p K v w.Hi → We (.ref c) (some d) σ w.H
  | .rl Ps e => ∀ σ p vs w, Rep K e σ w → LeX p w0 w → AlP K w.Hi Ps vs → D.rt (.ref p) (upd w.H p (.lst vs))
def Oc.fin : Oc → Prop
  | .nx _ => False
  | _ => True
def Oc.out : Oc → Prop
  | .rt _ _ => True
  | .er _ _ _ => True
  | .rl _ _ => True
  | _ => False
theorem Oc.sat_le {K : PySem.W.Frag} {We : WX} {w0 w1 : Wd} {D : Ends} (l : Le w0 w1) : ∀ {oc : Oc}, oc.sat K We w0 D → oc.sat K We w1 D
  | .nx _, h => fun σ w R q => h σ w R (l.trans q)
  | .rt _ _, h => fun σ v w R q => h σ v w R (l.trans q)
  | .bk _, h => fun σ w R q => h σ w R (l.trans q)
  | .ct _, h => fun σ w R q => h σ w R (l.trans q)
  | .er _ _ _, h => fun σ w d v R q n => h σ w d v R (l.trans q) (Le.none l n)
  | .rl _ _, h => fun σ p vs w R q => h σ p vs w R (l.transX q)
def tS (K : PySem.W.Frag) (We : WX) (env : List Slot) (oc : Oc) : TS := fun D σ H => ∃ w : Wd, w.H = H ∧ Rep K env σ w ∧ oc.sat K We w D
abbrev HS (X : Cx) (We : WX) (st : Stmt) (env : List Slot) (oc : Oc) : Prop := PS X st (tS X.K We env oc)
abbrev HSs (X : Cx) (We : WX) (ss : List Stmt) (env : List Slot) (oc : Oc) : Prop := PSs X ss (tS X.K We env oc)
section
variable {X : Cx} {We : WX} {env env1 env2 env3 : List Slot} {P R S : VP} {a b e : Expr} {s : Stmt} {r A B : List Stmt} {pos : Pos} {oc : Oc}
theorem hs_nil : HSs X We [] env (.nx env) := pss_nil.imp fun D σ H ⟨w, e1, R1, q⟩ => by
  subst e1
  exact q σ w R1 (Le.refl w)
theorem hs_cons (h : HS X We s env (.nx env1)) (t : HSs X We r env1 oc) : HSs X We (s :: r) env oc := (pss_cons h t).imp fun D σ H ⟨w, e1, R1, q⟩ =>
  ⟨w, e1, R1, fun σ' w' R' l => ⟨w', rfl, R', Oc.sat_le (oc := oc) l q⟩⟩
theorem hs_end (h : HS X We s env oc) (hf : oc.fin) : HSs X We (s :: r) env oc := (pss_cons h pss_no).imp fun D σ H ⟨w, e1, R1, q⟩ => by
  refine ⟨w, e1, R1, ?_⟩
  cases oc with
  | nx e => exact hf.elim
  | rt P e => exact q
  | bk e => exact q
  | ct e => exact q
  | er c P e => exact q
  | rl Ps e => exact q
theorem hs_one (h : HS X We s env oc) : HSs X We [s] env oc := pss_one h
theorem hs_eq {oc' : Oc} (h : HSs X We r env oc) (k : oc = oc') : HSs X We r env oc' := by rw [← k]; exact h
/-- what a def lets out is let out of a body in which nothing is let out -/
theorem st_set (i : Nat) {x : Str} {pos' : Pos} (he : HE X e env env1 P) (hN : X.N.Nodup) (hi : X.N[i]? = some x := by rfl) (hx : Loc X.env.scope x := by first | exact Or.inl rfl | exact Or.inr rfl) (hs : swapsWith e (some (.Name x pos')) pos.line X.env = pure false := by rfl)
    (hf : X.fn x = true ∨ X.env.scope.names.lookup x = some .local := by first | exact .inl rfl | exact .inr rfl | assumption) : HS X We (.Assign [.Name x pos'] e pos) env (.nx (env1.set i (im P))) :=
  (ps_set hN hi hx he hs hf).imp fun D σ H ⟨w, e1, R1, q⟩ => ⟨w, e1, R1, fun v w' R' l p => q _ w' (R'.set ⟨v, rfl, p⟩) l⟩
theorem st_own {α : Type} [Rp α] {xs : List α} (i : Nat) {x : Str} {pos' : Pos} (he : HL X e env env1 xs) (hN : X.N.Nodup) (hi : X.N[i]? = some x := by rfl) (hx : Loc X.env.scope x := by first | exact Or.inl rfl | exact Or.inr rfl) (hs : swapsWith e (some (.Name x pos')) pos.line X.env = pure false := by rfl)
    (hf : X.fn x = true ∨ X.env.scope.names.lookup x = some .local := by first | exact .inl rfl | exact .inr rfl | assumption) : HS X We (.Assign [.Name x pos'] e pos) env (.nx (env1.set i (own xs))) :=
  (ps_set hN hi hx he hs hf).imp fun D σ H ⟨w, e1, R1, q⟩ => ⟨w, e1, R1, fun p vs w' R' l hp al => q _ (w'.new i p (.lst vs)) ((R'.new hp).set ⟨p, vs, rfl, if_pos rfl, upd_same, al⟩) (l.trans (new_le R'.ok hp))⟩
theorem st_expr (he : HE X e env env1 P) (hs : swapsWith e none pos.line X.env = pure false := by rfl) : HS X We (.Expr e pos) env (.nx env1) :=
  (ps_expr he hs).imp fun D σ H ⟨w, e1, R1, q⟩ => ⟨w, e1, R1, fun v w' R' l p => q _ w' R' l⟩
theorem st_ret (he : HE X e env env1 P) : HS X We (.Return (some e) pos) env (.rt P env1) :=
  (ps_ret he).imp fun D σ H ⟨w, e1, R1, q⟩ => ⟨w, e1, R1, fun v w' R' l p => q σ v w' R' l p⟩
theorem st_retN : HS X We (.Return none pos) env (.rt (rv ()) env) := ps_retN.imp fun D σ H ⟨w, e1, R1, q⟩ => by
  subst e1
  exact q σ .non w R1 (Le.refl w) rfl
theorem st_pass : HS X We (.Pass pos) env (.nx env) := ps_pass.imp fun D σ H ⟨w, e1, R1, q⟩ => by
  subst e1
  exact q σ w R1 (Le.refl w)
theorem st_break : HS X We (.Break pos) env (.bk env) := ps_break.imp fun D σ H ⟨w, e1, R1, q⟩ => by
  subst e1
  exact q σ w R1 (Le.refl w)
theorem st_cont : HS X We (.Continue pos) env (.ct env) := ps_continue.imp fun D σ H ⟨w, e1, R1, q⟩ => by
  subst e1
  exact q σ w R1 (Le.refl w)
theorem st_if {c : Bool} (hc : HB X e env env1 c) (h1 : c = true → HSs X We A env1 oc) (h2 : c = false → HSs X We B env1 oc) : HS X We (.If e A B pos) env oc := by
  cases c with
  | true => exact (ps_if hc (h1 rfl) pss_no).imp fun D σ H ⟨w, e1, R1, q⟩ => ⟨w, e1, R1, fun w' R' l => iteT ⟨w', rfl, R', Oc.sat_le (oc := oc) l q⟩⟩
  | false => exact (ps_if hc pss_no (h2 rfl)).imp fun D σ H ⟨w, e1, R1, q⟩ => ⟨w, e1, R1, fun w' R' l => iteF ⟨w', rfl, R', Oc.sat_le (oc := oc) l q⟩⟩
/-- an if whose ways go on with the rest, or end -/
def Cut (X : Cx) (We : WX) (A r : List Stmt) (env : List Slot) (oc : Oc) : Prop := (oc.fin ∧ HSs X We A env oc) ∨ ∃ e1, HSs X We A env (.nx e1) ∧ HSs X We r e1 oc
theorem cut_end (h : HSs X We A env oc) (hf : oc.fin) : Cut X We A r env oc := .inl ⟨hf, h⟩
theorem cut_go (h : HSs X We A env (.nx env1)) (t : HSs X We r env1 oc) : Cut X We A r env oc := .inr ⟨env1, h, t⟩
theorem cut_nil (t : HSs X We r env oc) : Cut X We [] r env oc := .inr ⟨env, hs_nil, t⟩
theorem hs_cut {c : Bool} (hc : HB X e env env1 c) (h1 : c = true → Cut X We A r env1 oc) (h2 : c = false → Cut X We B r env1 oc) : HSs X We (.If e A B pos :: r) env oc := by
  cases c with
  | true =>
    rcases h1 rfl with ⟨hf, h⟩ | ⟨e1, h, t⟩
    · exact hs_end (st_if hc (fun _ => h) fun z => by cases z) hf
    · exact hs_cons (st_if hc (fun _ => h) fun z => by cases z) t
  | false =>
    rcases h2 rfl with ⟨hf, h⟩ | ⟨e1, h, t⟩
    · exact hs_end (st_if hc (fun z => by cases z) fun _ => h) hf
    · exact hs_cons (st_if hc (fun z => by cases z) fun _ => h) t
/-- an if both of whose ways go on, joined -/
theorem hs_join {c : Bool} (hc : HB X e env env1 c) (h1 : c = true → HSs X We A env1 (.nx env2)) (h2 : c = false → HSs X We B env1 (.nx env2)) (t : HSs X We r env2 oc) : HSs X We (.If e A B pos :: r) env oc :=
  hs_cons (st_if hc h1 h2) t
/-! ghost steps: a list of one's own changes no more -/
def Wd.frz (w : Wd) (a : Addr) (o : HO) : Wd := { w with Hi := upd w.Hi a o, O := fun b => if b = a then none else w.O b }
theorem hs_freeze {α : Type} [Rp α] {xs : List α} (i : Nat) (hi : env[i]? = some (own xs)) (h : HSs X We r (env.set i (im (rv (Lst.mk xs)))) oc) : HSs X We r env oc := h.imp fun D σ H ⟨w, e1, R1, q⟩ => by
  obtain ⟨x, hx, a, vs, e2, ho, hH, al⟩ := R1.sl i _ hi
  subst e1 e2
  have hn : w.Hi a = none := (R1.ok.ho a i ho).1
  have ok : (w.frz a (.lst vs)).Ok := by
    refine ⟨fun b u hb => ?_, fun b j hb => ?_, fun b j hb => ?_, ?_⟩
    · by_cases z : b = a
      · subst z
        have : upd w.Hi b (.lst vs) b = some u := hb
        rw [upd_same] at this
        cases this
        exact hH
      · have : upd w.Hi a (.lst vs) b = some u := hb
        rw [upd_ne z] at this
        exact R1.ok.sub b u this
    · by_cases z : b = a
      · have : (if b = a then none else w.O b) = some j := hb
        rw [if_pos z] at this
        cases this
      · have : (if b = a then none else w.O b) = some j := hb
        rw [if_neg z] at this
        exact ⟨(upd_ne z).trans (R1.ok.ho b j this).1, (R1.ok.ho b j this).2⟩
    · by_cases z : b = a
      · have : (if b = a then none else w.O b) = some j := hb
        rw [if_pos z] at this
        cases this
      · have : (if b = a then none else w.O b) = some j := hb
        rw [if_neg z] at this
        exact R1.ok.pl b j this
    · exact tabs_mv R1.ok (fun b ps z => by
        by_cases e : b = a
        · subst e
          cases Option.some.inj (upd_same.symm.trans z)
        · exact R1.ok.tb.1 b ps ((upd_ne e).symm.trans z)) fun b u hb _ => hb
  have R2 : Rep X.K (env.set i (im (rv (Lst.mk xs)))) σ (w.frz a (.lst vs)) := by
    refine ⟨ok, by rw [List.length_set]; exact R1.len, fun j s hs => ?_⟩
    by_cases z : i = j
    · subst z
      have hlt : i < env.length := (List.getElem?_eq_some_iff.mp hi).1
      rw [List.getElem?_set_self hlt] at hs
      cases hs
      exact ⟨_, hx, .ref a, rfl, a, vs, rfl, upd_same, al.mono (Ex.new hn)⟩
    · rw [List.getElem?_set_ne z] at hs
      obtain ⟨y, hy, hp⟩ := R1.sl j s hs
      refine ⟨y, hy, s.mono hp (Ex.new hn) (fun c hc => ⟨?_, rfl⟩) rfl⟩
      have nc : c ≠ a := fun zz => by
        subst zz
        rw [ho] at hc
        cases hc
        exact z rfl
      exact (if_neg nc).trans hc
  have l : Le w (w.frz a (.lst vs)) := by
    refine ⟨Ex.new hn, fun b u hb hk _ => ?_, fun b hb => hb, rfl, fun b u hb n => ⟨u, hb, n⟩⟩
    have nc : b ≠ a := fun zz => by
      subst zz
      rw [ho] at hk
      cases hk
    exact ⟨hb, (if_neg nc).trans hk, upd_ne nc⟩
  exact ⟨w.frz a (.lst vs), rfl, R2, Oc.sat_le (oc := oc) l q⟩
/-- slots forgotten -/
theorem hs_weak {env' : List Slot} (h : HSs X We r env' oc) (hl : env'.length = env.length) (k : ∀ (i : Nat) (s : Slot), env'[i]? = some s → env[i]? = some s ∨ s = un) : HSs X We r env oc := h.imp fun D σ H ⟨w, e1, R1, q⟩ => ⟨w, e1, R1.weak hl k, q⟩
end
/-! ### targets -/
/-- alike but at some slots -/
def But (is : List Nat) (σ σ' : L2.St) : Prop := σ'.length = σ.length ∧ ∀ j, j ∉ is → σ'[j]? = σ[j]?
theorem But.refl (is : List Nat) (σ : L2.St) : But is σ σ := ⟨rfl, fun _ _ => rfl⟩
theorem But.set {is : List Nat} {σ : L2.St} {i : Nat} {x : Option V} (h : i ∈ is) : But is σ (σ.set i x) := ⟨List.length_set, fun j hj => List.getElem?_set_ne fun e => hj (by rw [← e]; exact h)⟩
theorem But.trans {is js : List Nat} {σ σ1 σ2 : L2.St} (a : But is σ σ1) (b : But js σ1 σ2) : But (is ++ js) σ σ2 := ⟨b.1.trans a.1, fun j hj => by
  rw [List.mem_append, not_or] at hj
  exact (b.2 j hj.2).trans (a.2 j hj.1)⟩
def tG (K : PySem.W.Frag) (P : VP) (env env' : List Slot) (is : List Nat) : TG := fun v σ H Q => ∃ w : Wd, w.H = H ∧ Rep K env σ w ∧ P.p K v w.Hi ∧ ∀ σ' w', Rep K env' σ' w' → Le w w' → But is σ σ' → Q σ' w'.H
abbrev HG (X : Cx) (tg : Expr) (P : VP) (env env' : List Slot) (is : List Nat) : Prop := PG X tg (tG X.K P env env' is)
theorem _root_.L2.PG.imp {X : Cx} {e : Expr} {t t' : TG} (h : PG X e t) (k : ∀ v σ H Q, t' v σ H Q → t v σ H Q) : PG X e t' := ⟨fun pins s σ H v u Q I r q => h.run pins s σ H v u Q I r (k v σ H Q q)⟩
section
variable {X : Cx} {We : WX} {env env1 env2 env3 : List Slot} {P R S : VP} {a b e : Expr} {s : Stmt} {r A B : List Stmt} {pos : Pos} {oc : Oc}
theorem hg_name (i : Nat) {x : Str} (hN : X.N.Nodup) (hi : X.N[i]? = some x := by rfl) (hx : Loc X.env.scope x := by first | exact Or.inl rfl | exact Or.inr rfl) (hf : X.fn x = true ∨ X.env.scope.names.lookup x = some .local := by first | exact .inl rfl | exact .inr rfl | assumption) : HG X (.Name x pos) P env (env.set i (im P)) [i] :=
  (pg_name hN hi hx hf).imp fun v σ H Q ⟨w, e1, R1, p, q⟩ => by
    subst e1
    exact q _ w (R1.set ⟨v, rfl, p⟩) (Le.refl w) (But.set List.mem_cons_self)
theorem hg_pair {α β : Type} [Rp α] [Rp β] {x : α} {y : β} {ea eb : Expr} {k : Nat} {is js : List Nat} (hc : X.calm = true) (ha : HG X ea (rv x) env env1 is) (hb : HG X eb (rv y) env1 env2 js)
    (hs : (assignEach [ea, eb] X.env).map (·.2) = assign ea X.env :: (assignEach [eb] X.env).map (·.2) := by rfl) (hs2 : (assignEach [eb] X.env).map (·.2) = assign eb X.env :: (assignEach [] X.env).map (·.2) := by rfl)
    (hn : (assignEach [ea, eb] X.env).length = 2 := by rfl) (hst : (assignEach [ea, eb] X.env).findIdx? (·.1) = none := by rfl) : HG X (.Tuple [ea, eb] k pos) (rv (x, y)) env env2 (is ++ js) :=
  (pg_tup hc (pgs_cons ha (pgs_cons hb pgs_nil hs2) hs) hn hst).imp fun v σ H Q ⟨w, e1, R1, ⟨t, u, z, e2, h1, h2, h3⟩, q⟩ => by
    subst e1
    exact ⟨t, [u, z], e2, Ex.t R1.ok.sub h1, rfl, u, [z], rfl, w, rfl, R1, h2, fun σ' w' R' l B1 => ⟨z, [], rfl, w', rfl, R', Rp.mono l.hi h3, fun σ2 w2 R2 l2 B2 => ⟨rfl, q σ2 w2 R2 (l.trans l2) (B1.trans B2)⟩⟩⟩
theorem st_asg {tg : Expr} {is : List Nat} (he : HE X e env env1 P) (hg : HG X tg P env1 env2 is) (hs : swapsWithSole [tg] e pos.line X.env = pure false := by rfl) (hw : swappedStores [tg] e X.env = pure none := by rfl)
    (h1 : (assignEach [tg] X.env).map (·.2) = [assign tg X.env] := by rfl) : HS X We (.Assign [tg] e pos) env (.nx env2) :=
  (ps_asg he hg hs hw h1).imp fun D σ H ⟨w, e1, R1, q⟩ => ⟨w, e1, R1, fun v w' R' l p => ⟨w', rfl, R', p, fun σ2 w2 R2 l2 _ => q σ2 w2 R2 (l.trans l2)⟩⟩
end
/-! ### any of a family -/
def tSAny (X : Cx) (We : WX) (ss : List Stmt) : TS := fun D σ H => ∃ env oc, HSs X We ss env oc ∧ ∃ w : Wd, w.H = H ∧ Rep X.K env σ w ∧ oc.sat X.K We w D
theorem pss_any {X : Cx} {We : WX} {ss : List Stmt} : PSs X ss (tSAny X We ss) := ⟨fun pins s σ H D I ⟨_, _, h, q⟩ => h.run pins s σ H D I q⟩
def tGAny (X : Cx) (tg : Expr) : TG := fun v σ H Q => ∃ P env env' is, HG X tg P env env' is ∧ ∃ w : Wd, w.H = H ∧ Rep X.K env σ w ∧ P.p X.K v w.Hi ∧ ∀ σ' w', Rep X.K env' σ' w' → Le w w' → But is σ σ' → Q σ' w'.H
theorem pg_any {X : Cx} {tg : Expr} : PG X tg (tGAny X tg) := ⟨fun pins s σ H v u Q I r ⟨_, _, _, _, h, q⟩ => h.run pins s σ H v u Q I r q⟩
def tTAny (X : Cx) (e : Expr) : TT := fun σ H Q => ∃ env env' b, HB X e env env' b ∧ ∃ w : Wd, w.H = H ∧ Rep X.K env σ w ∧ ∀ w', Rep X.K env' σ w' → Le w w' → Q b w'.H
theorem pt_any {X : Cx} {e : Expr} : PT X e (tTAny X e) := ⟨fun pins s σ H Q I ⟨_, _, _, h, q⟩ => h.run pins s σ H Q I q⟩
inductive Lp (X : Cx) (We : WX) (tg : Expr) (body : List Stmt) : List VP → List Slot → Oc → Prop
  | nil {env : List Slot} : Lp X We tg body [] env (.nx env)
  | cons {P : VP} {Ps : List VP} {env e1 e2 : List Slot} {is : List Nat} {oc : Oc} : HG X tg P env e1 is → HSs X We body e1 (.nx e2) → Lp X We tg body Ps e2 oc → Lp X We tg body (P :: Ps) env oc
  | cont {P : VP} {Ps : List VP} {env e1 e2 : List Slot} {is : List Nat} {oc : Oc} : HG X tg P env e1 is → HSs X We body e1 (.ct e2) → Lp X We tg body Ps e2 oc → Lp X We tg body (P :: Ps) env oc
  | brk {P : VP} {Ps : List VP} {env e1 e2 : List Slot} {is : List Nat} : HG X tg P env e1 is → HSs X We body e1 (.bk e2) → Lp X We tg body (P :: Ps) env (.nx e2)
  | exit {P : VP} {Ps : List VP} {env e1 : List Slot} {is : List Nat} {oc : Oc} : HG X tg P env e1 is → HSs X We body e1 oc → oc.out → Lp X We tg body (P :: Ps) env oc
inductive WlN (X : Cx) (We : WX) (c : Expr) (body : List Stmt) : Nat → List Slot → Oc → Prop
  | done {n : Nat} {env e1 : List Slot} : HB X c env e1 false → WlN X We c body n env (.nx e1)
  | turn {n : Nat} {env e1 e2 : List Slot} {oc : Oc} : HB X c env e1 true → HSs X We body e1 (.nx e2) → WlN X We c body n e2 oc → WlN X We c body (n + 1) env oc
  | cont {n : Nat} {env e1 e2 : List Slot} {oc : Oc} : HB X c env e1 true → HSs X We body e1 (.ct e2) → WlN X We c body n e2 oc → WlN X We c body (n + 1) env oc
  | brk {n : Nat} {env e1 e2 : List Slot} : HB X c env e1 true → HSs X We body e1 (.bk e2) → WlN X We c body n env (.nx e2)
  | exit {n : Nat} {env e1 : List Slot} {oc : Oc} : HB X c env e1 true → HSs X We body e1 oc → oc.out → WlN X We c body n env oc
def Wl (X : Cx) (We : WX) (c : Expr) (body : List Stmt) (env : List Slot) (oc : Oc) : Prop := ∃ n, WlN X We c body n env oc
/-! ### what is walked -/
structure Wk (K : PySem.W.Frag) (J : It) (xs : List VP) (w0 : Wd) : Prop where
  go : ∀ i w, Le w0 w → w.Ok → i < xs.length → J.go i w.H
  stop : ∀ i w, Le w0 w → w.Ok → i = xs.length → J.stop i w.H
  yld : ∀ i w x H' P, Le w0 w → w.Ok → xs[i]? = some P → J.yld i w.H x H' → ∃ w' : Wd, w'.H = H' ∧ Le w w' ∧ P.p K x w'.Hi ∧ ∀ env σ, Rep K env σ w → Rep K env σ w'
def tI (K : PySem.W.Frag) (env env' : List Slot) (xs : List VP) : TI := fun σ H R => ∃ w : Wd, w.H = H ∧ Rep K env σ w ∧ ∀ J w', Rep K env' σ w' → Le w w' → Wk K J xs w' → R J w'.H
abbrev HI (X : Cx) (tg iter : Expr) (env env' : List Slot) (xs : List VP) : Prop := PI X tg iter (tI X.K env env' xs)
theorem _root_.L2.PI.imp {X : Cx} {tg e : Expr} {t t' : TI} (h : PI X tg e t) (k : ∀ σ H R, t' σ H R → t σ H R) : PI X tg e t' := ⟨fun pins s σ H R I q => h.run pins s σ H R I (k σ H R q)⟩
theorem Al.getV {α : Type} [Rp α] {K : PySem.W.Frag} {H : Hp} {xs : List α} {vs : List V} {i : Nat} {P : VP} (h : Al α K H xs vs) (e : (rvs xs)[i]? = some P) : ∃ v, vs[i]? = some v ∧ P.p K v H := by
  unfold rvs at e
  rw [List.getElem?_map] at e
  cases q : xs[i]? with
  | none => rw [q] at e; cases e
  | some x =>
    rw [q] at e
    have e' : rv x = P := Option.some.inj e
    subst e'
    exact h.get q
theorem rvs_len {α : Type} [Rp α] (xs : List α) : (rvs xs).length = xs.length := by unfold rvs; rw [List.length_map]
theorem wk_tup {α : Type} [Rp α] {K : PySem.W.Frag} {a : Addr} {xs : List α} {vs : List V} {w0 : Wd} (h : SqT K w0.Hi a vs) (al : Al α K w0.Hi xs vs) : Wk K (Itt K a) (rvs xs) w0 where
  go := fun i w l ok hi => by
    rw [rvs_len, ← al.len] at hi
    exact ⟨vs, vs[i], Ex.t (l.hi.trans ok.sub) h, by simp [hi]⟩
  stop := fun i w l ok hi => by
    rw [rvs_len, ← al.len] at hi
    exact ⟨vs, Ex.t (l.hi.trans ok.sub) h, Nat.le_of_eq hi.symm⟩
  yld := fun i w x H' P l ok hi ⟨e, y⟩ => by
    obtain ⟨v, hv, hp⟩ := al.getV hi
    have := y vs (Ex.t (l.hi.trans ok.sub) h)
    rw [hv] at this
    cases this
    exact ⟨w, e.symm, Le.refl w, P.mono l.hi hp, fun _ _ R => R⟩
theorem wk_lst {α : Type} [Rp α] {K : PySem.W.Frag} {a : Addr} {xs : List α} {vs : List V} {w0 : Wd} (h : w0.Hi a = some (.lst vs)) (al : Al α K w0.Hi xs vs) : Wk K (Itl K a) (rvs xs) w0 where
  go := fun i w l ok hi => by
    rw [rvs_len, ← al.len] at hi
    exact ⟨vs, vs[i], SqL.of ((l.hi.trans ok.sub) _ _ h), by simp [hi]⟩
  stop := fun i w l ok hi => by
    rw [rvs_len, ← al.len] at hi
    exact ⟨vs, SqL.of ((l.hi.trans ok.sub) _ _ h), Nat.le_of_eq hi.symm⟩
  yld := fun i w x H' P l ok hi ⟨e, y⟩ => by
    obtain ⟨v, hv, hp⟩ := al.getV hi
    have := y vs (SqL.of ((l.hi.trans ok.sub) _ _ h))
    rw [hv] at this
    cases this
    exact ⟨w, e.symm, Le.refl w, P.mono l.hi hp, fun _ _ R => R⟩
def rng (lo : Int) (n : Nat) : List Int := (List.range n).map fun (i : Nat) => lo + (i : Int)
theorem rng_len (lo : Int) (n : Nat) : (rng lo n).length = n := by unfold rng; rw [List.length_map, List.length_range]
theorem rng_get {lo : Int} {n i : Nat} (h : i < n) : (rng lo n)[i]? = some (lo + (i : Int)) := by
  unfold rng
  rw [List.getElem?_map, List.getElem?_range h]
  rfl
theorem wk_rng {K : PySem.W.Frag} {lo : Int} {n : Nat} {w0 : Wd} : Wk K (Itr lo n) (rvs (rng lo n)) w0 where
  go := fun i w l ok hi => by
    rw [rvs_len, rng_len] at hi
    exact hi
  stop := fun i w l ok hi => by
    rw [rvs_len, rng_len] at hi
    exact Nat.le_of_eq hi.symm
  yld := fun i w x H' P l ok hi ⟨e, y⟩ => by
    unfold rvs at hi
    rw [List.getElem?_map] at hi
    cases q : (rng lo n)[i]? with
    | none => rw [q] at hi; cases hi
    | some z =>
      rw [q] at hi
      have e' : rv z = P := Option.some.inj hi
      subst e'
      have hn : i < n := by
        have := (List.getElem?_eq_some_iff.mp q).1
        rw [rng_len] at this
        exact this
      rw [rng_get hn] at q
      cases q
      exact ⟨w, e.symm, Le.refl w, y, fun _ _ R => R⟩
section
variable {X : Cx} {We : WX} {env env1 env2 env3 : List Slot} {P R S : VP} {a b e tg : Expr} {s : Stmt} {r A B : List Stmt} {pos : Pos} {oc : Oc}
theorem hi_tup {α : Type} [Rp α] {xs : List α} (h : HE X e env env1 (rv xs)) : HI X tg e env env1 (rvs xs) := (pi_tup h).imp fun σ H Q ⟨w, e1, R1, q⟩ => ⟨w, e1, R1, fun v w' R' l ⟨t, vs, e2, h1, h2⟩ =>
  ⟨t, e2, ⟨vs, Ex.t R'.ok.sub h1⟩, q _ w' R' l (wk_tup h1 h2)⟩⟩
theorem hi_lst {α : Type} [Rp α] {xs : Lst α} (h : HE X e env env1 (rv xs)) : HI X tg e env env1 (rvs xs.l) := (pi_list h).imp fun σ H Q ⟨w, e1, R1, q⟩ => ⟨w, e1, R1, fun v w' R' l ⟨t, vs, e2, h1, h2⟩ =>
  ⟨t, e2, ⟨vs, SqL.of (R'.ok.sub _ _ h1)⟩, q _ w' R' l (wk_lst h1 h2)⟩⟩
theorem hi_rng1 {j : Int} {p : Pos} (h : HE X e env env1 (rv j)) (hb : -(2 ^ 62) ≤ j ∧ j < 2 ^ 62) (hm : X.mg "range" = none) (hg : Gl X "range" := by rfl) (hs : starEach [e] X.env = (false, eval e X.env) :: starEach [] X.env := by rfl) (hs2 : starEach [e] X.env = [(false, eval e X.env)] := by rfl) :
    HI X tg (.Call (.Name "range" p) [e] [] pos) env env1 (rvs (rng 0 j.toNat)) := (pi_range1 hg hm (pa_cons h pa_nil hs) hs2).imp fun σ H Q ⟨w, e1, R1, q⟩ => ⟨w, e1, R1, fun v w' R' l p => ⟨j, by rw [show v = .int j from p], hb.1, hb.2, q _ w' R' l wk_rng⟩⟩
theorem hi_rng2 {i j : Int} {p : Pos} (h : HE X a env env1 (rv i)) (h' : HE X b env1 env2 (rv j)) (hb : -(2 ^ 62) ≤ i ∧ i < 2 ^ 62 ∧ -(2 ^ 62) ≤ j ∧ j < 2 ^ 62) (hm : X.mg "range" = none) (hg : Gl X "range" := by rfl)
    (hs : starEach [a, b] X.env = (false, eval a X.env) :: starEach [b] X.env := by rfl) (hs' : starEach [b] X.env = (false, eval b X.env) :: starEach [] X.env := by rfl)
    (hs2 : starEach [a, b] X.env = [(false, eval a X.env), (false, eval b X.env)] := by rfl) (hs3 : starEach [b] X.env = [(false, eval b X.env)] := by rfl) :
    HI X tg (.Call (.Name "range" p) [a, b] [] pos) env env2 (rvs (rng i (j - i).toNat)) := (pi_range2 hg hm (pa_cons h (pa_cons h' pa_nil hs') hs) hs2 hs3).imp fun σ H Q ⟨w, e1, R1, q⟩ => ⟨w, e1, R1, fun v w' R' l p => ⟨w', rfl, R', fun u w2 R2 l2 p2 =>
      ⟨i, j, by rw [show v = .int i from p, show u = .int j from p2], hb, q _ w2 R2 (l.trans l2) wk_rng⟩⟩⟩
/-! ### for -/
theorem Oc.sat_out {K : PySem.W.Frag} {w0 : Wd} {D D' : Ends} (h : oc.out) (q : oc.sat K We w0 D) (e : D'.rt = D.rt) : oc.sat K We w0 D' := by
  cases oc with
  | rt P e' => intro σ v w R l p; rw [e]; exact q σ v w R l p
  | er c P e' => exact q
  | rl Ps e' => intro σ p vs w R l al; rw [e]; exact q σ p vs w R l al
  | nx _ => exact h.elim
  | bk _ => exact h.elim
  | ct _ => exact h.elim
theorem st_for {xs : List VP} {iter : Expr} (hp : PassesOwn (model X.prog X.w) X.A X.env X.xe) (hc : X.calm = true) (hi : HI X tg iter env env1 xs) (hl : Lp X We tg A xs env1 oc) (hs : ∀ x, foldedSetIterable iter X.env x = pure x := by intro _; rfl) : HS X We (.For tg iter A [] pos) env oc := by
  refine (ps_for hp hc hi (pg_any (tg := tg)) (pss_any (We := We) (ss := A)) hs).imp fun D σ H ⟨w, e1, R1, q⟩ => ⟨w, e1, R1, fun J w1 R2 l1 wk => ?_⟩
  let Wn : Nat → Nat → L2.St → Hp → Prop := fun i m σ H => m = xs.length - i ∧ i ≤ xs.length ∧ ∃ (ev : List Slot) (w2 : Wd), w2.H = H ∧ Rep X.K ev σ w2 ∧ Le w1 w2 ∧ Lp X We tg A (xs.drop i) ev oc
  refine ⟨Wn, ⟨xs.length, rfl, Nat.zero_le _, env1, w1, rfl, R2, Le.refl _, hl⟩, ?_⟩
  rintro i m σ2 H2 ⟨rfl, hi, ev, w2, rfl, R3, l2, lp⟩
  by_cases hlt : i < xs.length
  · refine .inr ⟨wk.go i w2 l2 R3.ok hlt, fun σ' H' => ∃ m', m' < xs.length - i ∧ Wn (i + 1) m' σ' H', fun σ' H' h => h, fun x H3 y => ?_⟩
    have hx : xs[i]? = some xs[i] := by simp [hlt]
    obtain ⟨w3, rfl, l3, p3, k3⟩ := wk.yld i w2 x H3 _ l2 R3.ok hx y
    have R4 := k3 _ _ R3
    have hd : xs.drop i = xs[i] :: xs.drop (i + 1) := List.drop_eq_getElem_cons hlt
    rw [hd] at lp
    have go : ∀ {e2 : List Slot} {w4 : Wd} {σ4 : L2.St}, Lp X We tg A (xs.drop (i + 1)) e2 oc → Rep X.K e2 σ4 w4 → Le w3 w4 → ∃ m', m' < xs.length - i ∧ Wn (i + 1) m' σ4 w4.H := fun {e2 w4 σ4} k R l =>
      ⟨xs.length - (i + 1), by omega, rfl, hlt, e2, w4, rfl, R, l2.trans (l3.trans l), k⟩
    cases lp with
    | cons hg hb k => exact ⟨_, _, _, _, hg, w3, rfl, R4, p3, fun σ5 w5 R5 l5 _ => ⟨_, _, hb, w5, rfl, R5, fun σ6 w6 R6 l6 => go k R6 (l5.trans l6)⟩⟩
    | cont hg hb k => exact ⟨_, _, _, _, hg, w3, rfl, R4, p3, fun σ5 w5 R5 l5 _ => ⟨_, _, hb, w5, rfl, R5, fun σ6 w6 R6 l6 => go k R6 (l5.trans l6)⟩⟩
    | brk hg hb => exact ⟨_, _, _, _, hg, w3, rfl, R4, p3, fun σ5 w5 R5 l5 _ => ⟨_, _, hb, w5, rfl, R5, fun σ6 w6 R6 l6 => q σ6 w6 R6 ((((l1.trans l2).trans l3).trans l5).trans l6)⟩⟩
    | exit hg hb ho => exact ⟨_, _, _, _, hg, w3, rfl, R4, p3, fun σ5 w5 R5 l5 _ => ⟨_, _, hb, w5, rfl, R5, Oc.sat_out ho (Oc.sat_le (oc := oc) (((l1.trans l2).trans l3).trans l5) q) rfl⟩⟩
  · refine .inl ⟨wk.stop i w2 l2 R3.ok (Nat.le_antisymm hi (Nat.le_of_not_lt hlt)), ?_⟩
    rw [List.drop_eq_nil_of_le (Nat.le_of_not_lt hlt)] at lp
    cases lp with
    | nil => exact q σ2 w2 R3 (l1.trans l2)
/-! ### while -/
theorem wl_done (h : HB X e env env1 false) : Wl X We e A env (.nx env1) := ⟨0, .done h⟩
theorem wl_turn (h : HB X e env env1 true) (hb : HSs X We A env1 (.nx env2)) (k : Wl X We e A env2 oc) : Wl X We e A env oc := k.elim fun n k => ⟨n + 1, .turn h hb k⟩
theorem wl_cont (h : HB X e env env1 true) (hb : HSs X We A env1 (.ct env2)) (k : Wl X We e A env2 oc) : Wl X We e A env oc := k.elim fun n k => ⟨n + 1, .cont h hb k⟩
theorem wl_brk (h : HB X e env env1 true) (hb : HSs X We A env1 (.bk env2)) : Wl X We e A env (.nx env2) := ⟨0, .brk h hb⟩
theorem wl_exit (h : HB X e env env1 true) (hb : HSs X We A env1 oc) (ho : oc.out) : Wl X We e A env oc := ⟨0, .exit h hb ho⟩
theorem st_while (hp : PassesOwn (model X.prog X.w) X.A X.env X.xe) (hl : Wl X We e A env oc) : HS X We (.While e A [] pos) env oc := by
  refine (ps_while hp (pt_any (e := e)) (pss_any (We := We) (ss := A))).imp fun D σ H ⟨w, e1, R1, q⟩ => ?_
  obtain ⟨n, hl⟩ := hl
  let Wn : Nat → L2.St → Hp → Prop := fun m σ H => ∃ (ev : List Slot) (w2 : Wd), w2.H = H ∧ Rep X.K ev σ w2 ∧ Le w w2 ∧ WlN X We e A m ev oc
  refine ⟨Wn, ⟨n, env, w, e1, R1, Le.refl _, hl⟩, ?_⟩
  rintro m σ2 H2 ⟨ev, w2, rfl, R2, l2, lp⟩
  cases lp with
  | done h => exact ⟨_, _, _, h, w2, rfl, R2, fun w3 R3 l3 => iteF (q σ2 w3 R3 (l2.trans l3))⟩
  | turn h hb k => exact ⟨_, _, _, h, w2, rfl, R2, fun w3 R3 l3 => iteT ⟨Wn _, fun σ' H' hh => ⟨_, Nat.lt_succ_self _, hh⟩, _, _, hb, w3, rfl, R3, fun σ4 w4 R4 l4 => ⟨_, w4, rfl, R4, l2.trans (l3.trans l4), k⟩⟩⟩
  | cont h hb k => exact ⟨_, _, _, h, w2, rfl, R2, fun w3 R3 l3 => iteT ⟨Wn _, fun σ' H' hh => ⟨_, Nat.lt_succ_self _, hh⟩, _, _, hb, w3, rfl, R3, fun σ4 w4 R4 l4 => ⟨_, w4, rfl, R4, l2.trans (l3.trans l4), k⟩⟩⟩
  | brk h hb => exact ⟨_, _, _, h, w2, rfl, R2, fun w3 R3 l3 => iteT ⟨fun _ _ => False, fun _ _ hh => hh.elim, _, _, hb, w3, rfl, R3, fun σ4 w4 R4 l4 => q σ4 w4 R4 (l2.trans (l3.trans l4))⟩⟩
  | exit h hb ho => exact ⟨_, _, _, h, w2, rfl, R2, fun w3 R3 l3 => iteT ⟨fun _ _ => False, fun _ _ hh => hh.elim, _, _, hb, w3, rfl, R3, Oc.sat_out ho (Oc.sat_le (oc := oc) (l2.trans l3) q) rfl⟩⟩
end

/-! ### a list of one's own: read, changed -/
class Fl (α : Type) [Rp α] : Prop where
  flat : ∀ {K : PySem.W.Frag} {x : α} {v : V} {H H' : Hp}, Rp.rp K x v H → Rp.rp K x v H'
instance : Fl Int := ⟨fun h => h⟩
instance : Fl Bool := ⟨fun h => h⟩
instance : Fl Str := ⟨fun h => h⟩
instance : Fl Unit := ⟨fun h => h⟩
/-- the slots that hold a list that may change -/
structure Own {α : Type} [Rp α] (mk : List α → Slot) : Prop where
  ex : ∀ {K i s w} {xs : List α}, (mk xs).p K i s w → ∃ a vs, s = some (.ref a) ∧ w.O a = some i ∧ w.H a = some (.lst vs) ∧ Al α K w.Hi xs vs
  put : ∀ {K i s w w'} {xs ys : List α} {a : Addr} {vs : List V}, (mk xs).p K i s w → s = some (.ref a) → w'.O a = some i → w'.H a = some (.lst vs) → Al α K w'.Hi ys vs → w'.pa = w.pa → (mk ys).p K i s w'
theorem own_own {α : Type} [Rp α] : Own (α := α) own := ⟨fun h => h, fun _ e o h l _ => ⟨_, _, e, o, h, l⟩⟩
theorem own_par {α : Type} [Rp α] : Own (α := α) par := ⟨fun ⟨a, vs, e, q, o, h, l⟩ => ⟨a, vs, e, o, h, l⟩, fun ⟨a, vs, e, q, o, h, l⟩ e2 o2 h2 l2 z => ⟨_, _, e2, by
  rw [e] at e2
  cases e2
  rw [z]
  exact q, o2, h2, l2⟩⟩
/-- the list at a changed -/
def Wd.wr (w : Wd) (a : Addr) (o : HO) : Wd := { w with H := upd w.H a o }
theorem wr_rep {K : PySem.W.Frag} {env : List Slot} {σ : L2.St} {w : Wd} {i : Nat} {a : Addr} {vs : List V} {s : Slot} {x : Option V} (R : Rep K env σ w) (ho : w.O a = some i) (hx : σ[i]? = some x) (hs : s.p K i x (w.wr a (.lst vs))) : Rep K (env.set i s) σ (w.wr a (.lst vs)) ∧ Le w (w.wr a (.lst vs)) := by
  have hn := (R.ok.ho a i ho).1
  have ok : (w.wr a (.lst vs)).Ok := ⟨R.ok.sub.put hn, fun b j q => ⟨(R.ok.ho b j q).1, upd_dom (R.ok.ho b j q).2⟩, fun b j q => by
    by_cases z : b = a
    · subst z
      exact lst_pl upd_same
    · exact pl_up z (R.ok.pl b j q), tabs_mv R.ok R.ok.tb.1 fun b u hb hu => (upd_ne (pl_ne R.ok ho hb hu)).trans hb⟩
  refine ⟨⟨ok, by rw [List.length_set]; exact R.len, fun j t e => ?_⟩, Ex.refl _, fun b u q k _ => ?_, fun b q => upd_dom q, rfl, fun b u q n => ⟨u, (upd_ne (pl_ne R.ok ho q (nnt n))).trans q, n⟩⟩
  · by_cases z : i = j
    · subst z
      have hlt : i < env.length := by
        have := (List.getElem?_eq_some_iff.mp e).1
        rw [List.length_set] at this
        exact this
      rw [List.getElem?_set_self hlt] at e
      cases e
      exact ⟨x, hx, hs⟩
    · rw [List.getElem?_set_ne z] at e
      obtain ⟨y, hy, hp⟩ := R.sl j t e
      refine ⟨y, hy, t.mono hp (Ex.refl _) (fun c hc => ⟨hc, ?_⟩) rfl⟩
      exact upd_ne fun zz => by
        subst zz
        rw [ho] at hc
        cases hc
        exact z rfl
  · refine ⟨(upd_ne fun zz => ?_).trans q, k, rfl⟩
    subst zz
    rw [ho] at k
    cases k
section
variable {X : Cx} {We : WX} {env env1 env2 env3 : List Slot} {P R S : VP} {a b e : Expr} {s : Stmt} {r A B : List Stmt} {pos apos : Pos} {oc : Oc} {α : Type} [Rp α] {mk : List α → Slot} {xs : List α}
/-- the name of such a list: its address -/
def tO (K : PySem.W.Frag) (env : List Slot) (i : Nat) : TE := fun σ H Q => ∃ w : Wd, w.H = H ∧ Rep K env σ w ∧ ∀ a, σ[i]? = some (some (.ref a)) → Q (.ref a) w.H
theorem pe_own (O : Own mk) (i : Nat) {x : Str} (hi : env[i]? = some (mk xs)) (hN : X.N[i]? = some x := by rfl)
    (hv : Vis X.env.scope x := by first | exact Or.inl rfl | exact Or.inr (Or.inl rfl) | exact Or.inr (Or.inr rfl)) (hd : (x == ("__debug__" : Str)) = false := by decide) (hcd : (x == ("__classdict__" : Str)) = false := by decide) : PE X (.Name x pos) (tO X.K env i) :=
  (pe_var hN hv hd hcd).imp fun σ H Q ⟨w, e1, R1, q⟩ => by
    subst e1
    obtain ⟨x, h1, h2⟩ := R1.sl i _ hi
    obtain ⟨a, vs, h3, _⟩ := O.ex h2
    subst h3
    exact ⟨.ref a, h1, q a h1⟩
theorem Rep.own {K : PySem.W.Frag} {σ : L2.St} {w : Wd} {i : Nat} {a : Addr} (R : Rep K env σ w) (O : Own mk) (hi : env[i]? = some (mk xs)) (ha : σ[i]? = some (some (.ref a))) : ∃ vs, (mk xs).p K i (some (.ref a)) w ∧ w.O a = some i ∧ w.H a = some (.lst vs) ∧ Al α K w.Hi xs vs := by
  obtain ⟨x, h1, h2⟩ := R.sl i _ hi
  rw [ha] at h1
  cases h1
  obtain ⟨a', vs, h3, h4, h5, h6⟩ := O.ex h2
  cases h3
  exact ⟨vs, h2, h4, h5, h6⟩
/-- reading, the answer flat -/
theorem he_lenO (O : Own mk) (i : Nat) {x : Str} {p q : Pos} (hi : env[i]? = some (mk xs)) (hm : X.mg "len" = none) (hN : X.N[i]? = some x := by rfl)
    (hv : Vis X.env.scope x := by first | exact Or.inl rfl | exact Or.inr (Or.inl rfl) | exact Or.inr (Or.inr rfl)) (hd : (x == ("__debug__" : Str)) = false := by decide) (hcd : (x == ("__classdict__" : Str)) = false := by decide)
    (hg : Gl X "len" := by rfl) (hs : starEach [.Name x q] X.env = (false, eval (.Name x q) X.env) :: starEach [] X.env := by rfl) (hpl : (backTo pos (starEach [] X.env)).any (·.1) = false := by rfl) :
    HE X (.Call (.Name "len" p) [.Name x q] [] pos) env env (rv (xs.length : Int)) :=
  (pe_callB call_len_seq hg hm PySem.boot_len (pa_cons (pe_own O i hi hN hv hd hcd) pa_nil hs) (he := hs) (hpl := hpl)).imp fun σ H Q ⟨w, e1, R1, q⟩ => ⟨w, e1, R1, fun a ha => by
    obtain ⟨vs, _, _, h5, h6⟩ := R1.own O hi ha
    refine ⟨a, vs, rfl, .inl (SqL.of h5), ?_⟩
    rw [h6.len]
    exact q _ w R1 (Le.refl w) rfl⟩
/-- an item -/
theorem he_ixO (O : Own mk) (i : Nat) {x : Str} {j : Int} {y : α} {q : Pos} (hi : env1[i]? = some (mk xs)) (h0 : env[i]? = some (mk xs)) (hx : atI xs j = some y) (hb : HE X b env env1 (rv j)) (hN : X.N[i]? = some x := by rfl)
    (hv : Vis X.env.scope x := by first | exact Or.inl rfl | exact Or.inr (Or.inl rfl) | exact Or.inr (Or.inr rfl)) (hd : (x == ("__debug__" : Str)) = false := by decide) (hcd : (x == ("__classdict__" : Str)) = false := by decide) (hs : PlainIx b := by intro _ _; rfl) : HE X (.Subscript (.Name x q) b pos) env env1 (rv y) :=
  (pe_ix ix_list (pe_own O i h0 hN hv hd hcd) hb hs).imp fun σ H Q ⟨w, e1, R1, q⟩ => ⟨w, e1, R1, fun a ha => ⟨w, rfl, R1, fun v w' R' l p => by
    obtain ⟨vs, _, _, h5, h6⟩ := R'.own O hi ha
    obtain ⟨z, e2, h3⟩ := atI_map h6 hx
    exact ⟨a, vs, j, z, rfl, p, SqL.of h5, e2, q z w' R' l h3⟩⟩⟩
/-- xs.append(e) -/
theorem st_append (O : Own mk) (i : Nat) {x : Str} {y : α} {q : Pos} (h0 : env[i]? = some (mk xs)) (hi : env1[i]? = some (mk xs)) (hz : xs.length ≤ 100000) (he : HE X e env env1 (rv y)) (hN : X.N[i]? = some x := by rfl)
    (hv : Vis X.env.scope x := by first | exact Or.inl rfl | exact Or.inr (Or.inl rfl) | exact Or.inr (Or.inr rfl)) (hd : (x == ("__debug__" : Str)) = false := by decide) (hcd : (x == ("__classdict__" : Str)) = false := by decide)
    (hs : swapsWith (.Call (.Attribute (.Name x q) "append" apos) [e] [] pos) none pos.line X.env = pure false := by rfl)
    (hbase : attributeBase (.Name x q) "append" X.env (eval (.Name x q) X.env) = eval (.Name x q) X.env := by rfl)
    (hfew : ((backTo pos (starEach [e] X.env)).all (fun x => !x.1) && (backToKw pos (keywordEach [] X.env)).all (fun x => x.1.isSome)
      && decide (([e] : List Expr).length + ([] : List Keyword).length + (if ([] : List Keyword).isEmpty then 0 else 1) < 30)) = true := by rfl)
    (hline : (apos.endLine == pos.line) = true := by rfl) (hst : starEach [e] X.env = (false, eval e X.env) :: starEach [] X.env := by rfl) (hplain : (backTo pos (starEach [] X.env)).any (·.1) = false := by rfl) :
    HS X We (.Expr (.Call (.Attribute (.Name x q) "append" apos) [e] [] pos) pos) env (.nx (env1.set i (mk (xs ++ [y])))) :=
  (ps_expr (pe_bm PySem.F.plainAttrs_list PySem.F.slot_list_append PySem.F.type_list_append mt_append (pe_own O i h0 hN hv hd hcd) (pa_cons he pa_nil hst) hbase hfew hline hst hplain) hs).imp fun D σ H ⟨w, e1, R1, q⟩ => ⟨w, e1, R1, fun a ha => by
    obtain ⟨vs, h3, h4, h5, h6⟩ := R1.own O h0 ha
    refine ⟨.inl ⟨rfl, vs, SqL.of h5⟩, w, rfl, R1, fun v w' R' l p => ?_⟩
    obtain ⟨vs', h3', h4', h5', h6'⟩ := R'.own O hi ha
    refine ⟨a, vs', v, rfl, rfl, h5', by rw [h6'.len]; exact Nat.lt_of_le_of_lt hz (by decide), ?_⟩
    obtain ⟨R2, l2⟩ := wr_rep (s := mk (xs ++ [y])) (vs := vs' ++ [v]) R' h4' ha (O.put h3' rfl h4' upd_same (h6'.app (Al.cons p Al.nil)) rfl)
    exact q σ _ R2 (l.trans l2)⟩
/-- xs.pop() as a statement -/
theorem st_pop (O : Own mk) (i : Nat) {x : Str} {y : α} {q : Pos} (h0 : env[i]? = some (mk (xs ++ [y]))) (hN : X.N[i]? = some x := by rfl)
    (hv : Vis X.env.scope x := by first | exact Or.inl rfl | exact Or.inr (Or.inl rfl) | exact Or.inr (Or.inr rfl)) (hd : (x == ("__debug__" : Str)) = false := by decide) (hcd : (x == ("__classdict__" : Str)) = false := by decide)
    (hs : swapsWith (.Call (.Attribute (.Name x q) "pop" apos) [] [] pos) none pos.line X.env = pure false := by rfl)
    (hbase : attributeBase (.Name x q) "pop" X.env (eval (.Name x q) X.env) = eval (.Name x q) X.env := by rfl) (hline : (apos.endLine == pos.line) = true := by rfl) :
    HS X We (.Expr (.Call (.Attribute (.Name x q) "pop" apos) [] [] pos) pos) env (.nx (env.set i (mk xs))) :=
  (ps_expr (pe_bm0 PySem.F.plainAttrs_list PySem.F.slot_list_pop PySem.F.type_list_pop mt_pop (pe_own O i h0 hN hv hd hcd) hbase hline) hs).imp fun D σ H ⟨w, e1, R1, q⟩ => ⟨w, e1, R1, fun a ha => by
    obtain ⟨vs, h3, h4, h5, h6⟩ := R1.own O h0 ha
    have hl : vs.length = xs.length + 1 := by rw [h6.len, List.length_append]; rfl
    obtain ⟨z, hz⟩ : ∃ z, vs[vs.length - 1]? = some z := ⟨_, List.getElem?_eq_getElem (by omega)⟩
    refine ⟨.inl ⟨rfl, vs, SqL.of h5⟩, a, vs, z, rfl, rfl, h5, hz, ?_⟩
    have al : Al α X.K w.Hi xs vs.dropLast := by
      have h7 := h6.take xs.length
      rw [List.take_left] at h7
      rw [List.dropLast_eq_take, hl]
      exact h7
    obtain ⟨R2, l2⟩ := wr_rep (s := mk xs) (vs := vs.dropLast) R1 h4 ha (O.put h3 rfl h4 upd_same al rfl)
    exact q σ _ R2 l2⟩
end

/-! ### items stored, slices, sums of rows -/
section
variable {X : Cx} {We : WX} {env env1 env2 env3 : List Slot} {P R S : VP} {a b e : Expr} {s : Stmt} {r A B : List Stmt} {pos apos : Pos} {oc : Oc} {α : Type} [Rp α] {mk : List α → Slot} {xs ys : List α}
theorem st_setO (O : Own mk) (i : Nat) {x : Str} {y : α} {q p2 : Pos} {j : Int} {k : Nat} (hi : env1[i]? = some (mk xs)) (hk : ixN xs.length j = some k) (he : HE X e env env1 (rv y)) (hb : HE X b env1 env1 (rv j)) (hN : X.N[i]? = some x := by rfl)
    (hv : Vis X.env.scope x := by first | exact Or.inl rfl | exact Or.inr (Or.inl rfl) | exact Or.inr (Or.inr rfl)) (hd : (x == ("__debug__" : Str)) = false := by decide) (hcd : (x == ("__classdict__" : Str)) = false := by decide)
    (hs : swapsWithSole [.Subscript (.Name x q) b p2] e pos.line X.env = pure false := by rfl) (hw : swappedStores [.Subscript (.Name x q) b p2] e X.env = pure none := by rfl)
    (h1 : (assignEach [.Subscript (.Name x q) b p2] X.env).map (·.2) = [assign (.Subscript (.Name x q) b p2) X.env] := by rfl)
    (ha : ∀ v, assign (.Subscript (.Name x q) b p2) X.env v = (do
      let ov ← holding [v] (eval (.Name x q) X.env)
      let iv ← holding [v, ov] (eval b X.env)
      standAt p2
      holding [v, ov, iv] (setItem ov iv v)
      release [v, ov, iv] []) := by intro _; rfl) : HS X We (.Assign [.Subscript (.Name x q) b p2] e pos) env (.nx (env1.set i (mk (xs.set k y)))) :=
  (ps_asg he (pg_sub (pe_own O i hi hN hv hd hcd) hb set_list ha) hs hw h1).imp fun D σ H ⟨w, e1, R1, qq⟩ => ⟨w, e1, R1, fun v w' R' l p => ⟨w', rfl, R', fun a ha => ⟨w', rfl, R', fun u w2 R2 l2 p2 => by
    obtain ⟨vs, h3, h4, h5, h6⟩ := R2.own O hi ha
    refine ⟨a, vs, j, k, rfl, p2, h5, by rw [h6.len]; exact hk, ?_⟩
    obtain ⟨R3, l3⟩ := wr_rep (s := mk (xs.set k y)) (vs := vs.set k v) R2 h4 ha (O.put h3 rfl h4 upd_same (Al.set (Rp.mono l2.hi p) k h6) rfl)
    exact qq σ _ R3 ((l.trans l2).trans l3)⟩⟩⟩
/-! slices -/
def tP (K : PySem.W.Frag) (env env' : List Slot) (o : Option Int) : TO := fun σ H Q => ∃ w : Wd, w.H = H ∧ Rep K env σ w ∧ ∀ w', Rep K env' σ w' → Le w w' → Q o w'.H
abbrev HO' (X : Cx) (e : Option Expr) (env env' : List Slot) (o : Option Int) : Prop := PO X e (tP X.K env env' o)
theorem _root_.L2.PO.imp {X : Cx} {e : Option Expr} {t t' : TO} (h : PO X e t) (k : ∀ σ H Q, t' σ H Q → t σ H Q) : PO X e t' := ⟨fun pins s σ H Q I q => h.run pins s σ H Q I (k σ H Q q)⟩
theorem ho_none : HO' X none env env none := po_none.imp fun σ H Q ⟨w, e1, R1, q⟩ => by
  subst e1
  exact q w R1 (Le.refl w)
theorem ho_some {i : Int} (h : HE X e env env1 (rv i)) : HO' X (some e) env env1 (some i) := (po_some h).imp fun σ H Q ⟨w, e1, R1, q⟩ => ⟨w, e1, R1, fun v w' R' l p => ⟨i, p, q w' R' l⟩⟩
def cut {β : Type} (xs : List β) (lo hi : Option Int) : List β := (xs.drop (HT.sIx xs.length 0 lo)).take (HT.sIx xs.length xs.length hi - HT.sIx xs.length 0 lo)
theorem Al.cut {K : PySem.W.Frag} {H : Hp} {xs : List α} {vs : List V} (h : Al α K H xs vs) (lo hi : Option Int) : Al α K H (cut xs lo hi) (cutV vs lo hi) := by
  unfold BC.cut cutV
  rw [h.len]
  exact (h.drop _).take _
theorem cut_whole {β : Type} {xs : List β} {lo hi : Option Int} (h : HT.sIx xs.length 0 lo = 0 ∧ HT.sIx xs.length xs.length hi = xs.length) : BC.cut xs lo hi = xs := by
  unfold BC.cut
  rw [h.1, h.2, List.drop_zero, Nat.sub_zero, List.take_length]
theorem he_slT {lo hi : Option Expr} {l h : Option Int} {p2 : Pos} (ha : HE X a env env1 (rv xs)) (hl : HO' X lo env1 env2 l) (hh : HO' X hi env2 env3 h) : HE X (.Subscript a (.Slice lo hi none p2) pos) env env3 (rv (cut xs l h)) :=
  (pe_slice sl_tupA ha hl hh).imp fun σ H Q ⟨w, e1, R1, q⟩ => ⟨w, e1, R1, fun v w1 R2 l1 ⟨t, vs, e2, h1, h2⟩ => ⟨w1, rfl, R2, fun w2 R3 l2 => ⟨w2, rfl, R3, fun w3 R4 l3 => by
    have h1' := Ex.t (l2.hi.trans l3.hi) h1
    have h2' := h2.mono (l2.hi.trans l3.hi)
    refine ⟨t, vs, e2, Ex.t R4.ok.sub h1', fun hw => ?_, fun hw p hp => ?_⟩
    · rw [h2.len] at hw
      refine q _ w3 R4 ((l1.trans l2).trans l3) ?_
      rw [cut_whole hw]
      exact ⟨t, vs, rfl, h1', h2'⟩
    · have h5 := (R4.ok.fresh hp).1
      exact q _ (w3.add p (.tup (cutV vs l h))) (R4.add hp) (((l1.trans l2).trans l3).trans (add_le R4.ok hp)) ⟨p, _, rfl, SqT.of upd_same, (h2'.cut l h).mono (Ex.new h5)⟩⟩⟩⟩
theorem hl_sl {lo hi : Option Expr} {l h : Option Int} {p2 : Pos} {ys : Lst α} (ha : HE X a env env1 (rv ys)) (hl : HO' X lo env1 env2 l) (hh : HO' X hi env2 env3 h) : HL X (.Subscript a (.Slice lo hi none p2) pos) env env3 (cut ys.l l h) :=
  (pe_slice sl_list ha hl hh).imp fun σ H Q ⟨w, e1, R1, q⟩ => ⟨w, e1, R1, fun v w1 R2 l1 ⟨t, vs, e2, h1, h2⟩ => ⟨w1, rfl, R2, fun w2 R3 l2 => ⟨w2, rfl, R3, fun w3 R4 l3 =>
    ⟨t, vs, e2, SqL.of (R4.ok.sub _ _ (l3.hi _ _ (l2.hi _ _ h1))), fun p hp => q p _ w3 R4 ((l1.trans l2).trans l3) hp ((h2.mono (l2.hi.trans l3.hi)).cut l h)⟩⟩⟩⟩
theorem hl_slO (O : Own mk) (i : Nat) {x : Str} {p1 : Pos} {lo hi : Option Expr} {l h : Option Int} {p2 : Pos} (h0 : env[i]? = some (mk xs)) (hi2 : env2[i]? = some (mk xs)) (hl : HO' X lo env env1 l) (hh : HO' X hi env1 env2 h) (hN : X.N[i]? = some x := by rfl)
    (hv : Vis X.env.scope x := by first | exact Or.inl rfl | exact Or.inr (Or.inl rfl) | exact Or.inr (Or.inr rfl)) (hd : (x == ("__debug__" : Str)) = false := by decide) (hcd : (x == ("__classdict__" : Str)) = false := by decide) : HL X (.Subscript (.Name x p1) (.Slice lo hi none p2) pos) env env2 (cut xs l h) :=
  (pe_slice sl_list (pe_own O i h0 hN hv hd hcd) hl hh).imp fun σ H Q ⟨w, e1, R1, q⟩ => ⟨w, e1, R1, fun a ha => ⟨w, rfl, R1, fun w1 R2 l1 => ⟨w1, rfl, R2, fun w2 R3 l2 => by
    obtain ⟨vs, h3, h4, h5, h6⟩ := R3.own O hi2 ha
    exact ⟨a, vs, rfl, SqL.of h5, fun p hp => q p _ w2 R3 (l1.trans l2) hp (h6.cut l h)⟩⟩⟩⟩
/-! rows joined -/
theorem ov_catT (hz : xs.length + ys.length ≤ 100000) : OpV X (rCatA X.K) (rv xs) (rv ys) (rv (xs ++ ys)) := fun env σ x y w R1 ⟨t, vs, e1, h1, h2⟩ ⟨u, ws, e2, h3, h4⟩ Q q => by
    refine ⟨t, u, vs, ws, e1, e2, Ex.t R1.ok.sub h1, Ex.t R1.ok.sub h3, by rw [h2.len, h4.len]; exact Nat.le_trans hz (by decide), fun hn => ?_, fun hn hm => ?_, fun hn hm p hp => ?_⟩
    · have e3 : xs = [] := List.eq_nil_of_length_eq_zero (by rw [← h2.len, hn]; rfl)
      subst e3
      exact q _ w R1 (Le.refl w) ⟨u, ws, rfl, h3, h4⟩
    · have e3 : ys = [] := List.eq_nil_of_length_eq_zero (by rw [← h4.len, hm]; rfl)
      subst e3
      rw [List.append_nil] at q
      exact q _ w R1 (Le.refl w) ⟨t, vs, rfl, h1, h2⟩
    · have h5 := (R1.ok.fresh hp).1
      exact q _ (w.add p (.tup (vs ++ ws))) (R1.add hp) (add_le R1.ok hp) ⟨p, _, rfl, SqT.of upd_same, (h2.app h4).mono (Ex.new h5)⟩
theorem he_catT (hz : xs.length + ys.length ≤ 100000) (ha : HE X a env env1 (rv xs)) (hb : HE X b env1 env2 (rv ys)) : HE X (.BinOp a .Add b pos) env env2 (rv (xs ++ ys)) := he_op op_catA (ov_catT hz) ha hb
theorem hl_cat {xs ys : Lst α} (hz : xs.l.length + ys.l.length ≤ 100000) (ha : HE X a env env1 (rv xs)) (hb : HE X b env1 env2 (rv ys)) : HL X (.BinOp a .Add b pos) env env2 (xs.l ++ ys.l) :=
  (pe_op op_cat ha hb).imp fun σ H Q ⟨w, e1, R1, q⟩ => ⟨w, e1, R1, fun v w1 R2 l1 ⟨t, vs, e1, h1, h2⟩ => ⟨w1, rfl, R2, fun u w2 R3 l2 ⟨t2, ws, e2, h3, h4⟩ =>
    ⟨t, t2, vs, ws, e1, e2, R3.ok.sub _ _ (l2.hi _ _ h1), R3.ok.sub _ _ h3, by rw [h2.len, h4.len]; exact Nat.le_trans hz (by decide), fun p hp => q p _ w2 R3 (l1.trans l2) hp ((h2.mono l2.hi).app h4)⟩⟩⟩
/-! list of, tuple of -/
theorem he_tupleL {p : Pos} {ys : Lst α} (h : HE X e env env1 (rv ys)) (hm : X.mg "tuple" = none) (hg : Gl X "tuple" := by rfl) (hs : starEach [e] X.env = (false, eval e X.env) :: starEach [] X.env := by rfl) (hpl : (backTo pos (starEach [] X.env)).any (·.1) = false := by rfl) :
    HE X (.Call (.Name "tuple" p) [e] [] pos) env env1 (rv ys.l) :=
  (pe_callTy call_tuple_of hg hm (by decide +kernel) (pa_cons h pa_nil hs) (he := hs) (hpl := hpl)).imp fun σ H Q ⟨w, e1, R1, q⟩ => ⟨w, e1, R1, fun v w' R' l ⟨t, vs, e2, h1, h2⟩ => by
    refine ⟨t, vs, by rw [e2], .inl ⟨SqL.of (R'.ok.sub _ _ h1), fun p hp => ?_⟩⟩
    have h5 := (R'.ok.fresh hp).1
    exact q _ (w'.add p (.tup vs)) (R'.add hp) (l.trans (add_le R'.ok hp)) ⟨p, _, rfl, SqT.of upd_same, h2.mono (Ex.new h5)⟩⟩
theorem he_tupleT {p : Pos} (h : HE X e env env1 (rv xs)) (hm : X.mg "tuple" = none) (hg : Gl X "tuple" := by rfl) (hs : starEach [e] X.env = (false, eval e X.env) :: starEach [] X.env := by rfl) (hpl : (backTo pos (starEach [] X.env)).any (·.1) = false := by rfl) :
    HE X (.Call (.Name "tuple" p) [e] [] pos) env env1 (rv xs) :=
  (pe_callTy call_tuple_of hg hm (by decide +kernel) (pa_cons h pa_nil hs) (he := hs) (hpl := hpl)).imp fun σ H Q ⟨w, e1, R1, q⟩ => ⟨w, e1, R1, fun v w' R' l ⟨t, vs, e2, h1, h2⟩ =>
    ⟨t, vs, by rw [e2], .inr ⟨Ex.t R'.ok.sub h1, q _ w' R' l ⟨t, vs, rfl, h1, h2⟩⟩⟩⟩
theorem he_tupleO (O : Own mk) (i : Nat) {x : Str} {p p1 : Pos} (h0 : env[i]? = some (mk xs)) (hm : X.mg "tuple" = none) (hN : X.N[i]? = some x := by rfl)
    (hv : Vis X.env.scope x := by first | exact Or.inl rfl | exact Or.inr (Or.inl rfl) | exact Or.inr (Or.inr rfl)) (hd : (x == ("__debug__" : Str)) = false := by decide) (hcd : (x == ("__classdict__" : Str)) = false := by decide)
    (hg : Gl X "tuple" := by rfl) (hs : starEach [.Name x p1] X.env = (false, eval (.Name x p1) X.env) :: starEach [] X.env := by rfl) (hpl : (backTo pos (starEach [] X.env)).any (·.1) = false := by rfl) :
    HE X (.Call (.Name "tuple" p) [.Name x p1] [] pos) env env (rv xs) :=
  (pe_callTy call_tuple_of hg hm (by decide +kernel) (pa_cons (pe_own O i h0 hN hv hd hcd) pa_nil hs) (he := hs) (hpl := hpl)).imp fun σ H Q ⟨w, e1, R1, q⟩ => ⟨w, e1, R1, fun a ha => by
    obtain ⟨vs, _, _, h5, h6⟩ := R1.own O h0 ha
    refine ⟨a, vs, rfl, .inl ⟨SqL.of h5, fun p hp => ?_⟩⟩
    have h7 := (R1.ok.fresh hp).1
    exact q _ (w.add p (.tup vs)) (R1.add hp) (add_le R1.ok hp) ⟨p, _, rfl, SqT.of upd_same, h6.mono (Ex.new h7)⟩⟩
theorem hl_list {p : Pos} (h : HE X e env env1 P) (sq : Sq α xs P) (hm : X.mg "list" = none) (hg : Gl X "list" := by rfl) (hs : starEach [e] X.env = (false, eval e X.env) :: starEach [] X.env := by rfl) (hpl : (backTo pos (starEach [] X.env)).any (·.1) = false := by rfl) :
    HL X (.Call (.Name "list" p) [e] [] pos) env env1 xs :=
  (pe_callTy call_list_of hg hm (by decide +kernel) (pa_cons h pa_nil hs) (he := hs) (hpl := hpl)).imp fun σ H Q ⟨w, e1, R1, q⟩ => ⟨w, e1, R1, fun v w' R' l pp => by
    obtain ⟨a, vs, e2, h2, h3⟩ := sq _ _ _ pp
    exact ⟨a, vs, by rw [e2], h2.imp (Ex.l R'.ok.sub) (Ex.t R'.ok.sub), fun p hp => q p _ w' R' l hp h3⟩⟩
end
/-! ### comprehensions -/
abbrev blkX (X : Cx) (scope : Scope) (s : Shared) (H : Hp) (C : Addr) (cl : List (Str × Addr)) (fp : List Addr) : Cx := X.blk s H scope (compEnvC scope cl C X.env) fp
abbrev HTs (X : Cx) (ifs : List Expr) (env env' : List Slot) (b : Bool) : Prop := PTs X ifs (tT X.K env env' b)
theorem hts_nil {X : Cx} {env : List Slot} : HTs X [] env env true := ⟨fun pins s σ H Q I ⟨w, e1, R1, q⟩ => pts_nil.run pins s σ H Q I (by subst e1; exact q w R1 (Le.refl w))⟩
theorem hts_one {X : Cx} {env env1 : List Slot} {c : Expr} {b : Bool} (h : HB X c env env1 b) : HTs X [c] env env1 b := pts_one h
/-- the slots of a block's own names forgotten -/
def wipeE (env : List Slot) : List Nat → List Slot
  | [] => env
  | v :: vs => (wipeE env vs).set v un
theorem wipeE_length (env : List Slot) : ∀ vs : List Nat, (wipeE env vs).length = env.length
  | [] => rfl
  | v :: vs => by unfold wipeE; rw [List.length_set, wipeE_length env vs]
theorem wipeE_get {env : List Slot} {j : Nat} {s : Slot} : ∀ {vs : List Nat}, (wipeE env vs)[j]? = some s → (j ∈ vs ∧ s = un) ∨ (j ∉ vs ∧ env[j]? = some s)
  | [], h => .inr ⟨by simp, h⟩
  | v :: vs, h => by
    unfold wipeE at h
    by_cases z : v = j
    · subst z
      have hlt : v < (wipeE env vs).length := by
        have := (List.getElem?_eq_some_iff.mp h).1
        rw [List.length_set] at this
        exact this
      rw [List.getElem?_set_self hlt] at h
      cases h
      exact .inl ⟨List.mem_cons_self, rfl⟩
    · rw [List.getElem?_set_ne z] at h
      rcases wipeE_get h with ⟨h1, h2⟩ | ⟨h1, h2⟩
      · exact .inl ⟨List.mem_cons_of_mem _ h1, h2⟩
      · exact .inr ⟨fun hm => (List.mem_cons.mp hm).elim (fun e => z e.symm) h1, h2⟩
/-- from slots to slots alike but at the block's own -/
theorem Rep.wiped {K : PySem.W.Frag} {env : List Slot} {σ σ' : L2.St} {w : Wd} {vs : List Nat} (R : Rep K env σ w) (B : But vs σ σ') : Rep K (wipeE env vs) σ' w := by
  refine ⟨R.ok, by rw [wipeE_length, B.1]; exact R.len, fun j s h => ?_⟩
  rcases wipeE_get h with ⟨h1, h2⟩ | ⟨h1, h2⟩
  · have hlt : j < σ'.length := by
      rw [B.1, R.len, ← wipeE_length env vs]
      exact (List.getElem?_eq_some_iff.mp h).1
    exact ⟨σ'[j], List.getElem?_eq_getElem hlt, by rw [h2]; trivial⟩
  · obtain ⟨x, h3, h4⟩ := R.sl j s h2
    exact ⟨x, (B.2 j h1).trans h3, h4⟩
theorem wipe_but (σ : L2.St) : ∀ vs : List Nat, But vs σ (wipe σ vs)
  | [] => But.refl _ _
  | v :: vs => by
    unfold wipe
    have h := (wipe_but σ vs).trans (But.set (is := [v]) (σ := wipe σ vs) (x := none) List.mem_cons_self)
    exact ⟨h.1, fun j hj => h.2 j (by rw [List.mem_append]; rintro (h1 | h1); exact hj (List.mem_cons_of_mem _ h1); exact hj (by rw [List.mem_singleton] at h1; rw [h1]; exact List.mem_cons_self))⟩
theorem wipe_none (σ : L2.St) {j : Nat} : ∀ {vs : List Nat}, j ∈ vs → j < σ.length → (wipe σ vs)[j]? = some none
  | [], h, _ => by simp at h
  | v :: vs, h, hl => by
    unfold wipe
    by_cases z : v = j
    · subst z
      rw [List.getElem?_set_self (by rw [wipe_length]; exact hl)]
    · rw [List.getElem?_set_ne z]
      exact wipe_none σ ((List.mem_cons.mp h).resolve_left fun e => z e.symm) hl
theorem wipe_eq {σ σ' : L2.St} {vs : List Nat} (B : But vs (wipe σ vs) σ') : wipe σ' vs = wipe σ vs := by
  have hl : σ'.length = σ.length := B.1.trans (wipe_length σ vs)
  refine List.ext_getElem? fun j => ?_
  by_cases hj : j ∈ vs
  · by_cases hlt : j < σ.length
    · rw [wipe_none σ' hj (by rw [hl]; exact hlt), wipe_none σ hj hlt]
    · rw [List.getElem?_eq_none (by rw [wipe_length, hl]; omega), List.getElem?_eq_none (by rw [wipe_length]; omega)]
  · rw [(wipe_but σ' vs).2 j hj, B.2 j hj]
inductive Cl (X : Cx) (scope : Scope) (tg elt : Expr) (ifs : List Expr) (vs : List Nat) : List VP → List Slot → List VP → List Slot → Prop
  | nil {env : List Slot} : Cl X scope tg elt ifs vs [] env [] env
  | yes {P R : VP} {Ps Rs : List VP} {env e1 e2 e3 ef : List Slot} : (∀ s H C cl fp, HG (blkX X scope s H C cl fp) tg P env e1 vs) → (∀ s H C cl fp, HTs (blkX X scope s H C cl fp) ifs e1 e2 true) → (∀ s H C cl fp, HE (blkX X scope s H C cl fp) elt e2 e3 R) →
      Cl X scope tg elt ifs vs Ps (wipeE e3 vs) Rs ef → Cl X scope tg elt ifs vs (P :: Ps) env (R :: Rs) ef
  | no {P : VP} {Ps Rs : List VP} {env e1 e2 ef : List Slot} : (∀ s H C cl fp, HG (blkX X scope s H C cl fp) tg P env e1 vs) → (∀ s H C cl fp, HTs (blkX X scope s H C cl fp) ifs e1 e2 false) →
      Cl X scope tg elt ifs vs Ps (wipeE e2 vs) Rs ef → Cl X scope tg elt ifs vs (P :: Ps) env Rs ef
theorem HG.sub {X : Cx} {tg : Expr} {P : VP} {env env' : List Slot} {is js : List Nat} (h : HG X tg P env env' is) (k : ∀ i ∈ is, i ∈ js) : HG X tg P env env' js := h.imp fun v σ H Q ⟨w, e1, R1, p, q⟩ => ⟨w, e1, R1, p, fun σ' w' R' l B => q σ' w' R' l ⟨B.1, fun j hj => B.2 j fun hi => hj (k j hi)⟩⟩
def cG (X : Cx) (scope : Scope) (tg : Expr) (vs : List Nat) : TG := fun v σ H Q => ∃ P env env', (∀ s H C cl fp, HG (blkX X scope s H C cl fp) tg P env env' vs) ∧ ∃ w : Wd, w.H = H ∧ Rep X.K env σ w ∧ P.p X.K v w.Hi ∧ ∀ σ' w', Rep X.K env' σ' w' → Le w w' → But vs σ σ' → Q σ' w'.H
def cT (X : Cx) (scope : Scope) (ifs : List Expr) : TT := fun σ H Q => ∃ env env' b, (∀ s H C cl fp, HTs (blkX X scope s H C cl fp) ifs env env' b) ∧ ∃ w : Wd, w.H = H ∧ Rep X.K env σ w ∧ ∀ w', Rep X.K env' σ w' → Le w w' → Q b w'.H
def cE (X : Cx) (scope : Scope) (elt : Expr) : TE := fun σ H Q => ∃ env env' P, (∀ s H C cl fp, HE (blkX X scope s H C cl fp) elt env env' P) ∧ ∃ w : Wd, w.H = H ∧ Rep X.K env σ w ∧ ∀ v w', Rep X.K env' σ w' → Le w w' → P.p X.K v w'.Hi → Q v w'.H
/-- a comprehension's outcome: the slots ahead and behind -/
structure LcEnv (vs : List Nat) (env envf envo : List Slot) : Prop where
  len : envo.length = envf.length
  out : ∀ j s, envo[j]? = some s → (j ∉ vs ∧ envf[j]? = some s) ∨ (j ∈ vs ∧ (s = un ∨ ∃ P, s = im P ∧ env[j]? = some (im P)))
theorem lc_env {vs : List Nat} {env envf : List Slot} : LcEnv vs env envf (wipeE envf vs) := ⟨wipeE_length _ _, fun j s h => by
  rcases wipeE_get h with ⟨h1, h2⟩ | ⟨h1, h2⟩
  · exact .inr ⟨h1, .inl h2⟩
  · exact .inl ⟨h1, h2⟩⟩
section
variable {X : Cx} {We : WX} {env env1 envf envo : List Slot} {P : VP} {elt tg iter : Expr} {ifs : List Expr} {scope : Scope} {own' : List (Str × Nat)} {pos : Pos} {xs : List VP}
def tLP (K : PySem.W.Frag) (env env' : List Slot) (Rs : List VP) : TE := fun σ H Q => ∃ w : Wd, w.H = H ∧ Rep K env σ w ∧ ∀ p vs w', Rep K env' σ w' → Le w w' → w'.H p = none → AlP K w'.Hi Rs vs → Q (.ref p) (upd w'.H p (.lst vs))
theorem AlP.app {K : PySem.W.Frag} {H : Hp} {P : VP} {v : V} (hv : P.p K v H) : ∀ {Ps : List VP} {vs : List V}, AlP K H Ps vs → AlP K H (Ps ++ [P]) (vs ++ [v])
  | [], _, h => by rw [show _ = ([] : List V) from h]; exact ⟨v, [], rfl, hv, rfl⟩
  | _ :: _, _, ⟨u, r, e1, h1, h2⟩ => by rw [e1]; exact ⟨u, _, rfl, h1, AlP.app hv h2⟩
theorem to_lc {Rs : List VP} {vs : List Nat} (hz : xs.length ≤ 100000) (cl : Cl X scope tg elt ifs vs xs (wipeE env1 vs) Rs envf) (ho : LcEnv vs env1 envf envo) : ∀ σ H Q, tLP X.K env envo Rs σ H Q → tLc (tI X.K env env1 xs) (cG X scope tg vs) (cT X scope ifs) (cE X scope elt) vs σ H Q := by
  rintro σ H Q ⟨w, e1, R1, q⟩
  refine ⟨w, e1, R1, fun J w1 R2 l1 wk D hD => ?_⟩
  obtain ⟨hDi, hDo⟩ := R2.ok.fresh hD
  let Wn : Nat → Nat → Hp → Prop := fun i m H => m = xs.length - i ∧ i ≤ xs.length ∧ ∃ (ev : List Slot) (w2 : Wd) (acc : List V) (Ds Rr : List VP), w2.H = H ∧ Rep X.K ev (wipe σ vs) w2 ∧ Le w1 w2 ∧ H D = some (.lst acc) ∧ w2.O D = none ∧ w2.Hi D = none ∧ AlP X.K w2.Hi Ds acc ∧ acc.length ≤ i ∧ Cl X scope tg elt ifs vs (xs.drop i) ev Rr envf ∧ Rs = Ds ++ Rr
  refine ⟨Wn, ⟨xs.length, rfl, Nat.zero_le _, wipeE env1 vs, w1.put D (.lst []), [], [], Rs, rfl, (R2.put hD).wiped (wipe_but σ vs), put_le R2.ok hD, upd_same, hDo, hDi, rfl, Nat.le_refl _, cl, rfl⟩, ?_⟩
  rintro i m H2 ⟨rfl, hi, ev, w2, acc, Ds, Rr, rfl, R3, l2, hA, hO, hHi, al, hlen, lp, eR⟩
  by_cases hlt : i < xs.length
  · refine .inr ⟨wk.go i w2 l2 R3.ok hlt, fun H' => ∃ m', m' < xs.length - i ∧ Wn (i + 1) m' H', fun H' h => h, fun x H3 y => ?_⟩
    have hx : xs[i]? = some xs[i] := by simp [hlt]
    obtain ⟨w3, rfl, l3, p3, k3⟩ := wk.yld i w2 x H3 _ l2 R3.ok hx y
    have R4 := k3 _ _ R3
    have hd : xs.drop i = xs[i] :: xs.drop (i + 1) := List.drop_eq_getElem_cons hlt
    rw [hd] at lp
    cases lp with
    | yes hg ht he k =>
      refine ⟨_, _, _, hg, w3, rfl, R4, p3, fun σ5 w5 R5 l5 B5 => ⟨wipe_eq B5, _, _, _, ht, w5, rfl, R5, fun w6 R6 l6 => iteT ⟨_, _, _, he, w6, rfl, R6, fun v w7 R7 l7 p7 => ?_⟩⟩⟩
      have lt := ((l3.trans l5).trans l6).trans l7
      obtain ⟨h1, h2, h3⟩ := lt.kp D _ hA hO nt_lst
      refine ⟨acc, h1, Nat.lt_of_le_of_lt (Nat.le_trans hlen (Nat.le_trans (Nat.le_of_lt hlt) hz)) (by decide), xs.length - (i + 1), by omega, rfl, hlt, wipeE _ vs, w7.wr D (.lst (acc ++ [v])), acc ++ [v], Ds ++ [_], _, rfl, ?_, ?_, upd_same, h2, h3.trans hHi, (al.mono lt.hi).app p7, by rw [List.length_append]; exact Nat.succ_le_succ hlen, k, by rw [eR, List.append_assoc]; rfl⟩
      · have R8 : Rep X.K _ (wipe σ vs) w7 := R7.wiped ⟨B5.1.symm, fun j hj => (B5.2 j hj).symm⟩
        have nD : ∀ b j, w7.O b = some j → b ≠ D := fun b j qq z => by
          subst z
          rw [h2] at qq
          cases qq
        refine R8.to ⟨R8.ok.sub.put (h3.trans hHi), fun b j qq => ⟨(R8.ok.ho b j qq).1, upd_dom (R8.ok.ho b j qq).2⟩, fun b j qq => pl_up (nD b j qq) (R8.ok.pl b j qq), tabs_mv R8.ok R8.ok.tb.1 fun b u hb hu => (upd_ne fun z => by
          subst z
          rw [h1] at hb
          cases hb
          rcases hu with ⟨ps, e⟩ | ⟨f, e⟩ <;> cases e).trans hb⟩ (Ex.refl _) (fun c j qq => ⟨qq, upd_ne fun z => ?_⟩) rfl
        subst z
        rw [h2] at qq
        cases qq
      · have l8 := l2.trans lt
        refine ⟨l8.hi, fun b u hb hk nt => ?_, fun b hb => upd_dom (l8.dm b hb), l8.pa, fun b u hb n => by
          obtain ⟨o1, h1', n1⟩ := l8.tx b u hb n
          exact ⟨o1, (upd_ne (ne_of_none hb hD)).trans h1', n1⟩⟩
        obtain ⟨g1, g2, g3⟩ := l8.kp b u hb hk nt
        exact ⟨(upd_ne (ne_of_none hb hD)).trans g1, g2, g3⟩
    | no hg ht k =>
      refine ⟨_, _, _, hg, w3, rfl, R4, p3, fun σ5 w5 R5 l5 B5 => ⟨wipe_eq B5, _, _, _, ht, w5, rfl, R5, fun w6 R6 l6 => iteF ?_⟩⟩
      have lt := (l3.trans l5).trans l6
      obtain ⟨h1, h2, h3⟩ := lt.kp D _ hA hO nt_lst
      exact ⟨xs.length - (i + 1), by omega, rfl, hlt, wipeE _ vs, w6, acc, Ds, _, rfl, R6.wiped ⟨B5.1.symm, fun j hj => (B5.2 j hj).symm⟩, l2.trans lt, h1, h2, h3.trans hHi, al.mono lt.hi, Nat.le_succ_of_le hlen, k, eR⟩
  · refine .inl ⟨wk.stop i w2 l2 R3.ok (Nat.le_antisymm hi (Nat.le_of_not_lt hlt)), ?_⟩
    rw [List.drop_eq_nil_of_le (Nat.le_of_not_lt hlt)] at lp
    cases lp with
    | nil =>
      rw [List.append_nil] at eR
      subst eR
      have eH : w2.H = upd (fun b => if b = D then none else w2.H b) D (.lst acc) := by
        funext b
        by_cases z : b = D
        · subst z
          rw [upd_same]
          exact hA
        · rw [upd_ne z, if_neg z]
      rw [eH]
      have dne : ∀ {b : Addr} {u : HO}, w1.H b = some u → b ≠ D := fun hb => ne_of_none hb hD
      have ok' : Wd.Ok { w2 with H := fun b => if b = D then none else w2.H b } := by
        refine ⟨fun b u hb => ?_, fun b j qq => ⟨(R3.ok.ho b j qq).1, ?_⟩, fun b j qq => ?_, tabs_mv R3.ok R3.ok.tb.1 fun b u hb hu => (if_neg fun z => by
          subst z
          rw [hA] at hb
          cases hb
          rcases hu with ⟨ps, e⟩ | ⟨f, e⟩ <;> cases e).trans hb⟩
        rotate_right
        · have nb : b ≠ D := fun z => by
            subst z
            have : w2.O b = some j := qq
            rw [hO] at this
            cases this
          show (∀ ps, (if b = D then none else w2.H b) ≠ some (.tbl ps)) ∧ ∀ f, (if b = D then none else w2.H b) ≠ some (.ext f)
          rw [if_neg nb]
          exact R3.ok.pl b j qq
        · have nb : b ≠ D := fun z => by
            subst z
            have : w2.Hi b = some u := hb
            rw [hHi] at this
            cases this
          exact (if_neg nb).trans (R3.ok.sub b u hb)
        · have nb : b ≠ D := fun z => by
            subst z
            have : w2.O b = some j := qq
            rw [hO] at this
            cases this
          show (if b = D then none else w2.H b) ≠ none
          rw [if_neg nb]
          exact (R3.ok.ho b j qq).2
      have kO : ∀ c j, w2.O c = some j → c ≠ D := fun c j qq z => by
        subst z
        rw [hO] at qq
        cases qq
      have R5 : Rep X.K envf (wipe σ vs) { w2 with H := fun b => if b = D then none else w2.H b } := R3.to ok' (Ex.refl _) (fun c j qq => ⟨qq, if_neg (kO c j qq)⟩) rfl
      have l5 : Le w1 { w2 with H := fun b => if b = D then none else w2.H b } := by
        refine ⟨l2.hi, fun b u hb hk nt => ?_, fun b hb => ?_, l2.pa, fun b u hb n => by
          obtain ⟨o1, h1, n1⟩ := l2.tx b u hb n
          exact ⟨o1, (if_neg (dne hb)).trans h1, n1⟩⟩
        · obtain ⟨g1, g2, g3⟩ := l2.kp b u hb hk nt
          exact ⟨(if_neg (dne hb)).trans g1, g2, g3⟩
        · cases qq : w1.H b with
          | none => exact absurd qq hb
          | some u =>
            show (if b = D then none else w2.H b) ≠ none
            rw [if_neg (dne qq)]
            exact l2.dm b hb
      refine q D acc { w2 with H := fun b => if b = D then none else w2.H b } ?_ (l1.trans l5) (if_pos rfl) al
      refine ⟨ok', by rw [ho.len, ← R5.len, wipe_length], fun j s hs => ?_⟩
      rcases ho.out j s hs with ⟨h1, h2⟩ | ⟨h1, h2 | ⟨P', h2, h3⟩⟩
      · obtain ⟨x, h3, h4⟩ := R5.sl j s h2
        exact ⟨x, ((wipe_but σ vs).2 j h1).symm.trans h3, h4⟩
      · have hl : j < σ.length := by
          rw [← wipe_length σ vs, R5.len, ← ho.len]
          exact (List.getElem?_eq_some_iff.mp hs).1
        exact ⟨σ[j], List.getElem?_eq_getElem hl, by rw [h2]; trivial⟩
      · obtain ⟨x, h4, v, h5, h6⟩ := R2.sl j _ h3
        exact ⟨x, h4, by rw [h2]; exact ⟨v, h5, P'.mono l5.hi h6⟩⟩
theorem hlp_lc {Rs : List VP} (hc : X.calm = true) (hN : X.N.Nodup) (hi : HI X tg iter env env1 xs) (ok : BlkOk X.N X.env.scope scope own') (hz : xs.length ≤ 100000) (cl : Cl X scope tg elt ifs (own'.map (·.2)) xs (wipeE env1 (own'.map (·.2))) Rs envf) (ho : LcEnv (own'.map (·.2)) env1 envf envo)
    (hs : ∀ x, foldedSetIterable iter X.env x = pure x := by intro _; rfl) : PE X (.ListComp elt [⟨tg, iter, ifs, 0⟩] scope pos) (tLP X.K env envo Rs) :=
  (pe_lc (g := cG X scope tg (own'.map (·.2))) (tt := cT X scope ifs) (te := cE X scope elt) hc hN hi ok (fun _ _ _ _ _ => ⟨fun pins s σ H v u Q I r ⟨_, _, _, h, q⟩ => (h _ _ _ _ _).run pins s σ H v u Q I r q⟩) (fun _ _ _ _ _ => ⟨fun pins s σ H Q I ⟨_, _, _, h, q⟩ => (h _ _ _ _ _).run pins s σ H Q I q⟩)
    (fun _ _ _ _ _ => ⟨fun pins s σ H Q I ⟨_, _, _, h, q⟩ => (h _ _ _ _ _).run pins s σ H Q I q⟩) hs).imp (to_lc hz cl ho)
theorem hl_lc {α : Type} [Rp α] {ys : List α} (hc : X.calm = true) (hN : X.N.Nodup) (hi : HI X tg iter env env1 xs) (ok : BlkOk X.N X.env.scope scope own') (hz : xs.length ≤ 100000) (cl : Cl X scope tg elt ifs (own'.map (·.2)) xs (wipeE env1 (own'.map (·.2))) (rvs ys) envf) (ho : LcEnv (own'.map (·.2)) env1 envf envo)
    (hs : ∀ x, foldedSetIterable iter X.env x = pure x := by intro _; rfl) : HL X (.ListComp elt [⟨tg, iter, ifs, 0⟩] scope pos) env envo ys :=
  (hlp_lc hc hN hi ok hz cl ho hs).imp fun σ H Q ⟨w, e1, R1, q⟩ => ⟨w, e1, R1, fun p vs w' R' l hp al => q p vs w' R' l hp (alP_al al)⟩
end

/-! ### enumerate(t), t a tuple -/
abbrev enO (p : Addr) : Obj := { cls := .type "enumerate", data := .fields #[.none, .bool false, .ref p, rawInt 0, .none, .none] }
set_option maxHeartbeats 1000000 in
theorem enum_meets {v : Value} {o : Obj} {F : Heap → Prop} (B : Begins v o F) :
    Meets (Builtin.«enumerate.__new__» ⟨[.type "enumerate", v], []⟩) (fun _ R s => F s.heap ∧ R (.ok (.ret (.ref (s.heap.push o).objs.size))) { s with heap := (s.heap.push o).push (enO s.heap.objs.size) }) :=
  .of_wp fun prog w A R s ⟨f1, fin⟩ => by
    obtain ⟨hp, g, d, tk, os⟩ := s
    have hsub := sub_enumerate
    have it : ∀ {A' : Around} {E Q : Value → Shared → Prop}, Q (.ref hp.objs.size) ⟨hp.push o, g, d, tk, os⟩ → wpAny (model prog w) A' (pyIter v) Q E ⟨hp, g, d, tk, os⟩ := fun q => B.iter prog w _ _ ⟨hp, g, d, tk, os⟩ _ f1 q
    wp_walk using it
    refine wpAny_stack_any fun _ => wpAny_pure ?_
    split
    · rename_i c _ _ _ _ _
      cases (c == Value.type "enumerate") <;> (wp_walk using it; exact ⟨_, rfl, fin⟩)
    · wp_walk using it
      exact ⟨_, rfl, fin⟩
theorem enum_call {prog : Program} {w : World} {A : Around} {E : Value → Shared → Prop} {s : Shared} {v : Value} {o : Obj} {Fh : Heap → Prop} {Q : Value → Shared → Prop} (B : Begins v o Fh) (f1 : Fh s.heap)
    (k : ∀ h', IsEnum h' (s.heap.objs.size + 1) s.heap.objs.size 0 .none → h'.get? s.heap.objs.size = some o → (∀ b u, s.heap.get? b = some u → h'.get? b = some u) → Q (.ref (s.heap.objs.size + 1)) { s with heap := h' }) :
    wpAny (model prog w) A (call (.type "enumerate") [v]) Q E s := by
  refine callType_new PySem.F.called_enumerate (by decide) (PySem.F.typeCall_enumerate_1 _) (PySem.F.newCall_enumerate_1 _) (fun x => PySem.F.args_object_init_2 x _) PySem.F.entry_enumerate_new (enum_meets B) ⟨f1, ?_⟩
  have sz : (s.heap.push o).objs.size = s.heap.objs.size + 1 := Heap.size_push ..
  have he := Heap.get?_push_size (s.heap.push o) (o := enO s.heap.objs.size) rfl
  show _ ∧ _
  rw [sz] at he ⊢
  exact ⟨⟨_, he, rfl⟩, k _ he (Heap.get?_push_of_some _ (Heap.get?_push_size _ B.free)) fun b u q => Heap.get?_push_of_some _ (Heap.get?_push_of_some _ q)⟩
def Itu (K : PySem.W.Frag) (a : Addr) : It :=
  ⟨fun i H => ∃ (xs : List V) (x : V), SqT K H a xs ∧ xs[i]? = some x, fun i H v H' => ∃ T x, v = .ref T ∧ H T = none ∧ H' = upd H T (.tup [.int (i : Nat), x]) ∧ ∀ xs, SqT K H a xs → xs[i]? = some x, fun i H => ∃ xs : List V, SqT K H a xs ∧ i = xs.length⟩
theorem turn_enumT {P : Program} {w : World} {K : PySem.W.Frag} {elts : List Expr} {kk : Nat} {tpos : Pos} (a e it : Addr) :
    Turn P w K (.Tuple elts kk tpos) (Itu K a) [e, it] e (fun i h => (∃ old, IsEnum h e it ((i : Nat) : Int) old) ∧ h.IsTupleIter it a i) where
  mem := List.mem_cons_self
  obj := fun i h ⟨⟨old, he⟩, ⟨o, ho, hc, hd⟩⟩ b hb => by
    rcases List.mem_cons.mp hb with z | z
    · rw [z]; exact ⟨_, he, fun v q => nomatch q⟩
    · rw [List.mem_singleton.mp z]; exact ⟨o, ho, fun v q => by rw [hd] at q; cases q⟩
  keep := fun i h h' ⟨⟨old, he⟩, hi⟩ k => ⟨⟨old, k e List.mem_cons_self _ he⟩, hi.at fun o q => k it (List.mem_cons_of_mem _ List.mem_cons_self) o q⟩
  item := by
    intro X hP hw hK hc i pins s σ H E I hf ⟨⟨old, he⟩, hit⟩ ⟨xs, x, hq, hx⟩
    subst hP hw hK
    obtain ⟨its, rv, p, hz⟩ := I.tuple hq
    obtain ⟨u, hu, ru⟩ := rv.get hx
    obtain ⟨oi, g1, g2, g3⟩ := id hit
    obtain ⟨oa, g4, g5, g6⟩ := id p
    have hei : e ≠ it := fun z => by
      subst z
      rw [show s.heap.get? e = _ from he] at g1
      cases g1
      exact absurd (Value.type.inj g2) (by decide)
    have hai : a ≠ it := fun z => by
      subst z
      rw [g4] at g1
      cases g1
      rw [g5] at g2
      exact absurd (Value.type.inj g2) (by decide)
    have hea : e ≠ a := fun z => by
      subst z
      rw [show s.heap.get? e = _ from he] at g4
      cases g4
      exact absurd (Value.type.inj g5) (by decide)
    have W := GoesN.enumFrom (elts := elts) (x1 := kk) (pos := tpos) (A := X.A) 0 (Draws.tuple (prog := X.prog) (w := X.w) (A := X.A.in1) (I.ok.hd hc) it a hai its.toArray) e hei (by simp [hei, hea]) List.mem_cons_self
    have hlt : i < its.toArray.size := by
      have := (List.getElem?_eq_some_iff.mp hu).1
      simpa using this
    refine W.goes i s _ E hlt ⟨⟨old, by rw [Int.zero_add]; exact he⟩, hit, p⟩ fun v h' tk ⟨T, t, y, ev, hT, hy, hTT⟩ st' kk' _ => ?_
    have ey : y = u := by
      have : its.toArray[i]? = some y := hy
      rw [List.getElem?_toArray, hu] at this
      exact (Option.some.inj this).symm
    subst ev ey
    obtain ⟨⟨old', he'⟩, hit', _⟩ := st'
    rw [Int.zero_add] at he' hTT
    have new : ObjOk X.prog X.w (upd H T (.tup [.int (i : Nat), x])) h' T (.tup [.int (i : Nat), x]) := ⟨by show 2 ≤ sizeLine; decide, [.int i t, y], .cons ⟨_, rfl⟩ (.cons ru .nil), hTT⟩
    have I1 : Inv X pins σ (upd H T (.tup [.int (i : Nat), x])) { s with heap := h', toks := tk } := I.turnedNew (ch := [e, it]) (fun b ob hb q => kk' b ob hb q) hf hT new
    refine ⟨.ref T, _, I1, rfl, ⟨T, x, rfl, I.hok.fresh hT, rfl, fun ys hy => by rw [I.tuple_inj hy hq]; exact hx⟩, ⟨⟨old', by rw [show ((i + 1 : Nat) : Int) = (i : Int) + 1 by omega]; exact he'⟩, hit'⟩, fun b hb => ?_⟩
    have hb' : b < s.heap.objs.size := by
      rcases List.mem_cons.mp hb with z | z
      · rw [z]; exact Heap.lt_size he
      · rw [List.mem_singleton.mp z]; exact Heap.lt_size g1
    rw [upd_ne (Nat.ne_of_lt (Nat.lt_of_lt_of_le hb' hT))]
    exact (hf b hb).1
  done := by
    intro X hP hw hK hc i pins s σ H E I hf ⟨⟨old, he⟩, hit⟩ ⟨xs, hq, hx⟩
    subst hP hw hK
    obtain ⟨its, rv, p, hz⟩ := I.tuple hq
    obtain ⟨oi, g1, g2, g3⟩ := id hit
    obtain ⟨oa, g4, g5, g6⟩ := id p
    have hei : e ≠ it := fun z => by
      subst z
      rw [show s.heap.get? e = _ from he] at g1
      cases g1
      exact absurd (Value.type.inj g2) (by decide)
    have hai : a ≠ it := fun z => by
      subst z
      rw [g4] at g1
      cases g1
      rw [g5] at g2
      exact absurd (Value.type.inj g2) (by decide)
    have hea : e ≠ a := fun z => by
      subst z
      rw [show s.heap.get? e = _ from he] at g4
      cases g4
      exact absurd (Value.type.inj g5) (by decide)
    have W := GoesN.enumFrom (elts := elts) (x1 := kk) (pos := tpos) (A := X.A) 0 (Draws.tuple (prog := X.prog) (w := X.w) (A := X.A.in1) (I.ok.hd hc) it a hai its.toArray) e hei (by simp [hei, hea]) List.mem_cons_self
    have hl : i = its.toArray.size := by
      rw [hx, rv.length]
      rfl
    refine W.stops s _ E ?_ fun h' tk kk' _ => I.turnedL (ch := [e, it]) (fun b o hb q => kk' b o hb q) hf
    rw [← hl]
    exact ⟨⟨old, by rw [Int.zero_add]; exact he⟩, hit, p⟩
  self := fun A i s Q E ⟨⟨_, he⟩, _⟩ h => wpAny_pyIter_enum he h
def iEnT (K : PySem.W.Frag) (ta : TA) : TI := fun σ H R => ta σ H fun vs H1 => ∃ a xs, vs = [.ref a] ∧ SqT K H1 a xs ∧ R (Itu K a) H1
theorem pi_enumT {X : Cx} {e : Expr} {ta : TA} {p pos tpos : Pos} {elts : List Expr} {kk : Nat} (hg : Gl X "enumerate") (hm : X.mg "enumerate" = none) (ha : PA X [e] ta) (hs : starEach [e] X.env = [(false, eval e X.env)] := by rfl) :
    PI X (.Tuple elts kk tpos) (.Call (.Name "enumerate" p) [e] [] pos) (iEnT X.K ta) := ⟨fun pins s σ H R I h => by
  refine Call_ (ld_blt I hg hm boot_enumerate (PyProof.Rows.callWith_type1 (thn (ha.run pos pins s σ H _ I h) fun us s1 ⟨vs, H1, I1, r1, a, xs, ex, hq, q⟩ => ?_) hs rfl))
  subst ex
  cases r1 with
  | cons r rr =>
    cases rr
    cases r
    obtain ⟨its, rv, p', hz⟩ := I1.tuple hq
    refine enum_call (begins_tuple a its.toArray) p' fun h' he hit hk => wpAny_pyIter_enum he ?_
    have I2 : Inv X pins σ H1 { s1 with heap := h' } := I1.kept (t' := s1.toks) hk
    refine ⟨s1.heap.objs.size + 1, [s1.heap.objs.size + 1, s1.heap.objs.size], _, _, H1, rfl, I2, turn_enumT a _ _, ⟨⟨.none, he⟩, _, hit, rfl, rfl⟩, fun b hb => ?_, q⟩
    have hle : s1.heap.objs.size ≤ b := by
      rcases List.mem_cons.mp hb with z | z
      · rw [z]
        exact Nat.le_succ _
      · rw [List.mem_singleton.mp z]
        exact Nat.le_refl _
    exact I1.fpOk hle (I1.hok.fresh hle)⟩
/-- the items with their numbers -/
def enr {α : Type} : Nat → List α → List (Int × α)
  | _, [] => []
  | k, x :: xs => ((k : Int), x) :: enr (k + 1) xs
theorem enr_len {α : Type} : ∀ (k : Nat) (xs : List α), (enr k xs).length = xs.length
  | _, [] => rfl
  | k, x :: xs => by rw [enr, List.length_cons, List.length_cons, enr_len]
theorem enr_get {α : Type} : ∀ (k : Nat) (xs : List α) (i : Nat), (enr k xs)[i]? = xs[i]?.map fun x => (((k + i : Nat) : Int), x)
  | _, [], i => by simp [enr]
  | k, x :: xs, 0 => by simp [enr]
  | k, x :: xs, i + 1 => by
    rw [enr, List.getElem?_cons_succ, List.getElem?_cons_succ, enr_get, show k + 1 + i = k + (i + 1) by omega]
theorem wk_enT {α : Type} [Rp α] {K : PySem.W.Frag} {a : Addr} {xs : List α} {vs : List V} {w0 : Wd} (h : SqT K w0.Hi a vs) (al : Al α K w0.Hi xs vs) : Wk K (Itu K a) (rvs (enr 0 xs)) w0 where
  go := fun i w l ok hi => by
    rw [rvs_len, enr_len, ← al.len] at hi
    exact ⟨vs, vs[i], Ex.t (l.hi.trans ok.sub) h, by simp [hi]⟩
  stop := fun i w l ok hi => by
    rw [rvs_len, enr_len, ← al.len] at hi
    exact ⟨vs, Ex.t (l.hi.trans ok.sub) h, hi⟩
  yld := fun i w x H' P l ok hi ⟨T, y, e1, hT, e2, hy⟩ => by
    have hv := hy vs (Ex.t (l.hi.trans ok.sub) h)
    unfold rvs at hi
    rw [List.getElem?_map, enr_get] at hi
    cases q : xs[i]? with
    | none => rw [q] at hi; cases hi
    | some z =>
      rw [q] at hi
      have e3 : rv (((0 + i : Nat) : Int), z) = P := Option.some.inj hi
      obtain ⟨v, h1, h2⟩ := al.get q
      rw [hv] at h1
      cases h1
      subst e1 e2 e3
      have hn := (ok.fresh hT).1
      refine ⟨w.add T (.tup [.int i, y]), rfl, add_le ok hT, ⟨T, .int i, y, rfl, SqT.of upd_same, ?_, Rp.mono (l.hi.trans (Ex.new hn)) h2⟩, fun env σ R => R.add hT⟩
      show V.int (i : Int) = V.int ((0 + i : Nat) : Int)
      rw [Nat.zero_add]
theorem hi_enT {X : Cx} {env env1 : List Slot} {e : Expr} {α : Type} [Rp α] {xs : List α} {p pos tpos : Pos} {elts : List Expr} {kk : Nat} (h : HE X e env env1 (rv xs)) (hm : X.mg "enumerate" = none) (hg : Gl X "enumerate" := by rfl) (hs : starEach [e] X.env = (false, eval e X.env) :: starEach [] X.env := by rfl) (hs2 : starEach [e] X.env = [(false, eval e X.env)] := by rfl) :
    HI X (.Tuple elts kk tpos) (.Call (.Name "enumerate" p) [e] [] pos) env env1 (rvs (enr 0 xs)) := (pi_enumT hg hm (pa_cons h pa_nil hs) hs2).imp fun σ H Q ⟨w, e1, R1, q⟩ => ⟨w, e1, R1, fun v w' R' l ⟨t, vs, e2, h1, h2⟩ =>
  ⟨t, vs, by rw [e2], Ex.t R'.ok.sub h1, q _ w' R' l (wk_enT h1 h2)⟩⟩
/-! ### defs that run where nothing is being shown (repr within asks it) -/
structure Rm (k : Nat) (A : Around) : Prop where
  room : Room k A
  gd : A.guards = some []
theorem Rm.mono {j k : Nat} {A : Around} (r : Rm k A) (h : j ≤ k) : Rm j A := ⟨r.room.mono h, r.gd⟩
structure FnG (P : Program) (w : World) (K : PySem.W.Frag) (mg : Str → Option Value) (base : Heap) (k : Nat) (f : Addr) (fd : FuncData) (ps : List Str) (sp : Sp) : Prop where
  len : ∀ vs H Q E, sp vs H Q E → vs.length = ps.length
  run : ∀ (A : Around) (outer : List Env) (s : Shared) (H : Hp) (args : Args) (us : List Value) (vs : List V) (Q : VK) (E : XK), Rm k A → Env0 P w K mg base A outer s H → BindsTo s fd args (ps.zip us) → Vals vs us →
    sp vs H Q E → codeAny (model P w) A (.call (.ref f) args) (CR (L2.CX P w) outer P w H s Q E) s
theorem fnG_of {P : Program} {w : World} {K : PySem.W.Frag} {mg : Str → Option Value} {base : Heap} {k : Nat} {f : Addr} {name qual : Str} {params : Arguments} {body : List Stmt} {scope : Scope} {dV kV doc pm cdv ct oc : Value} {an od : Option Addr}
    {osl : Array (Option Value)} {N ps : List Str} {sp : Sp} (lk : K.lookup f = some ⟨oc, od, .func (PySem.W.fnOf name qual params body scope dV kV doc pm an cdv ct), osl⟩) (cr : PySem.W.codeIn K cdv qual = true) (S : FnScope N ps scope) (len : ∀ vs H Q E, sp vs H Q E → vs.length = ps.length)
    (hb : ∀ (A : Around) (outer : List Env) (s : Shared) (H : Hp) (vs : List V) (Q : VK) (E : XK), Rm k (A.deeper (envOfC qual scope s.heap.objs.size f cdv)) → sp vs H Q E →
      ∃ t, PSs (cxOf (L2.CX P w) P w K mg base N qual scope f cdv A outer s H E) body t ∧ t { nx := fun _ H' => Q .non H', rt := Q } (L2.start N vs) H) :
    FnG P w K mg base (k + 1) f (PySem.W.fnOf name qual params body scope dV kV doc pm an cdv ct) ps sp where
  len := len
  run := fun A outer s H args us vs Q E hr e0 bt r q => by
    have ln := len _ _ _ _ q
    have up : ∀ b o, base.get? b = some o → s.heap.get? b = some o := fun b o e => (e0.bs b o e).1
    have kinds : ∀ y ∈ ps.zip us, scope.names.lookup y.1 = some .local ∨ (scope.names.lookup y.1 = some .cell ∧ ((cellsFrom (s.heap.objs.size + 1) scope.names []).lookup y.1).isSome = true) := by
      rintro ⟨n, v⟩ hy
      exact (S.par n (List.of_mem_zip hy).1).imp id fun z => ⟨z, PySem.W.cellsFrom_some _ _ _ (.inl z)⟩
    refine codeAny_call_function hr.room.depth (e0.mod.kin.keeps up _ _ lk) rfl S.co S.gen rfl (PySem.W.codeRec_of (e0.mod.kin.keeps up) cr) (bt _ _ _ _ ?_)
    refine wpAny_newFunctionEnv_cells S.kind kinds fun env he s1 x => ?_
    subst he
    refine ⟨(e0.mod.nolimit.keeps up).keeps x.toInCall.keep, codeAny_func ?_⟩
    obtain ⟨t, ht, hq⟩ := hb A outer s H vs Q E ⟨hr.room.deeper _, hr.gd⟩ q
    refine wpAny_mono (ht.run [] s1 _ H _ (inv_start S hr.room.hd e0 ln r x) hq) (fun fl s' z => ?_) fun _ _ z => z
    cases fl with
    | ret u => exact let ⟨v, _, H', J, rv, y⟩ := z; ⟨v, H', J.os, J.bare, J.base, J.hok, rv, y⟩
    | next => exact let ⟨_, H', J, y⟩ := z; ⟨.non, H', J.os, J.bare, J.base, J.hok, rfl, y⟩
    | brk => exact let ⟨_, _, _, y⟩ := z; y.elim
    | cont => exact let ⟨_, _, _, y⟩ := z; y.elim
theorem runG {X : Cx} {k : Nat} {f : Addr} {fd : FuncData} {ps : List Str} {sp : Sp} {pins : List (Addr × Obj)} {σ : L2.St} {H : Hp} {s : Shared} {Q : VK} {E : XK} {args : Args} {us : List Value} {vs : List V} (F : FnG X.prog X.w X.K X.mg X.base k f fd ps sp) (hr : Rm k X.A)
    (bt : BindsTo s fd args (ps.zip us)) (hx : PassesAt (L2.CX X.prog X.w) X σ E) (I : Inv X pins σ H s) (r : Vals vs us) (h : sp vs H Q E) : codeAny (model X.prog X.w) X.A (.call (.ref f) args) (fun r s' => match r with | .ok (.ret u) => EP X pins σ Q u s' | .ok _ => False | .error e => X.xe e s') s := by
  refine codeAny_mono (F.run X.A X.stack s H args us vs Q E hr I.env0 bt r h) fun r s' hq => ?_
  cases r with
  | error e => exact hx pins H s e s' I hq
  | ok fl =>
    cases fl with
    | ret u => exact I.after hq
    | next => exact hq
    | brk => exact hq
    | cont => exact hq
/-- f(e, ..) -/
def tCallG (sp : Sp) (E : L2.St → XK) (t : TA) : TE := fun σ H Q => t σ H fun vs H1 => sp vs H1 Q (E σ)
theorem pe_callG {X : Cx} {k : Nat} {f : Addr} {fd : FuncData} {ps : List Str} {sp : Sp} {E : L2.St → XK} {x : Str} {p pos : Pos} {e : Expr} {es : List Expr} {t : TA} (F : FnG X.prog X.w X.K X.mg X.base k f fd ps sp) (hr : Rm k X.A) (hg : Gl X x) (hm : X.mg x = some (.ref f)) (hk : PySem.W.keepIn X.K (.ref f) = true)
    (hb : Binds X.K fd ps []) (hx : ∀ σ, PassesAt (L2.CX X.prog X.w) X σ (E σ)) (ha : PA X (e :: es) t) (hdb : (x == ("__debug__" : Str)) = false := by decide) (he : starEach (e :: es) X.env = (false, eval e X.env) :: starEach es X.env := by rfl) (hpl : (backTo pos (starEach es X.env)).any (·.1) = false := by rfl) :
    PE X (.Call (.Name x p) (e :: es) [] pos) (tCallG sp E t) := ⟨fun pins s σ H Q I h => by
  refine wpAny_Call_Name_kw (ld_glob I hg hm (PySem.W.callWith_K (h₀ := X.base) I.ok.mod.kin hk (thn (ha.run pos pins s σ H _ I h) fun us s1 ⟨vs, H1, I1, r, q⟩ => ⟨I1.kIn, ?_⟩) he hpl) hdb)
  have hl : us.length = ps.length := by rw [← r.length]; exact F.len _ _ _ _ q
  refine wpAny_call (codeAny_mono (runG F hr (us := us) (by have z := hb s1 us I1.kIn (by rw [List.append_nil]; exact hl); rwa [List.append_nil] at z) (hx σ) I1 r q) fun r s' hq => ?_)
  cases r with
  | error e => exact hq
  | ok fl => cases fl <;> first | exact hq | exact hq.elim⟩
theorem pe_callG0 {X : Cx} {k : Nat} {f : Addr} {fd : FuncData} {ps : List Str} {sp : Sp} {E : L2.St → XK} {x : Str} {p pos : Pos} (F : FnG X.prog X.w X.K X.mg X.base k f fd ps sp) (hr : Rm k X.A) (hg : Gl X x) (hm : X.mg x = some (.ref f)) (hk : PySem.W.keepIn X.K (.ref f) = true)
    (hb : Binds X.K fd ps []) (hx : ∀ σ, PassesAt (L2.CX X.prog X.w) X σ (E σ)) (hdb : (x == ("__debug__" : Str)) = false := by decide) : PE X (.Call (.Name x p) [] [] pos) (tCallG sp E tNil) := ⟨fun pins s σ H Q I h => by
  refine wpAny_Call_Name_kw (ld_glob I hg hm (PySem.W.callWith_K0 I.kIn hk (wpAny_call ?_)) hdb)
  have hl : ([] : List Value).length = ps.length := F.len _ _ _ _ h
  refine codeAny_mono (runG F hr (us := []) (by have z := hb s [] I.kIn hl; exact z) (hx σ) I .nil h) fun r s' hq => ?_
  cases r with
  | error e => exact hq
  | ok fl => cases fl <;> first | exact hq | exact hq.elim⟩
/-! ### defs: what they promise, how they are called -/
inductive FO where
  | rt (P : VP) (ps : List (Nat × Slot))
  | er (c : Addr) (P : VP) (ps : List (Nat × Slot))
  | fr (Ps : List VP) (ps : List (Nat × Slot))
def Pars (K : PySem.W.Frag) (w : Wd) (ps : List (Nat × Slot)) : Prop := ∀ q ∈ ps, ∃ x, q.2.p K q.1 x w
def FO.sat (K : PySem.W.Frag) (w0 : Wd) (Q : VK) (E : XK) : FO → Prop
  | .rt P ps => ∀ v w', w'.Ok → Le w0 w' → Pars K w' ps → P.p K v w'.Hi → Q v w'.H
  | .er c P ps => ∀ d v w', w'.Ok → Le w0 w' → Pars K w' ps → w0.H d = none → w'.H d = some (.xd [("what", v)]) → w'.O d = none → w'.Hi d = none → P.p K v w'.Hi → E (.ref c) (some d) w'.H
  | .fr Ps ps => ∀ p vs w', w'.Ok → LeX p w0 w' → Pars K w' ps → AlP K w'.Hi Ps vs → Q (.ref p) (upd w'.H p (.lst vs))
def Spc (K : PySem.W.Frag) {A : Type} (ins : A → List Slot) (out : A → FO) : Sp := fun vs H Q E => ∃ (a : A) (w : Wd), w.H = H ∧ Rep K (ins a) (vs.map some) w ∧ (out a).sat K w Q E
def Spq (K : PySem.W.Frag) {A : Type} (pre : A → Prop) (ins : A → List Slot) (out : A → FO) : Sp := Spc K (fun z : { z : A // pre z } => ins z.1) fun z => out z.1
inductive Fits : Oc → FO → Prop
  | rt {P e ps} : (∀ q ∈ ps, e[q.1]? = some q.2) → Fits (.rt P e) (.rt P ps)
  | nx {e ps} : (∀ q ∈ ps, e[q.1]? = some q.2) → Fits (.nx e) (.rt (rv ()) ps)
  | er {c P e ps} : (∀ q ∈ ps, e[q.1]? = some q.2) → Fits (.er c P e) (.er c P ps)
  | fr {Ps e ps} : (∀ q ∈ ps, e[q.1]? = some q.2) → Fits (.rl Ps e) (.fr Ps ps)
theorem fits_rt {P : VP} {e : List Slot} : Fits (.rt P e) (.rt P []) := .rt fun _ h => by simp at h
theorem fits_nx {e : List Slot} : Fits (.nx e) (.rt (rv ()) []) := .nx fun _ h => by simp at h
theorem fits_er {c : Addr} {P : VP} {e : List Slot} : Fits (.er c P e) (.er c P []) := .er fun _ h => by simp at h
theorem fits_fr {Ps : List VP} {e : List Slot} : Fits (.rl Ps e) (.fr Ps []) := .fr fun _ h => by simp at h
theorem fits_rt1 {P : VP} {s : Slot} {e : List Slot} (h : e[0]? = some s := by rfl) : Fits (.rt P e) (.rt P [(0, s)]) := .rt fun q hq => by
  rw [List.mem_singleton] at hq
  subst hq
  exact h
theorem fits_nx1 {s : Slot} {e : List Slot} (h : e[0]? = some s := by rfl) : Fits (.nx e) (.rt (rv ()) [(0, s)]) := .nx fun q hq => by
  rw [List.mem_singleton] at hq
  subst hq
  exact h
theorem pars_of {K : PySem.W.Frag} {e : List Slot} {ps : List (Nat × Slot)} {σ : L2.St} {w : Wd} (R : Rep K e σ w) (h : ∀ q ∈ ps, e[q.1]? = some q.2) : Pars K w ps := fun q hq => let ⟨x, _, p⟩ := R.sl q.1 q.2 (h q hq); ⟨x, p⟩
abbrev WeE (E : XK) : WX := fun c d _ H => E c d H
/-- a def of the text, called by its name -/
structure Def (P : Program) (w : World) (K : PySem.W.Frag) (mg : Str → Option Value) (base : Heap) (x : Str) (k : Nat) (ps : List Str) (sp : Sp) : Prop where
  ex : ∃ f fd, FnG P w K mg base k f fd ps sp ∧ mg x = some (.ref f) ∧ PySem.W.keepIn K (.ref f) = true ∧ Binds K fd ps []
/-- a def of the text, whatever its defaults -/
structure FunX (K : PySem.W.Frag) (x qual : Str) (st : Stmt) (f : Addr) (fd : FuncData) : Prop where
  ex : ∃ (oc : Value) (od : Option Addr) (dV kV doc pm : Value) (an : Option Addr) (cdv ct : Value) (osl : Array (Option Value)),
    fd = PySem.W.fnOf x qual (defArgs st) (defBody st) (defScope st) dV kV doc pm an cdv ct ∧ K.lookup f = some ⟨oc, od, .func fd, osl⟩ ∧ PySem.W.codeIn K cdv qual = true
theorem fun_x {K : PySem.W.Frag} {x qual : Str} {st : Stmt} {f : Addr} {fd : FuncData} (F : Fun K x qual st f fd) : FunX K x qual st f fd := by
  obtain ⟨oc, od, kV, doc, pm, an, cdv, ct, osl, h1, h2, h3⟩ := F.ex
  exact ⟨oc, od, .none, kV, doc, pm, an, cdv, ct, osl, h1, h2, h3⟩
theorem fn_ok {P : Program} {w : World} {K : PySem.W.Frag} {mg : Str → Option Value} {base : Heap} {k : Nat} {x qual : Str} {st : Stmt} {f : Addr} {fd : FuncData} {N ps : List Str} {A : Type} {ins : A → List Slot} {out : A → FO}
    (F : FunX K x qual st f fd) (S : FnScope N ps (defScope st)) (hl : ∀ a, (ins a).length = ps.length)
    (body : ∀ (cdv : Value), fd.code = cdv → ∀ (Ar : Around) (outer : List Env) (s : Shared) (H : Hp) (E : XK), Rm k (Ar.deeper (envOfC qual (defScope st) s.heap.objs.size f cdv)) → ∀ a, ∃ oc, Fits oc (out a) ∧
      HSs (cxOf (L2.CX P w) P w K mg base N qual (defScope st) f cdv Ar outer s H E) (WeE E) (defBody st) (ins a ++ List.replicate (N.length - ps.length) un) oc) :
    FnG P w K mg base (k + 1) f fd ps (Spc K ins out) := by
  have len : ∀ vs H Q E, Spc K ins out vs H Q E → vs.length = ps.length := fun vs H Q E ⟨a, w, _, R, _⟩ => by rw [← hl a, ← R.len, List.length_map]
  obtain ⟨oc', od, dV, kV, doc, pm, an, cdv, ct, osl, rfl, lk, hcd⟩ := F.ex
  refine fnG_of lk hcd S len fun Ar outer s H vs Q E hr hsp => ?_
  have hln := len _ _ _ _ hsp
  obtain ⟨a, w0, rfl, R, q⟩ := hsp
  obtain ⟨o, hq, hb⟩ := body cdv rfl Ar outer s w0.H E hr a
  refine ⟨_, hb, w0, rfl, ?_, ?_⟩
  · refine ⟨R.ok, ?_, fun i t h => ?_⟩
    · unfold L2.start
      rw [List.length_append, List.length_append, List.length_map, List.length_replicate, List.length_replicate, hl a, hln]
    · unfold L2.start
      by_cases hi : i < (ins a).length
      · rw [List.getElem?_append_left hi] at h
        obtain ⟨x, h1, h2⟩ := R.sl i t h
        refine ⟨x, ?_, h2⟩
        rw [List.getElem?_append_left (by rw [R.len]; exact hi)]
        exact h1
      · rw [List.getElem?_append_right (by omega)] at h
        rw [List.getElem?_replicate] at h
        split at h
        · cases h
          rename_i hlt
          refine ⟨none, ?_, trivial⟩
          rw [List.getElem?_append_right (by rw [R.len]; omega), List.getElem?_replicate, R.len, if_pos (by rw [hln]; exact hlt)]
        · cases h
  · clear hb
    revert hq q
    generalize out a = fo
    intro q hq
    cases hq with
    | rt h => exact fun σ v w' R' l p => q v w' R'.ok l (pars_of R' h) p
    | nx h => exact fun σ w' R' l => q .non w' R'.ok l (pars_of R' h) rfl
    | er h => exact fun σ w' d v R' l n p1 p2 p3 p4 => q d v w' R'.ok l (pars_of R' h) n p1 p2 p3 p4
    | fr h => exact fun σ p vs w' R' l p2 => q p vs w' R'.ok l (pars_of R' h) p2
theorem fn_okq {P : Program} {w : World} {K : PySem.W.Frag} {mg : Str → Option Value} {base : Heap} {k : Nat} {x qual : Str} {st : Stmt} {f : Addr} {fd : FuncData} {N ps : List Str} {A : Type} {pre : A → Prop} {ins : A → List Slot} {out : A → FO}
    (F : FunX K x qual st f fd) (S : FnScope N ps (defScope st)) (hl : ∀ a, (ins a).length = ps.length)
    (body : ∀ (cdv : Value), fd.code = cdv → ∀ (Ar : Around) (outer : List Env) (s : Shared) (H : Hp) (E : XK), Rm k (Ar.deeper (envOfC qual (defScope st) s.heap.objs.size f cdv)) → ∀ a, pre a → ∃ oc, Fits oc (out a) ∧
      HSs (cxOf (L2.CX P w) P w K mg base N qual (defScope st) f cdv Ar outer s H E) (WeE E) (defBody st) (ins a ++ List.replicate (N.length - ps.length) un) oc) :
    FnG P w K mg base (k + 1) f fd ps (Spq K pre ins out) := fn_ok F S (fun a => hl a.1) fun cdv hcd Ar outer s H E hr a => body cdv hcd Ar outer s H E hr a.1 a.2
/-- a world for a callee that changes nothing of ours -/
def Wd.in0 (w : Wd) : Wd := { Hi := w.Hi, H := w.H, O := fun _ => none, pa := fun _ => none }
theorem in0_ok {w : Wd} (ok : w.Ok) : w.in0.Ok := ⟨ok.sub, fun a i h => (by cases h), fun a i h => (by cases h), ok.tb⟩
def Wd.out (w w' : Wd) : Wd := { Hi := w'.Hi, H := w'.H, O := w.O, pa := w.pa }
section
variable {X : Cx} {We : WX} {env env1 env2 : List Slot} {P : VP} {e : Expr} {es : List Expr} {p pos : Pos} {x : Str} {k : Nat} {ps : List Str} {A : Type} {pre : A → Prop} {ins : A → List Slot} {out : A → FO} {Ps : List VP}
theorem rep_ims {K : PySem.W.Frag} {w : Wd} (ok : w.Ok) : ∀ {Ps : List VP} {vs : List V}, AlP K w.Hi Ps vs → Rep K (Ps.map im) (vs.map some) w := fun {Ps vs} h => by
  refine ⟨ok, by rw [List.length_map, List.length_map, alP_len h], fun i s hs => ?_⟩
  rw [List.getElem?_map] at hs
  have key : ∀ {Ps : List VP} {vs : List V} {i : Nat} {P : VP}, AlP K w.Hi Ps vs → Ps[i]? = some P → ∃ v, vs[i]? = some v ∧ P.p K v w.Hi := by
    intro Ps
    induction Ps with
    | nil => intro vs i P _ h; simp at h
    | cons Q Ps ih =>
      intro vs i P ⟨v, r, e1, h1, h2⟩ h
      subst e1
      cases i with
      | zero => simp at h; subst h; exact ⟨v, rfl, h1⟩
      | succ i =>
        obtain ⟨u, a, b⟩ := ih (i := i) h2 (by simpa using h)
        exact ⟨u, by simpa using a, b⟩
  cases q : Ps[i]? with
  | none => rw [q] at hs; cases hs
  | some P =>
    rw [q] at hs
    cases hs
    obtain ⟨v, h1, h2⟩ := key h q
    exact ⟨some v, by rw [List.getElem?_map, h1]; rfl, v, rfl, h2⟩
theorem out_rep {K : PySem.W.Frag} {σ : L2.St} {w w' : Wd} (R : Rep K env σ w) (ok : w'.Ok) (l : Le w.in0 w') : Rep K env σ (w.out w') ∧ Le w (w.out w') := by
  have kp : ∀ b o, NT o → w.H b = some o → w'.H b = some o ∧ w'.Hi b = w.Hi b := fun b o nt h => let ⟨h1, _, h3⟩ := l.kp b o h rfl nt; ⟨h1, h3⟩
  have ok2 : (w.out w').Ok := ⟨ok.sub, fun a i h => by
    obtain ⟨h1, h2⟩ := R.ok.ho a i h
    cases q : w.H a with
    | none => exact absurd q h2
    | some o =>
      obtain ⟨h3, h4⟩ := kp a o (own_nt R.ok h q) q
      exact ⟨h4.trans h1, fun z => by rw [show (w.out w').H a = w'.H a from rfl, h3] at z; cases z⟩, fun a i h => by
    cases q : w.H a with
    | none => exact absurd q (R.ok.ho a i h).2
    | some o =>
      have := (kp a o (own_nt R.ok h q) q).1
      have pl := R.ok.pl a i h
      rw [q] at pl
      show (∀ ps, w'.H a ≠ some (.tbl ps)) ∧ ∀ f, w'.H a ≠ some (.ext f)
      rw [this]
      exact pl, ok.tb⟩
  refine ⟨R.to ok2 l.hi (fun a i h => ⟨h, ?_⟩) rfl, l.hi, fun b o h k nt => ⟨(kp b o nt h).1, k, (kp b o nt h).2⟩, l.dm, rfl, l.tx⟩
  cases q : w.H a with
  | none => exact absurd q (R.ok.ho a i h).2
  | some o => exact (kp a o (own_nt R.ok h q) q).1
/-- nothing is let out -/
theorem passN {X : Cx} {σ : L2.St} : PassesAt (L2.CX X.prog X.w) X σ E0 := fun _ _ _ _ _ _ ⟨_, _, _, _, _, _, _, _, _, _, _, _, z⟩ => z.elim
theorem to_call (a : A) (hpr : pre a) (ho : out a = .rt P []) (hi : ins a = Ps.map im) {E : L2.St → XK} : ∀ σ H Q, tE X.K env env1 P σ H Q → tCallG (Spq X.K pre ins out) E (tA X.K env env1 Ps) σ H Q := fun σ H Q ⟨w, e1, R1, q⟩ => ⟨w, e1, R1, fun vs w' R' l al => by
  refine ⟨⟨a, hpr⟩, w'.in0, rfl, ?_, ?_⟩
  · show Rep _ (ins a) _ _
    rw [hi]
    exact rep_ims (in0_ok R'.ok) al
  · show FO.sat _ _ _ _ (out a)
    rw [ho]
    intro v w2 ok l2 _ pv
    obtain ⟨R3, l3⟩ := out_rep R' ok l2
    exact q v (w'.out w2) R3 (l.trans l3) pv⟩
/-- f(e, ..), nothing raised, nothing of ours changed -/
theorem he_call (D : Def X.prog X.w X.K X.mg X.base x k ps (Spq X.K pre ins out)) (a : A) (hpr : pre a) (hr : Rm k X.A) (ha : HA X (e :: es) env env1 Ps) (hi : ins a = Ps.map im := by rfl) (ho : out a = .rt P [] := by rfl) (hg : Gl X x := by rfl) (hdb : (x == ("__debug__" : Str)) = false := by decide)
    (hst : starEach (e :: es) X.env = (false, eval e X.env) :: starEach es X.env := by rfl) (hpl : (backTo pos (starEach es X.env)).any (·.1) = false := by rfl) : HE X (.Call (.Name x p) (e :: es) [] pos) env env1 P := by
  obtain ⟨f, fd, F, hm, hk, hb⟩ := D.ex
  exact (pe_callG F hr hg hm hk hb (fun _ => passN) ha hdb hst hpl).imp (to_call a hpr ho hi)
theorem he_call0 (D : Def X.prog X.w X.K X.mg X.base x k ps (Spq X.K pre ins out)) (a : A) (hpr : pre a) (hr : Rm k X.A) (hi : ins a = [] := by rfl) (ho : out a = .rt P [] := by rfl) (hg : Gl X x := by rfl) (hdb : (x == ("__debug__" : Str)) = false := by decide) : HE X (.Call (.Name x p) [] [] pos) env env P := by
  obtain ⟨f, fd, F, hm, hk, hb⟩ := D.ex
  refine (pe_callG0 F hr hg hm hk hb (fun _ => passN) hdb).imp fun σ H Q ⟨w, e1, R1, q⟩ => ?_
  subst e1
  refine ⟨⟨a, hpr⟩, w.in0, rfl, ?_, ?_⟩
  · show Rep _ (ins a) _ _
    rw [hi]
    exact rep_ims (Ps := []) (in0_ok R1.ok) rfl
  · show FO.sat _ _ _ _ (out a)
    rw [ho]
    intro v w2 ok l2 _ pv
    obtain ⟨R3, l3⟩ := out_rep R1 ok l2
    exact q v (w.out w2) R3 l3 pv
/-- f(xs, e, ..), xs a list of ours that it may change -/
theorem he_call1 {α : Type} [Rp α] {mk : List α → Slot} {xs ys : List α} {y : Str} {q : Pos} (O : Own mk) (i : Nat) (D : Def X.prog X.w X.K X.mg X.base x k ps (Spq X.K pre ins out)) (a : A) (hpr : pre a) (hr : Rm k X.A) (ha : HA X es env env1 Ps) (h0 : ∃ zs, env[i]? = some (mk zs) := by exact ⟨_, rfl⟩) (h1 : env1[i]? = some (mk xs) := by rfl)
    (hi : ins a = par xs :: Ps.map im := by rfl) (ho : out a = .rt P [(0, par ys)] := by rfl) (hN : X.N[i]? = some y := by rfl) (hv : Vis X.env.scope y := by first | exact Or.inl rfl | exact Or.inr (Or.inl rfl) | exact Or.inr (Or.inr rfl)) (hd : (y == ("__debug__" : Str)) = false := by decide) (hcd : (y == ("__classdict__" : Str)) = false := by decide)
    (hg : Gl X x := by rfl) (hdb : (x == ("__debug__" : Str)) = false := by decide)
    (hst : starEach (.Name y q :: es) X.env = (false, eval (.Name y q) X.env) :: starEach es X.env := by rfl) (hpl : (backTo pos (starEach es X.env)).any (·.1) = false := by rfl) : HE X (.Call (.Name x p) (.Name y q :: es) [] pos) env (env1.set i (mk ys)) P := by
  obtain ⟨f, fd, F, hm, hk, hb⟩ := D.ex
  obtain ⟨zs, h0⟩ := h0
  refine (pe_callG F hr hg hm hk hb (fun _ => passN) (pa_cons (pe_own O i h0 hN hv hd hcd) ha hst) hdb hst hpl).imp fun σ H Q ⟨w, e1, R1, q⟩ => ⟨w, e1, R1, fun b hb => ⟨w, rfl, R1, fun vs w' R' l al => ?_⟩⟩
  obtain ⟨us, h3, h4, h5, h6⟩ := R'.own O h1 hb
  obtain ⟨hn, _⟩ := R'.ok.ho b i h4
  let wc : Wd := { Hi := w'.Hi, H := w'.H, O := fun c => if c = b then some 0 else none, pa := fun j => if j = 0 then some b else none }
  have okc : wc.Ok := ⟨R'.ok.sub, fun c j h => by
    by_cases z : c = b
    · subst z
      exact ⟨hn, fun z => by rw [show wc.H c = w'.H c from rfl, h5] at z; cases z⟩
    · have : (if c = b then some 0 else none) = some j := h
      rw [if_neg z] at this
      exact absurd this (by simp), fun c j h => by
    by_cases z : c = b
    · subst z
      exact lst_pl h5
    · have : (if c = b then some 0 else none) = some j := h
      rw [if_neg z] at this
      exact absurd this (by simp), R'.ok.tb⟩
  refine ⟨⟨a, hpr⟩, wc, rfl, ?_, ?_⟩
  · show Rep _ (ins a) _ _
    rw [hi]
    have R2 := rep_ims (K := X.K) (w := wc) okc al
    refine ⟨okc, by rw [List.map_cons, List.length_cons, List.length_cons, R2.len], fun j s hs => ?_⟩
    cases j with
    | zero =>
      simp at hs
      subst hs
      exact ⟨some (.ref b), rfl, b, us, rfl, rfl, if_pos rfl, h5, h6⟩
    | succ j =>
      obtain ⟨z, h7, h8⟩ := R2.sl j s (by simpa using hs)
      refine ⟨z, by simpa using h7, ?_⟩
      rw [List.getElem?_cons_succ, List.getElem?_map] at hs
      cases qq : Ps[j]? with
      | none => rw [qq] at hs; cases hs
      | some P' =>
        rw [qq] at hs
        cases hs
        exact h8
  · show FO.sat _ _ _ _ (out a)
    rw [ho]
    intro v w2 ok2 l2 hp pv
    obtain ⟨z, c, ws, h7, h8, h9, h10, h11⟩ := hp (0, par ys) List.mem_cons_self
    have ecb : c = b := by
      rw [l2.pa] at h8
      have : some b = some c := h8
      exact (Option.some.inj this).symm
    subst ecb
    have kp : ∀ d o, d ≠ c → NT o → w'.H d = some o → w2.H d = some o ∧ w2.Hi d = w'.Hi d := fun d o nd nt h => by
      obtain ⟨g1, _, g3⟩ := l2.kp d o h (if_neg nd) nt
      exact ⟨g1, g3⟩
    have ok3 : (w'.out w2).Ok := ⟨ok2.sub, fun d j h => by
      by_cases z : d = c
      · subst z
        exact ⟨(ok2.ho d 0 h9).1, fun z => by rw [show (w'.out w2).H d = w2.H d from rfl, h10] at z; cases z⟩
      · obtain ⟨g1, g2⟩ := R'.ok.ho d j h
        cases q : w'.H d with
        | none => exact absurd q g2
        | some o =>
          obtain ⟨g3, g4⟩ := kp d o z (own_nt R'.ok h q) q
          exact ⟨g4.trans g1, fun z => by rw [show (w'.out w2).H d = w2.H d from rfl, g3] at z; cases z⟩, fun d j h => by
      show (∀ ps, w2.H d ≠ some (.tbl ps)) ∧ ∀ f, w2.H d ≠ some (.ext f)
      by_cases z : d = c
      · subst z
        exact lst_pl h10
      · cases q : w'.H d with
        | none => exact absurd q (R'.ok.ho d j h).2
        | some o =>
          have pl := R'.ok.pl d j h
          rw [q] at pl
          rw [(kp d o z (own_nt R'.ok h q) q).1]
          exact pl, ok2.tb⟩
    refine q v (w'.out w2) ⟨ok3, by rw [List.length_set]; exact R'.len, fun j s hs => ?_⟩ (l.trans ⟨l2.hi, fun d o h k nt => ?_, l2.dm, rfl, l2.tx⟩) pv
    · by_cases z : i = j
      · subst z
        have hlt : i < env1.length := (List.getElem?_eq_some_iff.mp h1).1
        rw [List.getElem?_set_self hlt] at hs
        cases hs
        exact ⟨_, hb, O.put h3 rfl h4 h10 h11 rfl⟩
      · rw [List.getElem?_set_ne z] at hs
        obtain ⟨t, g1, g2⟩ := R'.sl j s hs
        refine ⟨t, g1, s.mono g2 l2.hi (fun d hd => ⟨hd, ?_⟩) rfl⟩
        have nd : d ≠ c := fun zz => by
          subst zz
          rw [h4] at hd
          cases hd
          exact z rfl
        cases q : w'.H d with
        | none => exact absurd q (R'.ok.ho d j hd).2
        | some o => exact (kp d o nd (own_nt R'.ok hd q) q).1
    · have nd : d ≠ c := fun zz => by
        subst zz
        rw [h4] at k
        cases k
      exact ⟨(kp d o nd nt h).1, k, (kp d o nd nt h).2⟩
end
/-! ### the script -/
structure Lsr (α : Type) where
  l : List α
instance {α : Type} [Rp α] : Rp (Lsr α) := ⟨fun K xs v H => ∃ a vs, v = .ref a ∧ SqL K H a vs ∧ Al α K H xs.l vs, fun e ⟨a, vs, h1, h2, h3⟩ => ⟨a, vs, h1, e.l h2, h3.mono e⟩⟩
theorem sq_lsr {α : Type} [Rp α] {xs : Lsr α} : Sq α xs.l (rv xs) := fun K v H ⟨a, vs, h1, h2, h3⟩ => ⟨a, vs, h1, .inl h2, h3⟩
theorem al_ints {K : PySem.W.Frag} {H : Hp} : ∀ ns : List Int, Al Int K H ns (ns.map V.int)
  | [] => rfl
  | n :: ns => ⟨_, _, rfl, rfl, al_ints ns⟩
section
variable {X : Cx} {env env1 env2 : List Slot} {a b e : Expr} {pos : Pos} {α : Type} [Rp α]
theorem he_ixS {xs : Lsr α} {i : Int} {x : α} (hx : atI xs.l i = some x) (ha : HE X a env env1 (rv xs)) (hb : HE X b env1 env2 (rv i)) (hs : PlainIx b := by intro _ _; rfl) : HE X (.Subscript a b pos) env env2 (rv x) :=
  (pe_ix ix_list ha hb hs).imp (to_op (P := rv xs) (R := rv i) rfl rfl rfl fun env σ u v w R1 ⟨t, vs, e1, h1, h2⟩ hy Q q => by
    obtain ⟨z, e2, h3⟩ := atI_map h2 hx
    exact ⟨t, vs, i, z, e1, hy, Ex.l R1.ok.sub h1, e2, q z w R1 (Le.refl w) h3⟩)
/-- a list's, a tuple's, an int's truth -/
theorem hb_tru {P : VP} {c : Bool} (h : HE X a env env1 P) (hp : ∀ (v : V) (w : Wd), w.Ok → P.p X.K v w.Hi → TruV X.K v w.H c) (he : ∀ whole, isTrue a X.env whole = (do let v ← whole; standAt a.pos; holding [v] (truthy v)) := by intro _; rfl) : HB X a env env1 c :=
  (pt_truth h he).imp fun σ H Q ⟨w, e1, R1, q⟩ => ⟨w, e1, R1, fun v w' R' l p => ⟨c, hp v w' R'.ok p, q w' R' l⟩⟩
end
/-- the law's promise -/
def spLaw (K : PySem.W.Frag) : Sp := fun vs H Q _ => ∃ (a : Addr) (ns : List Int), vs = [.ref a] ∧ SqL K H a (ns.map V.int) ∧ ns.length ≤ 63 ∧ LamX.Tabs TabL.T H ∧ ∀ H', Q (.bl true) H'
theorem FnG.imp {P : Program} {w : World} {K : PySem.W.Frag} {mg : Str → Option Value} {base : Heap} {k : Nat} {f : Addr} {fd : FuncData} {ps : List Str} {sp sp' : Sp} (F : FnG P w K mg base k f fd ps sp) (h : ∀ vs H Q E, sp' vs H Q E → sp vs H Q E) : FnG P w K mg base k f fd ps sp' :=
  ⟨fun vs H Q E q => F.len _ _ _ _ (h _ _ _ _ q), fun A outer s H args us vs Q E hr e0 bt r q => F.run _ _ _ _ _ _ _ _ _ hr e0 bt r (h _ _ _ _ q)⟩
/-- all but tables -/
def noTb : Option HO → Option HO
  | some (.tbl _) => none
  | o => o
theorem noTb_of {o : Option HO} {u : HO} (h : o = some u) (n : ∀ ps, u ≠ .tbl ps) : noTb o = some u := by
  subst h
  cases u <;> first | rfl | exact absurd rfl (n _)
theorem noTb_to {o : Option HO} {u : HO} (h : noTb o = some u) : o = some u ∧ ∀ ps, u ≠ .tbl ps := by
  cases o with
  | none => cases h
  | some v => cases v <;> first | (cases h; exact ⟨rfl, fun ps z => by cases z⟩) | cases h
theorem law_ok {P : Program} {w : World} {K : PySem.W.Frag} {mg : Str → Option Value} {base : Heap} {k : Nat} {f : Addr} {fd : FuncData} {ps : List Str} (F : FnG P w K mg base k f fd ps (Spq K (fun l : List Int => l.length ≤ 63) (fun l => [im (rv (Lsr.mk l))]) fun _ => .rt (rv true) [])) :
    FnG P w K mg base k f fd ps (spLaw K) := F.imp fun vs H Q E ⟨a, ns, e1, h1, h2, hT, q⟩ => by
  subst e1
  have h1 : SqL K (fun b => noTb (H b)) a (ns.map V.int) := by
    rcases h1 with (h1 | ⟨o, h1⟩) | h1
    · exact .inl (.inl (noTb_of h1 fun ps z => by cases z))
    · exact .inl (.inr ⟨o, noTb_of h1 fun ps z => by cases z⟩)
    · exact .inr h1
  refine ⟨⟨ns, h2⟩, { Hi := fun b => noTb (H b), H := H, O := fun _ => none, pa := fun _ => none }, rfl, ?_, fun v w' _ _ _ p => by rw [show v = .bl true from p]; exact q _⟩
  refine ⟨⟨fun b u hb => (noTb_to hb).1, fun _ _ h => (by cases h), fun _ _ h => (by cases h), fun b ps z => (noTb_to z).2 ps rfl, hT⟩, rfl, fun i s hs => ?_⟩
  cases i with
  | zero =>
    simp at hs
    subst hs
    exact ⟨_, rfl, _, rfl, a, _, rfl, h1, al_ints _⟩
  | succ i => simp at hs

/-! ### outcomes by results -/
/-- a value; a value and what the list handed in holds behind; None likewise -/
def oP {α : Type} [Rp α] (n : Nat) (y : α) : Oc := .rt (rv y) (List.replicate n un)
def oS {α β : Type} [Rp α] [Rp β] (n : Nat) (r : α × List β) : Oc := .rt (rv r.1) (par r.2 :: List.replicate n un)
structure Weak (env fin : List Slot) : Prop where
  len : fin.length = env.length
  out : ∀ (i : Nat) (s : Slot), fin[i]? = some s → env[i]? = some s ∨ s = un
theorem weak_un {env : List Slot} {n : Nat} (h : n = env.length) : Weak env (List.replicate n un) := ⟨by rw [List.length_replicate, h], fun i s hs => .inr (by
  rw [List.getElem?_replicate] at hs
  split at hs
  · cases hs
    rfl
  · cases hs)⟩
theorem weak_par {env : List Slot} {s : Slot} {n : Nat} (h : n + 1 = env.length) (h0 : env[0]? = some s) : Weak env (s :: List.replicate n un) := ⟨by rw [List.length_cons, List.length_replicate, h], fun i t ht => by
  cases i with
  | zero =>
    simp at ht
    subst ht
    exact .inl h0
  | succ i => exact (weak_un (env := List.replicate n un) (n := n) (by rw [List.length_replicate])).out i t (by simpa using ht) |>.elim (fun q => .inr (by
      rw [List.getElem?_replicate] at q
      split at q
      · cases q
        rfl
      · cases q)) .inr⟩
section
variable {X : Cx} {We : WX} {env env1 env2 fin : List Slot} {P : VP} {a b e : Expr} {s : Stmt} {r A B : List Stmt} {pos : Pos} {α β ρ : Type} [Rp α] [Rp β]
theorem st_retw {y z : α} (he : HE X e env env1 (rv y)) (hy : y = z) (hw : Weak env1 fin) : HS X We (.Return (some e) pos) env (.rt (rv z) fin) := by
  subst hy
  exact (st_ret (We := We) (pos := pos) he).imp fun D σ H ⟨w, e1, R1, q⟩ => ⟨w, e1, R1, fun σ v w' R' l p => q σ v w' (R'.weak hw.len hw.out) l p⟩
theorem st_retP {n : Nat} {y z : α} (he : HE X e env env1 (rv y)) (hy : y = z := by rfl) (hn : n = env1.length := by rfl) : HS X We (.Return (some e) pos) env (oP n z) := st_retw he hy (weak_un hn)
theorem st_retS {n : Nat} {y z : α} {zs : List β} (he : HE X e env env1 (rv y)) (hy : y = z := by rfl) (h0 : env1[0]? = some (par zs) := by rfl) (hn : n + 1 = env1.length := by rfl) : HS X We (.Return (some e) pos) env (oS n (z, zs)) := st_retw he hy (weak_par hn h0)
theorem fits_P {n : Nat} {y : α} : Fits (oP n y) (.rt (rv y) []) := fits_rt
theorem fits_S {n : Nat} {y : α × List β} : Fits (oS n y) (.rt (rv y.1) [(0, par y.2)]) := fits_rt1
/-- an if, by what is asked -/
theorem hs_ite {p : Prop} [Decidable p] (f : ρ → Oc) {u v : ρ} (hc : HB X e env env1 (decide p)) (h1 : p → Cut X We A r env1 (f u)) (h2 : ¬ p → Cut X We B r env1 (f v)) : HSs X We (.If e A B pos :: r) env (f (if p then u else v)) := by
  by_cases h : p
  · rw [if_pos h]
    exact hs_cut hc (fun _ => h1 h) fun z => by rw [decide_eq_true h] at z; cases z
  · rw [if_neg h]
    exact hs_cut hc (fun z => absurd (of_decide_eq_true z) h) fun _ => h2 h
theorem hb_dec {c : Bool} {p : Prop} [Decidable p] (h : HB X e env env1 c) (k : c = true ↔ p) : HB X e env env1 (decide p) := hb_eq h (by
  by_cases hp : p
  · rw [decide_eq_true hp, k.mpr hp]
  · rw [decide_eq_false hp]
    cases c with
    | true => exact absurd (k.mp rfl) hp
    | false => rfl)
/-- a walk that stores alone: all turns go on; I by the turn -/
theorem lp_fold {tg : Expr} {body : List Stmt} {α S : Type} [Rp α] {f : S → α → S} {en : S → List Slot} {es : α → S → List Slot} {is : List Nat} (hg : ∀ x s, HG X tg (rv x) (en s) (es x s) is) (I : Nat → S → Prop) : ∀ (xs : List α) (k : Nat) (s : S), I k s → (∀ (i : Nat) x s, xs[i]? = some x → I (k + i) s → I (k + i + 1) (f s x) ∧ HSs X We body (es x s) (.nx (en (f s x)))) → Lp X We tg body (rvs xs) (en s) (.nx (en (xs.foldl f s)))
  | [], k, s, _, _ => .nil
  | x :: xs, k, s, hi, hb => .cons (hg x s) (hb 0 x s rfl hi).2 (lp_fold hg I xs (k + 1) (f s x) (hb 0 x s rfl hi).1 fun i y t hy hi => by
      have h := hb (i + 1) y t (by simpa using hy) (by rw [show k + (i + 1) = k + 1 + i by omega]; exact hi)
      rw [show k + (i + 1) = k + 1 + i by omega] at h
      exact h)
end

section
variable {X : Cx} {We : WX} {env env1 env2 fin : List Slot} {P : VP} {a b e : Expr} {s : Stmt} {r A B : List Stmt} {pos : Pos} {α β ρ : Type} [Rp α] [Rp β]
theorem hs_nxw (h : HSs X We r env (.nx env1)) (k : Weak env1 env2) : HSs X We r env (.nx env2) := h.imp fun D σ H ⟨w, e1, R1, q⟩ => ⟨w, e1, R1, fun σ w' R' l => q σ w' (R'.weak k.len k.out) l⟩
theorem hs_ctw (h : HSs X We r env (.ct env1)) (k : Weak env1 env2) : HSs X We r env (.ct env2) := h.imp fun D σ H ⟨w, e1, R1, q⟩ => ⟨w, e1, R1, fun σ w' R' l => q σ w' (R'.weak k.len k.out) l⟩
theorem hs_bkw (h : HSs X We r env (.bk env1)) (k : Weak env1 env2) : HSs X We r env (.bk env2) := h.imp fun D σ H ⟨w, e1, R1, q⟩ => ⟨w, e1, R1, fun σ w' R' l => q σ w' (R'.weak k.len k.out) l⟩
end
theorem Weak.refl (env : List Slot) : Weak env env := ⟨rfl, fun _ _ h => .inl h⟩
theorem Weak.nil : Weak [] [] := Weak.refl []
/-- slot by slot: kept, forgotten -/
theorem Weak.k {s : Slot} {env fin : List Slot} (h : Weak env fin) : Weak (s :: env) (s :: fin) := ⟨by rw [List.length_cons, List.length_cons, h.len], fun i t ht => by
  cases i with
  | zero => exact .inl ht
  | succ i => exact h.out i t (by simpa using ht) |>.imp (fun q => by simpa using q) id⟩
theorem Weak.f {s : Slot} {env fin : List Slot} (h : Weak env fin) : Weak (s :: env) (un :: fin) := ⟨by rw [List.length_cons, List.length_cons, h.len], fun i t ht => by
  cases i with
  | zero =>
    simp at ht
    exact .inr ht.symm
  | succ i => exact h.out i t (by simpa using ht) |>.imp (fun q => by simpa using q) id⟩
/-! places -/
theorem atI_neg {α : Type} {xs : List α} {i : Nat} (h0 : 0 < i) (h : i ≤ xs.length) (d : α) : atI xs (-(i : Int)) = some (xs.getD (xs.length - i) d) := by
  unfold atI ixN
  rw [if_neg (by omega), if_pos (by omega)]
  show xs[(-(i : Int) + (xs.length : Int)).toNat]? = _
  rw [show (-(i : Int) + (xs.length : Int)).toNat = xs.length - i by omega, List.getElem?_eq_getElem (by omega), List.getD_eq_getElem?_getD, List.getElem?_eq_getElem (by omega)]
  rfl
theorem atI_pos {α : Type} {xs : List α} {i : Int} (h0 : 0 ≤ i) (h : i < xs.length) (d : α) : atI xs i = some (xs.getD i.toNat d) := by
  unfold atI ixN
  rw [if_pos h0, if_pos h]
  show xs[i.toNat]? = _
  rw [List.getD_eq_getElem?_getD, List.getElem?_eq_getElem (by omega)]
  rfl
/-! ### the end: the law's def called by the caller -/
theorem end_core {P : Program} {w : World} {K : PySem.W.Frag} {mg mb : Str → Option Value} {k : Nat} {fa a : Addr} {fd : FuncData} {x : Str} {sp : Sp} {s : Shared} {vs : List Value} {H : Hp}
    (KX : K.In s.heap) (gl : s.heap.Ns mainGlobals mg) (hb : s.heap.Ns builtinsNs mb) (hbb : ∀ x : Str, x ≠ "__name__" → mb x = bootBuiltins x) (lim : s.heap.NoLimit) (hg : s.gens = #[])
    (ha : s.heap.get? a = some { cls := .type "list", data := .seq vs.toArray }) (hr : Room k callerA) (F : ∀ base : Heap, K.In base → base.Ns mainGlobals mg → FnG P w K mg base k fa fd [x] sp) (bt : ∀ (s : Shared) (u : Value), BindsTo s fd ⟨[u], []⟩ [(x, u)])
    (hO : Only H) (ok : HOk P w H s.heap) (only : ∀ b, H b ≠ none → b = a) (kn : H a ≠ none → K.lookup a = none) (hsp : sp [.ref a] H (fun v _ => v = .bl true) fun _ _ _ => False) :
    codeAny (model P w) callerA (.call (.ref fa) ⟨[.ref a], []⟩) (fun r s' => r = .ok (.ret (.bool true)) ∧ OldK s.heap s'.heap ∧ s'.os = s.os ∧ AllBare s'.gens) s := by
  have cases3 : ∀ b, H b = none ∨ (b = a ∧ H b ≠ none) := fun b => by
    cases q : H b with
    | none => exact .inl rfl
    | some u =>
      have z : H b ≠ none := fun z => by
        rw [q] at z
        cases z
      exact .inr ⟨only b z, by rw [← q]; exact z⟩
  have nsK : ∀ {b : Addr} {m : Str → Option Value}, s.heap.Ns b m → (hidT s.heap H).Ns b m := fun {b m} ⟨o, es, ep, e, d, r⟩ => ⟨o, es, ep, hidT_get e ((cases3 b).resolve_right fun ⟨z, _⟩ => by
    subst z
    rw [ha] at e
    cases e
    cases d), d, r⟩
  have hK : K.In (hidT s.heap H) := fun b o e => hidT_get (KX b o e) ((cases3 b).resolve_right fun ⟨z, y⟩ => by
    subst z
    rw [kn y] at e
    cases e)
  have e0 : Env0 P w K mg (hidT s.heap H) callerA [] s H :=
    { frames := rfl, mod := ⟨hK, nsK gl, ⟨mb, nsK hb, hbb⟩, let ⟨mc, h1, h2⟩ := lim; ⟨mc, nsK h1, h2⟩⟩, bs := fun b o e => of_hidT e, bsz := Nat.le_of_eq (hidT_size _ _), funs := trivial,
      frf := fun b hb => absurd hb List.not_mem_nil, hok := ok, bare := .of_eq hg }
  refine codeAny_mono ((F _ hK (nsK gl)).run callerA [] s H _ [.ref a] [.ref a] _ _ ⟨hr, rfl⟩ e0 (bt s (.ref a)) (.cons rfl .nil) hsp) fun r s' h => ?_
  cases r with
  | error e =>
    obtain ⟨_, _, _, _, _, _, _, _, _, _, _, _, z⟩ := h
    exact z.elim
  | ok fl =>
    cases fl with
    | ret u =>
      obtain ⟨v, H', os, bare, U, ok', rr, q⟩ := h
      have q : v = .bl true := q
      subst q
      obtain rfl : u = Value.bool true := rr
      refine ⟨rfl, OldK.of_keep fun b o e => ?_, os, bare⟩
      cases q : H b with
      | none => exact U.keep b o e q List.not_mem_nil List.not_mem_nil
      | some u =>
        rcases hO b with z | ⟨ob, xs, z⟩
        · rw [q] at z
          cases z
        · have e1 := (ok b _ z).1
          have e2 := (ok' b _ (U.frzs b ob _ z)).1
          rw [e] at e1
          cases e1
          exact e2
    | next => exact False.elim h
    | brk => exact False.elim h
    | cont => exact False.elim h
theorem end_call {P : Program} {w : World} {K : PySem.W.Frag} {mg mb : Str → Option Value} {k : Nat} {fa a : Addr} {fd : FuncData} {x : Str} {sp : Sp} {s : Shared} {vs : List Value} {ns : List Int}
    (KX : K.In s.heap) (gl : s.heap.Ns mainGlobals mg) (hb : s.heap.Ns builtinsNs mb) (hbb : ∀ x : Str, x ≠ "__name__" → mb x = bootBuiltins x) (lim : s.heap.NoLimit) (hg : s.gens = #[])
    (ha : s.heap.get? a = some { cls := .type "list", data := .seq vs.toArray }) (hi : IntsAre vs ns) (hl : ns.length ≤ sizeLine) (hr : Room k callerA) (F : ∀ base : Heap, K.In base → base.Ns mainGlobals mg → FnG P w K mg base k fa fd [x] sp) (bt : ∀ (s : Shared) (u : Value), BindsTo s fd ⟨[u], []⟩ [(x, u)])
    (hsp : ∀ H : Hp, SqL K H a (ns.map V.int) → sp [.ref a] H (fun v _ => v = .bl true) fun _ _ _ => False) :
    codeAny (model P w) callerA (.call (.ref fa) ⟨[.ref a], []⟩) (fun r s' => r = .ok (.ret (.bool true)) ∧ OldK s.heap s'.heap ∧ s'.os = s.os ∧ AllBare s'.gens) s := by
  have rv := vals_ints hi
  cases hk : K.lookup a with
  | some o =>
    have e := KX a o hk
    rw [ha] at e
    cases e
    exact end_core KX gl hb hbb lim hg ha hr F bt (H := fun _ => none) (fun _ => .inl rfl) (fun b u z => nomatch z) (fun b z => absurd rfl z) (fun z => absurd rfl z) (hsp _ (.inr ⟨_, vs.toArray, _, hk, rfl, rfl, rfl, by rw [List.size_toArray, hi.length]; exact hl, by simpa using rv⟩))
  | none =>
    let ob : Obj := { cls := .type "list", data := .seq vs.toArray }
    let H : Hp := fun b => if b = a then some (.frz ob (.lst (ns.map V.int))) else none
    have at' : H a = some (.frz ob (.lst (ns.map V.int))) := if_pos rfl
    have off : ∀ b, b ≠ a → H b = none := fun b z => if_neg z
    refine end_core KX gl hb hbb lim hg ha hr F bt (H := H) (fun b => ?_) (fun b u z => ?_) (fun b z => ?_) (fun _ => hk) (hsp H (.inl (.inr ⟨ob, at'⟩)))
    · by_cases z : b = a
      · exact .inr ⟨_, _, by rw [z]; exact at'⟩
      · exact .inl (off b z)
    · by_cases y : b = a
      · subst y
        rw [at'] at z
        cases z
        exact ⟨ha, by rw [List.length_map]; exact hl, vs, _, rv, ha⟩
      · rw [off b y] at z
        cases z
    · exact Classical.byContradiction fun y => z (off b y)
theorem walkG {l : PySem.W.OpenLaw} {k : Nat} {q : Program} {loose : List Str} {XP : (Str → Option Value) → Heap → Prop} {YP : World → Heap → Prop} {d : DefRec} {K : Params → PySem.W.Frag} {x : Str}
    (hT0 : TabL.T = []) (hn : l.most = some 63) (hdf : d.params.defaults = []) (hr : Room k callerA) (hY : ∀ (w : World) (h : Heap), YP w h → (K w.params).In h)
    (F : ∀ (w : World) (mg : Str → Option Value) (fa : Addr) (h : Heap), (K w.params).In h → h.Ns mainGlobals mg → mg d.name = some (.ref fa) →
      ∃ fd : FuncData, (∀ (s : Shared) (u : Value), BindsTo s fd ⟨[u], []⟩ [(x, u)]) ∧ ∀ base : Heap, (K w.params).In base → base.Ns mainGlobals mg → FnG l.prog w (K w.params) mg base k fa fd [x] (spLaw (K w.params))) :
    PySem.W.WalkO q loose XP YP l.row.toRowW d [] (fun f vs => PySem.call f vs) := by
  refine Att.attach_call hn hdf fun w s₀ s₁ mg mb fa o pm cd doc a vs ns G Y ho hd hcd hmg hobj hints hlen hg => ?_
  obtain ⟨fd, hb, hF⟩ := F w mg fa _ (hY w _ Y) G.T.g hmg
  exact end_call (hY w _ Y) G.T.g G.T.b G.T.builtins G.T.nolimit hg hobj hints (Nat.le_trans hlen (by decide)) hr hF hb fun H hS => ⟨a, ns, rfl, hS, hlen, fun p hp => absurd (show p ∈ ([] : List (Addr × Str)) from hT0 ▸ hp) (by simp), fun _ => rfl⟩
/-! ### fresh lists handed out and in -/
section
variable {X : Cx} {We : WX} {env env1 env2 : List Slot} {P : VP} {e : Expr} {es : List Expr} {p pos : Pos} {x : Str} {k : Nat} {ps : List Str} {A : Type} {pre : A → Prop} {ins : A → List Slot} {out : A → FO} {Ps : List VP} {α : Type} [Rp α] {xs : List α}
theorem al_alP {K : PySem.W.Frag} {H : Hp} : ∀ {xs : List α} {vs : List V}, Al α K H xs vs → AlP K H (rvs xs) vs
  | [], _, h => h
  | _ :: _, _, ⟨v, r, e1, h1, h2⟩ => ⟨v, r, e1, h1, al_alP h2⟩
theorem st_retL (he : HL X e env env1 xs) : HS X We (.Return (some e) pos) env (.rl (rvs xs) env1) :=
  (ps_ret he).imp fun D σ H ⟨w, e1, R1, q⟩ => ⟨w, e1, R1, fun p vs w' R' l hp al => q σ p vs w' R' (l.x hp) (al_alP al)⟩
/-- f(e, ..), a fresh list -/
theorem hl_call (D : Def X.prog X.w X.K X.mg X.base x k ps (Spq X.K pre ins out)) (a : A) (hpr : pre a) (hr : Rm k X.A) (ha : HA X (e :: es) env env1 Ps) (hi : ins a = Ps.map im := by rfl) (ho : out a = .fr (rvs xs) [] := by rfl) (hg : Gl X x := by rfl) (hdb : (x == ("__debug__" : Str)) = false := by decide)
    (hst : starEach (e :: es) X.env = (false, eval e X.env) :: starEach es X.env := by rfl) (hpl : (backTo pos (starEach es X.env)).any (·.1) = false := by rfl) : HL X (.Call (.Name x p) (e :: es) [] pos) env env1 xs := by
  obtain ⟨f, fd, F, hm, hk, hb⟩ := D.ex
  refine (pe_callG F hr hg hm hk hb (fun _ => passN) ha hdb hst hpl).imp fun σ H Q ⟨w, e1, R1, q⟩ => ⟨w, e1, R1, fun vs w' R' l al => ?_⟩
  refine ⟨⟨a, hpr⟩, w'.in0, rfl, ?_, ?_⟩
  · show Rep _ (ins a) _ _
    rw [hi]
    exact rep_ims (in0_ok R'.ok) al
  · show FO.sat _ _ _ _ (out a)
    rw [ho]
    intro pp us w2 ok lx _ pv
    have l2 := lx.le rfl
    have hp := lx.no
    obtain ⟨R3, l3⟩ := out_rep R' ok l2
    exact q pp us (w'.out w2) R3 (l.trans l3) hp (alP_al pv)
/-- f(xs), xs a fresh list that it may change -/
theorem he_callL {pz : List (Nat × Slot)} (D : Def X.prog X.w X.K X.mg X.base x k ps (Spq X.K pre ins out)) (a : A) (hpr : pre a) (hr : Rm k X.A) (ha : HL X e env env1 xs) (hi : ins a = [par xs] := by rfl) (ho : out a = .rt P pz := by rfl) (hg : Gl X x := by rfl) (hdb : (x == ("__debug__" : Str)) = false := by decide)
    (hst : starEach [e] X.env = (false, eval e X.env) :: starEach [] X.env := by rfl) (hpl : (backTo pos (starEach [] X.env)).any (·.1) = false := by rfl) : HE X (.Call (.Name x p) [e] [] pos) env env1 P := by
  obtain ⟨f, fd, F, hm, hk, hb⟩ := D.ex
  refine (pe_callG F hr hg hm hk hb (fun _ => passN) (pa_cons ha pa_nil hst) hdb hst hpl).imp fun σ H Q ⟨w, e1, R1, q⟩ => ⟨w, e1, R1, fun b us w' R' l hp al => ?_⟩
  obtain ⟨hn, _⟩ := R'.ok.fresh hp
  let wc : Wd := { Hi := w'.Hi, H := upd w'.H b (.lst us), O := fun c => if c = b then some 0 else none, pa := fun j => if j = 0 then some b else none }
  have okc : wc.Ok := ⟨R'.ok.sub.put hn, fun c j h => by
    by_cases z : c = b
    · subst z
      exact ⟨hn, fun z => by rw [show wc.H c = upd w'.H c (.lst us) c from rfl, upd_same] at z; cases z⟩
    · have : (if c = b then some 0 else none) = some j := h
      rw [if_neg z] at this
      exact absurd this (by simp), fun c j h => by
    by_cases z : c = b
    · subst z
      exact lst_pl upd_same
    · have : (if c = b then some 0 else none) = some j := h
      rw [if_neg z] at this
      exact absurd this (by simp), tabs_mv R'.ok R'.ok.tb.1 fun d u hb _ => (upd_ne (ne_of_none hb hp)).trans hb⟩
  refine ⟨⟨a, hpr⟩, wc, rfl, ?_, ?_⟩
  · show Rep _ (ins a) _ _
    rw [hi]
    refine ⟨okc, rfl, fun j s hs => ?_⟩
    cases j with
    | zero =>
      simp at hs
      subst hs
      exact ⟨some (.ref b), rfl, b, us, rfl, rfl, if_pos rfl, upd_same, al⟩
    | succ j => simp at hs
  · show FO.sat _ _ _ _ (out a)
    rw [ho]
    intro v w2 ok2 l2 hpar pv
    have kp : ∀ d o, NT o → w'.H d = some o → w2.H d = some o ∧ w2.Hi d = w'.Hi d := fun d o nt h => by
      have nd : d ≠ b := ne_of_none h hp
      obtain ⟨g1, _, g3⟩ := l2.kp d o ((upd_ne nd).trans h) (if_neg nd) nt
      exact ⟨g1, g3⟩
    have ok3 : (w'.out w2).Ok := ⟨ok2.sub, fun d j h => by
      obtain ⟨g1, g2⟩ := R'.ok.ho d j h
      cases q : w'.H d with
      | none => exact absurd q g2
      | some o =>
        obtain ⟨g3, g4⟩ := kp d o (own_nt R'.ok h q) q
        exact ⟨g4.trans g1, fun z => by rw [show (w'.out w2).H d = w2.H d from rfl, g3] at z; cases z⟩, fun d j h => by
      show (∀ ps, w2.H d ≠ some (.tbl ps)) ∧ ∀ f, w2.H d ≠ some (.ext f)
      cases q : w'.H d with
      | none => exact absurd q (R'.ok.ho d j h).2
      | some o =>
        have pl := R'.ok.pl d j h
        rw [q] at pl
        rw [(kp d o (own_nt R'.ok h q) q).1]
        exact pl, ok2.tb⟩
    refine q v (w'.out w2) (R'.to ok3 l2.hi (fun d i h => ⟨h, ?_⟩) rfl) (l.trans ⟨l2.hi, fun d o h kk nt => ?_, fun d h => ?_, rfl, fun d o h n => l2.tx d o ((upd_ne (ne_of_none h hp)).trans h) n⟩) pv
    · cases q : w'.H d with
      | none => exact absurd q (R'.ok.ho d i h).2
      | some o => exact (kp d o (own_nt R'.ok h q) q).1
    · exact ⟨(kp d o nt h).1, kk, (kp d o nt h).2⟩
    · refine l2.dm d ?_
      show upd w'.H b (.lst us) d ≠ none
      exact upd_dom h
end
/-! ### data -/
class Da (α : Type) [Rp α] where
  da : α → PyData
  dp : ∀ {K : PySem.W.Frag} {x : α} {v : V} {H : Hp}, Rp.rp K x v H → Dp K H v (da x)
  n : Nat
  lay : ∀ x, (da x).canLay0 = true ∧ (da x).depth ≤ n
  eqv : ∀ x y, PyData.eqv (da x) (da y) = true ↔ x = y
instance : Da Int := ⟨.int, fun h => by rw [show _ = V.int _ from h]; exact .int _, 1, fun x => ⟨rfl, by simp [PyData.depth]⟩, fun x y => by simp [PyData.eqv]⟩
instance : Da Bool := ⟨.bool, fun h => by rw [show _ = V.bl _ from h]; exact .bl _, 1, fun x => ⟨rfl, by simp [PyData.depth]⟩, fun x y => by simp [PyData.eqv]⟩
instance : Da Unit := ⟨fun _ => .none, fun h => by rw [show _ = V.non from h]; exact .non, 1, fun x => ⟨rfl, by simp [PyData.depth]⟩, fun x y => by simp [PyData.eqv]⟩
section
variable {α : Type} [Rp α] [Da α]
theorem da_all {K : PySem.W.Frag} {H : Hp} : ∀ {xs : List α} {vs : List V}, Al α K H xs vs → DpAll K H vs (xs.map Da.da)
  | [], _, h => by rw [show _ = ([] : List V) from h]; exact .nil
  | _ :: _, _, ⟨v, r, e1, h1, h2⟩ => by rw [e1]; exact .cons (Da.dp h1) (da_all h2)
theorem da_lay : ∀ xs : List α, PyData.canLayAll0 (xs.map Da.da) = true ∧ PyData.depthAll (xs.map Da.da) ≤ Da.n α
  | [] => ⟨rfl, by simp [PyData.depthAll]⟩
  | x :: xs => by
    obtain ⟨h1, h2⟩ := da_lay xs
    obtain ⟨h3, h4⟩ := Da.lay x
    refine ⟨by simp [PyData.canLayAll0, h1, h3], ?_⟩
    simp only [List.map_cons, PyData.depthAll]
    omega
theorem da_eqv : ∀ xs ys : List α, PyData.eqvAll (xs.map Da.da) (ys.map Da.da) = true ↔ xs = ys
  | [], [] => by simp [PyData.eqvAll]
  | [], _ :: _ => by simp [PyData.eqvAll]
  | _ :: _, [] => by simp [PyData.eqvAll]
  | x :: xs, y :: ys => by
    simp only [List.map_cons, PyData.eqvAll, Bool.and_eq_true, List.cons.injEq]
    rw [Da.eqv x y, da_eqv xs ys]
instance : Da (List α) := ⟨fun xs => .tuple (xs.map Da.da), fun ⟨a, vs, h1, h2, h3⟩ => by rw [h1]; exact .tup h2 (da_all h3), Da.n α + 1, fun xs => ⟨(da_lay xs).1, by have := (da_lay xs).2; simp only [PyData.depth]; omega⟩, fun x y => by simp only [PyData.eqv]; exact da_eqv x y⟩
instance : Da (Lst α) := ⟨fun xs => .list (xs.l.map Da.da), fun ⟨a, vs, h1, h2, h3⟩ => by rw [h1]; exact .lst (SqL.of h2) (da_all h3), Da.n α + 1, fun xs => ⟨(da_lay xs.l).1, by have := (da_lay xs.l).2; simp only [PyData.depth]; omega⟩, fun x y => by
  simp only [PyData.eqv]
  rw [da_eqv]
  cases x
  cases y
  simp⟩
instance {β : Type} [Rp β] [Da β] : Da (α × β) := ⟨fun x => .tuple [Da.da x.1, Da.da x.2], fun ⟨a, u, w, h1, h2, h3, h4⟩ => by rw [h1]; exact .tup h2 (.cons (Da.dp h3) (.cons (Da.dp h4) .nil)), Da.n α + Da.n β + 1, fun x => by
  obtain ⟨h1, h2⟩ := Da.lay x.1
  obtain ⟨h3, h4⟩ := Da.lay x.2
  refine ⟨by simp [PyData.canLay0, PyData.canLayAll0, h1, h3], ?_⟩
  simp only [PyData.depth, PyData.depthAll]
  omega, fun x y => by
  simp only [PyData.eqv, PyData.eqvAll, Bool.and_eq_true]
  rw [Da.eqv, Da.eqv]
  cases x
  cases y
  simp⟩
end
instance {α : Type} [DecidableEq α] : DecidableEq (Lst α) := fun x y => decidable_of_iff (x.l = y.l) (by cases x; cases y; simp)
mutual
theorem dp_mono {K : PySem.W.Frag} {H H' : Hp} (e : Ex H H') : ∀ {v : V} {d : PyData}, Dp K H v d → Dp K H' v d
  | _, _, .non => .non
  | _, _, .bl b => .bl b
  | _, _, .int i => .int i
  | _, _, .str x => .str x
  | _, _, .lst h1 h2 => .lst (e.l h1) (dpAll_mono e h2)
  | _, _, .tup h1 h2 => .tup (e.t h1) (dpAll_mono e h2)
theorem dpAll_mono {K : PySem.W.Frag} {H H' : Hp} (e : Ex H H') : ∀ {vs : List V} {ds : List PyData}, DpAll K H vs ds → DpAll K H' vs ds
  | _, _, .nil => .nil
  | _, _, .cons h1 h2 => .cons (dp_mono e h1) (dpAll_mono e h2)
end
section
variable {X : Cx} {We : WX} {env env1 env2 env3 : List Slot} {P R S : VP} {a b e : Expr} {s : Stmt} {r A B : List Stmt} {pos : Pos} {α : Type} [Rp α] [Da α] [DecidableEq α] {x y : α} {k : Nat}
theorem da_shape (hn : Da.n α ≤ 64) (x : α) : SeqAt.shaped (Da.da x) = true := by
  unfold SeqAt.shaped
  rw [(Da.lay x).1, decide_eq_true (Nat.le_trans (Da.lay x).2 hn)]
  rfl
theorem da_dec {β : Type} [Rp β] [Da β] [DecidableEq β] (x y : β) : PyData.eqv (Da.da x) (Da.da y) = decide (x = y) := by
  by_cases h : x = y
  · rw [decide_eq_true h]
    exact (Da.eqv x y).mpr h
  · rw [decide_eq_false h]
    cases q : PyData.eqv (Da.da x) (Da.da y) with
    | true => exact absurd ((Da.eqv x y).mp q) h
    | false => rfl
theorem Rm.un {A : Around} (hr : Rm k A) : A.units + 64 < cLine := by
  have := hr.room.un
  omega
theorem ov_eqD (hn : Da.n α ≤ 64) : OpV X (rEqD X.K) (rv x) (rv y) (rv (decide (x = y))) := fun env σ u v w R1 hx hy Q q =>
  ⟨_, _, dp_mono R1.ok.sub (Da.dp hx), dp_mono R1.ok.sub (Da.dp hy), da_shape hn x, da_shape hn y, q _ w R1 (Le.refl w) (by rw [da_dec]; exact rfl)⟩
theorem ov_neD (hn : Da.n α ≤ 64) : OpV X (rNeD X.K) (rv x) (rv y) (rv (!decide (x = y))) := fun env σ u v w R1 hx hy Q q =>
  ⟨_, _, dp_mono R1.ok.sub (Da.dp hx), dp_mono R1.ok.sub (Da.dp hy), da_shape hn x, da_shape hn y, q _ w R1 (Le.refl w) (by rw [da_dec]; exact rfl)⟩
theorem he_eqD (hr : Rm k X.A) (ha : HE X a env env1 (rv x)) (hb : HE X b env1 env2 (rv y)) (hn : Da.n α ≤ 64 := by decide) : HE X (.Compare a [.Eq] [b] pos) env env2 (rv (decide (x = y))) := he_cmp (op_eqD hr.un) (ov_eqD hn) (nomark _) ha hb
theorem he_neD (hr : Rm k X.A) (ha : HE X a env env1 (rv x)) (hb : HE X b env1 env2 (rv y)) (hn : Da.n α ≤ 64 := by decide) : HE X (.Compare a [.NotEq] [b] pos) env env2 (rv (!decide (x = y))) := he_cmp (op_neD hr.un) (ov_neD hn) (nomark _) ha hb
theorem hb_eqD (hr : Rm k X.A) (ha : HE X a env env1 (rv x)) (hb : HE X b env1 env2 (rv y)) (hn : Da.n α ≤ 64 := by decide) : HB X (.Compare a [.Eq] [b] pos) env env2 (decide (x = y)) := hb_cmp (op_eqD hr.un) (ov_eqD hn) (nomark _) ha hb
theorem hb_neD (hr : Rm k X.A) (ha : HE X a env env1 (rv x)) (hb : HE X b env1 env2 (rv y)) (hn : Da.n α ≤ 64 := by decide) : HB X (.Compare a [.NotEq] [b] pos) env env2 (!decide (x = y)) := hb_cmp (op_neD hr.un) (ov_neD hn) (nomark _) ha hb
end
/-! ### built-ins by name -/
section
variable {X : Cx} {We : WX} {env env1 env2 env3 : List Slot} {P R S : VP} {a b e : Expr} {s : Stmt} {r A B : List Stmt} {pos p p2 : Pos} {k : Nat}
theorem he_intI {i : Int} (h : HE X e env env1 (rv i)) (hm : X.mg "int" = none) (hg : Gl X "int" := by rfl) (hs : starEach [e] X.env = (false, eval e X.env) :: starEach [] X.env := by rfl) (hpl : (backTo pos (starEach [] X.env)).any (·.1) = false := by rfl) :
    HE X (.Call (.Name "int" p) [e] [] pos) env env1 (rv i) :=
  (pe_callTy call_int1 hg hm (by decide +kernel) (pa_cons h pa_nil hs) (he := hs) (hpl := hpl)).imp fun σ H Q ⟨w, e1, R1, q⟩ => ⟨w, e1, R1, fun v w' R' l pp => .inl ⟨i, by rw [show v = .int i from pp], q _ w' R' l rfl⟩⟩
theorem he_intB {i : Bool} (h : HE X e env env1 (rv i)) (hm : X.mg "int" = none) (hg : Gl X "int" := by rfl) (hs : starEach [e] X.env = (false, eval e X.env) :: starEach [] X.env := by rfl) (hpl : (backTo pos (starEach [] X.env)).any (·.1) = false := by rfl) :
    HE X (.Call (.Name "int" p) [e] [] pos) env env1 (rv (if i = true then (1 : Int) else 0)) :=
  (pe_callTy call_int1 hg hm (by decide +kernel) (pa_cons h pa_nil hs) (he := hs) (hpl := hpl)).imp fun σ H Q ⟨w, e1, R1, q⟩ => ⟨w, e1, R1, fun v w' R' l pp => .inr ⟨i, by rw [show v = .bl i from pp], q _ w' R' l rfl⟩⟩
theorem he_max2 {i j : Int} (hc : X.calm = true) (ha : HE X a env env1 (rv i)) (hb : HE X b env1 env2 (rv j)) (hm : X.mg "max" = none) (hg : Gl X "max" := by rfl) (hs : starEach [a, b] X.env = (false, eval a X.env) :: starEach [b] X.env := by rfl) (hs2 : starEach [b] X.env = (false, eval b X.env) :: starEach [] X.env := by rfl)
    (hpl : (backTo pos (starEach [b] X.env)).any (·.1) = false := by rfl) : HE X (.Call (.Name "max" p) [a, b] [] pos) env env2 (rv (max i j)) :=
  (pe_callB (call_max2 hc) hg hm (by decide +kernel) (pa_cons ha (pa_cons hb pa_nil hs2) hs) (he := hs) (hpl := hpl)).imp fun σ H Q ⟨w, e1, R1, q⟩ => ⟨w, e1, R1, fun v w' R' l pp => ⟨w', rfl, R', fun u w2 R2 l2 p2 => ⟨i, j, by rw [show v = .int i from pp, show u = .int j from p2], q _ w2 R2 (l.trans l2) (show V.int _ = V.int _ by congr 1; split <;> omega)⟩⟩⟩
theorem he_min2 {i j : Int} (hc : X.calm = true) (ha : HE X a env env1 (rv i)) (hb : HE X b env1 env2 (rv j)) (hm : X.mg "min" = none) (hg : Gl X "min" := by rfl) (hs : starEach [a, b] X.env = (false, eval a X.env) :: starEach [b] X.env := by rfl) (hs2 : starEach [b] X.env = (false, eval b X.env) :: starEach [] X.env := by rfl)
    (hpl : (backTo pos (starEach [b] X.env)).any (·.1) = false := by rfl) : HE X (.Call (.Name "min" p) [a, b] [] pos) env env2 (rv (min i j)) :=
  (pe_callB (call_min2 hc) hg hm (by decide +kernel) (pa_cons ha (pa_cons hb pa_nil hs2) hs) (he := hs) (hpl := hpl)).imp fun σ H Q ⟨w, e1, R1, q⟩ => ⟨w, e1, R1, fun v w' R' l pp => ⟨w', rfl, R', fun u w2 R2 l2 p2 => ⟨i, j, by rw [show v = .int i from pp, show u = .int j from p2], q _ w2 R2 (l.trans l2) (show V.int _ = V.int _ by congr 1; split <;> omega)⟩⟩⟩
theorem he_isB {i j : Bool} (ha : HE X a env env1 (rv i)) (hb : HE X b env1 env2 (rv j)) : HE X (.Compare a [.Is] [b] pos) env env2 (rv (decide (i = j))) :=
  he_cmp op_isBl (fun env σ u v w R1 hx hy Q q => ⟨i, j, hx, hy, q _ w R1 (Le.refl w) rfl⟩) (nomark _) ha hb
theorem hb_isB {i j : Bool} (ha : HE X a env env1 (rv i)) (hb : HE X b env1 env2 (rv j)) : HB X (.Compare a [.Is] [b] pos) env env2 (decide (i = j)) :=
  hb_cmp op_isBl (fun env σ u v w R1 hx hy Q q => ⟨i, j, hx, hy, q _ w R1 (Le.refl w) rfl⟩) (nomark _) ha hb
theorem call_reprB : CallR X (.builtin "repr") (fun xs H Q => ∃ i : Bool, xs = [.bl i] ∧ Q (.str (if i = true then "True" else "False" : String)) H) := by
  intro pins s σ H xs us Q I r h
  obtain ⟨i, rfl, q⟩ := h
  obtain ⟨u, rfl, r1⟩ := vals1 r
  cases (show u = Value.bool i from r1)
  cases i with
  | true => exact PySem.P.repr_of_bool ⟨.str _, H, I.tok _, ⟨_, rfl⟩, q⟩
  | false => exact PySem.P.repr_of_bool ⟨.str _, H, I.tok _, ⟨_, rfl⟩, q⟩
def reprB (i : Bool) : Str := (if i = true then "True" else "False" : String)
theorem he_reprB {i : Bool} (h : HE X e env env1 (rv i)) (hm : X.mg "repr" = none) (hg : Gl X "repr" := by rfl) (hs : starEach [e] X.env = (false, eval e X.env) :: starEach [] X.env := by rfl) (hpl : (backTo pos (starEach [] X.env)).any (·.1) = false := by rfl) :
    HE X (.Call (.Name "repr" p) [e] [] pos) env env1 (rv (reprB i)) :=
  (pe_callB call_reprB hg hm (by decide +kernel) (pa_cons h pa_nil hs) (he := hs) (hpl := hpl)).imp fun σ H Q ⟨w, e1, R1, q⟩ => ⟨w, e1, R1, fun v w' R' l pp => ⟨i, by rw [show v = .bl i from pp], q _ w' R' l rfl⟩⟩
theorem tyT {K : PySem.W.Frag} {H : Hp} {t : Addr} {xs : List V} (h : SqT K H t xs) : TyX K H (.ref t) (.type "tuple") := by
  rcases h with (h | ⟨o, h⟩) | ⟨o, its, n, h, hc, _⟩
  · exact .base (.tup h)
  · exact .fTuple h
  · exact .kTuple h hc
/-- isinstance(t, T), T a built-in type -/
theorem he_isiT {α : Type} [Rp α] {xs : List α} {T : Str} {T' : String} {c : Bool} (hv : bootBuiltins T = some (.type T')) (hc : kitB "tuple" T' = some c) (ha : HE X a env env1 (rv xs)) (hm : X.mg "isinstance" = none) (hm2 : X.mg T = none) (hn : T ≠ "__name__" := by decide) (hdb : (T == ("__debug__" : Str)) = false := by decide) (hg : Gl X "isinstance" := by rfl) (hg2 : Gl X T := by rfl)
    (hs : starEach [a, .Name T p2] X.env = (false, eval a X.env) :: starEach [.Name T p2] X.env := by rfl) (hs2 : starEach [.Name T p2] X.env = (false, eval (.Name T p2) X.env) :: starEach [] X.env := by rfl)
    (hpl : (backTo pos (starEach [.Name T p2] X.env)).any (·.1) = false := by rfl) : HE X (.Call (.Name "isinstance" p) [a, .Name T p2] [] pos) env env1 (rv c) :=
  (pe_callB call_isi hg hm (by decide +kernel) (pa_cons ha (pa_cons (pe_bltn (v := .ty T') hg2 hm2 hv rfl hn hdb) pa_nil hs2) hs) (he := hs) (hpl := hpl)).imp fun σ H Q ⟨w, e1, R1, q⟩ => ⟨w, e1, R1, fun v w' R' l ⟨t, vs, e2, h1, h2⟩ =>
    ⟨v, .ty T', _, _, c, rfl, .ty T', by rw [e2]; exact tyT (Ex.t R'.ok.sub h1), kit_ty hc, q _ w' R' l rfl⟩⟩
/-- xs + ys, xs a list of ours, ys fresh -/
theorem hl_catO {α : Type} [Rp α] {mk : List α → Slot} {xs ys : List α} (O : Own mk) (i : Nat) {x : Str} (h0 : env[i]? = some (mk xs)) (hb : HL X b env env1 ys) (h1 : env1[i]? = some (mk xs)) (hz : xs.length + ys.length ≤ 100000) (hN : X.N[i]? = some x := by rfl)
    (hv : Vis X.env.scope x := by first | exact Or.inl rfl | exact Or.inr (Or.inl rfl) | exact Or.inr (Or.inr rfl)) (hd : (x == ("__debug__" : Str)) = false := by decide) (hcd : (x == ("__classdict__" : Str)) = false := by decide) : HL X (.BinOp (.Name x p) .Add b pos) env env1 (xs ++ ys) :=
  (pe_op op_cat (pe_own O i h0 hN hv hd hcd) hb).imp fun σ H Q ⟨w, e1, R1, q⟩ => ⟨w, e1, R1, fun t ht => ⟨w, rfl, R1, fun u us w1 R2 l1 hu al => by
    obtain ⟨vs, h3, h4, h5, h6⟩ := R2.own O h1 ht
    have nt : t ≠ u := ne_of_none h5 hu
    refine ⟨t, u, vs, us, rfl, rfl, (upd_ne nt).trans h5, upd_same, by rw [h6.len, al.len]; exact Nat.le_trans hz (by decide), fun pp hp => ?_⟩
    exact q pp _ (w1.put u (.lst us)) (R2.put hu) (l1.trans (put_le R2.ok hu)) hp (h6.app al)⟩⟩
end
/-! ### t[::-1] -/
section
variable {prog : Program} {w : World} {A : Around} {E : Value → Shared → Prop} {s : Shared}
theorem getItem_tuple_back {t sl : Addr} {items : Array Value} {vl vu vk : Value} {Q : Value → Shared → Prop} (ht : IsTup s.heap t items) (hs : s.heap.IsSliceOf sl vl vu vk) (pl : IsPart vl none) (pu : IsPart vu none) (pk : IsPart vk (some (-1)))
    (h : Q (.ref s.heap.objs.size) { s with heap := s.heap.push { cls := .type "tuple", data := .seq items.toList.reverse.toArray } }) (hsz : items.size ≤ sizeLine) : wpAny (model prog w) A (getItem (.ref t) (.ref sl)) Q E s := by
  have htake : sizeOk (.seq items.toList.reverse.toArray) := by
    show items.toList.reverse.toArray.size ≤ sizeLine
    rw [List.size_toArray, List.length_reverse, Array.length_toList]
    exact hsz
  obtain ⟨os, hos, hcs, hds⟩ := id hs
  have hTs : s.TypeIs (.ref sl) "slice" := ⟨os, hos, hcs⟩
  unfold getItem
  try with_reducible refine wpAny_holding ?_
  first | refine wpAny_bind (wpAny_pure ?_) | skip
  refine wpAny_bind (wpAny_sequenceKey ht.typeIs (by decide) ?_)
  refine wpAny_bind (wpAny_callSpecial?_slot (name := Str.ofString "__getitem__") ht.typeIs PyProof.Rows.slot_tuple_getitem
    (wpAny_call_entry PyProof.Rows.slot_tuple_getitem ht.typeIs entry_tuple_getitem ?_ (args_tuple_getitem _ _)))
  show wpAny _ _ (Builtin.Tuple.tupleItemsOf (.ref t) >>= _) _ _ s
  refine wpAny_bind (tupleItemsOf_ ht ?_)
  refine wpAny_bind (wpAny_typeOf hTs ?_)
  rw [if_pos (by decide)]
  have key : ∀ {A : Around} {Q' : Int × Int × Nat → Shared → Prop}, Q' ((items.size : Int) - 1, -1, items.size) s → wpAny (model prog w) A (Builtin.Slice.sliceApplied (.ref sl) (pure (items.size : Int))) Q' E s := fun {A Q'} hq => by
    unfold Builtin.Slice.sliceApplied Builtin.Slice.sliceFields
    refine wpAny_bind (wpAny_bind (wpAny_field hos hds (x := vl) rfl (wpAny_bind (wpAny_field hos hds (x := vu) rfl (wpAny_bind (wpAny_field hos hds (x := vk) rfl (wpAny_pure ?_)))))))
    refine wpAny_bind (HT.slicePart_ pk ?_)
    show wpAny _ _ (if ((-1 : Int) == 0) = true then _ else _) _ _ s
    rw [if_neg (by decide)]
    refine wpAny_bind (HT.slicePart_ pl (wpAny_bind (HT.slicePart_ pu (wpAny_bind (wpAny_pure ?_)))))
    have e1 : Builtin.Slice.sliceAdjust none none (-1) (items.size : Int) = ((items.size : Int) - 1, -1) := by
      unfold Builtin.Slice.sliceAdjust
      simp
    show wpAny _ _ (match Builtin.Slice.sliceAdjust none none (-1) (items.size : Int) with | (lo, hi) => pure (lo, (-1 : Int), Builtin.Slice.slicePlaces lo hi (-1))) _ _ s
    rw [e1]
    have e2 : Builtin.Slice.slicePlaces ((items.size : Int) - 1) (-1) (-1) = items.size := by
      unfold Builtin.Slice.slicePlaces
      have h1 : ¬ ((-1 : Int) > 0) := by decide
      simp only [h1, if_false]
      have h2 : ((items.size : Int) - 1 - -1 - 1) / (- -1) = (items.size : Int) - 1 := by
        rw [show (- -1 : Int) = 1 by decide, Int.ediv_one]
        omega
      split <;> omega
    show wpAny _ _ (pure ((items.size : Int) - 1, (-1 : Int), Builtin.Slice.slicePlaces ((items.size : Int) - 1) (-1) (-1))) _ _ s
    rw [e2]
    exact wpAny_pure hq
  refine wpAny_bind (key ?_)
  have hno : ¬ ((((items.size : Int) - 1 == 0) && (-1 : Int) == 1 && items.size == items.size) = true) := by
    intro q
    rw [Bool.and_eq_true, Bool.and_eq_true] at q
    exact absurd q.1.2 (by decide)
  show wpAny _ _ (if (((items.size : Int) - 1 == 0) && (-1 : Int) == 1 && items.size == items.size) = true then _ else _) _ _ s
  rw [if_neg hno]
  have pick : ((List.range items.size).filterMap fun (m : Nat) => items[(((items.size : Int) - 1) + (m : Int) * (-1)).toNat]?).toArray = items.toList.reverse.toArray := by
    congr 1
    have e : (fun (m : Nat) => items[(((items.size : Int) - 1) + (m : Int) * (-1)).toNat]?) = fun m => items[items.size - 1 - m]? := by
      funext m
      have : (((items.size : Int) - 1) + (m : Int) * (-1)).toNat = items.size - 1 - m := by omega
      rw [this]
    rw [e]
    have e2 : (fun m => items[items.size - 1 - m]?) = (items[·]?) ∘ fun m => items.size - 1 - m := rfl
    rw [e2, ← List.filterMap_map, PySem.W.krv_range, List.filterMap_reverse, PySem.W.krv_all]
  rw [pick]
  first
    | exact wpAny_bind (m := Builtin.Tuple.tupleExact _) (wpAny_newObj_type (wpAny_pure ⟨_, rfl, wpAny_pure h⟩) htake)
    | exact wpAny_bind (m := Builtin.Tuple.tupleExact _) (wpAny_newObj_type (wpAny_bind (wpAny_pure (wpAny_pure ⟨_, rfl, wpAny_pure h⟩))) htake)
    | exact wpAny_bind (wpAny_bind (m := Builtin.Tuple.tupleExact _) (wpAny_newObj_type (wpAny_pure (wpAny_pure ⟨_, rfl, wpAny_pure h⟩)) htake))
    | exact wpAny_bind (wpAny_bind (m := Builtin.Tuple.tupleExact _) (wpAny_newObj_type (wpAny_pure ⟨_, rfl, wpAny_pure h⟩) htake))
end
section
variable {X : Cx} {env env1 : List Slot}
def tRevT (K : PySem.W.Frag) (te : TE) : TE := fun σ H Q => te σ H fun x H1 => ∃ a xs, x = .ref a ∧ SqT K H1 a xs ∧ ∀ p, H1 p = none → Q (.ref p) (upd H1 p (.tup xs.reverse))
theorem pe_revT {e : Expr} {te : TE} {k : Nat} {p1 p2 p3 pos : Pos} (he : PE X e te) : PE X (.Subscript e (.Slice none none (some (.UnaryOp .USub (.Constant (.int 1) k p1) p2)) p3) pos) (tRevT X.K te) := by
  refine ⟨fun pins s σ H Q I h => ?_⟩
  refine Subscript_ (thn (he.run pins s σ H _ I h) fun v s1 ⟨x, H1, I1, r1, q1⟩ => ?_)
  obtain ⟨a, xs, ex, hx, q⟩ := q1
  subst ex
  cases r1
  have hst : PO X (some (.UnaryOp .USub (.Constant (.int 1) k p1) p2)) (tPart (tUn (rU fun i => .int (-i)) (tC (.int 1)))) := po_some (pe_un un_neg pe_int)
  refine wpAny_Slice (thn (po_none.run pins s1 σ H1 (fun o H2 => o = none ∧ H2 = H1) I1 ⟨rfl, rfl⟩) fun vl s2 ⟨l, H2, I2, pl, el, e2⟩ => ?_)
  subst el e2
  refine thn (po_none.run pins s2 σ H2 (fun o H3 => o = none ∧ H3 = H2) I2 ⟨rfl, rfl⟩) fun vu s3 ⟨u, H3, I3, pu, eu, e3⟩ => ?_
  subst eu e3
  refine thn (hst.run pins s3 σ H3 (fun o H4 => o = some (-1) ∧ H4 = H3) I3 ⟨1, rfl, -1, rfl, rfl, rfl⟩) fun vs s4 ⟨o, H4, I4, ps, eo, e4⟩ => ?_
  subst eo e4
  have I5 : Inv X pins σ H4 { s4 with heap := s4.heap.push { cls := .type "slice", data := .fields #[vl, vu, vs] } } := I4.kept (t' := s4.toks) fun b ob q => Heap.get?_push_of_some _ q
  obtain ⟨its, r, ht, hz⟩ := I5.tuple hx
  have hlen := r.length
  show wpAny (model X.prog X.w) X.A (subscriptTail e (.Slice none none (some (.UnaryOp .USub (.Constant (.int 1) k p1) p2)) p3) (.ref a) (.ref s4.heap.objs.size)) (EP X pins σ Q) X.xe { s4 with heap := s4.heap.push { cls := .type "slice", data := .fields #[vl, vu, vs] } }
  refine tail_any (ops := [.ref a, .ref s4.heap.objs.size]) ht.typeIs PyProof.Rows.slot_tuple_getitem.lookup ?_ (by with_unfolding_all rfl)
  refine getItem_tuple_back ht (Heap.IsSliceOf.new _ vl vu vs) pl pu ps ?_ (by rw [List.size_toArray]; omega)
  refine ⟨.ref _, _, I5.laid (t' := s4.toks) (o := .tup xs.reverse) (fun b ob q => Heap.get?_push_of_some _ q) (Nat.le_refl _) ?_, rfl, q _ (I5.hok.fresh (Nat.le_refl _))⟩
  exact ⟨by rw [List.length_reverse]; exact hz, _, r.reverse, IsTup.new _ _⟩
theorem he_revT {α : Type} [Rp α] {xs : List α} {e : Expr} {k : Nat} {p1 p2 p3 pos : Pos} (he : HE X e env env1 (rv xs)) : HE X (.Subscript e (.Slice none none (some (.UnaryOp .USub (.Constant (.int 1) k p1) p2)) p3) pos) env env1 (rv xs.reverse) :=
  (pe_revT he).imp fun σ H Q ⟨w, e1, R1, q⟩ => ⟨w, e1, R1, fun v w' R' l ⟨t, vs, e2, h1, h2⟩ => ⟨t, vs, e2, Ex.t R'.ok.sub h1, fun p hp => by
    have h5 := (R'.ok.fresh hp).1
    exact q _ (w'.add p (.tup vs.reverse)) (R'.add hp) (l.trans (add_le R'.ok hp)) ⟨p, _, rfl, SqT.of upd_same, h2.rev.mono (Ex.new h5)⟩⟩⟩
end
/-! ### keywords -/
/-- how a call binds: n values by place, ks by name; js: where each parameter's value stands -/
structure KB (K : PySem.W.Frag) (fd : FuncData) (ps ks : List Str) (n : Nat) (js : List Nat) : Prop where
  to : ∀ (s : Shared) (us ws : List Value), us.length = n → ws.length = ks.length → BindsTo s fd ⟨us, ks.zip ws⟩ (ps.zip (js.map fun j => (us ++ ws).getD j .none))
structure DefK (P : Program) (w : World) (K : PySem.W.Frag) (mg : Str → Option Value) (base : Heap) (x : Str) (k : Nat) (ps : List Str) (sp : Sp) (kbs : List (List Str × Nat × List Nat)) : Prop where
  ex : ∃ f fd, FnG P w K mg base k f fd ps sp ∧ mg x = some (.ref f) ∧ PySem.W.keepIn K (.ref f) = true ∧ Binds K fd ps [] ∧ ∀ q ∈ kbs, KB K fd ps q.1 q.2.1 q.2.2
theorem DefK.d {P : Program} {w : World} {K : PySem.W.Frag} {mg : Str → Option Value} {base : Heap} {x : Str} {k : Nat} {ps : List Str} {sp : Sp} {kbs : List (List Str × Nat × List Nat)} (D : DefK P w K mg base x k ps sp kbs) : Def P w K mg base x k ps sp :=
  let ⟨f, fd, h1, h2, h3, h4, _⟩ := D.ex
  ⟨f, fd, h1, h2, h3, h4⟩
theorem vals_getD {xs : List V} {us : List Value} (r : Vals xs us) (j : Nat) : RelV (xs.getD j .non) (us.getD j .none) := by
  induction r generalizing j with
  | nil => simp; rfl
  | cons h t ih =>
    cases j with
    | zero => simpa using h
    | succ j => simpa using ih j
theorem vals_js {xs : List V} {us : List Value} (r : Vals xs us) : ∀ js : List Nat, Vals (js.map fun j => xs.getD j .non) (js.map fun j => us.getD j .none)
  | [] => .nil
  | j :: js => .cons (vals_getD r j) (vals_js r js)
theorem vals_app {xs ys : List V} {us ws : List Value} (r : Vals xs us) (t : Vals ys ws) : Vals (xs ++ ys) (us ++ ws) := by
  induction r with
  | nil => exact t
  | cons h _ ih => exact .cons h ih
theorem alP_getD {K : PySem.W.Frag} {H : Hp} : ∀ {Ps : List VP} {vs : List V} (j : Nat), AlP K H Ps vs → (Ps.getD j (rv ())).p K (vs.getD j .non) H
  | [], vs, j, h => by
    rw [show vs = [] from h]
    simp
    rfl
  | P :: Ps, _, 0, ⟨v, r, e1, h1, h2⟩ => by rw [e1]; simpa using h1
  | P :: Ps, _, j + 1, ⟨v, r, e1, h1, h2⟩ => by rw [e1]; simpa using alP_getD j h2
theorem alP_js {K : PySem.W.Frag} {H : Hp} {Ps : List VP} {vs : List V} (h : AlP K H Ps vs) : ∀ js : List Nat, AlP K H (js.map fun j => Ps.getD j (rv ())) (js.map fun j => vs.getD j .non)
  | [] => rfl
  | j :: js => ⟨_, _, rfl, alP_getD j h, alP_js h js⟩
theorem AlP.append {K : PySem.W.Frag} {H : Hp} : ∀ {Ps Qs : List VP} {vs us : List V}, AlP K H Ps vs → AlP K H Qs us → AlP K H (Ps ++ Qs) (vs ++ us)
  | [], _, _, _, h, t => by rw [show _ = ([] : List V) from h]; exact t
  | _ :: _, _, _, _, ⟨u, r, e1, h1, h2⟩, t => by rw [e1]; exact ⟨u, _, rfl, h1, AlP.append h2 t⟩
abbrev HK (X : Cx) (kws : List Keyword) (env env' : List Slot) (Ps : List VP) : Prop := PK X kws (tA X.K env env' Ps)
theorem _root_.L2.PK.imp {X : Cx} {es : List Keyword} {t t' : TA} (h : PK X es t) (k : ∀ σ H Q, t' σ H Q → t σ H Q) : PK X es t' := ⟨fun pos pins s σ H Q I q => h.run pos pins s σ H Q I (k σ H Q q)⟩
section
variable {X : Cx} {env env1 env2 : List Slot} {P : VP} {e : Expr} {es : List Expr} {kws : List Keyword} {p pos kpos : Pos} {x : Str} {k n : Nat} {ps ks : List Str} {A : Type} {pre : A → Prop} {ins : A → List Slot} {out : A → FO} {Ps Qs : List VP} {nm : Option Str} {kbs : List (List Str × Nat × List Nat)} {js : List Nat}
theorem hk_nil : HK X [] env env [] := pk_nil.imp fun σ H Q ⟨w, e1, R1, q⟩ => by
  subst e1
  exact q [] w R1 (Le.refl w) rfl
theorem hk_cons (h : HE X e env env1 P) (t : HK X kws env1 env2 Ps) : HK X (⟨nm, e, kpos⟩ :: kws) env env2 (P :: Ps) :=
  (pk_cons h t).imp fun σ H Q ⟨w, e1, R1, q⟩ => ⟨w, e1, R1, fun v w' R' l p => ⟨w', rfl, R', fun vs w2 R2 l2 p2 => q (v :: vs) w2 R2 (l.trans l2) ⟨v, vs, rfl, P.mono l2.hi p, p2⟩⟩⟩
theorem run_kb {f : Addr} {fd : FuncData} {pins : List (Addr × Obj)} {σ : L2.St} {H : Hp} {s : Shared} {Q : VK} {us ws : List Value} {vs zs : List V} {sp : Sp} (F : FnG X.prog X.w X.K X.mg X.base k f fd ps sp) (hr : Rm k X.A) (kb : KB X.K fd ps ks n js) (h1 : vs.length = n) (h2 : zs.length = ks.length)
    (I : Inv X pins σ H s) (r : Vals vs us) (rz : Vals zs ws) (h : sp (js.map fun j => (vs ++ zs).getD j .non) H Q E0) : wpAny (model X.prog X.w) X.A (call (.ref f) us (ks.zip ws)) (EP X pins σ Q) X.xe s := by
  refine wpAny_call (codeAny_mono (runG F hr (kb.to s us ws (r.length.symm.trans h1) (rz.length.symm.trans h2)) passN I (vals_js (vals_app r rz) js) h) fun r s' hq => ?_)
  cases r with
  | error e => exact hq
  | ok fl => cases fl <;> first | exact hq | exact hq.elim
theorem to_callK (a : A) (hpr : pre a) (vs : List V) {w' : Wd} {w : Wd} {σ : L2.St} {Q : VK} (ho : out a = .rt P []) (hi : ins a = (js.map fun j => Ps.getD j (rv ())).map im) (R' : Rep X.K env1 σ w') (l : Le w w') (al : AlP X.K w'.Hi Ps vs) (q : ∀ v w', Rep X.K env1 σ w' → Le w w' → P.p X.K v w'.Hi → Q v w'.H) :
    Spq X.K pre ins out (js.map fun j => vs.getD j .non) w'.H Q E0 := by
  refine ⟨⟨a, hpr⟩, w'.in0, rfl, ?_, ?_⟩
  · show Rep _ (ins a) _ _
    rw [hi]
    exact rep_ims (in0_ok R'.ok) (alP_js al js)
  · show FO.sat _ _ _ _ (out a)
    rw [ho]
    intro v w2 ok l2 _ pv
    obtain ⟨R3, l3⟩ := out_rep R' ok l2
    exact q v (w'.out w2) R3 (l.trans l3) pv
/-- f(k = e, ..) -/
theorem he_callK0 (D : DefK X.prog X.w X.K X.mg X.base x k ps (Spq X.K pre ins out) kbs) (a : A) (hpr : pre a) (hr : Rm k X.A) (hk : HK X kws env env1 Ps) (hq : (ks, 0, js) ∈ kbs := by simp) (hks : (backToKw pos (keywordEach kws X.env)).filterMap (·.1) = ks := by rfl) (hn : Ps.length = ks.length := by rfl)
    (hi : ins a = (js.map fun j => Ps.getD j (rv ())).map im := by rfl) (ho : out a = .rt P [] := by rfl) (hall : (backToKw pos (keywordEach kws X.env)).all (·.1.isSome) = true := by rfl) (hg : Gl X x := by rfl) (hdb : (x == ("__debug__" : Str)) = false := by decide)
    (hpl : ((backTo pos (starEach [] X.env)).any (·.1) || (backToKw pos (keywordEach kws X.env)).any (·.1.isNone)) = false := by rfl) : HE X (.Call (.Name x p) [] kws pos) env env1 P := by
  obtain ⟨f, fd, F, hm, hkp, _, hkb⟩ := D.ex
  have kb := hkb _ hq
  refine ⟨fun pins s σ H Q I ⟨w, e1, R1, q⟩ => ?_⟩
  refine wpAny_Call_Name_kw (ld_glob I hg hm (PySem.W.callWith_KW0 I.kIn hkp hall (thn (hk.run pos pins s σ H (fun zs H1 => ∃ w' : Wd, w'.H = H1 ∧ Rep X.K env1 σ w' ∧ Le w w' ∧ AlP X.K w'.Hi Ps zs) I ⟨w, e1, R1, fun vs w' R' l al => ⟨w', rfl, R', l, al⟩⟩) fun ws s2 ⟨zs, H2, I2, rz, w', e2, R', l, al⟩ => ⟨I2.kIn, ?_⟩) hpl) hdb)
  subst e2
  rw [hks]
  exact run_kb F hr kb (vs := []) rfl (by rw [alP_len al, hn]) I2 .nil rz (to_callK a hpr zs ho hi R' l al q)
/-- f(e, .., k = e, ..) -/
theorem he_callK (D : DefK X.prog X.w X.K X.mg X.base x k ps (Spq X.K pre ins out) kbs) (a : A) (hpr : pre a) (hr : Rm k X.A) (ha : HA X (e :: es) env env1 Qs) (hk : HK X kws env1 env2 Ps) (hn' : Qs.length = n := by rfl) (hq : (ks, n, js) ∈ kbs := by simp) (hks : (backToKw pos (keywordEach kws X.env)).filterMap (·.1) = ks := by rfl) (hn : Ps.length = ks.length := by rfl)
    (hi : ins a = (js.map fun j => (Qs ++ Ps).getD j (rv ())).map im := by rfl) (ho : out a = .rt P [] := by rfl) (hall : (backToKw pos (keywordEach kws X.env)).all (·.1.isSome) = true := by rfl) (hg : Gl X x := by rfl) (hdb : (x == ("__debug__" : Str)) = false := by decide)
    (he : starEach (e :: es) X.env = (false, eval e X.env) :: starEach es X.env := by rfl)
    (hpl : ((backTo pos (starEach (e :: es) X.env)).any (·.1) || (backToKw pos (keywordEach kws X.env)).any (·.1.isNone)) = false := by rfl) : HE X (.Call (.Name x p) (e :: es) kws pos) env env2 P := by
  obtain ⟨f, fd, F, hm, hkp, _, hkb⟩ := D.ex
  have kb := hkb _ hq
  refine ⟨fun pins s σ H Q I ⟨w, e1, R1, q⟩ => ?_⟩
  refine wpAny_Call_Name_kw (ld_glob I hg hm (PySem.W.callWith_KW (h₀ := X.base) I.ok.mod.kin hkp hall (thn (ha.run pos pins s σ H (fun zs H1 => ∃ w' : Wd, w'.H = H1 ∧ Rep X.K env1 σ w' ∧ Le w w' ∧ AlP X.K w'.Hi Qs zs) I ⟨w, e1, R1, fun vs w' R' l al => ⟨w', rfl, R', l, al⟩⟩) fun us s1 ⟨vs, H1, I1, r, w1, e1, R1, l1, al1⟩ => ?_) hpl he) hdb)
  subst e1
  refine thn (hk.run pos pins s1 σ _ (fun zs H1 => ∃ w' : Wd, w'.H = H1 ∧ Rep X.K env2 σ w' ∧ Le w1 w' ∧ AlP X.K w'.Hi Ps zs) I1 ⟨w1, rfl, R1, fun vs w' R' l al => ⟨w', rfl, R', l, al⟩⟩) fun ws s2 ⟨zs, H2, I2, rz, w2, e2, R2, l2, al2⟩ => ⟨I2.kIn, ?_⟩
  subst e2
  rw [hks]
  exact run_kb F hr kb (by rw [alP_len al1, hn']) (by rw [alP_len al2, hn]) I2 r rz (to_callK a hpr (vs ++ zs) ho hi R2 (l1.trans l2) ((al1.mono l2.hi).append al2) q)
end
/-! ### built-ins that the text leaves as they are -/
structure Blt (mg : Str → Option Value) : Prop where
  len : mg "len" = none
  tuple : mg "tuple" = none
  list : mg "list" = none
  int : mg "int" = none
  max : mg "max" = none
  min : mg "min" = none
  repr : mg "repr" = none
  isinstance : mg "isinstance" = none
  range : mg "range" = none
  enumerate : mg "enumerate" = none
  bool : mg "bool" = none
  str : mg "str" = none
  sorted : mg "sorted" = none
  sum : mg "sum" = none
  all : mg "all" = none
  any : mg "any" = none
  zip : mg "zip" = none
  set : mg "set" = none
  abs : mg "abs" = none
theorem blt_of {K : PySem.W.Frag} {h : Heap} {mg : Str → Option Value} (X : K.In h) (G : h.Ns mainGlobals mg)
    (z1 : PySem.W.nsIn K mainGlobals "len" = some none) (z2 : PySem.W.nsIn K mainGlobals "tuple" = some none) (z3 : PySem.W.nsIn K mainGlobals "list" = some none) (z4 : PySem.W.nsIn K mainGlobals "int" = some none) (z5 : PySem.W.nsIn K mainGlobals "max" = some none)
    (z6 : PySem.W.nsIn K mainGlobals "min" = some none) (z7 : PySem.W.nsIn K mainGlobals "repr" = some none) (z8 : PySem.W.nsIn K mainGlobals "isinstance" = some none) (z9 : PySem.W.nsIn K mainGlobals "range" = some none) (z10 : PySem.W.nsIn K mainGlobals "enumerate" = some none)
    (z11 : PySem.W.nsIn K mainGlobals "bool" = some none) (z12 : PySem.W.nsIn K mainGlobals "str" = some none) (z13 : PySem.W.nsIn K mainGlobals "sorted" = some none) (z14 : PySem.W.nsIn K mainGlobals "sum" = some none) (z15 : PySem.W.nsIn K mainGlobals "all" = some none) (z16 : PySem.W.nsIn K mainGlobals "any" = some none) (z17 : PySem.W.nsIn K mainGlobals "zip" = some none) (z18 : PySem.W.nsIn K mainGlobals "set" = some none) (z19 : PySem.W.nsIn K mainGlobals "abs" = some none) : Blt mg :=
  ⟨PySem.W.mg_none_of X G z1, PySem.W.mg_none_of X G z2, PySem.W.mg_none_of X G z3, PySem.W.mg_none_of X G z4, PySem.W.mg_none_of X G z5, PySem.W.mg_none_of X G z6, PySem.W.mg_none_of X G z7, PySem.W.mg_none_of X G z8, PySem.W.mg_none_of X G z9, PySem.W.mg_none_of X G z10, PySem.W.mg_none_of X G z11, PySem.W.mg_none_of X G z12, PySem.W.mg_none_of X G z13, PySem.W.mg_none_of X G z14, PySem.W.mg_none_of X G z15, PySem.W.mg_none_of X G z16, PySem.W.mg_none_of X G z17, PySem.W.mg_none_of X G z18, PySem.W.mg_none_of X G z19⟩
theorem Def.mono {P : Program} {w : World} {K : PySem.W.Frag} {mg : Str → Option Value} {base : Heap} {x : Str} {j k : Nat} {ps : List Str} {sp : Sp} (D : Def P w K mg base x j ps sp) (h : j ≤ k) : Def P w K mg base x k ps sp :=
  let ⟨f, fd, h1, h2⟩ := D.ex
  ⟨f, fd, ⟨h1.len, fun A outer s H args us vs Q E hr => h1.run A outer s H args us vs Q E (hr.mono h)⟩, h2⟩
/-! ### what is known only to be one of many -/
def exS {β : Type} (mk : β → Slot) (φ : β → Prop) : Slot := ⟨fun K i s w => ∃ b, φ b ∧ (mk b).p K i s w, fun ⟨b, h1, h2⟩ a1 a2 a3 => ⟨b, h1, (mk b).mono h2 a1 a2 a3⟩⟩
def exP {α : Type} [Rp α] (φ : α → Prop) : VP := ⟨fun K v H => ∃ x, φ x ∧ Rp.rp K x v H, fun e ⟨x, h1, h2⟩ => ⟨x, h1, Rp.mono e h2⟩⟩
section
theorem set_same {α : Type} : ∀ {xs : List α} {i : Nat} {x : α}, xs[i]? = some x → xs.set i x = xs
  | [], _, _, h => by simp at h
  | y :: xs, 0, x, h => by simp at h; subst h; rfl
  | y :: xs, i + 1, x, h => by rw [List.set_cons_succ, set_same (by simpa using h)]
variable {X : Cx} {We : WX} {env env1 env2 env3 : List Slot} {P R S : VP} {a b e tg : Expr} {s : Stmt} {r A B : List Stmt} {pos : Pos} {oc : Oc} {α β : Type} [Rp α]
theorem he_ex {φ : α → Prop} {x : α} (h : HE X e env env1 (rv x)) (hx : φ x) : HE X e env env1 (exP φ) := he_to h fun K v H p => ⟨x, hx, p⟩
theorem hs_open {mk : β → Slot} {φ : β → Prop} (i : Nat) (hi : env[i]? = some (exS mk φ)) (h : ∀ b, φ b → HSs X We r (env.set i (mk b)) oc) : HSs X We r env oc :=
  (pss_any (We := We) (ss := r)).imp fun D σ H ⟨w, e1, R1, q⟩ => by
    obtain ⟨x, hx, b, hb, hp⟩ := R1.sl i _ hi
    refine ⟨_, oc, h b hb, w, e1, ?_, q⟩
    have R2 := R1.set (i := i) (s := mk b) (x := x) hp
    rw [set_same hx] at R2
    exact R2
theorem hs_openP {φ : α → Prop} (i : Nat) (hi : env[i]? = some (im (exP φ))) (h : ∀ x, φ x → HSs X We r (env.set i (im (rv x))) oc) : HSs X We r env oc :=
  (pss_any (We := We) (ss := r)).imp fun D σ H ⟨w, e1, R1, q⟩ => by
    obtain ⟨x, hx, v, hv, y, hy, hp⟩ := R1.sl i _ hi
    refine ⟨_, oc, h y hy, w, e1, ?_, q⟩
    have R2 := R1.set (i := i) (s := im (rv y)) (x := x) ⟨v, hv, hp⟩
    rw [set_same hx] at R2
    exact R2
/-- tg = e; what follows, for each that e may be -/
theorem hs_letE {φ : α → Prop} (he : HE X e env env1 (exP φ)) (h : ∀ x, φ x → ∃ env2 is, HG X tg (rv x) env1 env2 is ∧ HSs X We r env2 oc) (hs : swapsWithSole [tg] e pos.line X.env = pure false := by rfl) (hw : swappedStores [tg] e X.env = pure none := by rfl)
    (h1 : (assignEach [tg] X.env).map (·.2) = [assign tg X.env] := by rfl) : HSs X We (.Assign [tg] e pos :: r) env oc :=
  (pss_cons (ps_asg he (pg_any (tg := tg)) hs hw h1) (pss_any (We := We) (ss := r))).imp fun D σ H ⟨w, e1, R1, q⟩ => ⟨w, e1, R1, fun v w' R' l ⟨x, hx, hp⟩ => by
    obtain ⟨env2, is, hg, hr⟩ := h x hx
    exact ⟨rv x, env1, env2, is, hg, w', rfl, R', hp, fun σ2 w2 R2 l2 _ => ⟨env2, oc, hr, w2, rfl, R2, Oc.sat_le (oc := oc) (l.trans l2) q⟩⟩⟩
/-- out of a walk that ends in one of many -/
theorem hs_rtE {φ : α → Prop} {x : α} (h : HSs X We r env (.rt (rv x) env1)) (hx : φ x) : HSs X We r env (.rt (exP φ) env1) := h.imp fun D σ H ⟨w, e1, R1, q⟩ => ⟨w, e1, R1, fun σ v w' R' l p => q σ v w' R' l ⟨x, hx, p⟩⟩
/-- slots forgotten, or known less of -/
structure Wkn (env fin : List Slot) : Prop where
  len : fin.length = env.length
  out : ∀ (i : Nat) (s : Slot), fin[i]? = some s → ∃ t, env[i]? = some t ∧ ∀ K j x w, t.p K j x w → s.p K j x w
theorem Wkn.nil : Wkn [] [] := ⟨rfl, fun i s h => by simp at h⟩
theorem Wkn.cons {s t : Slot} {env fin : List Slot} (h : ∀ K i x w, t.p K i x w → s.p K i x w) (k : Wkn env fin) : Wkn (t :: env) (s :: fin) := ⟨by rw [List.length_cons, List.length_cons, k.len], fun i u hu => by
  cases i with
  | zero =>
    simp at hu
    subst hu
    exact ⟨t, rfl, h⟩
  | succ i =>
    obtain ⟨t', h1, h2⟩ := k.out i u (by simpa using hu)
    exact ⟨t', by simpa using h1, h2⟩⟩
theorem Wkn.k {s : Slot} {env fin : List Slot} (h : Wkn env fin) : Wkn (s :: env) (s :: fin) := h.cons fun _ _ _ _ q => q
theorem Wkn.f {s : Slot} {env fin : List Slot} (h : Wkn env fin) : Wkn (s :: env) (un :: fin) := h.cons fun _ _ _ _ _ => trivial
theorem Wkn.x {mk : β → Slot} {φ : β → Prop} {b : β} {env fin : List Slot} (hb : φ b) (h : Wkn env fin) : Wkn (mk b :: env) (exS mk φ :: fin) := h.cons fun _ _ _ _ q => ⟨b, hb, q⟩
theorem Wkn.un : ∀ {env : List Slot} {n : Nat}, n = env.length → Wkn env (List.replicate n BC.un)
  | [], _, e => by subst e; exact .nil
  | _ :: _, _, e => by subst e; exact (Wkn.un rfl).f
theorem Rep.wkn {K : PySem.W.Frag} {σ : L2.St} {w : Wd} (R : Rep K env σ w) (k : Wkn env env1) : Rep K env1 σ w := ⟨R.ok, R.len.trans k.len.symm, fun i s h => by
  obtain ⟨t, h1, h2⟩ := k.out i s h
  obtain ⟨x, h3, h4⟩ := R.sl i t h1
  exact ⟨x, h3, h2 _ _ _ _ h4⟩⟩
theorem hs_rtw (k : Wkn env1 env2) (hp : ∀ K v H, P.p K v H → R.p K v H) (h : HSs X We r env (.rt P env1)) : HSs X We r env (.rt R env2) := h.imp fun D σ H ⟨w, e1, R1, q⟩ => ⟨w, e1, R1, fun σ v w' R' l p => q σ v w' (R'.wkn k) l (hp _ _ _ p)⟩
theorem hs_nxwk (k : Wkn env1 env2) (h : HSs X We r env (.nx env1)) : HSs X We r env (.nx env2) := h.imp fun D σ H ⟨w, e1, R1, q⟩ => ⟨w, e1, R1, fun σ w' R' l => q σ w' (R'.wkn k) l⟩
/-- a return whose value, and what it leaves, is one of many -/
theorem st_retE {φ : α → Prop} {x : α} {fin : List Slot} (he : HE X e env env1 (rv x)) (hx : φ x) (k : Wkn env1 fin) : HS X We (.Return (some e) pos) env (.rt (exP φ) fin) :=
  (st_ret (We := We) (pos := pos) he).imp fun D σ H ⟨w, e1, R1, q⟩ => ⟨w, e1, R1, fun σ v w' R' l p => q σ v w' (R'.wkn k) l ⟨x, hx, p⟩⟩
/-- a, b = e, f -/
theorem st_par (i j : Nat) {x y : Str} {px py pt pt2 : Pos} {kt k2} (hc : X.calm = true) (hN : X.N.Nodup) (ha : HA X [a, b] env env1 [P, R]) (hij : i ≠ j := by decide) (hi : X.N[i]? = some x := by rfl) (hj : X.N[j]? = some y := by rfl)
    (hx : X.env.scope.names.lookup x = some .local := by rfl) (hy : X.env.scope.names.lookup y = some .local := by rfl)
    (hw : swappedStores [.Tuple [.Name x px, .Name y py] kt pt] (.Tuple [a, b] k2 pt2) X.env = pure (some [x, y]) := by rfl)
    (hs : swapsWithSole [.Tuple [.Name x px, .Name y py] kt pt] (.Tuple [a, b] k2 pt2) pos.line X.env = pure false := by rfl) : HS X We (.Assign [.Tuple [.Name x px, .Name y py] kt pt] (.Tuple [a, b] k2 pt2) pos) env (.nx ((env1.set i (im P)).set j (im R))) :=
  (ps_par hc hN hi hj hij hx hy ha hw hs).imp fun D σ H ⟨w, e1, R1, q⟩ => ⟨w, e1, R1, fun vs w' R' l ⟨v, r, e2, h2, u, r2, e3, h3, e4⟩ => by
    subst e2 e3
    exact ⟨v, u, by rw [show r2 = [] from e4], q _ w' ((R'.set (s := im P) ⟨v, rfl, h2⟩).set (s := im R) ⟨u, rfl, h3⟩) l⟩⟩
end
/-! ### chains -/
section
variable {X : Cx} {env env1 env2 : List Slot} {a b c : Expr} {pos : Pos} {i j k : Int}
theorem he_leLe (ha : HE X a env env1 (rv i)) (hb : HE X b env1 env2 (rv j)) (hc : HE X c env2 env2 (rv k)) (hm : lastMarks [.LtE, .LtE] [b, c] = false := by with_unfolding_all rfl) : HE X (.Compare a [.LtE, .LtE] [b, c] pos) env env2 (rv (decide (i ≤ j) && decide (j ≤ k))) :=
  he_chain op_le op_le (fun _ _ _ x y z => pe_chain op_le op_le x y z hm) ha hb hc
theorem he_leLt (ha : HE X a env env1 (rv i)) (hb : HE X b env1 env2 (rv j)) (hc : HE X c env2 env2 (rv k)) (hm : lastMarks [.LtE, .Lt] [b, c] = false := by with_unfolding_all rfl) : HE X (.Compare a [.LtE, .Lt] [b, c] pos) env env2 (rv (decide (i ≤ j) && decide (j < k))) :=
  he_chain op_le op_lt (fun _ _ _ x y z => pe_chain op_le op_lt x y z hm) ha hb hc
theorem he_ltLt (ha : HE X a env env1 (rv i)) (hb : HE X b env1 env2 (rv j)) (hc : HE X c env2 env2 (rv k)) (hm : lastMarks [.Lt, .Lt] [b, c] = false := by with_unfolding_all rfl) : HE X (.Compare a [.Lt, .Lt] [b, c] pos) env env2 (rv (decide (i < j) && decide (j < k))) :=
  he_chain op_lt op_lt (fun _ _ _ x y z => pe_chain op_lt op_lt x y z hm) ha hb hc
theorem he_ltLe (ha : HE X a env env1 (rv i)) (hb : HE X b env1 env2 (rv j)) (hc : HE X c env2 env2 (rv k)) (hm : lastMarks [.Lt, .LtE] [b, c] = false := by with_unfolding_all rfl) : HE X (.Compare a [.Lt, .LtE] [b, c] pos) env env2 (rv (decide (i < j) && decide (j ≤ k))) :=
  he_chain op_lt op_le (fun _ _ _ x y z => pe_chain op_lt op_le x y z hm) ha hb hc
end
/-! ### comprehensions: filtered and mapped; threaded -/
section
variable {X : Cx} {scope : Scope} {tg elt : Expr} {ifs : List Expr} {vs : List Nat} {α β S : Type} [Rp α] [Rp β]
theorem cl_fm (c : α → Bool) (f : α → β) {en : List Slot} {es : α → List Slot} (hw : ∀ x, wipeE (es x) vs = en) : ∀ (xs : List α) (hg : ∀ x ∈ xs, ∀ s H C cl fp, HG (blkX X scope s H C cl fp) tg (rv x) en (es x) vs) (ht : ∀ x ∈ xs, ∀ s H C cl fp, HTs (blkX X scope s H C cl fp) ifs (es x) (es x) (c x))
    (he : ∀ x ∈ xs, c x = true → ∀ s H C cl fp, HE (blkX X scope s H C cl fp) elt (es x) (es x) (rv (f x))), Cl X scope tg elt ifs vs (rvs xs) en (rvs ((xs.filter c).map f)) en
  | [], _, _, _ => .nil
  | x :: xs, hg, ht, he => by
    have ih := cl_fm c f hw xs (fun y hy => hg y (List.mem_cons_of_mem _ hy)) (fun y hy => ht y (List.mem_cons_of_mem _ hy)) (fun y hy => he y (List.mem_cons_of_mem _ hy))
    have tx := ht x List.mem_cons_self
    cases q : c x with
    | true =>
      rw [q] at tx
      rw [List.filter_cons_of_pos q]
      exact .yes (hg x List.mem_cons_self) tx (he x List.mem_cons_self q) (by rw [hw x]; exact ih)
    | false =>
      rw [q] at tx
      rw [List.filter_cons_of_neg (by rw [q]; exact Bool.false_ne_true)]
      exact .no (hg x List.mem_cons_self) tx (by rw [hw x]; exact ih)
def scn (f : S → α → β × S) : S → List α → List β × S
  | s, [] => ([], s)
  | s, x :: xs => ((f s x).1 :: (scn f (f s x).2 xs).1, (scn f (f s x).2 xs).2)

theorem cl_scn (f : S → α → β × S) (I : S → Prop) (hI : ∀ s x, I s → I (f s x).2) {en : S → List Slot} {es : S → α → List Slot} (hw : ∀ s x, wipeE (es s x) vs = en s) (hz : ifs = []) (xs : List α) (s0 : S) (h0 : I s0) (hg : ∀ x ∈ xs, ∀ s0, I s0 → ∀ s H C cl fp, HG (blkX X scope s H C cl fp) tg (rv x) (en s0) (es s0 x) vs)
    (he : ∀ x ∈ xs, ∀ s0, I s0 → ∀ s H C cl fp, HE (blkX X scope s H C cl fp) elt (es s0 x) (es (f s0 x).2 x) (rv (f s0 x).1)) : Cl X scope tg elt ifs vs (rvs xs) (en s0) (rvs (scn f s0 xs).1) (en (scn f s0 xs).2) := by
  subst hz
  induction xs generalizing s0 with
  | nil => exact .nil
  | cons x xs ih =>
    have ih := ih (f s0 x).2 (hI s0 x h0) (fun y hy => hg y (List.mem_cons_of_mem _ hy)) (fun y hy => he y (List.mem_cons_of_mem _ hy))
    exact .yes (hg x List.mem_cons_self s0 h0) (fun _ _ _ _ _ => hts_nil) (he x List.mem_cons_self s0 h0) (by rw [hw]; exact ih)
end
section
variable {X : Cx} {We : WX} {env env1 env2 : List Slot} {P : VP} {e : Expr} {es : List Expr} {p pos : Pos} {x : Str} {k : Nat} {ps : List Str} {A : Type} {pre : A → Prop} {ins : A → List Slot} {out : A → FO} {Ps : List VP}
/-- f(xs, e, ..), xs a list of ours that it may change -/
theorem he_call1E {α : Type} [Rp α] {mk : List α → Slot} {xs : List α} {φ : List α → Prop} {y : Str} {q : Pos} (O : Own mk) (i : Nat) (D : Def X.prog X.w X.K X.mg X.base x k ps (Spq X.K pre ins out)) (a : A) (hpr : pre a) (hr : Rm k X.A) (ha : HA X es env env1 Ps) (h0 : ∃ zs, env[i]? = some (mk zs) := by exact ⟨_, rfl⟩) (h1 : env1[i]? = some (mk xs) := by rfl)
    (hi : ins a = par xs :: Ps.map im := by rfl) (ho : out a = .rt P [(0, exS par φ)] := by rfl) (hN : X.N[i]? = some y := by rfl) (hv : Vis X.env.scope y := by first | exact Or.inl rfl | exact Or.inr (Or.inl rfl) | exact Or.inr (Or.inr rfl)) (hd : (y == ("__debug__" : Str)) = false := by decide) (hcd : (y == ("__classdict__" : Str)) = false := by decide)
    (hg : Gl X x := by rfl) (hdb : (x == ("__debug__" : Str)) = false := by decide)
    (hst : starEach (.Name y q :: es) X.env = (false, eval (.Name y q) X.env) :: starEach es X.env := by rfl) (hpl : (backTo pos (starEach es X.env)).any (·.1) = false := by rfl) : HE X (.Call (.Name x p) (.Name y q :: es) [] pos) env (env1.set i (exS mk φ)) P := by
  obtain ⟨f, fd, F, hm, hk, hb⟩ := D.ex
  obtain ⟨zs, h0⟩ := h0
  refine (pe_callG F hr hg hm hk hb (fun _ => passN) (pa_cons (pe_own O i h0 hN hv hd hcd) ha hst) hdb hst hpl).imp fun σ H Q ⟨w, e1, R1, q⟩ => ⟨w, e1, R1, fun b hb => ⟨w, rfl, R1, fun vs w' R' l al => ?_⟩⟩
  obtain ⟨us, h3, h4, h5, h6⟩ := R'.own O h1 hb
  obtain ⟨hn, _⟩ := R'.ok.ho b i h4
  let wc : Wd := { Hi := w'.Hi, H := w'.H, O := fun c => if c = b then some 0 else none, pa := fun j => if j = 0 then some b else none }
  have okc : wc.Ok := ⟨R'.ok.sub, fun c j h => by
    by_cases z : c = b
    · subst z
      exact ⟨hn, fun z => by rw [show wc.H c = w'.H c from rfl, h5] at z; cases z⟩
    · have : (if c = b then some 0 else none) = some j := h
      rw [if_neg z] at this
      exact absurd this (by simp), fun c j h => by
    by_cases z : c = b
    · subst z
      exact lst_pl h5
    · have : (if c = b then some 0 else none) = some j := h
      rw [if_neg z] at this
      exact absurd this (by simp), R'.ok.tb⟩
  refine ⟨⟨a, hpr⟩, wc, rfl, ?_, ?_⟩
  · show Rep _ (ins a) _ _
    rw [hi]
    have R2 := rep_ims (K := X.K) (w := wc) okc al
    refine ⟨okc, by rw [List.map_cons, List.length_cons, List.length_cons, R2.len], fun j s hs => ?_⟩
    cases j with
    | zero =>
      simp at hs
      subst hs
      exact ⟨some (.ref b), rfl, b, us, rfl, rfl, if_pos rfl, h5, h6⟩
    | succ j =>
      obtain ⟨z, h7, h8⟩ := R2.sl j s (by simpa using hs)
      refine ⟨z, by simpa using h7, ?_⟩
      rw [List.getElem?_cons_succ, List.getElem?_map] at hs
      cases qq : Ps[j]? with
      | none => rw [qq] at hs; cases hs
      | some P' =>
        rw [qq] at hs
        cases hs
        exact h8
  · show FO.sat _ _ _ _ (out a)
    rw [ho]
    intro v w2 ok2 l2 hp pv
    obtain ⟨z, ys, hys, c, ws, h7, h8, h9, h10, h11⟩ := hp (0, exS par φ) List.mem_cons_self
    have ecb : c = b := by
      rw [l2.pa] at h8
      have : some b = some c := h8
      exact (Option.some.inj this).symm
    subst ecb
    have kp : ∀ d o, d ≠ c → NT o → w'.H d = some o → w2.H d = some o ∧ w2.Hi d = w'.Hi d := fun d o nd nt h => by
      obtain ⟨g1, _, g3⟩ := l2.kp d o h (if_neg nd) nt
      exact ⟨g1, g3⟩
    have ok3 : (w'.out w2).Ok := ⟨ok2.sub, fun d j h => by
      by_cases z : d = c
      · subst z
        exact ⟨(ok2.ho d 0 h9).1, fun z => by rw [show (w'.out w2).H d = w2.H d from rfl, h10] at z; cases z⟩
      · obtain ⟨g1, g2⟩ := R'.ok.ho d j h
        cases q : w'.H d with
        | none => exact absurd q g2
        | some o =>
          obtain ⟨g3, g4⟩ := kp d o z (own_nt R'.ok h q) q
          exact ⟨g4.trans g1, fun z => by rw [show (w'.out w2).H d = w2.H d from rfl, g3] at z; cases z⟩, fun d j h => by
      show (∀ ps, w2.H d ≠ some (.tbl ps)) ∧ ∀ f, w2.H d ≠ some (.ext f)
      by_cases z : d = c
      · subst z
        exact lst_pl h10
      · cases q : w'.H d with
        | none => exact absurd q (R'.ok.ho d j h).2
        | some o =>
          have pl := R'.ok.pl d j h
          rw [q] at pl
          rw [(kp d o z (own_nt R'.ok h q) q).1]
          exact pl, ok2.tb⟩
    refine q v (w'.out w2) ⟨ok3, by rw [List.length_set]; exact R'.len, fun j s hs => ?_⟩ (l.trans ⟨l2.hi, fun d o h k nt => ?_, l2.dm, rfl, l2.tx⟩) pv
    · by_cases z : i = j
      · subst z
        have hlt : i < env1.length := (List.getElem?_eq_some_iff.mp h1).1
        rw [List.getElem?_set_self hlt] at hs
        cases hs
        exact ⟨_, hb, ys, hys, O.put h3 rfl h4 h10 h11 rfl⟩
      · rw [List.getElem?_set_ne z] at hs
        obtain ⟨t, g1, g2⟩ := R'.sl j s hs
        refine ⟨t, g1, s.mono g2 l2.hi (fun d hd => ⟨hd, ?_⟩) rfl⟩
        have nd : d ≠ c := fun zz => by
          subst zz
          rw [h4] at hd
          cases hd
          exact z rfl
        cases q : w'.H d with
        | none => exact absurd q (R'.ok.ho d j hd).2
        | some o => exact (kp d o nd (own_nt R'.ok hd q) q).1
    · have nd : d ≠ c := fun zz => by
        subst zz
        rw [h4] at k
        cases k
      exact ⟨(kp d o nd nt h).1, k, (kp d o nd nt h).2⟩
end
/-! ### is a row empty -/
section
variable {X : Cx} {env env1 : List Slot} {a : Expr} {α : Type} [Rp α]
theorem emp_len {K : PySem.W.Frag} {H : Hp} {xs : List α} {vs : List V} (h : Al α K H xs vs) : vs.isEmpty = xs.isEmpty := by
  have e := h.len
  cases vs <;> cases xs <;> simp_all
theorem hb_truS {xs : Lsr α} (h : HE X a env env1 (rv xs)) (he : ∀ whole, isTrue a X.env whole = (do let v ← whole; standAt a.pos; holding [v] (truthy v)) := by intro _; rfl) : HB X a env env1 (!xs.l.isEmpty) :=
  hb_tru h (fun v w ok ⟨t, vs, e1, h1, h2⟩ => by rw [e1]; exact .inl ⟨vs, Ex.l ok.sub h1, by rw [emp_len h2]⟩) he
theorem hb_truL {xs : Lst α} (h : HE X a env env1 (rv xs)) (he : ∀ whole, isTrue a X.env whole = (do let v ← whole; standAt a.pos; holding [v] (truthy v)) := by intro _; rfl) : HB X a env env1 (!xs.l.isEmpty) :=
  hb_tru h (fun v w ok ⟨t, vs, e1, h1, h2⟩ => by rw [e1]; exact .inl ⟨vs, SqL.of (ok.sub _ _ h1), by rw [emp_len h2]⟩) he
theorem hb_truT {xs : List α} (h : HE X a env env1 (rv xs)) (he : ∀ whole, isTrue a X.env whole = (do let v ← whole; standAt a.pos; holding [v] (truthy v)) := by intro _; rfl) : HB X a env env1 (!xs.isEmpty) :=
  hb_tru h (fun v w ok ⟨t, vs, e1, h1, h2⟩ => by rw [e1]; exact .inr (.inl ⟨vs, Ex.t ok.sub h1, by rw [emp_len h2]⟩)) he
end
/-! ### chains asked -/
section
variable {X : Cx} {env env1 env2 : List Slot} {a b c : Expr} {pos : Pos} {i j k : Int} {op op' : CmpOp} {f g : Int → Int → Bool}
theorem hb_chain (ho : OpR X (compareOp op) (rI0 fun i j => .bl (f i j))) (ho' : OpR X (compareOp op') (rI0 fun i j => .bl (g i j))) (ha : HE X a env env1 (rv i)) (hb : HE X b env1 env2 (rv j)) (hc : HE X c env2 env2 (rv k)) (hm : lastMarks [op, op'] [b, c] = false) :
    HB X (.Compare a [op, op'] [b, c] pos) env env2 (f i j && g j k) :=
  (pt_chain ho ho' ha hb hc hm).imp fun σ H Q ⟨w, e1, R1, q⟩ => to_chain (f := f) (g := g) rfl rfl rfl rfl σ H _ ⟨w, e1, R1, fun v w' R' l p => ⟨_, p, q w' R' l⟩⟩
theorem hb_leLe (ha : HE X a env env1 (rv i)) (hb : HE X b env1 env2 (rv j)) (hc : HE X c env2 env2 (rv k)) (hm : lastMarks [.LtE, .LtE] [b, c] = false := by with_unfolding_all rfl) : HB X (.Compare a [.LtE, .LtE] [b, c] pos) env env2 (decide (i ≤ j) && decide (j ≤ k)) := hb_chain op_le op_le ha hb hc hm
theorem hb_leLt (ha : HE X a env env1 (rv i)) (hb : HE X b env1 env2 (rv j)) (hc : HE X c env2 env2 (rv k)) (hm : lastMarks [.LtE, .Lt] [b, c] = false := by with_unfolding_all rfl) : HB X (.Compare a [.LtE, .Lt] [b, c] pos) env env2 (decide (i ≤ j) && decide (j < k)) := hb_chain op_le op_lt ha hb hc hm
theorem hb_ltLt (ha : HE X a env env1 (rv i)) (hb : HE X b env1 env2 (rv j)) (hc : HE X c env2 env2 (rv k)) (hm : lastMarks [.Lt, .Lt] [b, c] = false := by with_unfolding_all rfl) : HB X (.Compare a [.Lt, .Lt] [b, c] pos) env env2 (decide (i < j) && decide (j < k)) := hb_chain op_lt op_lt ha hb hc hm
theorem hb_ltLe (ha : HE X a env env1 (rv i)) (hb : HE X b env1 env2 (rv j)) (hc : HE X c env2 env2 (rv k)) (hm : lastMarks [.Lt, .LtE] [b, c] = false := by with_unfolding_all rfl) : HB X (.Compare a [.Lt, .LtE] [b, c] pos) env env2 (decide (i < j) && decide (j ≤ k)) := hb_chain op_lt op_le ha hb hc hm
end
/-! ### loops by invariant -/
section
variable {X : Cx} {We : WX} {env env1 env2 : List Slot} {c tg iter e : Expr} {body r A B : List Stmt} {pos : Pos} {oc : Oc} {β S : Type}
/-- a slot's content, seen as any of its kind -/
theorem hs_abs (i : Nat) (mk : β → Slot) (φ : β → Prop) {b : β} (hb : φ b) (hi : env[i]? = some (mk b) := by rfl) (h : ∀ b, φ b → HSs X We r (env.set i (mk b)) oc) : HSs X We r env oc := by
  have q := h b hb
  rwa [set_same hi] at q
theorem st_if1 {k : Bool} (hc : HB X e env env1 k) (hk : k = true) (h : HSs X We A env1 oc) : HS X We (.If e A B pos) env oc := st_if hc (fun _ => h) fun z => by rw [hk] at z; cases z
theorem st_if0 {k : Bool} (hc : HB X e env env1 k) (hk : k = false) (h : HSs X We B env1 oc) : HS X We (.If e A B pos) env oc := st_if hc (fun z => by rw [hk] at z; cases z) fun _ => h
theorem hs_whileE (en : S → List Slot) (I J : S → Prop) (m : S → Nat) (hp : PassesOwn (model X.prog X.w) X.A X.env X.xe)
    (step : ∀ s, I s → (HB X c (en s) (en s) false ∧ J s) ∨ ∃ e1 s', HB X c (en s) e1 true ∧ HSs X We body e1 (.nx (en s')) ∧ I s' ∧ m s' < m s) (s0 : S) (h0 : I s0) (rest : ∀ s, J s → HSs X We r (en s) oc) : HSs X We (.While c body [] pos :: r) (en s0) oc := by
  have key : ∀ n s, m s ≤ n → I s → ∃ s', J s' ∧ Wl X We c body (en s) (.nx (en s')) := by
    intro n
    induction n with
    | zero =>
      intro s hm hs
      rcases step s hs with ⟨h1, h2⟩ | ⟨e1, s', h1, h2, h3, h4⟩
      · exact ⟨s, h2, wl_done h1⟩
      · omega
    | succ n ih =>
      intro s hm hs
      rcases step s hs with ⟨h1, h2⟩ | ⟨e1, s', h1, h2, h3, h4⟩
      · exact ⟨s, h2, wl_done h1⟩
      · obtain ⟨s2, h5, h6⟩ := ih s' (by omega) h3
        exact ⟨s2, h5, wl_turn h1 h2 h6⟩
  obtain ⟨s', h1, h2⟩ := key (m s0) s0 (Nat.le_refl _) h0
  exact hs_cons (st_while hp h2) (rest s' h1)
theorem hs_forE {α : Type} [Rp α] (xs : List α) (en : S → List Slot) (I : Nat → S → Prop) (s0 : S) (hp : PassesOwn (model X.prog X.w) X.A X.env X.xe) (hc : X.calm = true) (hi : HI X tg iter env (en s0) (rvs xs)) (h0 : I 0 s0)
    (step : ∀ i x s, xs[i]? = some x → I i s → ∃ e1 is s', HG X tg (rv x) (en s) e1 is ∧ HSs X We body e1 (.nx (en s')) ∧ I (i + 1) s') (rest : ∀ s, I xs.length s → HSs X We r (en s) oc) (hs : ∀ x, foldedSetIterable iter X.env x = pure x := by intro _; rfl) : HSs X We (.For tg iter body [] pos :: r) env oc := by
  have key : ∀ (ys : List α) (k : Nat) (s : S), I k s → (∀ i, ys[i]? = xs[k + i]?) → ∃ s', I (k + ys.length) s' ∧ Lp X We tg body (rvs ys) (en s) (.nx (en s')) := by
    intro ys
    induction ys with
    | nil => exact fun k s h _ => ⟨s, h, .nil⟩
    | cons y ys ih =>
      intro k s h hy
      obtain ⟨e1, is, s1, h1, h2, h3⟩ := step k y s (by have := hy 0; simpa using this.symm) h
      obtain ⟨s2, h4, h5⟩ := ih (k + 1) s1 h3 fun i => by
        have := hy (i + 1)
        rw [show k + (i + 1) = k + 1 + i by omega] at this
        simpa using this
      exact ⟨s2, by rw [List.length_cons, show k + (ys.length + 1) = k + 1 + ys.length by omega]; exact h4, .cons h1 h2 h5⟩
  obtain ⟨s', h1, h2⟩ := key xs 0 s0 h0 fun i => by rw [Nat.zero_add]
  rw [Nat.zero_add] at h1
  exact hs_cons (st_for hp hc hi h2 hs) (rest s' h1)
end
theorem getD_mem {α : Type} {xs : List α} {i : Nat} {d : α} (h : i < xs.length) : xs.getD i d ∈ xs := by
  rw [List.getD_eq_getElem?_getD, List.getElem?_eq_getElem h]
  exact List.getElem_mem h
theorem he_catTE {X : Cx} {env env1 env2 : List Slot} {a b : Expr} {pos : Pos} {α : Type} [Rp α] {xs : List α} {φ : List α → Prop} (hz : ∀ ys, φ ys → xs.length + ys.length ≤ 100000) (ha : HE X a env env1 (rv xs)) (hb : HE X b env1 env2 (exP φ)) : HE X (.BinOp a .Add b pos) env env2 (exP fun zs => ∃ ys, φ ys ∧ zs = xs ++ ys) :=
  (pe_op op_catA ha hb).imp fun σ H Q ⟨w, e1, R1, q⟩ => ⟨w, e1, R1, fun x w1 R2 l1 p1 => ⟨w1, rfl, R2, fun y w2 R3 l2 ⟨ys, hy, p2⟩ =>
    ov_catT (hz ys hy) env2 σ x y w2 R3 (Rp.mono l2.hi p1) p2 Q fun v w3 R4 l3 p3 => q v w3 R4 ((l1.trans l2).trans l3) ⟨xs ++ ys, ⟨ys, hy, rfl⟩, p3⟩⟩⟩
section
variable {X : Cx} {We : WX} {env env1 env2 env3 envf envo : List Slot} {P R : VP} {a b e elt tg iter : Expr} {es : List Expr} {ifs : List Expr} {scope : Scope} {own' : List (Str × Nat)} {p pos spos : Pos} {xs : List VP} {α : Type} [Rp α]
/-- name = [..]: the list is one's own -/
theorem st_ownLc (i : Nat) {y : Str} {py : Pos} {ys : List α} (hc : X.calm = true) (hN : X.N.Nodup) (hi : HI X tg iter env env1 xs) (ok : BlkOk X.N X.env.scope scope own') (hz : xs.length ≤ 100000) (cl : Cl X scope tg elt ifs (own'.map (·.2)) xs (wipeE env1 (own'.map (·.2))) (rvs ys) envf) (ho : LcEnv (own'.map (·.2)) env1 envf envo)
    (hy : X.N[i]? = some y := by rfl) (hyl : X.env.scope.names.lookup y = some .local := by rfl) (hsw : swapsWith (.ListComp elt [⟨tg, iter, ifs, 0⟩] scope pos) (some (.Name y py)) spos.line X.env = pure true := by rfl) (hs : ∀ x, foldedSetIterable iter X.env x = pure x := by intro _; rfl) :
    HS X We (.Assign [.Name y py] (.ListComp elt [⟨tg, iter, ifs, 0⟩] scope pos) spos) env (.nx (envo.set i (own ys))) :=
  (ps_setLc (g := cG X scope tg (own'.map (·.2))) (tt := cT X scope ifs) (te := cE X scope elt) hc hN hy hyl hsw hi ok (fun _ _ _ _ _ => ⟨fun pins s σ H v u Q I r ⟨_, _, _, h, q⟩ => (h _ _ _ _ _).run pins s σ H v u Q I r q⟩) (fun _ _ _ _ _ => ⟨fun pins s σ H Q I ⟨_, _, _, h, q⟩ => (h _ _ _ _ _).run pins s σ H Q I q⟩)
    (fun _ _ _ _ _ => ⟨fun pins s σ H Q I ⟨_, _, _, h, q⟩ => (h _ _ _ _ _).run pins s σ H Q I q⟩) hs).imp fun D σ H ⟨w, e1, R1, q⟩ =>
    to_lc hz cl ho σ H _ ⟨w, e1, R1, fun p vs w' R' l hp al => q _ (w'.new i p (.lst vs)) ((R'.new hp).set ⟨p, vs, rfl, if_pos rfl, upd_same, alP_al al⟩) (l.trans (new_le R'.ok hp))⟩
/-- xs[::-1], a list -/
theorem hl_revL {ys : Lst α} {k : Nat} {p1 p2 p3 : Pos} (he : HE X e env env1 (rv ys)) : HL X (.Subscript e (.Slice none none (some (.UnaryOp .USub (.Constant (.int 1) k p1) p2)) p3) pos) env env1 ys.l.reverse :=
  (pe_revL he).imp fun σ H Q ⟨w, e1, R1, q⟩ => ⟨w, e1, R1, fun v w' R' l ⟨t, vs, e2, h1, h2⟩ => ⟨t, vs, e2, SqL.of (R'.ok.sub _ _ h1), fun p hp => q p _ w' R' l hp h2.rev⟩⟩
/-- xs * 1 -/
theorem hl_rep1 {ys : Lst α} (hz : ys.l.length ≤ 100000) (ha : HE X a env env1 (rv ys)) (hb : HE X b env1 env2 (rv (1 : Int))) : HL X (.BinOp a .Mult b pos) env env2 ys.l :=
  (pe_op op_rep ha hb).imp fun σ H Q ⟨w, e1, R1, q⟩ => ⟨w, e1, R1, fun v w1 R2 l1 ⟨t, vs, e2, h1, h2⟩ => ⟨w1, rfl, R2, fun u w2 R3 l2 hu => by
    refine ⟨t, 1, vs, e2, hu, R3.ok.sub _ _ (l2.hi _ _ h1), by decide, by decide, ?_, fun p hp => ?_⟩
    · have := h2.len
      rw [this]
      show ys.l.length * 1 ≤ _
      exact Nat.le_trans (by omega : ys.l.length * 1 ≤ 100000) (by decide)
    · have e3 : (List.replicate (1 : Int).toNat vs).flatten = vs := by
        show (List.replicate 1 vs).flatten = vs
        simp
      rw [e3]
      exact q p vs w2 R3 (l1.trans l2) hp (h2.mono l2.hi)⟩⟩
/-- a, b = a row of two -/
theorem hg_two {x y : α} {ea eb : Expr} {k : Nat} {is js : List Nat} (hc : X.calm = true) (ha : HG X ea (rv x) env env1 is) (hb : HG X eb (rv y) env1 env2 js)
    (hs : (assignEach [ea, eb] X.env).map (·.2) = assign ea X.env :: (assignEach [eb] X.env).map (·.2) := by rfl) (hs2 : (assignEach [eb] X.env).map (·.2) = assign eb X.env :: (assignEach [] X.env).map (·.2) := by rfl)
    (hn : (assignEach [ea, eb] X.env).length = 2 := by rfl) (hst : (assignEach [ea, eb] X.env).findIdx? (·.1) = none := by rfl) : HG X (.Tuple [ea, eb] k pos) (rv [x, y]) env env2 (is ++ js) :=
  (pg_tup hc (pgs_cons ha (pgs_cons hb pgs_nil hs2) hs) hn hst).imp fun v σ H Q ⟨w, e1, R1, ⟨t, vs, e2, h1, u, r, e3, h2, z, r2, e4, h3, e5⟩, q⟩ => by
    subst e1 e3 e4
    rw [show r2 = [] from e5] at h1
    exact ⟨t, [u, z], e2, Ex.t R1.ok.sub h1, rfl, u, [z], rfl, w, rfl, R1, h2, fun σ' w' R' l B1 => ⟨z, [], rfl, w', rfl, R', Rp.mono l.hi h3, fun σ2 w2 R2 l2 B2 => ⟨rfl, q σ2 w2 R2 (l.trans l2) (B1.trans B2)⟩⟩⟩
/-! sums of lists of which one is one of many -/
theorem he_catLE {xs : Lst α} {φ : Lst α → Prop} (hz : ∀ ys, φ ys → xs.l.length + ys.l.length ≤ 100000) (ha : HE X a env env1 (rv xs)) (hb : HE X b env1 env2 (exP φ)) : HE X (.BinOp a .Add b pos) env env2 (exP fun zs : Lst α => ∃ ys, φ ys ∧ zs = ⟨xs.l ++ ys.l⟩) :=
  (pe_op op_cat ha hb).imp fun σ H Q ⟨w, e1, R1, q⟩ => ⟨w, e1, R1, fun v w1 R2 l1 ⟨t, vs, e1, h1, h2⟩ => ⟨w1, rfl, R2, fun u w2 R3 l2 ⟨ys, hy, t2, ws, e2, h3, h4⟩ =>
    ⟨t, t2, vs, ws, e1, e2, R3.ok.sub _ _ (l2.hi _ _ h1), R3.ok.sub _ _ h3, by rw [h2.len, h4.len]; exact Nat.le_trans (hz ys hy) (by decide), fun p hp => by
      have h5 := (R3.ok.fresh hp).1
      exact q _ (w2.add p (.lst (vs ++ ws))) (R3.add hp) ((l1.trans l2).trans (add_le R3.ok hp)) ⟨_, ⟨ys, hy, rfl⟩, p, _, rfl, upd_same, ((h2.mono l2.hi).app h4).mono (Ex.new h5)⟩⟩⟩⟩
theorem he_catEL {xs : Lst α} {φ : Lst α → Prop} (hz : ∀ ys, φ ys → ys.l.length + xs.l.length ≤ 100000) (ha : HE X a env env1 (exP φ)) (hb : HE X b env1 env2 (rv xs)) : HE X (.BinOp a .Add b pos) env env2 (exP fun zs : Lst α => ∃ ys, φ ys ∧ zs = ⟨ys.l ++ xs.l⟩) :=
  (pe_op op_cat ha hb).imp fun σ H Q ⟨w, e1, R1, q⟩ => ⟨w, e1, R1, fun v w1 R2 l1 ⟨ys, hy, t, vs, e1, h1, h2⟩ => ⟨w1, rfl, R2, fun u w2 R3 l2 ⟨t2, ws, e2, h3, h4⟩ =>
    ⟨t, t2, vs, ws, e1, e2, R3.ok.sub _ _ (l2.hi _ _ h1), R3.ok.sub _ _ h3, by rw [h2.len, h4.len]; exact Nat.le_trans (hz ys hy) (by decide), fun p hp => by
      have h5 := (R3.ok.fresh hp).1
      exact q _ (w2.add p (.lst (vs ++ ws))) (R3.add hp) ((l1.trans l2).trans (add_le R3.ok hp)) ⟨_, ⟨ys, hy, rfl⟩, p, _, rfl, upd_same, ((h2.mono l2.hi).app h4).mono (Ex.new h5)⟩⟩⟩⟩
theorem he_tupleLE {φ : Lst α → Prop} (h : HE X e env env1 (exP φ)) (hm : X.mg "tuple" = none) (hg : Gl X "tuple" := by rfl) (hs : starEach [e] X.env = (false, eval e X.env) :: starEach [] X.env := by rfl) (hpl : (backTo pos (starEach [] X.env)).any (·.1) = false := by rfl) :
    HE X (.Call (.Name "tuple" p) [e] [] pos) env env1 (exP fun zs : List α => ∃ ys, φ ys ∧ zs = ys.l) :=
  (pe_callTy call_tuple_of hg hm (by decide +kernel) (pa_cons h pa_nil hs) (he := hs) (hpl := hpl)).imp fun σ H Q ⟨w, e1, R1, q⟩ => ⟨w, e1, R1, fun v w' R' l ⟨ys, hy, t, vs, e2, h1, h2⟩ => by
    refine ⟨t, vs, by rw [e2], .inl ⟨SqL.of (R'.ok.sub _ _ h1), fun p hp => ?_⟩⟩
    have h5 := (R'.ok.fresh hp).1
    exact q _ (w'.add p (.tup vs)) (R'.add hp) (l.trans (add_le R'.ok hp)) ⟨_, ⟨ys, hy, rfl⟩, p, vs, rfl, SqT.of upd_same, h2.mono (Ex.new h5)⟩⟩
/-- f(e), e one of many, all of them taken -/
theorem he_callX {x : Str} {k : Nat} {ps : List Str} {pre : α → Prop} {ins : α → List Slot} {out : α → FO} {φ : α → Prop} (D : Def X.prog X.w X.K X.mg X.base x k ps (Spq X.K pre ins out)) (hpr : ∀ x, φ x → pre x) (hr : Rm k X.A) (ha : HE X e env env1 (exP φ)) (hi : ∀ x, ins x = [im (rv x)] := by intro _; rfl) (ho : ∀ x, out x = .rt P [] := by intro _; rfl) (hg : Gl X x := by rfl) (hdb : (x == ("__debug__" : Str)) = false := by decide)
    (hst : starEach [e] X.env = (false, eval e X.env) :: starEach [] X.env := by rfl) (hpl : (backTo pos (starEach [] X.env)).any (·.1) = false := by rfl) : HE X (.Call (.Name x p) [e] [] pos) env env1 P := by
  obtain ⟨f, fd, F, hm, hk, hb⟩ := D.ex
  refine (pe_callG F hr hg hm hk hb (fun _ => passN) (pa_cons ha pa_nil hst) hdb hst hpl).imp fun σ H Q ⟨w, e1, R1, q⟩ => ⟨w, e1, R1, fun v w' R' l ⟨y, hy, pv⟩ => ?_⟩
  refine ⟨⟨y, hpr y hy⟩, w'.in0, rfl, ?_, ?_⟩
  · show Rep _ (ins y) _ _
    rw [hi]
    exact rep_ims (Ps := [rv y]) (vs := [v]) (in0_ok R'.ok) ⟨v, [], rfl, pv, rfl⟩
  · show FO.sat _ _ _ _ (out y)
    rw [ho]
    intro v w2 ok l2 _ pv
    obtain ⟨R3, l3⟩ := out_rep R' ok l2
    exact q v (w'.out w2) R3 (l.trans l3) pv
/-- a return whose value is one of many -/
theorem st_retX {φ ψ : α → Prop} {fin : List Slot} (he : HE X e env env1 (exP φ)) (hx : ∀ x, φ x → ψ x) (k : Wkn env1 fin) : HS X We (.Return (some e) pos) env (.rt (exP ψ) fin) :=
  (st_ret (We := We) (pos := pos) he).imp fun D σ H ⟨w, e1, R1, q⟩ => ⟨w, e1, R1, fun σ v w' R' l ⟨x, h1, h2⟩ => q σ v w' (R'.wkn k) l ⟨x, hx x h1, h2⟩⟩
/-- name += e, name -= e, whole numbers -/
theorem st_augAdd (i : Nat) {u v : Int} {x : Str} {pos' : Pos} (h0 : env[i]? = some (im (rv u))) (he : HE X e env env1 (rv v)) (hN : X.N.Nodup) (hi : X.N[i]? = some x := by rfl) (hx : Loc X.env.scope x := by first | exact Or.inl rfl | exact Or.inr rfl)
    (hf : X.fn x = true ∨ X.env.scope.names.lookup x = some .local := by first | exact .inl rfl | exact .inr rfl | assumption) : HS X We (.AugAssign (.Name x pos') .Add e pos) env (.nx (env1.set i (im (rv (u + v))))) :=
  (ps_aug hN hi hx he ip_add hf).imp fun D σ H ⟨w, e1, R1, q⟩ => by
    obtain ⟨z, hz, y, ey, hy⟩ := R1.sl i _ h0
    subst ey
    exact ⟨y, hz, w, e1, R1, fun t w' R' l p => ⟨u, v, hy, p, q _ w' (R'.set (s := im (rv (u + v))) ⟨_, rfl, rfl⟩) l⟩⟩
theorem st_augSub (i : Nat) {u v : Int} {x : Str} {pos' : Pos} (h0 : env[i]? = some (im (rv u))) (he : HE X e env env1 (rv v)) (hN : X.N.Nodup) (hi : X.N[i]? = some x := by rfl) (hx : Loc X.env.scope x := by first | exact Or.inl rfl | exact Or.inr rfl)
    (hf : X.fn x = true ∨ X.env.scope.names.lookup x = some .local := by first | exact .inl rfl | exact .inr rfl | assumption) : HS X We (.AugAssign (.Name x pos') .Sub e pos) env (.nx (env1.set i (im (rv (u - v))))) :=
  (ps_aug hN hi hx he ip_sub hf).imp fun D σ H ⟨w, e1, R1, q⟩ => by
    obtain ⟨z, hz, y, ey, hy⟩ := R1.sl i _ h0
    subst ey
    exact ⟨y, hz, w, e1, R1, fun t w' R' l p => ⟨u, v, hy, p, q _ w' (R'.set (s := im (rv (u - v))) ⟨_, rfl, rfl⟩) l⟩⟩
end
def tEAny (X : Cx) (e : Expr) : TE := fun σ H Q => ∃ env env' P, HE X e env env' P ∧ tE X.K env env' P σ H Q
theorem pe_any {X : Cx} {e : Expr} : PE X e (tEAny X e) := ⟨fun pins s σ H Q I ⟨_, _, _, h, q⟩ => h.run pins s σ H Q I q⟩
theorem he_open {X : Cx} {env env2 : List Slot} {P : VP} {e : Expr} {β : Type} {mk : β → Slot} {φ : β → Prop} (i : Nat) (hi : env[i]? = some (exS mk φ)) (h : ∀ b, φ b → HE X e (env.set i (mk b)) env2 P) : HE X e env env2 P :=
  (pe_any (e := e)).imp fun σ H Q ⟨w, e1, R1, q⟩ => by
    obtain ⟨x, hx, b, hb, hp⟩ := R1.sl i _ hi
    have R2 := R1.set (i := i) (s := mk b) (x := x) hp
    rw [set_same hx] at R2
    exact ⟨_, _, _, h b hb, w, e1, R2, q⟩
theorem scn_len {α β S : Type} (f : S → α → β × S) : ∀ (xs : List α) (s : S), (scn f s xs).1.length = xs.length
  | [], _ => rfl
  | _ :: xs, s => by rw [scn, List.length_cons, List.length_cons, scn_len f xs]
theorem scn_all {α β S : Type} (f : S → α → β × S) (I : S → Prop) (φ : β → Prop) (hI : ∀ s x, I s → I (f s x).2) (hφ : ∀ s x, I s → φ (f s x).1) : ∀ (xs : List α) (s : S), I s → (∀ y ∈ (scn f s xs).1, φ y) ∧ I (scn f s xs).2
  | [], _, h => ⟨fun y hy => by simp [scn] at hy, h⟩
  | x :: xs, s, h => by
    obtain ⟨h1, h2⟩ := scn_all f I φ hI hφ xs (f s x).2 (hI s x h)
    refine ⟨fun y hy => ?_, h2⟩
    rw [scn, List.mem_cons] at hy
    rcases hy with hy | hy
    · rw [hy]; exact hφ s x h
    · exact h1 y hy
/-! ### records: objects whose fields are set once -/
/-- what the text's part says of a plain class with these fields -/
structure RC (K : PySem.W.Frag) (C : Addr) (fn : List Str) : Prop where
  cl : Cls K C
  no : ∀ f ∈ fn, NoAttr K C f
/-- the record a of class C holds such things -/
def ObAt (K : PySem.W.Frag) (C : Addr) (fn : List Str) (Ps : List VP) (a : Addr) (H : Hp) : Prop := ∃ dx fs us, H a = some (.ins C dx fs) ∧ RC K C fn ∧ AlP K H Ps us ∧ ∀ (i : Nat) (f : Str), fn[i]? = some f → fs.lookup f = us[i]?
def obP (fn : List Str) (Ps : List VP) : VP := ⟨fun K v H => ∃ a C, v = .ref a ∧ ObAt K C fn Ps a H, fun e ⟨a, C, e1, dx, fs, us, h1, h2, h3, h4⟩ => ⟨a, C, e1, dx, fs, us, e _ _ h1, h2, h3.mono e, h4⟩⟩
/-- __init__ of such a class -/
def spRec (K : PySem.W.Frag) (fn : List Str) : Sp := fun vs H Q _ => ∃ (p C dx : Addr) (us : List V), vs = .ref p :: us ∧ us.length = fn.length ∧ H p = some (.ins C dx []) ∧ RC K C fn ∧
  ∀ (H' : Hp) (fs : List (Str × V)), (∀ b, b ≠ p → H' b = H b) → H' p = some (.ins C dx fs) → (∀ (i : Nat) (f : Str), fn[i]? = some f → fs.lookup f = us[i]?) → Q .non H'
theorem alP_get {K : PySem.W.Frag} {H : Hp} : ∀ {Ps : List VP} {us : List V} {i : Nat} {P : VP}, AlP K H Ps us → Ps[i]? = some P → ∃ u, us[i]? = some u ∧ P.p K u H
  | [], _, _, _, _, e => by simp at e
  | _ :: _, _, 0, _, ⟨u, r, e1, h1, h2⟩, e => by
    simp at e
    subst e
    exact ⟨u, by rw [e1]; rfl, h1⟩
  | _ :: Ps, _, i + 1, P, ⟨u, r, e1, h1, h2⟩, e => by
    obtain ⟨z, a, b⟩ := alP_get (i := i) (P := P) h2 (by simpa using e)
    exact ⟨z, by rw [e1]; simpa using a, b⟩
section
variable {X : Cx} {env env1 : List Slot} {P : VP} {e : Expr} {es : List Expr} {p pos : Pos} {x f : Str} {fn : List Str} {Ps : List VP}
/-- e.f -/
theorem he_fld (i : Nat) (h : HE X e env env1 (obP fn Ps)) (hf : fn[i]? = some f := by rfl) (hP : Ps[i]? = some P := by rfl) (hb : attributeBase e f X.env (eval e X.env) = eval e X.env := by rfl) : HE X (.Attribute e f pos) env env1 P :=
  (pe_fld h hb).imp fun σ H Q ⟨w, e1, R1, q⟩ => ⟨w, e1, R1, fun v w' R' l ⟨a, C, e2, dx, fs, us, h1, h2, h3, h4⟩ => by
    obtain ⟨u, hu, hp⟩ := alP_get h3 hP
    exact ⟨a, C, dx, fs, u, e2, R'.ok.sub _ _ h1, h2.cl, h2.no f (List.mem_of_getElem? hf), (h4 i f hf).trans hu, q u w' R' l hp⟩⟩
/-- C(e, ..) -/
theorem he_new {C fI : Addr} {fd : FuncData} {k : Nat} {ps : List Str} (M : Mk X.K C fI) (F : FnOk X.prog X.w X.K X.mg X.base CX0 k fI fd ps (spRec X.K fn)) (rc : RC X.K C fn) (hm : X.mg x = some (.ref C)) (hb : Binds X.K fd ps []) {j : Nat} (hr : Rm j X.A) (hj : k + 1 ≤ j) (ha : HA X (e :: es) env env1 Ps) (hn : Ps.length = fn.length := by rfl)
    (hg : Gl X x := by rfl) (hdb : (x == ("__debug__" : Str)) = false := by decide) (he : starEach (e :: es) X.env = (false, eval e X.env) :: starEach es X.env := by rfl) (hpl : (backTo pos (starEach es X.env)).any (·.1) = false := by rfl) :
    HE X (.Call (.Name x p) (e :: es) [] pos) env env1 (obP fn Ps) :=
  (pe_make M F (hr.room.mono hj) hg hm hb .nil (E := E0) pass0 ha hdb he hpl).imp fun σ H Q ⟨w, e1, R1, q⟩ => ⟨w, e1, R1, fun us w' R' l al a dx hx hdx ne => by
    refine ⟨a, C, dx, us, by rw [List.append_nil], (alP_len al).trans hn, upd_same, rc, fun H' fs h1 h2 h3 => ⟨rfl, ?_⟩⟩
    have hx2 : (w'.put dx (.own a)).H a = none := (upd_ne (Ne.symm ne)).trans hx
    have eH : H' = ((w'.put dx (.own a)).add a (.ins C dx fs)).H := by
      funext b
      by_cases z : b = a
      · rw [z, h2]
        exact (upd_same).symm
      · rw [h1 b z, upd_ne z]
        exact (upd_ne z).symm
    rw [eH]
    have R2 := (R'.put (o := .own a) hdx).add (o := .ins C dx fs) hx2
    have l2 := (put_le (o := .own a) R'.ok hdx).trans (add_le (o := .ins C dx fs) (put_ok R'.ok hdx) hx2)
    exact q (.ref a) _ R2 (l.trans l2) ⟨a, C, rfl, dx, fs, us, upd_same, rc, al.mono l2.hi, h3⟩⟩
end
/-! the tables of the package -/
structure Tbl where
  many : Int
  beside : List (List Int)
def tbF : List Str := ["many", "beside"]
instance : Rp Tbl := ⟨fun K t v H => (obP tbF [rv t.many, rv t.beside]).p K v H, fun e h => VP.mono _ e h⟩
section
variable {X : Cx} {env env1 : List Slot} {e : Expr} {pos : Pos} {t : Tbl}
theorem he_many (h : HE X e env env1 (rv t)) (hb : attributeBase e "many" X.env (eval e X.env) = eval e X.env := by rfl) : HE X (.Attribute e "many" pos) env env1 (rv t.many) := he_fld (fn := tbF) (Ps := [rv t.many, rv t.beside]) 0 (he_to h fun _ _ _ q => q) rfl rfl hb
theorem he_beside (h : HE X e env env1 (rv t)) (hb : attributeBase e "beside" X.env (eval e X.env) = eval e X.env := by rfl) : HE X (.Attribute e "beside" pos) env env1 (rv t.beside) := he_fld (fn := tbF) (Ps := [rv t.many, rv t.beside]) 1 (he_to h fun _ _ _ q => q) rfl rfl hb
end
theorem relO_what {v : V} {v' : Value} (r : RelV v v') (f : Str) : RelO (List.lookup f [(("what" : Str), v)]) (if f = "what" then some v' else none) := by
  by_cases hw : f = "what"
  · subst hw
    rw [if_pos rfl]
    have q : List.lookup ("what" : Str) [(("what" : Str), v)] = some v := by simp [List.lookup]
    rw [q]
    exact r
  · rw [if_neg hw]
    have qw : (f == ("what" : Str)) = false := by simpa using hw
    have q2 : List.lookup f [(("what" : Str), v)] = none := by simp [List.lookup, qw]
    rw [q2]
    trivial
section
variable {X : Cx} {We : WX} {C D fI : Addr} {env env1 : List Slot} {P : VP} {a : Expr} {x : Str} {p pos pos2 : Pos} {k : Nat}
/-- C(e) of an own error -/
def tMkRef (C : Addr) (ta : TA) : L2.St → Hp → XK → Prop := fun σ H Q => ta σ H fun vs H1 => ∃ v, vs = [v] ∧ ∀ d, H1 d = none → Q (.ref C) (some d) (upd H1 d (.xd [(("what" : Str), v)]))
theorem pmk_ref {ta : TA} (T : PySem.RefX.InitTxt X.prog X.K D fI) (Tc : PySem.RefX.ClsTxt X.K D fI C) (gC : X.mg x = some (.ref C)) (gS : X.mg "super" = none) (hr : Room (k + 1) X.A) (ha : PA X [a] ta) (hg : Gl X x := by rfl)
    (he : starEach (a :: []) X.env = (false, eval a X.env) :: starEach [] X.env := by rfl) (hpl : (backTo pos (starEach [] X.env)).any (·.1) = false := by rfl) (hdb : (x == ("__debug__" : Str)) = false := by decide) :
    PMk X (.Call (.Name x p) [a] [] pos) (tMkRef C ta) := by
  intro pins s σ H Q I h
  refine wpAny_Call_Name_kw (ld_glob I hg gC ?_ hdb)
  refine PySem.W.callWith_K (h₀ := X.base) I.ok.mod.kin Tc.kC (thn (ha.run pos pins s σ H _ I h) fun us s1 hh => ?_) he hpl
  obtain ⟨vs, H1, I1, r1, v, ev, q1⟩ := hh
  subst ev
  refine ⟨I1.kIn, ?_⟩
  cases r1 with
  | cons rv rn =>
    rename_i v' us'
    cases rn
    show wpAny _ _ (call (.ref C) [v']) _ _ _
    have hlim := I1.nolimit
    obtain ⟨mb, b1, b2⟩ := I1.mod.blt
    have hgl := I1.mod.glob.keeps I1.bk
    have hbl := b1.keeps I1.bk
    obtain ⟨hp, g, dr, tk, os⟩ := s1
    refine wpAny_call (PySem.RefX.ref_made T Tc I1.kIn hlim hgl gS hbl (b2 _ (by decide)) (by have := hr.dp; omega) fun h' tk' e d M => ?_)
    show MkP X pins σ Q (.ref e) ⟨h', g, dr, tk', os⟩
    obtain ⟨oe, fv, hoe, hc, hd, hdat, h1⟩ := M.obj
    have hns := M.ns
    obtain ⟨G', g1, g2⟩ := restrict h' fun b => decide (b ≠ e)
    have gk : ∀ b, b ≠ e → G'.get? b = h'.get? b := fun b hb => g1 b (decide_eq_true hb)
    have ge : G'.get? e = none := g2 e (by simp)
    have old : ∀ b o, hp.get? b = some o → G'.get? b = some o := fun b o q => (gk b (Nat.ne_of_lt (Nat.lt_of_lt_of_le (Heap.lt_size q) M.new))).trans (M.keep b o q)
    have ob : ObjOk X.prog X.w (upd H1 d (.xd [(("what" : Str), v)])) G' d (.xd [(("what" : Str), v)]) :=
      ⟨_, hns.at (fun o q => (gk d M.dne).trans q), fun f => relO_what rv f⟩
    have J : Inv X pins σ (upd H1 d (.xd [(("what" : Str), v)])) ⟨G', g, dr, tk', os⟩ := I1.laid (t' := tk') old M.dbig ob
    refine ⟨e, oe, fv, ⟨G', g, dr, tk', os⟩, _, .ref C, some d, rfl, J, fun b o q => ?_, ge, hoe, ⟨hc, hd⟩, hdat, h1, ?_, rfl, I1.bare, raises_own Tc.exC Tc.tyC, q1 d (I1.hok.fresh M.dbig)⟩
    · by_cases hb : b = e
      · have q' : G'.get? b = some o := q
        rw [hb, ge] at q'; cases q'
      · exact (gk b hb).symm.trans q
    · rw [upd_ne (Ne.symm M.dne)]
      exact I1.hok.fresh M.new
/-- raise C(e) -/
theorem st_raise (T : PySem.RefX.InitTxt X.prog X.K D fI) (Tc : PySem.RefX.ClsTxt X.K D fI C) (gC : X.mg x = some (.ref C)) (gS : X.mg "super" = none) (hc : X.calm = true) (tk : Takes X We) (hr : Rm (k + 1) X.A) (h : HE X a env env1 P) (hg : Gl X x := by rfl)
    (he : starEach (a :: []) X.env = (false, eval a X.env) :: starEach [] X.env := by rfl) (hpl : (backTo pos (starEach [] X.env)).any (·.1) = false := by rfl) (hdb : (x == ("__debug__" : Str)) = false := by decide) :
    HS X We (.Raise (some (.Call (.Name x p) [a] [] pos)) none pos2) env (.er C P env1) :=
  (ps_raise hc tk (pmk_ref T Tc gC gS hr.room (ha_cons h ha_nil he) hg he hpl hdb)).imp fun D' σ H ⟨w, e1, R1, q⟩ => ⟨w, e1, R1, fun vs w' R' l ⟨v, r, e2, h1, e3⟩ => ⟨v, by rw [e2, show r = [] from e3], fun d hd => by
    have h5 := R'.ok.fresh hd
    exact q σ (w'.put d (.xd [("what", v)])) d v (R'.put hd) (l.trans (put_le R'.ok hd)) (l.none hd) upd_same h5.2 h5.1 h1⟩⟩
end
/-! ### expressions that let an own error out -/
def tX (K : PySem.W.Frag) (We : WX) (env env' : List Slot) (c : Addr) (P : VP) : TE := fun σ H _ => ∃ w : Wd, w.H = H ∧ Rep K env σ w ∧ ∀ w' d v, Rep K env' σ w' → Le w w' → w.H d = none → w'.H d = some (.xd [("what", v)]) → w'.O d = none → w'.Hi d = none → P.p K v w'.Hi → We (.ref c) (some d) σ w'.H
abbrev HX (X : Cx) (We : WX) (e : Expr) (env env' : List Slot) (c : Addr) (P : VP) : Prop := PE X e (tX X.K We env env' c P)
section
variable {X : Cx} {We : WX} {env env1 env2 : List Slot} {P R : VP} {a b e : Expr} {es : List Expr} {p pos : Pos} {x : Str} {k : Nat} {ps : List Str} {A : Type} {pre : A → Prop} {ins : A → List Slot} {out : A → FO} {Ps : List VP} {c : Addr} {r : List Stmt}
/-- f(e, ..), the error let out -/
theorem hx_call (D : Def X.prog X.w X.K X.mg X.base x k ps (Spq X.K pre ins out)) (a : A) (hpr : pre a) (hr : Rm k X.A) (tk : Takes X We) (ha : HA X (e :: es) env env1 Ps) (hi : ins a = Ps.map im := by rfl) (ho : out a = .er c P [] := by rfl) (hg : Gl X x := by rfl) (hdb : (x == ("__debug__" : Str)) = false := by decide)
    (hst : starEach (e :: es) X.env = (false, eval e X.env) :: starEach es X.env := by rfl) (hpl : (backTo pos (starEach es X.env)).any (·.1) = false := by rfl) : HX X We (.Call (.Name x p) (e :: es) [] pos) env env1 c P := by
  obtain ⟨f, fd, F, hm, hk, hb⟩ := D.ex
  refine (pe_callG (E := WE We) F hr hg hm hk hb (fun σ => passAt tk σ) ha hdb hst hpl).imp fun σ H Q ⟨w, e1, R1, q⟩ => ⟨w, e1, R1, fun vs w' R' l al => ?_⟩
  refine ⟨⟨a, hpr⟩, w'.in0, rfl, ?_, ?_⟩
  · show Rep _ (ins a) _ _
    rw [hi]
    exact rep_ims (in0_ok R'.ok) al
  · show FO.sat _ _ _ _ (out a)
    rw [ho]
    intro d v w2 ok l2 _ hn h1 h2 h3 h4
    obtain ⟨R3, l3⟩ := out_rep R' ok l2
    have hn' : w'.H d = none := hn
    exact q (w'.out w2) d v R3 (l.trans l3) (l.none hn') h1 ((R'.ok.fresh hn').2) h3 h4
/-- f(k = e, ..) -/
theorem hx_callK0 {kws : List Keyword} {kbs : List (List Str × Nat × List Nat)} {ks : List Str} {js : List Nat} (D : DefK X.prog X.w X.K X.mg X.base x k ps (Spq X.K pre ins out) kbs) (a : A) (hpr : pre a) (hr : Rm k X.A) (tk : Takes X We) (hk : HK X kws env env1 Ps) (hq : (ks, 0, js) ∈ kbs := by simp) (hks : (backToKw pos (keywordEach kws X.env)).filterMap (·.1) = ks := by rfl) (hn : Ps.length = ks.length := by rfl)
    (hi : ins a = (js.map fun j => Ps.getD j (rv ())).map im := by rfl) (ho : out a = .er c P [] := by rfl) (hall : (backToKw pos (keywordEach kws X.env)).all (·.1.isSome) = true := by rfl) (hg : Gl X x := by rfl) (hdb : (x == ("__debug__" : Str)) = false := by decide)
    (hpl : ((backTo pos (starEach [] X.env)).any (·.1) || (backToKw pos (keywordEach kws X.env)).any (·.1.isNone)) = false := by rfl) : HX X We (.Call (.Name x p) [] kws pos) env env1 c P := by
  obtain ⟨f, fd, F, hm, hkp, _, hkb⟩ := D.ex
  have kb := hkb _ hq
  refine ⟨fun pins s σ H Q I ⟨w, e1, R1, q⟩ => ?_⟩
  refine wpAny_Call_Name_kw (ld_glob I hg hm (PySem.W.callWith_KW0 I.kIn hkp hall (thn (hk.run pos pins s σ H (fun zs H1 => ∃ w' : Wd, w'.H = H1 ∧ Rep X.K env1 σ w' ∧ Le w w' ∧ AlP X.K w'.Hi Ps zs) I ⟨w, e1, R1, fun vs w' R' l al => ⟨w', rfl, R', l, al⟩⟩) fun ws s2 ⟨zs, H2, I2, rz, w', e2, R', l, al⟩ => ⟨I2.kIn, ?_⟩) hpl) hdb)
  subst e2
  rw [hks]
  have h1 : zs.length = ks.length := by rw [alP_len al, hn]
  have hsp : Spq X.K pre ins out (js.map fun j => ([] ++ zs).getD j .non) w'.H Q (WE We σ) := by
    refine ⟨⟨a, hpr⟩, w'.in0, rfl, ?_, ?_⟩
    · show Rep _ (ins a) _ _
      rw [hi]
      exact rep_ims (in0_ok R'.ok) (alP_js al js)
    · show FO.sat _ _ _ _ (out a)
      rw [ho]
      intro d v w2 ok l2 _ hn h1 h2 h3 h4
      obtain ⟨R3, l3⟩ := out_rep R' ok l2
      have hn' : w'.H d = none := hn
      exact q (w'.out w2) d v R3 (l.trans l3) (l.none hn') h1 ((R'.ok.fresh hn').2) h3 h4
  refine wpAny_call (codeAny_mono (runG F hr (kb.to s2 [] ws rfl (rz.length.symm.trans h1)) (passAt tk σ) I2 (vals_js (vals_app .nil rz) js) hsp) fun r s' hq => ?_)
  cases r with
  | error e => exact hq
  | ok fl => cases fl <;> first | exact hq | exact hq.elim
/-! where the part that is asked first lets it out -/
theorem hx_cmp {op : CmpOp} {q : R2} (ho : OpR X (compareOp op) q) (h : HX X We a env env1 c P) (hm : behindInMarks op b = false := by first | exact nomark _ | rfl) : HX X We (.Compare a [op] [b] pos) env env1 c P := (pe_cmpR ho h pe_no hm).imp fun σ H Q q => q
theorem hx_op {op : Operator} {q : R2} (ho : OpR X (binaryOp op) q) (h : HX X We a env env1 c P) : HX X We (.BinOp a op b pos) env env1 c P := (pe_op ho h pe_no).imp fun σ H Q q => q
theorem hx_op2 {op : Operator} {q : R2} (ho : OpR X (binaryOp op) q) (ha : HE X a env env1 R) (h : HX X We b env1 env2 c P) : HX X We (.BinOp a op b pos) env env2 c P := (pe_op ho ha h).imp fun σ H Q ⟨w, e1, R1, q⟩ => ⟨w, e1, R1, fun v w' R' l _ => ⟨w', rfl, R', fun w2 d u R2 l2 n => q w2 d u R2 (l.trans l2) (l.none n)⟩⟩
theorem hx_len (h : HX X We e env env1 c P) (hm : X.mg "len" = none) (hg : Gl X "len" := by rfl) (hs : starEach [e] X.env = (false, eval e X.env) :: starEach [] X.env := by rfl) (hpl : (backTo pos (starEach [] X.env)).any (·.1) = false := by rfl) : HX X We (.Call (.Name "len" p) [e] [] pos) env env1 c P :=
  (pe_callB call_len_seq hg hm PySem.boot_len (pa_cons h pa_nil hs) (he := hs) (hpl := hpl)).imp fun σ H Q q => q
theorem st_exprX (h : HX X We e env env1 c P) (hs : swapsWith e none pos.line X.env = pure false := by rfl) : HS X We (.Expr e pos) env (.er c P env1) := (ps_expr h hs).imp fun D σ H ⟨w, e1, R1, q⟩ => ⟨w, e1, R1, fun w' d v R' l n => q σ w' d v R' l n⟩
theorem st_retXX (h : HX X We e env env1 c P) : HS X We (.Return (some e) pos) env (.er c P env1) := (ps_ret h).imp fun D σ H ⟨w, e1, R1, q⟩ => ⟨w, e1, R1, fun w' d v R' l n => q σ w' d v R' l n⟩
theorem st_setX (i : Nat) {y : Str} {pos' : Pos} (h : HX X We e env env1 c P) (hN : X.N.Nodup) (hi : X.N[i]? = some y := by rfl) (hx : Loc X.env.scope y := by first | exact Or.inl rfl | exact Or.inr rfl) (hs : swapsWith e (some (.Name y pos')) pos.line X.env = pure false := by rfl)
    (hf : X.fn y = true ∨ X.env.scope.names.lookup y = some .local := by first | exact .inl rfl | exact .inr rfl | assumption) : HS X We (.Assign [.Name y pos'] e pos) env (.er c P env1) := (ps_set hN hi hx h hs hf).imp fun D σ H ⟨w, e1, R1, q⟩ => ⟨w, e1, R1, fun w' d v R' l n => q σ w' d v R' l n⟩
end
/-! ### except C as e -/
/-- the slot of a caught error: at a, its dict at d, told P -/
def excS (a d : Addr) (P : VP) : Slot := ⟨fun K i s w => s = some (.ref a) ∧ w.O d = some i ∧ ∃ v, w.H d = some (.xd [("what", v)]) ∧ P.p K v w.Hi, fun ⟨e, o, v, h, p⟩ x k _ => ⟨e, (k d o).1, v, ((k d o).2).trans h, P.mono x p⟩⟩
section
variable {X : Cx} {We : WX} {env env1 env2 : List Slot} {P R : VP} {p pos pos' np : Pos} {x n : Str} {c cc : Addr} {body suite : List Stmt} {b₀ : Stmt} {oc oc2 : Oc}
/-- a try whose body lets no error out -/
def Oc.quiet : Oc → Prop
  | .er _ _ _ => False
  | _ => True
theorem hs_try0 (i : Nat) (hs : X.stack = X.env :: X.outer) (hf : X.env.frame = some X.env.locals) (hN : X.N.Nodup) (hi : X.N[i]? = some n) (hln : X.env.kindOf n = some .local) (hc : Names X x (.ref cc)) (tk : Takes X (fun _ _ _ _ => False)) (hq : oc.quiet)
    (hb : ∀ (W : WX) (pn : List (Addr × Obj)) (xe : Value → Shared → Prop), Takes (X.tr pn xe) W → PassesOwn (model X.prog X.w) X.A X.env xe → HSs (X.tr pn xe) W body env oc) :
    HS X We (.Try body [.ExceptHandler (some (.Name x np)) (some n) (b₀ :: suite) pos'] [] [] pos) env oc :=
  (ps_try_as (tb := fun W => tS X.K W env oc) (ts := fun _ _ _ _ _ _ => False) hs hf hN hi hln hc tk hb (fun _ _ _ _ _ _ _ => pss_no)).imp fun D σ H ⟨w, e1, R1, q⟩ => ⟨w, e1, R1, by
    cases oc with
    | er c P e => exact hq.elim
    | nx e => exact q
    | rt P e => exact q
    | bk e => exact q
    | ct e => exact q
    | rl Ps e => exact q⟩
/-- a try whose body lets out an error of c; the clause's class takes it -/
theorem hs_try1 (i : Nat) (hs : X.stack = X.env :: X.outer) (hf : X.env.frame = some X.env.locals) (hN : X.N.Nodup) (hi : X.N[i]? = some n) (hln : X.env.kindOf n = some .local) (hc : Names X x (.ref cc)) (tk : Takes X (fun _ _ _ _ => False)) (hm : PySem.W.exmOne X.K (.ref c) (.ref cc) = some true) (h2 : oc2.out)
    (hq : ∀ c P e, oc2 ≠ .er c P e) (hb : ∀ (W : WX) (pn : List (Addr × Obj)) (xe : Value → Shared → Prop), Takes (X.tr pn xe) W → PassesOwn (model X.prog X.w) X.A X.env xe → HSs (X.tr pn xe) W body env (.er c P env1))
    (hsu : ∀ (a : Addr) (oe : Obj) (d : Addr) (pn : List (Addr × Obj)), Zc (.ref c) (some d) oe → (∃ vs, oe.data = .fields vs) → HSs (X.suite a ((a, oe) :: pn)) We (b₀ :: suite) (env1.set i (excS a d P)) oc2) :
    HS X We (.Try body [.ExceptHandler (some (.Name x np)) (some n) (b₀ :: suite) pos'] [] [] pos) env oc2 :=
  (ps_try_as (tb := fun W => tS X.K W env (.er c P env1)) (ts := fun a cls d D σ H => ∃ dd, cls = .ref c ∧ d = some dd ∧ tS X.K We (env1.set i (excS a dd P)) oc2 D σ H) hs hf hN hi hln hc tk hb (fun a oe cls d pn hz hv => ⟨fun pins s σ H D I ⟨dd, ec, ed, q⟩ => by
    subst ec ed
    exact (hsu a oe dd pn hz hv).run pins s σ H D I q⟩)).imp fun D σ H ⟨w, e1, R1, q⟩ => ⟨w, e1, R1, fun σ' w' d v R' l hn h1 h2 h3 h4 => ⟨true, hm, fun _ a ha => ⟨d, rfl, rfl, by
      have hd : w'.H d ≠ none := fun z => by rw [h1] at z; cases z
      let w2 : Wd := { w' with O := fun b => if b = d then some i else w'.O b }
      have ok2 : w2.Ok := ⟨R'.ok.sub, fun b j hb => by
        by_cases z : b = d
        · subst z
          exact ⟨h3, hd⟩
        · have : (if b = d then some i else w'.O b) = some j := hb
          rw [if_neg z] at this
          exact R'.ok.ho b j this, fun b j hb => by
        by_cases z : b = d
        · subst z
          exact ⟨fun ps z => (by rw [show w2.H b = w'.H b from rfl, h1] at z; cases z), fun f z => (by rw [show w2.H b = w'.H b from rfl, h1] at z; cases z)⟩
        · have : (if b = d then some i else w'.O b) = some j := hb
          rw [if_neg z] at this
          exact R'.ok.pl b j this, R'.ok.tb⟩
      have R2 : Rep X.K env1 σ' w2 := R'.to ok2 (Ex.refl _) (fun b j hb => ⟨by
        show (if b = d then some i else w'.O b) = some j
        rw [if_neg fun z => by rw [z, h2] at hb; cases hb]
        exact hb, rfl⟩) rfl
      have l2 : Le w w2 := ⟨l.hi, fun b o hb hk nt => by
        obtain ⟨g1, g2, g3⟩ := l.kp b o hb hk nt
        have nb : b ≠ d := fun z => by rw [z, hn] at hb; cases hb
        exact ⟨g1, (if_neg nb).trans g2, g3⟩, l.dm, l.pa, l.tx⟩
      refine ⟨w2, rfl, R2.set (s := excS a d P) ⟨rfl, if_pos rfl, v, h1, h4⟩, ?_⟩
      have q' := Oc.sat_le (oc := oc2) l2 q
      cases oc2 with
      | er c P e => exact absurd rfl (hq c P e)
      | rt P e => exact q'
      | rl Ps e => exact q'
      | nx e => exact h2.elim
      | bk e => exact h2.elim
      | ct e => exact h2.elim⟩, fun z => by cases z⟩⟩
end
/-! ### in the suite of a clause: what the error was told, which it is -/
theorem xd_what {X : Cx} {pins : List (Addr × Obj)} {σ : L2.St} {H : Hp} {s : Shared} {a d C : Addr} {oe : Obj} {v : V} {pn : List (Addr × Obj)} (I : Inv (X.suite a ((a, oe) :: pn)) pins σ H s) (hz : Zc (.ref C) (some d) oe) (hf : ∃ vs, oe.data = .fields vs) (ea : H d = some (.xd [("what", v)])) :
    ∃ (od : Obj) (u : Value), PySem.W.InstAt s.heap a oe C (some od) ∧ RelV v u ∧ PySem.W.lookIn "what" od = some (some u) := by
  obtain ⟨ha, _⟩ := I.pin (a, oe) (List.mem_append_left _ List.mem_cons_self)
  obtain ⟨vs, hd⟩ := hf
  have hx : ObjOk X.prog X.w H s.heap d (.xd [(("what" : Str), v)]) := I.hok d _ ea
  obtain ⟨mA, hns, hr⟩ := hx
  obtain ⟨od, ho, hl⟩ := lookIn_ns hns
  have l : List.lookup ("what" : Str) [(("what" : Str), v)] = some v := by simp [List.lookup]
  obtain ⟨u, hu, ru⟩ := RelO.some_of (v := v) (o := mA "what") (by rw [← l]; exact hr "what")
  exact ⟨od, u, ⟨ha, hz.1, by unfold PySem.W.notCls; rw [hd] <;> rfl, by rw [hz.2]; exact ho⟩, ru, by rw [hl, hu]⟩
section
variable {X : Cx} {env env1 : List Slot} {P : VP} {p pos p2 np : Pos} {n T : Str} {a d C D fI : Addr} {oe : Obj} {pn : List (Addr × Obj)}
theorem he_what (i : Nat) (Tc : PySem.RefX.ClsTxt X.K D fI C) (hz : Zc (.ref C) (some d) oe) (hf : ∃ vs, oe.data = .fields vs) (hi : env[i]? = some (excS a d P)) (hN : X.N[i]? = some n := by rfl) (hv : Vis X.env.scope n := by first | exact Or.inl rfl | exact Or.inr (Or.inl rfl) | exact Or.inr (Or.inr rfl))
    (hd : (n == ("__debug__" : Str)) = false := by decide) (hcd : (n == ("__classdict__" : Str)) = false := by decide) (hb : attributeBase (.Name n np) "what" X.env (eval (.Name n np) X.env) = eval (.Name n np) X.env := by rfl) : HE (X.suite a ((a, oe) :: pn)) (.Attribute (.Name n np) "what" pos) env env P := by
  refine ⟨fun pins s σ H Q I ⟨w, e1, R1, q⟩ => ?_⟩
  subst e1
  obtain ⟨x, hx, e2, hO, v, hH, hp⟩ := R1.sl i _ hi
  subst e2
  refine attr_of hb (thn ((pe_var (X := X.suite a ((a, oe) :: pn)) hN hv hd hcd).run pins s σ w.H (fun x H1 => x = .ref a ∧ H1 = w.H) I ⟨.ref a, hx, rfl, rfl⟩) fun u s1 ⟨x, H1, I1, rx, ex, eH⟩ => ?_)
  subst ex eH
  obtain rfl : u = Value.ref a := rx
  obtain ⟨od, u, J, ru, hl⟩ := xd_what I1 hz hf hH
  exact HandSPX.exc_get I1.kIn J Tc.ga Tc.gg Tc.exC (PySem.W.findObj_own Tc.hdC Tc.noN rfl hl) (handed_of ru) ⟨v, w.H, I1.tok _, ru, q v w R1 (Le.refl w) hp⟩
/-- what isinstance asks of such a class -/
structure IsTxt (K : PySem.W.Frag) (C : Addr) : Prop where
  cl : (PySem.W.clsIn K C).isSome = true
  ha : PySem.W.findIn K (.ref C) "__class__" = some (some (.builtin "object.__class__"))
  hn : PySem.W.specialIn K (.builtin "object.__class__") "__get__" = some (some (.builtin "getset_descriptor.__get__"))
  ht : PySem.W.takesIn K (.builtin "object.__class__") = some true
  hm : PySem.W.mroIn K C (.type "object") = some true
/-- isinstance(e, T), T an own class at B or a built-in one -/
theorem he_isiE (i : Nat) {cv : V} {bv : Value} {b : Bool} (Tc : PySem.RefX.ClsTxt X.K D fI C) (It : IsTxt X.K C) (hz : Zc (.ref C) (some d) oe) (hf : ∃ vs, oe.data = .fields vs) (hi : env[i]? = some (excS a d P)) (hT : PE (X.suite a ((a, oe) :: pn)) (.Name T p2) (tC cv)) (hcv : ClsV cv bv) (hk : PySem.W.kitOne X.K (.ref C) bv = some b) (hm : X.mg "isinstance" = none) (hN : X.N[i]? = some n := by rfl) (hv : Vis X.env.scope n := by first | exact Or.inl rfl | exact Or.inr (Or.inl rfl) | exact Or.inr (Or.inr rfl))
    (hd : (n == ("__debug__" : Str)) = false := by decide) (hcd : (n == ("__classdict__" : Str)) = false := by decide) (hg : Gl X "isinstance" := by rfl)
    (hs : starEach [.Name n np, .Name T p2] X.env = (false, eval (.Name n np) X.env) :: starEach [.Name T p2] X.env := by rfl) (hs2 : starEach [.Name T p2] X.env = (false, eval (.Name T p2) X.env) :: starEach [] X.env := by rfl) (hpl : (backTo pos (starEach [.Name T p2] X.env)).any (·.1) = false := by rfl) :
    HE (X.suite a ((a, oe) :: pn)) (.Call (.Name "isinstance" p) [.Name n np, .Name T p2] [] pos) env env (rv b) := by
  have hc : CallR (X.suite a ((a, oe) :: pn)) (.builtin "isinstance") (fun xs H Q => ∃ v, xs = [.ref a, cv] ∧ H d = some (.xd [("what", v)]) ∧ Q (.bl b) H) := by
    intro pins s σ H xs us Q I r ⟨v, e1, hH, q⟩
    subst e1
    obtain ⟨u1, u2, rfl, r1, r2⟩ := vals2 r
    have e2 := hcv.eq r2
    subst e2
    obtain rfl : u1 = Value.ref a := r1
    obtain ⟨od, u, J, _, _⟩ := xd_what I hz hf hH
    exact PySem.W.kia_one (PySem.W.kitx_exc It.cl Tc.ga Tc.gg Tc.exC It.ha It.hn It.ht It.hm) I.kIn J hk (fun z => nomatch z) fun tk => ⟨.bl b, H, I.kept (t' := tk) fun _ _ z => z, rfl, q⟩
  refine ⟨fun pins s σ H Q I ⟨w, e1, R1, q⟩ => ?_⟩
  subst e1
  obtain ⟨x, hx, e2, hO, v, hH, hp⟩ := R1.sl i _ hi
  subst e2
  exact (pe_callB (X := X.suite a ((a, oe) :: pn)) hc hg hm (by decide +kernel) (pa_cons (pe_var hN hv hd hcd) (pa_cons hT pa_nil hs2) hs) (he := hs) (hpl := hpl)).run pins s σ w.H Q I ⟨.ref a, hx, v, rfl, hH, q _ w R1 (Le.refl w) rfl⟩
end
/-! ### repr of data -/
def rReprD (K : PySem.W.Frag) : List V → Hp → VK → Prop := fun xs H Q => ∃ v d, xs = [v] ∧ Dp K H v d ∧ d.showable = true ∧ d.hasDict = false ∧ d.depth ≤ 64 ∧ d.shown.length ≤ sizeLine ∧ Q (.str d.shown) H
theorem call_reprD {X : Cx} {k : Nat} (hr : Rm k X.A) : CallR X (.builtin "repr") (rReprD X.K) := by
  intro pins s σ H xs us Q I r ⟨v, d, e1, hd, hs, hn, hdp, hz, q⟩
  subst e1
  obtain ⟨u, rfl, r1⟩ := vals1 r
  obtain ⟨as, rd⟩ := Dp.reads I d v u hd r1
  have hu : X.A.units + (d.depth + 1) < cLine := by
    have := hr.room.un
    omega
  have big : ∀ a, u = Value.ref a → wpAny (model X.prog X.w) X.A (call (.builtin "repr") [u]) (EP X pins σ Q) X.xe s := fun a ea => by
    subst ea
    exact repr_of_reads' rd hs (fun z => by rw [hn] at z; cases z) hr.gd hu (fun _ _ e => e) (fun h' t tk hk => ⟨.str d.shown, H, I.kept (t' := tk) hk, ⟨_, rfl⟩, q⟩) hz
  cases hd with
  | non => cases (show u = Value.none from r1); exact PySem.P.repr_of_none ⟨.str _, H, I.tok _, ⟨_, rfl⟩, q⟩
  | bl b =>
    cases (show u = Value.bool b from r1)
    cases b with
    | true => exact PySem.P.repr_of_bool ⟨.str _, H, I.tok _, ⟨_, rfl⟩, q⟩
    | false => exact PySem.P.repr_of_bool ⟨.str _, H, I.tok _, ⟨_, rfl⟩, q⟩
  | int i =>
    obtain ⟨t, rfl⟩ := (show ∃ t, u = Value.int i t from r1)
    exact PySem.P.repr_of_int (of_decide_eq_true hs) ⟨.str _, H, I.tok _, ⟨_, rfl⟩, q⟩
  | str x =>
    obtain ⟨t, rfl⟩ := (show ∃ t, u = Value.str x t from r1)
    exact PySem.P.repr_of_str ⟨.str _, H, I.tok _, ⟨_, rfl⟩, q⟩ hz
  | lst h1 h2 => exact big _ r1
  | tup h1 h2 => exact big _ r1
section
variable {X : Cx} {We : WX} {env env1 : List Slot} {e tg iter : Expr} {body r : List Stmt} {p pos : Pos} {k : Nat} {oc : Oc} {S : Type}
/-- data that repr shows -/
structure Shw (d : PyData) : Prop where
  ok : d.showable = true
  nd : d.hasDict = false
  dp : d.depth ≤ 64
  sz : d.shown.length ≤ sizeLine
theorem he_reprD {α : Type} [Rp α] [Da α] {x : α} (hr : Rm k X.A) (h : HE X e env env1 (rv x)) (hs : Shw (Da.da x)) (hm : X.mg "repr" = none) (hg : Gl X "repr" := by rfl) (hst : starEach [e] X.env = (false, eval e X.env) :: starEach [] X.env := by rfl) (hpl : (backTo pos (starEach [] X.env)).any (·.1) = false := by rfl) :
    HE X (.Call (.Name "repr" p) [e] [] pos) env env1 (rv (Da.da x).shown) :=
  (pe_callB (call_reprD hr) hg hm (by decide +kernel) (pa_cons h pa_nil hst) (he := hst) (hpl := hpl)).imp fun σ H Q ⟨w, e1, R1, q⟩ => ⟨w, e1, R1, fun v w' R' l pv =>
    ⟨v, _, rfl, dp_mono R'.ok.sub (Da.dp pv), hs.ok, hs.nd, hs.dp, hs.sz, q _ w' R' l rfl⟩⟩
/-- a for whose turns go on, or leave -/
theorem hs_forG {α : Type} [Rp α] (xs : List α) (en : S → List Slot) (I : Nat → S → Prop) (s0 : S) (hp : PassesOwn (model X.prog X.w) X.A X.env X.xe) (hc : X.calm = true) (hi : HI X tg iter env (en s0) (rvs xs)) (h0 : I 0 s0)
    (step : ∀ i x s, xs[i]? = some x → I i s → (∃ e1 is s', HG X tg (rv x) (en s) e1 is ∧ HSs X We body e1 (.nx (en s')) ∧ I (i + 1) s') ∨ ∃ e1 is, HG X tg (rv x) (en s) e1 is ∧ HSs X We body e1 oc ∧ oc.out) (rest : ∀ s, I xs.length s → HSs X We r (en s) oc)
    (hs : ∀ x, foldedSetIterable iter X.env x = pure x := by intro _; rfl) : HSs X We (.For tg iter body [] pos :: r) env oc := by
  have key : ∀ (ys : List α) (k : Nat) (s : S), I k s → (∀ i, ys[i]? = xs[k + i]?) → (∃ s', I (k + ys.length) s' ∧ Lp X We tg body (rvs ys) (en s) (.nx (en s'))) ∨ (oc.out ∧ Lp X We tg body (rvs ys) (en s) oc) := by
    intro ys
    induction ys with
    | nil => exact fun k s h _ => .inl ⟨s, h, .nil⟩
    | cons y ys ih =>
      intro k s h hy
      rcases step k y s (by have := hy 0; simpa using this.symm) h with ⟨e1, is, s1, h1, h2, h3⟩ | ⟨e1, is, h1, h2, h3⟩
      · have hz : ∀ i, ys[i]? = xs[k + 1 + i]? := fun i => by
          have := hy (i + 1)
          rw [show k + (i + 1) = k + 1 + i by omega] at this
          simpa using this
        rcases ih (k + 1) s1 h3 hz with ⟨s2, h4, h5⟩ | ⟨h4, h5⟩
        · exact .inl ⟨s2, by rw [List.length_cons, show k + (ys.length + 1) = k + 1 + ys.length by omega]; exact h4, .cons h1 h2 h5⟩
        · exact .inr ⟨h4, .cons h1 h2 h5⟩
      · exact .inr ⟨h3, .exit h1 h2 h3⟩
  rcases key xs 0 s0 h0 (fun i => by rw [Nat.zero_add]) with ⟨s', h1, h2⟩ | ⟨h1, h2⟩
  · rw [Nat.zero_add] at h1
    exact hs_cons (st_for hp hc hi h2 hs) (rest s' h1)
  · refine hs_end (st_for hp hc hi h2 hs) ?_
    cases oc with
    | nx e => exact h1.elim
    | rt P e => exact trivial
    | bk e => exact h1.elim
    | ct e => exact h1.elim
    | er c P e => exact trivial
    | rl Ps e => exact trivial
end
/-! ### in, not in, of whole numbers in a tuple or a list -/
theorem ints_of {K : PySem.W.Frag} {H : Hp} : ∀ {xs : List Int} {vs : List V}, Al Int K H xs vs → vs = xs.map V.int
  | [], _, h => h
  | x :: xs, _, ⟨v, r, e1, h1, h2⟩ => by rw [e1, show v = .int x from h1, ints_of h2]; rfl
theorem flat_ints : ∀ xs : List Int, (xs.map V.int).all flatV = true
  | [] => rfl
  | x :: xs => by rw [List.map_cons, List.all_cons, flat_ints xs]; rfl
theorem inV_ints (x : Int) : ∀ xs : List Int, inV (.int x) (xs.map V.int) = decide (x ∈ xs)
  | [] => by simp [inV]
  | y :: ys => by
    have ih : ((ys.map V.int).any fun y => eqV y (.int x)) = decide (x ∈ ys) := inV_ints x ys
    show (eqV (.int y) (.int x) || (ys.map V.int).any fun y => eqV y (.int x)) = _
    have e : eqV (.int y) (.int x) = (y == x) := rfl
    rw [e, ih]
    by_cases h : x = y
    · subst h
      simp
    · have h' : ¬ y = x := fun z => h z.symm
      simp [h, h']
section
variable {X : Cx} {env env1 env2 : List Slot} {P : VP} {a b e : Expr} {p pos p2 : Pos} {x : Int} {xs : List Int}
theorem ov_in (neg : Bool) (sq : Sq Int xs P) : OpV X (rIn X.K neg) (rv x) P (rv (if neg then !decide (x ∈ xs) else decide (x ∈ xs))) := fun env σ u v w R1 hx hy Q q => by
  obtain ⟨t, vs, e1, h1, h2⟩ := sq _ _ _ hy
  have e3 := ints_of h2
  subst e3
  refine ⟨t, _, e1, h1.imp (Ex.l R1.ok.sub) (Ex.t R1.ok.sub), by rw [show u = .int x from hx]; rfl, flat_ints xs, ?_⟩
  rw [show u = .int x from hx, inV_ints]
  exact q _ w R1 (Le.refl w) rfl
theorem hb_in (ha : HE X a env env1 (rv x)) (hb : HE X b env1 env2 P) (sq : Sq Int xs P) (hm : behindInMarks .In b = false := by rfl) : HB X (.Compare a [.In] [b] pos) env env2 (decide (x ∈ xs)) := hb_cmp op_in_seq (ov_in false sq) hm ha hb
theorem hb_notin (ha : HE X a env env1 (rv x)) (hb : HE X b env1 env2 P) (sq : Sq Int xs P) (hm : behindInMarks .NotIn b = false := by rfl) : HB X (.Compare a [.NotIn] [b] pos) env env2 (!decide (x ∈ xs)) := hb_cmp op_notIn_seq (ov_in true sq) hm ha hb
/-- isinstance(i, T), i a whole number, T a built-in type -/
theorem he_isiI {T : Str} {T' : String} {c : Bool} (hv : bootBuiltins T = some (.type T')) (hc : kitB "int" T' = some c) (ha : HE X a env env1 (rv x)) (hm : X.mg "isinstance" = none) (hm2 : X.mg T = none) (hn : T ≠ "__name__" := by decide) (hdb : (T == ("__debug__" : Str)) = false := by decide) (hg : Gl X "isinstance" := by rfl) (hg2 : Gl X T := by rfl)
    (hs : starEach [a, .Name T p2] X.env = (false, eval a X.env) :: starEach [.Name T p2] X.env := by rfl) (hs2 : starEach [.Name T p2] X.env = (false, eval (.Name T p2) X.env) :: starEach [] X.env := by rfl)
    (hpl : (backTo pos (starEach [.Name T p2] X.env)).any (·.1) = false := by rfl) : HE X (.Call (.Name "isinstance" p) [a, .Name T p2] [] pos) env env1 (rv c) :=
  (pe_callB call_isi hg hm (by decide +kernel) (pa_cons ha (pa_cons (pe_bltn (v := .ty T') hg2 hm2 hv rfl hn hdb) pa_nil hs2) hs) (he := hs) (hpl := hpl)).imp fun σ H Q ⟨w, e1, R1, q⟩ => ⟨w, e1, R1, fun v w' R' l hv =>
    ⟨v, .ty T', _, _, c, rfl, .ty T', by rw [show v = .int x from hv]; exact .base (.int x), kit_ty hc, q _ w' R' l rfl⟩⟩
end
/-! ### the class Table: its __init__ -/
def tbI (q1 q2 q3 q4 q5 q6 q7 q8 : Pos) : List Stmt := [.Assign [.Attribute (.Name "self" q1) "many" q2] (.Name "many" q3) q4, .Assign [.Attribute (.Name "self" q5) "beside" q6] (.Name "beside" q7) q8]
def tbA (p1 p2 p3 : Pos) : Arguments := { posonlyargs := [], args := [{ arg := "self", annotation := none, pos := p1 }, { arg := "many", annotation := none, pos := p2 }, { arg := "beside", annotation := none, pos := p3 }], vararg := none, kwonlyargs := [], kw_defaults := [], kwarg := none, defaults := [] }
theorem ok_tbl {P : Program} {w : World} {K : PySem.W.Frag} {mg : Str → Option Value} {base : Heap} {f : Addr} {fd : FuncData} {qual : Str} {st : Stmt} {q1 q2 q3 q4 q5 q6 q7 q8 : Pos} (F : Fun K "__init__" qual st f fd) (S : FnScope ["self", "many", "beside"] ["self", "many", "beside"] (defScope st)) (hB : defBody st = tbI q1 q2 q3 q4 q5 q6 q7 q8)
    (hx1 : ∀ n : Str, n ∈ (["self", "many", "beside"] : List Str) → (defScope st).names.lookup n = some .local) : FnOk P w K mg base CX0 1 f fd ["self", "many", "beside"] (spRec K tbF) := by
  refine F.ok S (fun vs H Q E h => ?_) (fun cdv A outer s H vs Q E hr h => ?_)
  · obtain ⟨p, C, dx, us, rfl, hl, _⟩ := h
    rw [List.length_cons, hl]
    rfl
  · obtain ⟨p, C, dx, us, rfl, hl, hp, rc, k⟩ := h
    match us, hl with
    | [u, v], _ =>
      rw [hB]
      have vis : ∀ n : Str, n ∈ (["self", "many", "beside"] : List Str) → Vis (cxOf CX0 P w K mg base ["self", "many", "beside"] qual (defScope st) f cdv A outer s H E).nox.env.scope n := fun n hn => .inl (hx1 n hn)
      refine ⟨_, pss_cons (ps_fld (pe_var (i := 0) rfl (vis _ (by decide)) (by decide) (by decide)) (pe_var (i := 1) rfl (vis _ (by decide)) (by decide) (by decide)) rfl) (pss_one (ps_fld (pe_var (i := 0) rfl (vis _ (by decide)) (by decide) (by decide)) (pe_var (i := 2) rfl (vis _ (by decide)) (by decide) (by decide)) rfl)), ?_⟩
      refine ⟨_, rfl, _, rfl, p, C, dx, [], rfl, hp, rc.cl, rc.no _ (by decide), (by show 0 < 1000; decide), _, rfl, _, rfl, p, C, dx, _, rfl, upd_same, rc.cl, rc.no _ (by decide), (by show 1 < 1000; decide), ?_⟩
      refine k _ (putF "beside" v (putF "many" u [])) (fun b hb => by rw [upd_ne hb, upd_ne hb]) upd_same fun i f hf => ?_
      have ne : ¬ (("many" : Str) = "beside") := by decide +kernel
      have ne2 : ¬ (("beside" : Str) = "many") := by decide +kernel
      match i with
      | 0 =>
        have hf : some ("many" : Str) = some f := hf
        cases hf
        rw [lookup_putF, if_neg ne, lookup_putF, if_pos rfl]
        rfl
      | 1 =>
        have hf : some ("beside" : Str) = some f := hf
        cases hf
        rw [lookup_putF, if_pos rfl]
        rfl
      | i + 2 => simp [tbF] at hf
/-- the class Table is there to be called -/
structure TabD (P : Program) (w : World) (K : PySem.W.Frag) (mg : Str → Option Value) (base : Heap) : Prop where
  ex : ∃ (C fI : Addr) (fd : FuncData), Mk K C fI ∧ FnOk P w K mg base CX0 1 fI fd ["self", "many", "beside"] (spRec K tbF) ∧ RC K C tbF ∧ mg "Table" = some (.ref C) ∧ Binds K fd ["self", "many", "beside"] []
theorem he_table {X : Cx} {env env1 env2 : List Slot} {a b : Expr} {p pos : Pos} {m : Int} {bs : List (List Int)} {j : Nat} (T : TabD X.prog X.w X.K X.mg X.base) (hr : Rm j X.A) (hj : 2 ≤ j) (ha : HE X a env env1 (rv m)) (hb : HE X b env1 env2 (rv bs)) (hg : Gl X "Table" := by rfl)
    (he : starEach [a, b] X.env = (false, eval a X.env) :: starEach [b] X.env := by rfl) (he2 : starEach [b] X.env = (false, eval b X.env) :: starEach [] X.env := by rfl) (hpl : (backTo pos (starEach [b] X.env)).any (·.1) = false := by rfl) : HE X (.Call (.Name "Table" p) [a, b] [] pos) env env2 (rv (Tbl.mk m bs)) := by
  obtain ⟨C, fI, fd, M, F, rc, hm, hb'⟩ := T.ex
  exact he_to (he_new M F rc hm hb' hr hj (ha_cons ha (ha_cons hb ha_nil he2) he) rfl hg (by decide) he hpl) fun _ _ _ q => q
end BC

/-! Readings that are reckoned: a text's meaning as a plain function over plain data. -/
namespace BC
open PySem PySem.Spec PyProof.Rows L2
variable [TabL]
inductive D where
  | int (i : Int)
  | bl (b : Bool)
  | non
  | str (s : Str)
  | tup (xs : List D)
  | lst (xs : List D)
  | lsr (xs : List D)
  | ob (c : Str) (fn : List Str) (xs : List D)
deriving Inhabited
mutual
def D.rp (K : PySem.W.Frag) : D → V → Hp → Prop
  | .int i, v, _ => v = .int i
  | .bl b, v, _ => v = .bl b
  | .non, v, _ => v = .non
  | .str s, v, _ => v = .str s
  | .tup xs, v, H => ∃ a vs, v = .ref a ∧ SqT K H a vs ∧ D.rpL K xs vs H
  | .lst xs, v, H => ∃ a vs, v = .ref a ∧ H a = some (.lst vs) ∧ D.rpL K xs vs H
  | .lsr xs, v, H => ∃ a vs, v = .ref a ∧ SqL K H a vs ∧ D.rpL K xs vs H
  | .ob c fn xs, v, H => ∃ a C dx fs us, PySem.W.nsIn K mainGlobals c = some (some (.ref C)) ∧ v = .ref a ∧ H a = some (.ins C dx fs) ∧ RC K C fn ∧ D.rpL K xs us H ∧ ∀ (i : Nat) (f : Str), fn[i]? = some f → fs.lookup f = us[i]?
def D.rpL (K : PySem.W.Frag) : List D → List V → Hp → Prop
  | [], vs, _ => vs = []
  | x :: xs, vs, H => ∃ v r, vs = v :: r ∧ D.rp K x v H ∧ D.rpL K xs r H
end
mutual
theorem D.mono {K : PySem.W.Frag} {H H' : Hp} (e : Ex H H') : ∀ {x : D} {v : V}, D.rp K x v H → D.rp K x v H'
  | .int _, _, h => h
  | .bl _, _, h => h
  | .non, _, h => h
  | .str _, _, h => h
  | .tup xs, _, ⟨a, vs, h1, h2, h3⟩ => ⟨a, vs, h1, e.t h2, D.monoL e h3⟩
  | .lst xs, _, ⟨a, vs, h1, h2, h3⟩ => ⟨a, vs, h1, e _ _ h2, D.monoL e h3⟩
  | .lsr xs, _, ⟨a, vs, h1, h2, h3⟩ => ⟨a, vs, h1, e.l h2, D.monoL e h3⟩
  | .ob c fn xs, _, ⟨a, C, dx, fs, us, h0, h1, h2, h3, h4, h5⟩ => ⟨a, C, dx, fs, us, h0, h1, e _ _ h2, h3, D.monoL e h4, h5⟩
theorem D.monoL {K : PySem.W.Frag} {H H' : Hp} (e : Ex H H') : ∀ {xs : List D} {vs : List V}, D.rpL K xs vs H → D.rpL K xs vs H'
  | [], _, h => h
  | x :: xs, _, ⟨v, r, h1, h2, h3⟩ => ⟨v, r, h1, D.mono e h2, D.monoL e h3⟩
end
instance : Rp D := ⟨fun K x v H => D.rp K x v H, fun e h => D.mono e h⟩
theorem rpL_al {K : PySem.W.Frag} {H : Hp} : ∀ {xs : List D} {vs : List V}, D.rpL K xs vs H ↔ Al D K H xs vs
  | [], _ => Iff.rfl
  | x :: xs, _ => ⟨fun ⟨v, r, h1, h2, h3⟩ => ⟨v, r, h1, h2, rpL_al.mp h3⟩, fun ⟨v, r, h1, h2, h3⟩ => ⟨v, r, h1, h2, rpL_al.mpr h3⟩⟩
theorem VP.eq {P Q : VP} (h : ∀ K v H, P.p K v H ↔ Q.p K v H) : P = Q := by
  obtain ⟨p, m⟩ := P
  obtain ⟨q, n⟩ := Q
  have e : p = q := funext fun K => funext fun v => funext fun H => propext (h K v H)
  subst e
  rfl
theorem rv_int (i : Int) : rv (D.int i) = rv i := rfl
theorem rv_bl (i : Bool) : rv (D.bl i) = rv i := rfl
theorem rv_non : rv D.non = rv () := rfl
theorem rv_str (i : Str) : rv (D.str i) = rv i := rfl
theorem rv_tup (xs : List D) : rv (D.tup xs) = rv xs := VP.eq fun K v H => ⟨fun ⟨a, vs, h1, h2, h3⟩ => ⟨a, vs, h1, h2, rpL_al.mp h3⟩, fun ⟨a, vs, h1, h2, h3⟩ => ⟨a, vs, h1, h2, rpL_al.mpr h3⟩⟩
theorem rv_lst (xs : List D) : rv (D.lst xs) = rv (Lst.mk xs) := VP.eq fun K v H => ⟨fun ⟨a, vs, h1, h2, h3⟩ => ⟨a, vs, h1, h2, rpL_al.mp h3⟩, fun ⟨a, vs, h1, h2, h3⟩ => ⟨a, vs, h1, h2, rpL_al.mpr h3⟩⟩
theorem rv_lsr (xs : List D) : rv (D.lsr xs) = rv (Lsr.mk xs) := VP.eq fun K v H => ⟨fun ⟨a, vs, h1, h2, h3⟩ => ⟨a, vs, h1, h2, rpL_al.mp h3⟩, fun ⟨a, vs, h1, h2, h3⟩ => ⟨a, vs, h1, h2, rpL_al.mpr h3⟩⟩
/-- what a sequence holds -/
def D.seq? : D → Option (List D)
  | .tup xs => some xs
  | .lst xs => some xs
  | .lsr xs => some xs
  | _ => none
theorem sq_seq {d : D} {xs : List D} (h : d.seq? = some xs) : Sq D xs (rv d) := by
  cases d with
  | tup ys => cases h; rw [rv_tup]; exact sq_tup
  | lst ys => cases h; rw [rv_lst]; exact sq_lst
  | lsr ys => cases h; rw [rv_lsr]; exact sq_lsr
  | _ => cases h

/-! ### lists of lists that grow -/
def Al2 (K : PySem.W.Frag) (i : Nat) (w : Wd) : List Addr → List (List D) → Prop
  | [], [] => True
  | b :: bs, xs :: xss => w.O b = some i ∧ (∃ vs, w.H b = some (.lst vs) ∧ Al D K w.Hi xs vs) ∧ Al2 K i w bs xss
  | _, _ => False
theorem Al2.mono {K : PySem.W.Frag} {i : Nat} {w w' : Wd} (x : Ex w.Hi w'.Hi) (k : ∀ a, w.O a = some i → w'.O a = some i ∧ w'.H a = w.H a) : ∀ {bs : List Addr} {xss : List (List D)}, Al2 K i w bs xss → Al2 K i w' bs xss
  | [], [], _ => trivial
  | b :: bs, xs :: xss, ⟨h1, ⟨vs, h2, h3⟩, h4⟩ => ⟨(k b h1).1, ⟨vs, (k b h1).2.trans h2, h3.mono x⟩, Al2.mono x k h4⟩
  | [], _ :: _, h => h.elim
  | _ :: _, [], h => h.elim
theorem Al2.len {K : PySem.W.Frag} {i : Nat} {w : Wd} : ∀ {bs : List Addr} {xss : List (List D)}, Al2 K i w bs xss → bs.length = xss.length
  | [], [], _ => rfl
  | b :: bs, xs :: xss, ⟨h1, _, h4⟩ => by rw [List.length_cons, List.length_cons, Al2.len h4]
  | [], _ :: _, h => h.elim
  | _ :: _, [], h => h.elim
theorem Al2.get {K : PySem.W.Frag} {i : Nat} {w : Wd} : ∀ {bs : List Addr} {xss : List (List D)} {j : Nat} {xs : List D}, Al2 K i w bs xss → xss[j]? = some xs → ∃ b vs, bs[j]? = some b ∧ w.O b = some i ∧ w.H b = some (.lst vs) ∧ Al D K w.Hi xs vs
  | [], [], _, _, _, h => by simp at h
  | b :: bs, ys :: xss, 0, xs, ⟨h1, ⟨vs, h2, h3⟩, h4⟩, h => by
    simp at h
    subst h
    exact ⟨b, vs, rfl, h1, h2, h3⟩
  | b :: bs, ys :: xss, j + 1, xs, ⟨h1, _, h4⟩, h => by
    obtain ⟨c, vs, e1, e2, e3, e4⟩ := Al2.get (j := j) (xs := xs) h4 (by simpa using h)
    exact ⟨c, vs, by simpa using e1, e2, e3, e4⟩
  | [], _ :: _, _, _, h, _ => h.elim
  | _ :: _, [], _, _, h, _ => h.elim
theorem Al2.mem {K : PySem.W.Frag} {i : Nat} {w : Wd} : ∀ {bs : List Addr} {xss : List (List D)}, Al2 K i w bs xss → ∀ b ∈ bs, w.O b = some i ∧ ∃ vs, w.H b = some (.lst vs)
  | [], [], _, b, hb => by simp at hb
  | c :: bs, xs :: xss, ⟨h1, ⟨vs, h2, h3⟩, h4⟩, b, hb => by
    rcases List.mem_cons.mp hb with rfl | hb
    · exact ⟨h1, vs, h2⟩
    · exact Al2.mem h4 b hb
  | [], _ :: _, h, _, _ => h.elim
  | _ :: _, [], h, _, _ => h.elim
/-- one of them changed -/
theorem Al2.wr {K : PySem.W.Frag} {i : Nat} {w : Wd} {c : Addr} {us : List V} {ys : List D} (hc : w.O c = some i) (al : Al D K w.Hi ys us) : ∀ {bs : List Addr} {xss : List (List D)} {j : Nat}, Al2 K i w bs xss → bs.Nodup → bs[j]? = some c → Al2 K i (w.wr c (.lst us)) bs (xss.set j ys)
  | [], [], _, _, _, h => by simp at h
  | b :: bs, zs :: xss, 0, ⟨h1, ⟨vs, h2, h3⟩, h4⟩, nd, h => by
    simp at h
    subst h
    rw [List.nodup_cons] at nd
    refine ⟨h1, ⟨us, upd_same, al⟩, ?_⟩
    refine Al2.only (w := w) (w' := w.wr b (.lst us)) (hO := rfl) (hHi := rfl) h4 fun d hd => upd_ne fun z => ?_
    subst z
    exact nd.1 hd
  | b :: bs, zs :: xss, j + 1, ⟨h1, ⟨vs, h2, h3⟩, h4⟩, nd, h => by
    rw [List.nodup_cons] at nd
    have hcb : c ∈ bs := List.mem_of_getElem? (by simpa using h)
    refine ⟨h1, ⟨vs, (upd_ne fun z => by subst z; exact nd.1 hcb).trans h2, h3⟩, Al2.wr hc al h4 nd.2 (by simpa using h)⟩
  | [], _ :: _, _, h, _, _ => h.elim
  | _ :: _, [], _, h, _, _ => h.elim
where
  Al2.only {K : PySem.W.Frag} {i : Nat} {w w' : Wd} {hO : w'.O = w.O} {hHi : w'.Hi = w.Hi} : ∀ {bs : List Addr} {xss : List (List D)}, Al2 K i w bs xss → (∀ d ∈ bs, w'.H d = w.H d) → Al2 K i w' bs xss
    | [], [], _, _ => trivial
    | b :: bs, xs :: xss, ⟨h1, ⟨vs, h2, h3⟩, h4⟩, k => ⟨by rw [hO]; exact h1, ⟨vs, (k b List.mem_cons_self).trans h2, by rw [hHi]; exact h3⟩, Al2.only (hO := hO) (hHi := hHi) h4 fun d hd => k d (List.mem_cons_of_mem _ hd)⟩
    | [], _ :: _, h, _ => h.elim
    | _ :: _, [], h, _ => h.elim
def own2 (xss : List (List D)) : Slot := ⟨fun K i s w => ∃ a ads, s = some (.ref a) ∧ w.O a = some i ∧ w.H a = some (.lst (ads.map V.ref)) ∧ a ∉ ads ∧ ads.Nodup ∧ Al2 K i w ads xss,
  by
  rintro K i s w w' ⟨a, ads, e, o, h, n1, n2, l⟩ x k _
  exact ⟨a, ads, e, (k a o).1, (k a o).2.trans h, n1, n2, Al2.mono x k l⟩⟩

/-! ### slots, results -/
inductive SV where
  | un
  | im (d : D)
  | own (xs : List D)
  | own2 (xss : List (List D))
  | par (xs : List D)
  | exc (c : Str) (d : D)
  | fn
deriving Inhabited
abbrev PE' := List SV
/-- the error that is being handled: where it stands, its own dict, its class -/
structure Xa where
  a : Addr
  d : Addr
  c : Str
  fs : Slot
def excC (xa : Xa) (c : Str) (P : VP) : Slot := ⟨fun K i s w => xa.c = c ∧ (excS xa.a xa.d P).p K i s w, fun ⟨e, h⟩ x k z => ⟨e, (excS xa.a xa.d P).mono h x k z⟩⟩
def SV.sl (xa : Xa) : SV → Slot
  | .un => BC.un
  | .im d => BC.im (rv d)
  | .own xs => BC.own xs
  | .own2 xss => BC.own2 xss
  | .par xs => BC.par xs
  | .exc c d => excC xa c (rv d)
  | .fn => xa.fs
def S (xa : Xa) (ρ : PE') : List Slot := ρ.map (SV.sl xa)
theorem S_get {xa : Xa} {ρ : PE'} {i : Nat} {s : SV} (h : ρ[i]? = some s) : (S xa ρ)[i]? = some (s.sl xa) := by
  unfold S
  rw [List.getElem?_map, h]
  rfl
theorem S_set {xa : Xa} {ρ : PE'} {i : Nat} {s : SV} : (S xa ρ).set i (s.sl xa) = S xa (ρ.set i s) := by
  unfold S
  rw [List.map_set]
theorem S_len {xa : Xa} {ρ : PE'} : (S xa ρ).length = ρ.length := by
  unfold S
  rw [List.length_map]
/-- what has come of it: a value and the slots behind; an error of a class, told a thing -/
inductive Rs (α : Type) where
  | ok (x : α) (ρ : PE')
  | er (c : Str) (d : D) (ρ : PE')
abbrev Cp (α : Type) := PE' → Option (Rs α)
def bd {α β : Type} (o : Option (Rs α)) (f : α → PE' → Option (Rs β)) : Option (Rs β) := match o with
  | some (.ok x ρ) => f x ρ
  | some (.er c d ρ) => some (.er c d ρ)
  | none => none
@[simp] theorem bd_ok {α β : Type} {x : α} {ρ : PE'} {f : α → PE' → Option (Rs β)} : bd (some (.ok x ρ)) f = f x ρ := rfl
@[simp] theorem bd_er {α β : Type} {c : Str} {d : D} {ρ : PE'} {f : α → PE' → Option (Rs β)} : bd (some (.er c d ρ)) f = some (.er c d ρ) := rfl
@[simp] theorem bd_none {α β : Type} {f : α → PE' → Option (Rs β)} : bd none f = none := rfl
theorem bd_some {α β : Type} {o : Option (Rs α)} {f : α → PE' → Option (Rs β)} {r : Rs β} (h : bd o f = some r) : (∃ x ρ, o = some (.ok x ρ) ∧ f x ρ = some r) ∨ ∃ c d ρ, o = some (.er c d ρ) ∧ r = .er c d ρ := by
  match o with
  | some (.ok x ρ) => exact .inl ⟨x, ρ, rfl, h⟩
  | some (.er c d ρ) => exact .inr ⟨c, d, ρ, rfl, by cases h; rfl⟩
  | none => cases h
/-- a result lifted -/
def lf {α : Type} (o : Option α) (ρ : PE') : Option (Rs α) := match o with
  | some x => some (.ok x ρ)
  | none => none
@[simp] theorem lf_some {α : Type} {x : α} {ρ : PE'} : lf (some x) ρ = some (.ok x ρ) := rfl
@[simp] theorem lf_none {α : Type} {ρ : PE'} : lf (none : Option α) ρ = none := rfl
theorem lf_ok {α : Type} {o : Option α} {ρ : PE'} {r : Rs α} (h : lf o ρ = some r) : ∃ x, o = some x ∧ r = .ok x ρ := by
  cases o with
  | none => cases h
  | some x => exact ⟨x, rfl, by cases h; rfl⟩
def cK (K : PySem.W.Frag) (c : Str) : Addr := match PySem.W.nsIn K mainGlobals c with
  | some (some (.ref a)) => a
  | _ => 0
theorem cK_of {K : PySem.W.Frag} {c : Str} {a : Addr} (h : PySem.W.nsIn K mainGlobals c = some (some (.ref a))) : cK K c = a := by
  unfold cK
  rw [h]
/-- an error let out, for any reading -/
def tXX {β : Type} (K : PySem.W.Frag) (We : WX) (env env' : List Slot) (c : Addr) (P : VP) : L2.St → Hp → β → Prop := fun σ H _ => ∃ w : Wd, w.H = H ∧ Rep K env σ w ∧ ∀ w' d v, Rep K env' σ w' → Le w w' → w.H d = none → w'.H d = some (.xd [("what", v)]) → w'.O d = none → w'.Hi d = none → P.p K v w'.Hi → We (.ref c) (some d) σ w'.H
section
variable {X : Cx} {We : WX} {xa : Xa}
def tR (X : Cx) (We : WX) (xa : Xa) (env : List Slot) : Rs D → TE
  | .ok d ρ => tE X.K env (S xa ρ) (rv d)
  | .er c d ρ => tXX X.K We env (S xa ρ) (cK X.K c) (rv d)
def tRL (X : Cx) (We : WX) (xa : Xa) (env : List Slot) : Rs (List D) → TE
  | .ok d ρ => tL X.K env (S xa ρ) d
  | .er c d ρ => tXX X.K We env (S xa ρ) (cK X.K c) (rv d)
def tRT (X : Cx) (We : WX) (xa : Xa) (env : List Slot) : Rs Bool → TT
  | .ok d ρ => tT X.K env (S xa ρ) d
  | .er c d ρ => tXX X.K We env (S xa ρ) (cK X.K c) (rv d)
def tRA (X : Cx) (We : WX) (xa : Xa) (env : List Slot) : Rs (List D) → TA
  | .ok d ρ => tA X.K env (S xa ρ) (rvs d)
  | .er c d ρ => tXX X.K We env (S xa ρ) (cK X.K c) (rv d)
structure CE (X : Cx) (We : WX) (xa : Xa) (e : Expr) (M : Cp D) : Prop where
  run : ∀ ρ r, M ρ = some r → PE X e (tR X We xa (S xa ρ) r)
structure CL (X : Cx) (We : WX) (xa : Xa) (e : Expr) (M : Cp (List D)) : Prop where
  run : ∀ ρ r, M ρ = some r → PE X e (tRL X We xa (S xa ρ) r)
structure CB (X : Cx) (We : WX) (xa : Xa) (e : Expr) (M : Cp Bool) : Prop where
  run : ∀ ρ r, M ρ = some r → PT X e (tRT X We xa (S xa ρ) r)
structure CW (X : Cx) (We : WX) (xa : Xa) (e : Expr) (M : Cp Bool) : Prop where
  run : ∀ ρ r, M ρ = some r → PW X e (tRT X We xa (S xa ρ) r)
structure CA (X : Cx) (We : WX) (xa : Xa) (es : List Expr) (M : Cp (List D)) : Prop where
  run : ∀ ρ r, M ρ = some r → PA X es (tRA X We xa (S xa ρ) r)
structure CG (X : Cx) (xa : Xa) (tg : Expr) (vs : List Nat) (M : D → PE' → Option PE') : Prop where
  run : ∀ d ρ ρ', M d ρ = some ρ' → HG X tg (rv d) (S xa ρ) (S xa ρ') vs
structure CI (X : Cx) (xa : Xa) (tg iter : Expr) (M : Cp (List D)) : Prop where
  run : ∀ ρ xs ρ', M ρ = some (.ok xs ρ') → HI X tg iter (S xa ρ) (S xa ρ') (rvs xs)
inductive Out where
  | nx (ρ : PE')
  | rt (d : D) (ρ : PE')
  | bk (ρ : PE')
  | ct (ρ : PE')
  | er (c : Str) (d : D) (ρ : PE')
  | rl (xs : List D) (ρ : PE')
def Out.oc (K : PySem.W.Frag) (xa : Xa) : Out → Oc
  | .nx ρ => .nx (S xa ρ)
  | .rt d ρ => .rt (rv d) (S xa ρ)
  | .bk ρ => .bk (S xa ρ)
  | .ct ρ => .ct (S xa ρ)
  | .er c d ρ => .er (cK K c) (rv d) (S xa ρ)
  | .rl xs ρ => .rl (rvs xs) (S xa ρ)
abbrev Cs := PE' → Option Out
structure CS (X : Cx) (We : WX) (xa : Xa) (s : Stmt) (M : Cs) : Prop where
  run : ∀ ρ o, M ρ = some o → HS X We s (S xa ρ) (o.oc X.K xa)
structure CSs (X : Cx) (We : WX) (xa : Xa) (s : List Stmt) (M : Cs) : Prop where
  run : ∀ ρ o, M ρ = some o → HSs X We s (S xa ρ) (o.oc X.K xa)

/-! ### names, constants -/
def varC (i : Nat) : Cp D := fun ρ => match ρ[i]? with
  | some (.im d) => some (.ok d ρ)
  | some (.own xs) => some (.ok (.lst xs) (ρ.set i (.im (.lst xs))))
  | some (.own2 xss) => some (.ok (.lst (xss.map D.lst)) (ρ.set i (.im (.lst (xss.map D.lst)))))
  | _ => none
theorem varC_im {i : Nat} {ρ : PE'} {d : D} (h : ρ[i]? = some (.im d)) : varC i ρ = some (.ok d ρ) := by unfold varC; rw [h]
end
/-- a list of one's own changes no more -/
theorem rep_frz {K : PySem.W.Frag} {env : List Slot} {σ : L2.St} {w : Wd} {α : Type} [Rp α] {xs : List α} (R1 : Rep K env σ w) {i : Nat} (hi : env[i]? = some (BC.own xs)) : ∃ (a : Addr) (w' : Wd), σ[i]? = some (some (.ref a)) ∧ w'.H = w.H ∧ Le w w' ∧ Rep K (env.set i (im (rv (Lst.mk xs)))) σ w' ∧ (rv (Lst.mk xs)).p K (.ref a) w'.Hi := by
  obtain ⟨x, hx, a, vs, e2, ho, hH, al⟩ := R1.sl i _ hi
  subst e2
  have hn : w.Hi a = none := (R1.ok.ho a i ho).1
  have ok : (w.frz a (.lst vs)).Ok := by
    refine ⟨fun b u hb => ?_, fun b j hb => ?_, fun b j hb => ?_, ?_⟩
    · by_cases z : b = a
      · subst z
        have : upd w.Hi b (.lst vs) b = some u := hb
        rw [upd_same] at this
        cases this
        exact hH
      · have : upd w.Hi a (.lst vs) b = some u := hb
        rw [upd_ne z] at this
        exact R1.ok.sub b u this
    · by_cases z : b = a
      · have : (if b = a then none else w.O b) = some j := hb
        rw [if_pos z] at this
        cases this
      · have : (if b = a then none else w.O b) = some j := hb
        rw [if_neg z] at this
        exact ⟨(upd_ne z).trans (R1.ok.ho b j this).1, (R1.ok.ho b j this).2⟩
    · by_cases z : b = a
      · have : (if b = a then none else w.O b) = some j := hb
        rw [if_pos z] at this
        cases this
      · have : (if b = a then none else w.O b) = some j := hb
        rw [if_neg z] at this
        exact R1.ok.pl b j this
    · exact tabs_mv R1.ok (fun b ps z => by
        by_cases e : b = a
        · subst e
          cases Option.some.inj (upd_same.symm.trans z)
        · exact R1.ok.tb.1 b ps ((upd_ne e).symm.trans z)) fun b u hb _ => hb
  have hp : (rv (Lst.mk xs)).p K (.ref a) (w.frz a (.lst vs)).Hi := ⟨a, vs, rfl, upd_same, al.mono (Ex.new hn)⟩
  have R2 : Rep K (env.set i (im (rv (Lst.mk xs)))) σ (w.frz a (.lst vs)) := by
    refine ⟨ok, by rw [List.length_set]; exact R1.len, fun j s hs => ?_⟩
    by_cases z : i = j
    · subst z
      have hlt : i < env.length := (List.getElem?_eq_some_iff.mp hi).1
      rw [List.getElem?_set_self hlt] at hs
      cases hs
      exact ⟨_, hx, .ref a, rfl, hp⟩
    · rw [List.getElem?_set_ne z] at hs
      obtain ⟨y, hy, hp⟩ := R1.sl j s hs
      refine ⟨y, hy, s.mono hp (Ex.new hn) (fun c hc => ⟨?_, rfl⟩) rfl⟩
      have nc : c ≠ a := fun zz => by
        subst zz
        rw [ho] at hc
        cases hc
        exact z rfl
      exact (if_neg nc).trans hc
  have l : Le w (w.frz a (.lst vs)) := by
    refine ⟨Ex.new hn, fun b u hb hk _ => ?_, fun b hb => hb, rfl, fun b u hb n => ⟨u, hb, n⟩⟩
    have nc : b ≠ a := fun zz => by
      subst zz
      rw [ho] at hk
      cases hk
    exact ⟨hb, (if_neg nc).trans hk, upd_ne nc⟩
  exact ⟨a, w.frz a (.lst vs), hx, rfl, l, R2, hp⟩
theorem Al2.rpL {K : PySem.W.Frag} {i : Nat} {w w' : Wd} (x : Ex w.Hi w'.Hi) : ∀ {bs : List Addr} {xss : List (List D)}, Al2 K i w bs xss → (∀ b ∈ bs, w'.Hi b = w.H b) → D.rpL K (xss.map D.lst) (bs.map V.ref) w'.Hi
  | [], [], _, _ => rfl
  | b :: bs, xs :: xss, ⟨h1, ⟨vs, h2, h3⟩, h4⟩, k => ⟨.ref b, bs.map V.ref, rfl, ⟨b, vs, rfl, (k b List.mem_cons_self).trans h2, rpL_al.mpr (h3.mono x)⟩, Al2.rpL x h4 fun c hc => k c (List.mem_cons_of_mem _ hc)⟩
  | [], _ :: _, h, _ => h.elim
  | _ :: _, [], h, _ => h.elim
/-- a list of lists changes no more -/
theorem rep_frz2 {K : PySem.W.Frag} {env : List Slot} {σ : L2.St} {w : Wd} {xss : List (List D)} (R1 : Rep K env σ w) {i : Nat} (hi : env[i]? = some (BC.own2 xss)) : ∃ (a : Addr) (w' : Wd), σ[i]? = some (some (.ref a)) ∧ w'.H = w.H ∧ Le w w' ∧ Rep K (env.set i (im (rv (D.lst (xss.map D.lst))))) σ w' ∧ (rv (D.lst (xss.map D.lst))).p K (.ref a) w'.Hi := by
  obtain ⟨x, hx, a, ads, e2, ho, hH, n1, n2, al⟩ := R1.sl i _ hi
  subst e2
  have own_ : ∀ b, b = a ∨ b ∈ ads → w.O b = some i := fun b hb => hb.elim (fun e => by rw [e]; exact ho) fun hb => (al.mem b hb).1
  have hn : ∀ b, b = a ∨ b ∈ ads → w.Hi b = none := fun b hb => (R1.ok.ho b i (own_ b hb)).1
  let w' : Wd := { w with Hi := fun b => if b = a ∨ b ∈ ads then w.H b else w.Hi b, O := fun b => if b = a ∨ b ∈ ads then none else w.O b }
  have ex : Ex w.Hi w'.Hi := fun b u hb => by
    have : ¬ (b = a ∨ b ∈ ads) := fun z => by
      rw [hn b z] at hb
      cases hb
    exact (if_neg this).trans hb
  have ok : w'.Ok := by
    refine ⟨fun b u hb => ?_, fun b j hb => ?_, fun b j hb => ?_, tabs_mv R1.ok (fun b ps z => by
      by_cases e : b = a ∨ b ∈ ads
      · exact (R1.ok.pl b i (own_ b e)).1 ps ((if_pos e).symm.trans z)
      · exact R1.ok.tb.1 b ps ((if_neg e).symm.trans z)) fun b u hb _ => hb⟩
    · by_cases z : b = a ∨ b ∈ ads
      · have h2 : (if b = a ∨ b ∈ ads then w.H b else w.Hi b) = some u := hb
        rw [if_pos z] at h2
        exact h2
      · have h2 : (if b = a ∨ b ∈ ads then w.H b else w.Hi b) = some u := hb
        rw [if_neg z] at h2
        exact R1.ok.sub b u h2
    · by_cases z : b = a ∨ b ∈ ads
      · have h2 : (if b = a ∨ b ∈ ads then none else w.O b) = some j := hb
        rw [if_pos z] at h2
        cases h2
      · have h2 : (if b = a ∨ b ∈ ads then none else w.O b) = some j := hb
        rw [if_neg z] at h2
        exact ⟨(if_neg z).trans (R1.ok.ho b j h2).1, (R1.ok.ho b j h2).2⟩
    · by_cases z : b = a ∨ b ∈ ads
      · have h2 : (if b = a ∨ b ∈ ads then none else w.O b) = some j := hb
        rw [if_pos z] at h2
        cases h2
      · have h2 : (if b = a ∨ b ∈ ads then none else w.O b) = some j := hb
        rw [if_neg z] at h2
        exact R1.ok.pl b j h2
  have hp : (rv (D.lst (xss.map D.lst))).p K (.ref a) w'.Hi := ⟨a, ads.map V.ref, rfl, (if_pos (.inl rfl)).trans hH, al.rpL ex fun b hb => if_pos (.inr hb)⟩
  have nc : ∀ c j, w.O c = some j → i ≠ j → ¬ (c = a ∨ c ∈ ads) := fun c j hc z zz => by
    rw [own_ c zz] at hc
    cases hc
    exact z rfl
  have R2 : Rep K (env.set i (im (rv (D.lst (xss.map D.lst))))) σ w' := by
    refine ⟨ok, by rw [List.length_set]; exact R1.len, fun j s hs => ?_⟩
    by_cases z : i = j
    · subst z
      have hlt : i < env.length := (List.getElem?_eq_some_iff.mp hi).1
      rw [List.getElem?_set_self hlt] at hs
      cases hs
      exact ⟨_, hx, .ref a, rfl, hp⟩
    · rw [List.getElem?_set_ne z] at hs
      obtain ⟨y, hy, hp⟩ := R1.sl j s hs
      exact ⟨y, hy, s.mono hp ex (fun c hc => ⟨(if_neg (nc c j hc z)).trans hc, rfl⟩) rfl⟩
  have l : Le w w' := by
    refine ⟨ex, fun b u hb hk _ => ?_, fun b hb => hb, rfl, fun b u hb n => ⟨u, hb, n⟩⟩
    have : ¬ (b = a ∨ b ∈ ads) := fun z => by
      rw [own_ b z] at hk
      cases hk
    exact ⟨hb, (if_neg this).trans hk, if_neg this⟩
  exact ⟨a, w', hx, rfl, l, R2, hp⟩
section
variable {X : Cx} {We : WX} {xa : Xa} {a b e : Expr} {A B : Cp D} {pos : Pos}
theorem ce_var (i : Nat) {x : Str} (hN : X.N[i]? = some x := by rfl)
    (hv : Vis X.env.scope x := by first | exact Or.inl rfl | exact Or.inr (Or.inl rfl) | exact Or.inr (Or.inr rfl)) (hd : (x == ("__debug__" : Str)) = false := by decide) (hcd : (x == ("__classdict__" : Str)) = false := by decide) : CE X We xa (.Name x pos) (varC i) := ⟨fun ρ r h => by
  unfold varC at h
  split at h
  · rename_i d hd'
    cases h
    exact he_var i (S_get hd') hN hv hd hcd
  · rename_i xs hd'
    cases h
    refine (pe_var hN hv hd hcd).imp fun σ H Q ⟨w, e1, R1, q⟩ => ?_
    subst e1
    obtain ⟨c, w', h1, h2, h3, h4, h5⟩ := rep_frz R1 (S_get hd')
    refine ⟨.ref c, h1, ?_⟩
    rw [← h2]
    refine q (.ref c) w' ?_ h3 (by rw [rv_lst]; exact h5)
    rw [← S_set]
    show Rep _ ((S xa ρ).set i (im (rv (D.lst xs)))) _ _
    rw [rv_lst]
    exact h4
  · rename_i xss hd'
    cases h
    refine (pe_var hN hv hd hcd).imp fun σ H Q ⟨w, e1, R1, q⟩ => ?_
    subst e1
    obtain ⟨c, w', h1, h2, h3, h4, h5⟩ := rep_frz2 R1 (S_get hd')
    refine ⟨.ref c, h1, ?_⟩
    rw [← h2]
    refine q (.ref c) w' ?_ h3 h5
    rw [← S_set]
    exact h4
  · cases h⟩
def cC (d : D) : Cp D := fun ρ => some (.ok d ρ)
@[simp] theorem cC_ {d : D} {ρ : PE'} : cC d ρ = some (.ok d ρ) := rfl
theorem ce_int {i : Int} {j} : CE X We xa (.Constant (.int i) j pos) (cC (.int i)) := ⟨fun ρ r h => by cases h; exact he_int⟩
theorem ce_bl {i : Bool} {j} : CE X We xa (.Constant (.bool i) j pos) (cC (.bl i)) := ⟨fun ρ r h => by cases h; exact he_bl⟩
theorem ce_str {i : Str} {j} : CE X We xa (.Constant (.str i) j pos) (cC (.str i)) := ⟨fun ρ r h => by cases h; exact he_str⟩
theorem ce_non {j} : CE X We xa (.Constant .none j pos) (cC .non) := ⟨fun ρ r h => by cases h; exact he_non⟩
theorem ce_gint {x : Str} {i : Int} (hm : ∃ t, X.mg x = some (.int i t)) (hg : Gl X x := by rfl) (hd : (x == ("__debug__" : Str)) = false := by decide) : CE X We xa (.Name x pos) (cC (.int i)) := ⟨fun ρ r h => by cases h; exact he_gint hm hg hd⟩
/-! ### operators -/
theorem op_no {X : Cx} {f : Value → Value → Sem Value} : OpR X f (fun _ _ _ _ => False) := by
  intro pins s σ H x y u v Q I r1 r2 h
  exact h.elim
def binC (f : D → D → Option D) (A B : Cp D) : Cp D := fun ρ => bd (A ρ) fun x ρ1 => bd (B ρ1) fun y ρ2 => lf (f x y) ρ2
@[simp] theorem binC_ {f : D → D → Option D} {A B : Cp D} {ρ : PE'} : binC f A B ρ = bd (A ρ) fun x ρ1 => bd (B ρ1) fun y ρ2 => lf (f x y) ρ2 := rfl
theorem ce_op {op : Operator} {f : D → D → Option D} (hf : ∀ x y z, f x y = some z → ∃ r, OpR X (binaryOp op) r ∧ OpV X r (rv x) (rv y) (rv z)) (ha : CE X We xa a A) (hb : CE X We xa b B) : CE X We xa (.BinOp a op b pos) (binC f A B) := ⟨fun ρ r h => by
  rcases bd_some h with ⟨x, ρ1, h1, h2⟩ | ⟨c, d, ρ1, h1, rfl⟩
  · rcases bd_some h2 with ⟨y, ρ2, h3, h4⟩ | ⟨c, d, ρ2, h3, rfl⟩
    · obtain ⟨z, h5, rfl⟩ := lf_ok h4
      obtain ⟨q, ho, hv⟩ := hf x y z h5
      exact he_op ho hv (ha.run _ _ h1) (hb.run _ _ h3)
    · exact hx_op2 op_no (ha.run _ _ h1) (hb.run _ _ h3)
  · exact hx_op op_no (ha.run _ _ h1)⟩
end

/-! ### arithmetic -/
def addD : D → D → Option D
  | .int i, .int j => some (.int (i + j))
  | .tup xs, .tup ys => if xs.length + ys.length ≤ 100000 then some (.tup (xs ++ ys)) else none
  | _, _ => none
@[simp] theorem addD_int {i j : Int} : addD (.int i) (.int j) = some (.int (i + j)) := rfl
@[simp] theorem addD_tup {xs ys : List D} : addD (.tup xs) (.tup ys) = if xs.length + ys.length ≤ 100000 then some (.tup (xs ++ ys)) else none := rfl
def subD : D → D → Option D
  | .int i, .int j => some (.int (i - j))
  | _, _ => none
@[simp] theorem subD_int {i j : Int} : subD (.int i) (.int j) = some (.int (i - j)) := rfl
def mulD : D → D → Option D
  | .int i, .int j => if (-18446744073709551616 < i ∧ i < 18446744073709551616) ∨ (-18446744073709551616 < j ∧ j < 18446744073709551616) then some (.int (i * j)) else none
  | _, _ => none
@[simp] theorem mulD_int {i j : Int} : mulD (.int i) (.int j) = if (-18446744073709551616 < i ∧ i < 18446744073709551616) ∨ (-18446744073709551616 < j ∧ j < 18446744073709551616) then some (.int (i * j)) else none := rfl
def fdivD : D → D → Option D
  | .int i, .int j => if 0 < j ∧ j < 1073741824 then some (.int (i / j)) else none
  | _, _ => none
@[simp] theorem fdivD_int {i j : Int} : fdivD (.int i) (.int j) = if 0 < j ∧ j < 1073741824 then some (.int (i / j)) else none := rfl
def modD : D → D → Option D
  | .int i, .int j => if 0 < j then some (.int (i % j)) else none
  | _, _ => none
@[simp] theorem modD_int {i j : Int} : modD (.int i) (.int j) = if 0 < j then some (.int (i % j)) else none := rfl
def powD : D → D → Option D
  | .int i, .int j => if 0 ≤ j ∧ j ≤ 1000000 ∧ i.natAbs < 18446744073709551616 then some (.int (i ^ j.toNat)) else none
  | _, _ => none
@[simp] theorem powD_int {i j : Int} : powD (.int i) (.int j) = if 0 ≤ j ∧ j ≤ 1000000 ∧ i.natAbs < 18446744073709551616 then some (.int (i ^ j.toNat)) else none := rfl
section
variable {X : Cx} {We : WX} {xa : Xa} {a b e : Expr} {A B : Cp D} {pos : Pos}
theorem ce_add (ha : CE X We xa a A) (hb : CE X We xa b B) : CE X We xa (.BinOp a .Add b pos) (binC addD A B) := ce_op (fun x y z h => by
  unfold addD at h
  split at h
  · cases h; exact ⟨_, op_add, ov_I fun _ _ => rfl⟩
  · split at h
    · rename_i hz
      cases h
      rw [rv_tup, rv_tup, rv_tup]
      exact ⟨_, op_catA, ov_catT hz⟩
    · cases h
  · cases h) ha hb
theorem ce_sub (ha : CE X We xa a A) (hb : CE X We xa b B) : CE X We xa (.BinOp a .Sub b pos) (binC subD A B) := ce_op (fun x y z h => by
  unfold subD at h
  split at h
  · cases h; exact ⟨_, op_sub, ov_I fun _ _ => rfl⟩
  · cases h) ha hb
theorem ce_mul (ha : CE X We xa a A) (hb : CE X We xa b B) : CE X We xa (.BinOp a .Mult b pos) (binC mulD A B) := ce_op (fun x y z h => by
  unfold mulD at h
  split at h
  · split at h
    · rename_i hc
      cases h; exact ⟨_, op_mul, ov_C hc fun _ _ => rfl⟩
    · cases h
  · cases h) ha hb
theorem ce_fdiv (ha : CE X We xa a A) (hb : CE X We xa b B) : CE X We xa (.BinOp a .FloorDiv b pos) (binC fdivD A B) := ce_op (fun x y z h => by
  unfold fdivD at h
  split at h
  · split at h
    · rename_i hc
      cases h; exact ⟨_, op_fdiv, ov_C hc fun _ _ => rfl⟩
    · cases h
  · cases h) ha hb
theorem ce_mod (ha : CE X We xa a A) (hb : CE X We xa b B) : CE X We xa (.BinOp a .Mod b pos) (binC modD A B) := ce_op (fun x y z h => by
  unfold modD at h
  split at h
  · split at h
    · rename_i hc
      cases h; exact ⟨_, op_mod, ov_C hc fun _ _ => rfl⟩
    · cases h
  · cases h) ha hb
theorem ce_pow (ha : CE X We xa a A) (hb : CE X We xa b B) : CE X We xa (.BinOp a .Pow b pos) (binC powD A B) := ce_op (fun x y z h => by
  unfold powD at h
  split at h
  · split at h
    · rename_i hc
      cases h; exact ⟨_, op_pow, ov_C hc fun _ _ => rfl⟩
    · cases h
  · cases h) ha hb
/-- a reading of one part -/
def mapC {α β : Type} (f : α → Option β) (A : Cp α) : Cp β := fun ρ => bd (A ρ) fun x ρ1 => lf (f x) ρ1
@[simp] theorem mapC_ {α β : Type} {f : α → Option β} {A : Cp α} {ρ : PE'} : mapC f A ρ = bd (A ρ) fun x ρ1 => lf (f x) ρ1 := rfl
def negD : D → Option D
  | .int i => some (.int (-i))
  | _ => none
@[simp] theorem negD_int {i : Int} : negD (.int i) = some (.int (-i)) := rfl
theorem ce_neg (ha : CE X We xa a A) : CE X We xa (.UnaryOp .USub a pos) (mapC negD A) := ⟨fun ρ r h => by
  rcases bd_some h with ⟨x, ρ1, h1, h2⟩ | ⟨c, d, ρ1, h1, rfl⟩
  · obtain ⟨z, h5, rfl⟩ := lf_ok h2
    have ha := ha.run _ _ h1
    unfold negD at h5
    split at h5
    · cases h5
      exact he_neg ha
    · cases h5
  · exact (pe_un un_neg (ha.run _ _ h1)).imp fun σ H Q q => q⟩
end
/-! ### data as a whole -/
mutual
def D.da : D → PyData
  | .int i => .int i
  | .bl b => .bool b
  | .non => .none
  | .str s => .str s
  | .tup xs => .tuple (D.daL xs)
  | .lst xs => .list (D.daL xs)
  | .lsr xs => .list (D.daL xs)
  | .ob _ _ _ => .none
def D.daL : List D → List PyData
  | [] => []
  | x :: xs => D.da x :: D.daL xs
end
/-- data of no more than so many floors, no bools in it -/
def D.wf : Nat → D → Bool
  | _, .int _ => true
  | _, .non => true
  | _, .str s => PyData.strOk s
  | n + 1, .tup xs => xs.all (D.wf n)
  | n + 1, .lst xs => xs.all (D.wf n)
  | _, _ => false
@[simp] theorem wf_int {n : Nat} {i : Int} : D.wf n (.int i) = true := by cases n <;> rfl
@[simp] theorem wf_non {n : Nat} : D.wf n .non = true := by cases n <;> rfl
@[simp] theorem wf_str {n : Nat} {i : Str} : D.wf n (.str i) = PyData.strOk i := by cases n <;> rfl
@[simp] theorem wf_tup {n : Nat} {xs : List D} : D.wf (n + 1) (.tup xs) = xs.all (D.wf n) := rfl
@[simp] theorem wf_lst {n : Nat} {xs : List D} : D.wf (n + 1) (.lst xs) = xs.all (D.wf n) := rfl
theorem dp_da {K : PySem.W.Frag} {H : Hp} : ∀ (n : Nat) {x : D} {v : V}, D.wf n x = true → D.rp K x v H → Dp K H v x.da := by
  intro n
  induction n with
  | zero =>
    intro x v hw h
    cases x with
    | int i => rw [show v = .int i from h]; exact .int _
    | non => rw [show v = .non from h]; exact .non
    | str i => rw [show v = .str i from h]; exact .str _
    | _ => cases hw
  | succ n ih =>
    have al : ∀ {xs : List D} {vs : List V}, xs.all (D.wf n) = true → D.rpL K xs vs H → DpAll K H vs (D.daL xs) := by
      intro xs
      induction xs with
      | nil => intro vs _ h; rw [show vs = [] from h]; exact .nil
      | cons x xs ih2 =>
        intro vs hw ⟨v, r, h1, h2, h3⟩
        rw [List.all_cons, Bool.and_eq_true] at hw
        rw [h1]
        exact .cons (ih hw.1 h2) (ih2 hw.2 h3)
    intro x v hw h
    cases x with
    | int i => rw [show v = .int i from h]; exact .int _
    | non => rw [show v = .non from h]; exact .non
    | str i => rw [show v = .str i from h]; exact .str _
    | tup xs =>
      obtain ⟨a, vs, rfl, h2, h3⟩ := h
      exact .tup h2 (al hw h3)
    | lst xs =>
      obtain ⟨a, vs, rfl, h2, h3⟩ := h
      exact .lst (SqL.of h2) (al hw h3)
    | _ => cases hw
theorem da_lay' : ∀ (n : Nat) {x : D}, D.wf n x = true → x.da.canLay0 = true ∧ x.da.depth ≤ n + 1 := by
  intro n
  induction n with
  | zero =>
    intro x hw
    cases x with
    | int i => exact ⟨rfl, by simp [D.da, PyData.depth]⟩
    | non => exact ⟨rfl, by simp [D.da, PyData.depth]⟩
    | str i => exact ⟨hw, by simp [D.da, PyData.depth]⟩
    | _ => cases hw
  | succ n ih =>
    have al : ∀ {xs : List D}, xs.all (D.wf n) = true → PyData.canLayAll0 (D.daL xs) = true ∧ PyData.depthAll (D.daL xs) ≤ n + 1 := by
      intro xs
      induction xs with
      | nil => intro _; exact ⟨rfl, by simp [D.daL, PyData.depthAll]⟩
      | cons x xs ih2 =>
        intro hw
        rw [List.all_cons, Bool.and_eq_true] at hw
        obtain ⟨h1, h2⟩ := ih hw.1
        obtain ⟨h3, h4⟩ := ih2 hw.2
        refine ⟨by simp [D.daL, PyData.canLayAll0, h1, h3], ?_⟩
        simp only [D.daL, PyData.depthAll]
        omega
    intro x hw
    cases x with
    | int i => exact ⟨rfl, by simp [D.da, PyData.depth]⟩
    | non => exact ⟨rfl, by simp [D.da, PyData.depth]⟩
    | str i => exact ⟨hw, by simp [D.da, PyData.depth]⟩
    | tup xs =>
      obtain ⟨h1, h2⟩ := al hw
      exact ⟨by simp [D.da, PyData.canLay0, h1], by simp only [D.da, PyData.depth]; omega⟩
    | lst xs =>
      obtain ⟨h1, h2⟩ := al hw
      exact ⟨by simp [D.da, PyData.canLay0, h1], by simp only [D.da, PyData.depth]; omega⟩
    | _ => cases hw
mutual
def D.dec : (x y : D) → Decidable (x = y)
  | .int i, .int j => if h : i = j then .isTrue (by rw [h]) else .isFalse fun z => h (by cases z; rfl)
  | .bl i, .bl j => if h : i = j then .isTrue (by rw [h]) else .isFalse fun z => h (by cases z; rfl)
  | .str i, .str j => if h : i = j then .isTrue (by rw [h]) else .isFalse fun z => h (by cases z; rfl)
  | .non, .non => .isTrue rfl
  | .tup xs, .tup ys => match D.decL xs ys with
    | .isTrue h => .isTrue (by rw [h])
    | .isFalse h => .isFalse fun z => h (by cases z; rfl)
  | .lst xs, .lst ys => match D.decL xs ys with
    | .isTrue h => .isTrue (by rw [h])
    | .isFalse h => .isFalse fun z => h (by cases z; rfl)
  | .lsr xs, .lsr ys => match D.decL xs ys with
    | .isTrue h => .isTrue (by rw [h])
    | .isFalse h => .isFalse fun z => h (by cases z; rfl)
  | .ob c f xs, .ob d g ys => if h1 : c = d then if h2 : f = g then match D.decL xs ys with
      | .isTrue h => .isTrue (by rw [h, h1, h2])
      | .isFalse h => .isFalse fun z => h (by cases z; rfl)
      else .isFalse fun z => h2 (by cases z; rfl)
      else .isFalse fun z => h1 (by cases z; rfl)
  | .int _, .bl _ => .isFalse nofun | .int _, .str _ => .isFalse nofun | .int _, .non => .isFalse nofun | .int _, .tup _ => .isFalse nofun | .int _, .lst _ => .isFalse nofun | .int _, .lsr _ => .isFalse nofun | .int _, .ob _ _ _ => .isFalse nofun
  | .bl _, .int _ => .isFalse nofun | .bl _, .str _ => .isFalse nofun | .bl _, .non => .isFalse nofun | .bl _, .tup _ => .isFalse nofun | .bl _, .lst _ => .isFalse nofun | .bl _, .lsr _ => .isFalse nofun | .bl _, .ob _ _ _ => .isFalse nofun
  | .str _, .int _ => .isFalse nofun | .str _, .bl _ => .isFalse nofun | .str _, .non => .isFalse nofun | .str _, .tup _ => .isFalse nofun | .str _, .lst _ => .isFalse nofun | .str _, .lsr _ => .isFalse nofun | .str _, .ob _ _ _ => .isFalse nofun
  | .non, .int _ => .isFalse nofun | .non, .bl _ => .isFalse nofun | .non, .str _ => .isFalse nofun | .non, .tup _ => .isFalse nofun | .non, .lst _ => .isFalse nofun | .non, .lsr _ => .isFalse nofun | .non, .ob _ _ _ => .isFalse nofun
  | .tup _, .int _ => .isFalse nofun | .tup _, .bl _ => .isFalse nofun | .tup _, .str _ => .isFalse nofun | .tup _, .non => .isFalse nofun | .tup _, .lst _ => .isFalse nofun | .tup _, .lsr _ => .isFalse nofun | .tup _, .ob _ _ _ => .isFalse nofun
  | .lst _, .int _ => .isFalse nofun | .lst _, .bl _ => .isFalse nofun | .lst _, .str _ => .isFalse nofun | .lst _, .non => .isFalse nofun | .lst _, .tup _ => .isFalse nofun | .lst _, .lsr _ => .isFalse nofun | .lst _, .ob _ _ _ => .isFalse nofun
  | .lsr _, .int _ => .isFalse nofun | .lsr _, .bl _ => .isFalse nofun | .lsr _, .str _ => .isFalse nofun | .lsr _, .non => .isFalse nofun | .lsr _, .tup _ => .isFalse nofun | .lsr _, .lst _ => .isFalse nofun | .lsr _, .ob _ _ _ => .isFalse nofun
  | .ob _ _ _, .int _ => .isFalse nofun | .ob _ _ _, .bl _ => .isFalse nofun | .ob _ _ _, .str _ => .isFalse nofun | .ob _ _ _, .non => .isFalse nofun | .ob _ _ _, .tup _ => .isFalse nofun | .ob _ _ _, .lst _ => .isFalse nofun | .ob _ _ _, .lsr _ => .isFalse nofun
def D.decL : (xs ys : List D) → Decidable (xs = ys)
  | [], [] => .isTrue rfl
  | [], _ :: _ => .isFalse nofun
  | _ :: _, [] => .isFalse nofun
  | x :: xs, y :: ys => match D.dec x y, D.decL xs ys with
    | .isTrue h1, .isTrue h2 => .isTrue (by rw [h1, h2])
    | .isFalse h, _ => .isFalse fun z => h (by cases z; rfl)
    | _, .isFalse h => .isFalse fun z => h (by cases z; rfl)
end
instance : DecidableEq D := D.dec
theorem da_eq : ∀ (n : Nat) {x y : D}, D.wf n x = true → D.wf n y = true → (PyData.eqv x.da y.da = true ↔ x = y) := by
  intro n
  induction n with
  | zero =>
    intro x y hx hy
    cases x <;> cases y <;> first | (cases hx; done) | (cases hy; done) | simp [D.da, PyData.eqv]
  | succ n ih =>
    have al : ∀ {xs ys : List D}, xs.all (D.wf n) = true → ys.all (D.wf n) = true → (PyData.eqvAll (D.daL xs) (D.daL ys) = true ↔ xs = ys) := by
      intro xs
      induction xs with
      | nil => intro ys _ _; cases ys <;> simp [D.daL, PyData.eqvAll]
      | cons x xs ih2 =>
        intro ys hx hy
        cases ys with
        | nil => simp [D.daL, PyData.eqvAll]
        | cons y ys =>
          rw [List.all_cons, Bool.and_eq_true] at hx hy
          simp only [D.daL, PyData.eqvAll, Bool.and_eq_true, List.cons.injEq]
          rw [ih hx.1 hy.1, ih2 hx.2 hy.2]
    intro x y hx hy
    cases x <;> cases y <;> first
      | (cases hx; done)
      | (cases hy; done)
      | (simp [D.da, PyData.eqv]; done)
      | (simp only [D.da, PyData.eqv]; rw [al hx hy]; simp)
      | simp [D.da, PyData.eqv]
theorem da_deq {x y : D} (hx : D.wf 20 x = true) (hy : D.wf 20 y = true) : PyData.eqv x.da y.da = decide (x = y) := by
  by_cases h : x = y
  · rw [decide_eq_true h]
    exact (da_eq 20 hx hy).mpr h
  · rw [decide_eq_false h]
    cases q : PyData.eqv x.da y.da with
    | false => rfl
    | true => exact absurd ((da_eq 20 hx hy).mp q) h
theorem da_shp {x : D} (hx : D.wf 20 x = true) : SeqAt.shaped x.da = true := by
  obtain ⟨h1, h2⟩ := da_lay' 20 hx
  unfold SeqAt.shaped
  rw [h1, decide_eq_true (by omega)]
  rfl
/-- data, bools among it -/
def D.wfb : Nat → D → Bool
  | _, .int _ => true
  | _, .bl _ => true
  | _, .non => true
  | _, .str s => PyData.strOk s
  | n + 1, .tup xs => xs.all (D.wfb n)
  | n + 1, .lst xs => xs.all (D.wfb n)
  | _, _ => false
@[simp] theorem wfb_int {n : Nat} {i : Int} : D.wfb n (.int i) = true := by cases n <;> rfl
@[simp] theorem wfb_bl {n : Nat} {i : Bool} : D.wfb n (.bl i) = true := by cases n <;> rfl
@[simp] theorem wfb_non {n : Nat} : D.wfb n .non = true := by cases n <;> rfl
@[simp] theorem wfb_str {n : Nat} {i : Str} : D.wfb n (.str i) = PyData.strOk i := by cases n <;> rfl
@[simp] theorem wfb_tup {n : Nat} {xs : List D} : D.wfb (n + 1) (.tup xs) = xs.all (D.wfb n) := rfl
@[simp] theorem wfb_lst {n : Nat} {xs : List D} : D.wfb (n + 1) (.lst xs) = xs.all (D.wfb n) := rfl
theorem dp_dab {K : PySem.W.Frag} {H : Hp} : ∀ (n : Nat) {x : D} {v : V}, D.wfb n x = true → D.rp K x v H → Dp K H v x.da := by
  intro n
  induction n with
  | zero =>
    intro x v hw h
    cases x with
    | int i => rw [show v = .int i from h]; exact .int _
    | bl i => rw [show v = .bl i from h]; exact .bl _
    | non => rw [show v = .non from h]; exact .non
    | str i => rw [show v = .str i from h]; exact .str _
    | _ => cases hw
  | succ n ih =>
    have al : ∀ {xs : List D} {vs : List V}, xs.all (D.wfb n) = true → D.rpL K xs vs H → DpAll K H vs (D.daL xs) := by
      intro xs
      induction xs with
      | nil => intro vs _ h; rw [show vs = [] from h]; exact .nil
      | cons x xs ih2 =>
        intro vs hw ⟨v, r, h1, h2, h3⟩
        rw [List.all_cons, Bool.and_eq_true] at hw
        rw [h1]
        exact .cons (ih hw.1 h2) (ih2 hw.2 h3)
    intro x v hw h
    cases x with
    | int i => rw [show v = .int i from h]; exact .int _
    | bl i => rw [show v = .bl i from h]; exact .bl _
    | non => rw [show v = .non from h]; exact .non
    | str i => rw [show v = .str i from h]; exact .str _
    | tup xs =>
      obtain ⟨a, vs, rfl, h2, h3⟩ := h
      exact .tup h2 (al hw h3)
    | lst xs =>
      obtain ⟨a, vs, rfl, h2, h3⟩ := h
      exact .lst (SqL.of h2) (al hw h3)
    | _ => cases hw
theorem da_layb : ∀ (n : Nat) {x : D}, D.wfb n x = true → x.da.depth ≤ n + 1 ∧ x.da.hasDict = false := by
  intro n
  induction n with
  | zero =>
    intro x hw
    cases x <;> first | (cases hw; done) | exact ⟨by simp [D.da, PyData.depth], by simp [D.da, PyData.hasDict]⟩
  | succ n ih =>
    have al : ∀ {xs : List D}, xs.all (D.wfb n) = true → PyData.depthAll (D.daL xs) ≤ n + 1 ∧ PyData.hasDictAll (D.daL xs) = false := by
      intro xs
      induction xs with
      | nil => intro _; exact ⟨by simp [D.daL, PyData.depthAll], by simp [D.daL, PyData.hasDictAll]⟩
      | cons x xs ih2 =>
        intro hw
        rw [List.all_cons, Bool.and_eq_true] at hw
        have h2 := ih hw.1
        have h4 := ih2 hw.2
        simp only [D.daL, PyData.depthAll, PyData.hasDictAll, h2.2, h4.2]
        exact ⟨by omega, rfl⟩
    intro x hw
    cases x with
    | tup xs => have h2 := al hw; exact ⟨by simp only [D.da, PyData.depth]; omega, by simp only [D.da, PyData.hasDict]; exact h2.2⟩
    | lst xs => have h2 := al hw; exact ⟨by simp only [D.da, PyData.depth]; omega, by simp only [D.da, PyData.hasDict]; exact h2.2⟩
    | _ => first | (cases hw; done) | exact ⟨by simp [D.da, PyData.depth], by simp [D.da, PyData.hasDict]⟩
theorem da_layc : ∀ (n : Nat) {x : D}, D.wfb n x = true → x.da.canLay0 = true ∧ x.da.depth ≤ n + 1 := by
  intro n
  induction n with
  | zero =>
    intro x hw
    cases x with
    | int i => exact ⟨rfl, by simp [D.da, PyData.depth]⟩
    | bl i => exact ⟨rfl, by simp [D.da, PyData.depth]⟩
    | non => exact ⟨rfl, by simp [D.da, PyData.depth]⟩
    | str i => exact ⟨hw, by simp [D.da, PyData.depth]⟩
    | _ => cases hw
  | succ n ih =>
    have al : ∀ {xs : List D}, xs.all (D.wfb n) = true → PyData.canLayAll0 (D.daL xs) = true ∧ PyData.depthAll (D.daL xs) ≤ n + 1 := by
      intro xs
      induction xs with
      | nil => intro _; exact ⟨rfl, by simp [D.daL, PyData.depthAll]⟩
      | cons x xs ih2 =>
        intro hw
        rw [List.all_cons, Bool.and_eq_true] at hw
        obtain ⟨h1, h2⟩ := ih hw.1
        obtain ⟨h3, h4⟩ := ih2 hw.2
        refine ⟨by simp [D.daL, PyData.canLayAll0, h1, h3], ?_⟩
        simp only [D.daL, PyData.depthAll]
        omega
    intro x hw
    cases x with
    | int i => exact ⟨rfl, by simp [D.da, PyData.depth]⟩
    | bl i => exact ⟨rfl, by simp [D.da, PyData.depth]⟩
    | non => exact ⟨rfl, by simp [D.da, PyData.depth]⟩
    | str i => exact ⟨hw, by simp [D.da, PyData.depth]⟩
    | tup xs =>
      obtain ⟨h1, h2⟩ := al hw
      exact ⟨by simp [D.da, PyData.canLay0, h1], by simp only [D.da, PyData.depth]; omega⟩
    | lst xs =>
      obtain ⟨h1, h2⟩ := al hw
      exact ⟨by simp [D.da, PyData.canLay0, h1], by simp only [D.da, PyData.depth]; omega⟩
    | _ => cases hw
theorem da_shpb {x : D} (hx : D.wfb 20 x = true) : SeqAt.shaped x.da = true := by
  obtain ⟨h1, h2⟩ := da_layc 20 hx
  unfold SeqAt.shaped
  rw [h1, decide_eq_true (by omega)]
  rfl
theorem eqv_refl : ∀ (n : Nat) {x : D}, D.wfb n x = true → PyData.eqv x.da x.da = true := by
  intro n
  induction n with
  | zero =>
    intro x hw
    cases x <;> first | (cases hw; done) | simp [D.da, PyData.eqv]
  | succ n ih =>
    have al : ∀ {xs : List D}, xs.all (D.wfb n) = true → PyData.eqvAll (D.daL xs) (D.daL xs) = true := by
      intro xs
      induction xs with
      | nil => intro _; simp [D.daL, PyData.eqvAll]
      | cons x xs ih2 =>
        intro hw
        rw [List.all_cons, Bool.and_eq_true] at hw
        simp [D.daL, PyData.eqvAll, ih hw.1, ih2 hw.2]
    intro x hw
    cases x with
    | tup xs => have := al hw; simp [D.da, PyData.eqv, this]
    | lst xs => have := al hw; simp [D.da, PyData.eqv, this]
    | _ => first | (cases hw; done) | simp [D.da, PyData.eqv]
/-- are they equal: bools, or data -/
def eqD : D → D → Option Bool
  | .bl a, .bl b => some (decide (a = b))
  | .str a, .str b => some (decide (a = b))
  | x, y => if D.wf 20 x = true ∧ D.wf 20 y = true then some (decide (x = y)) else if D.wfb 20 x = true ∧ D.wfb 20 y = true then some (PyData.eqv x.da y.da) else none
@[simp] theorem eqD_int {i j : Int} : eqD (.int i) (.int j) = some (decide (i = j)) := by simp [eqD]
@[simp] theorem eqD_str {i j : Str} : eqD (.str i) (.str j) = some (decide (i = j)) := rfl
@[simp] theorem eqD_bl {i j : Bool} : eqD (.bl i) (.bl j) = some (decide (i = j)) := rfl
theorem eqD_wf {x y : D} (hx : D.wf 20 x = true) (hy : D.wf 20 y = true) : eqD x y = some (decide (x = y)) := by
  unfold eqD
  split
  · cases hx
  · congr 1
    exact decide_eq_decide.mpr ⟨fun h => by rw [h], fun h => by cases h; rfl⟩
  · rw [if_pos ⟨hx, hy⟩]
theorem eqD_same {x : D} (h : D.wfb 20 x = true) : eqD x x = some true := by
  unfold eqD
  split
  · simp
  · simp
  · split
    · simp
    · rw [if_pos ⟨h, h⟩, eqv_refl 20 h]
end BC

namespace BC
open PySem PySem.Spec PyProof.Rows L2
variable [TabL]
/-! ### comparisons, as values and as tests -/
def cmpC (f : D → D → Option Bool) (A B : Cp D) : Cp Bool := fun ρ => bd (A ρ) fun x ρ1 => bd (B ρ1) fun y ρ2 => lf (f x y) ρ2
@[simp] theorem cmpC_ {f : D → D → Option Bool} {A B : Cp D} {ρ : PE'} : cmpC f A B ρ = bd (A ρ) fun x ρ1 => bd (B ρ1) fun y ρ2 => lf (f x y) ρ2 := rfl
/-- a truth as a value -/
def vB (M : Cp Bool) : Cp D := fun ρ => bd (M ρ) fun b ρ1 => some (.ok (.bl b) ρ1)
@[simp] theorem vB_ {M : Cp Bool} {ρ : PE'} : vB M ρ = bd (M ρ) fun b ρ1 => some (.ok (.bl b) ρ1) := rfl
section
variable {X : Cx} {We : WX} {xa : Xa} {a b c e : Expr} {A B C : Cp D} {M N : Cp Bool} {pos : Pos} {es rest : List Expr} {As : Cp (List D)}
theorem vB_some {ρ : PE'} {r : Rs D} (h : vB M ρ = some r) : (∃ b ρ1, M ρ = some (.ok b ρ1) ∧ r = .ok (.bl b) ρ1) ∨ ∃ c d ρ1, M ρ = some (.er c d ρ1) ∧ r = .er c d ρ1 := by
  rcases bd_some h with ⟨x, ρ1, h1, h2⟩ | ⟨c, d, ρ1, h1, rfl⟩
  · exact .inl ⟨x, ρ1, h1, by cases h2; rfl⟩
  · exact .inr ⟨c, d, ρ1, h1, rfl⟩
def Rs.vb : Rs Bool → Rs D
  | .ok b ρ => .ok (.bl b) ρ
  | .er c d ρ => .er c d ρ
theorem vB_eq {ρ : PE'} {r : Rs D} (h : vB M ρ = some r) : ∃ t, M ρ = some t ∧ r = t.vb := by
  rcases vB_some h with ⟨b, ρ1, h1, rfl⟩ | ⟨c, d, ρ1, h1, rfl⟩
  · exact ⟨_, h1, rfl⟩
  · exact ⟨_, h1, rfl⟩
theorem tRT_tR {env : List Slot} {r : Rs Bool} {σ : L2.St} {H : Hp} {Q : Bool → Hp → Prop} (h : tRT X We xa env r σ H Q) : tR X We xa env r.vb σ H (fun v H' => ∃ k, v = .bl k ∧ Q k H') := by
  cases r with
  | ok b ρ =>
    obtain ⟨w, e1, R1, q⟩ := h
    exact ⟨w, e1, R1, fun v w' R' l p => ⟨b, p, q w' R' l⟩⟩
  | er c d ρ => exact h
theorem to_cmp {op : CmpOp} {f : D → D → Option Bool} (hf : ∀ x y z, f x y = some z → ∃ r, OpR X (compareOp op) r ∧ OpV X r (rv x) (rv y) (rv z)) (ha : CE X We xa a A) (hb : CE X We xa b B) {ρ : PE'} {r : Rs Bool} (h : cmpC f A B ρ = some r) :
    ∃ (q : R2) (ta tb : TE), OpR X (compareOp op) q ∧ PE X a ta ∧ PE X b tb ∧ ∀ σ H Q, tR X We xa (S xa ρ) r.vb σ H Q → tOp q ta tb σ H Q := by
  rcases bd_some h with ⟨x, ρ2, h1, h2⟩ | ⟨c', d', ρ2, h1, rfl⟩
  · rcases bd_some h2 with ⟨y, ρ3, h3, h4⟩ | ⟨c', d', ρ3, h3, rfl⟩
    · obtain ⟨z, h5, rfl⟩ := lf_ok h4
      obtain ⟨q, ho, hv⟩ := hf x y z h5
      exact ⟨q, _, _, ho, ha.run _ _ h1, hb.run _ _ h3, to_op rfl rfl rfl hv⟩
    · exact ⟨_, _, _, op_no, ha.run _ _ h1, hb.run _ _ h3, fun σ H Q ⟨w, e1, R1, q⟩ => ⟨w, e1, R1, fun v w' R' l _ => ⟨w', rfl, R', fun w2 d u R2 l2 n => q w2 d u R2 (l.trans l2) (l.none n)⟩⟩⟩
  · exact ⟨_, _, _, op_no, ha.run _ _ h1, pe_no, fun σ H Q q => q⟩
theorem ce_cmp {op : CmpOp} {f : D → D → Option Bool} (hf : ∀ x y z, f x y = some z → ∃ r, OpR X (compareOp op) r ∧ OpV X r (rv x) (rv y) (rv z)) (hm : behindInMarks op b = false) (ha : CE X We xa a A) (hb : CE X We xa b B) : CE X We xa (.Compare a [op] [b] pos) (vB (cmpC f A B)) := ⟨fun ρ r h => by
  obtain ⟨t, h', rfl⟩ := vB_eq h
  obtain ⟨q, ta, tb, h1, h2, h3, h4⟩ := to_cmp hf ha hb h'
  exact (pe_cmpR h1 h2 h3 hm).imp h4⟩
theorem cb_cmp {op : CmpOp} {f : D → D → Option Bool} (hf : ∀ x y z, f x y = some z → ∃ r, OpR X (compareOp op) r ∧ OpV X r (rv x) (rv y) (rv z)) (hm : behindInMarks op b = false) (ha : CE X We xa a A) (hb : CE X We xa b B) : CB X We xa (.Compare a [op] [b] pos) (cmpC f A B) := ⟨fun ρ r h => by
  obtain ⟨q, ta, tb, h1, h2, h3, h4⟩ := to_cmp hf ha hb h
  exact (pt_cmpR h1 h2 h3 hm).imp fun σ H Q q => h4 _ _ _ (tRT_tR q)⟩
def ltD : D → D → Option Bool
  | .int i, .int j => some (decide (i < j))
  | _, _ => none
def leD : D → D → Option Bool
  | .int i, .int j => some (decide (i ≤ j))
  | _, _ => none
def gtD : D → D → Option Bool
  | .int i, .int j => some (decide (j < i))
  | _, _ => none
def geD : D → D → Option Bool
  | .int i, .int j => some (decide (j ≤ i))
  | _, _ => none
@[simp] theorem ltD_int {i j : Int} : ltD (.int i) (.int j) = some (decide (i < j)) := rfl
@[simp] theorem leD_int {i j : Int} : leD (.int i) (.int j) = some (decide (i ≤ j)) := rfl
@[simp] theorem gtD_int {i j : Int} : gtD (.int i) (.int j) = some (decide (j < i)) := rfl
@[simp] theorem geD_int {i j : Int} : geD (.int i) (.int j) = some (decide (j ≤ i)) := rfl
theorem lt_ok : ∀ x y z, ltD x y = some z → ∃ r, OpR X (compareOp .Lt) r ∧ OpV X r (rv x) (rv y) (rv z) := fun x y z h => by
  unfold ltD at h
  split at h
  · cases h; exact ⟨_, op_lt, ov_I fun _ _ => rfl⟩
  · cases h
theorem le_ok : ∀ x y z, leD x y = some z → ∃ r, OpR X (compareOp .LtE) r ∧ OpV X r (rv x) (rv y) (rv z) := fun x y z h => by
  unfold leD at h
  split at h
  · cases h; exact ⟨_, op_le, ov_I fun _ _ => rfl⟩
  · cases h
theorem gt_ok : ∀ x y z, gtD x y = some z → ∃ r, OpR X (compareOp .Gt) r ∧ OpV X r (rv x) (rv y) (rv z) := fun x y z h => by
  unfold gtD at h
  split at h
  · cases h; exact ⟨_, op_gt, ov_I fun _ _ => rfl⟩
  · cases h
theorem ge_ok : ∀ x y z, geD x y = some z → ∃ r, OpR X (compareOp .GtE) r ∧ OpV X r (rv x) (rv y) (rv z) := fun x y z h => by
  unfold geD at h
  split at h
  · cases h; exact ⟨_, op_ge, ov_I fun _ _ => rfl⟩
  · cases h
theorem eq_ok {k : Nat} (hr : Rm k X.A) : ∀ x y z, eqD x y = some z → ∃ r, OpR X (compareOp .Eq) r ∧ OpV X r (rv x) (rv y) (rv z) := fun x y z h => by
  unfold eqD at h
  split at h
  · cases h; exact ⟨_, op_eq, ov_eq (α := Bool)⟩
  · cases h; exact ⟨_, op_eq, ov_eq (α := Str)⟩
  · split at h
    · rename_i hw
      cases h
      refine ⟨_, op_eqD hr.un, fun env σ u v w R1 hx hy Q q => ⟨_, _, dp_mono R1.ok.sub (dp_da 20 hw.1 hx), dp_mono R1.ok.sub (dp_da 20 hw.2 hy), da_shp hw.1, da_shp hw.2, q _ w R1 (Le.refl w) (by rw [da_deq hw.1 hw.2]; exact rfl)⟩⟩
    · split at h
      · rename_i hw
        cases h
        refine ⟨_, op_eqD hr.un, fun env σ u v w R1 hx hy Q q => ⟨_, _, dp_mono R1.ok.sub (dp_dab 20 hw.1 hx), dp_mono R1.ok.sub (dp_dab 20 hw.2 hy), da_shpb hw.1, da_shpb hw.2, q _ w R1 (Le.refl w) rfl⟩⟩
      · cases h
def neD (x y : D) : Option Bool := (eqD x y).map not
@[simp] theorem neD_ {x y : D} : neD x y = (eqD x y).map not := rfl
theorem ne_ok {k : Nat} (hr : Rm k X.A) : ∀ x y z, neD x y = some z → ∃ r, OpR X (compareOp .NotEq) r ∧ OpV X r (rv x) (rv y) (rv z) := fun x y z h => by
  unfold neD eqD at h
  split at h
  · cases h; exact ⟨_, op_ne, ov_ne (α := Bool)⟩
  · cases h; exact ⟨_, op_ne, ov_ne (α := Str)⟩
  · split at h
    · rename_i hw
      cases h
      refine ⟨_, op_neD hr.un, fun env σ u v w R1 hx hy Q q => ⟨_, _, dp_mono R1.ok.sub (dp_da 20 hw.1 hx), dp_mono R1.ok.sub (dp_da 20 hw.2 hy), da_shp hw.1, da_shp hw.2, q _ w R1 (Le.refl w) (by rw [da_deq hw.1 hw.2]; exact rfl)⟩⟩
    · split at h
      · rename_i hw
        cases h
        refine ⟨_, op_neD hr.un, fun env σ u v w R1 hx hy Q q => ⟨_, _, dp_mono R1.ok.sub (dp_dab 20 hw.1 hx), dp_mono R1.ok.sub (dp_dab 20 hw.2 hy), da_shpb hw.1, da_shpb hw.2, q _ w R1 (Le.refl w) rfl⟩⟩
      · cases h
theorem rp_non {K : PySem.W.Frag} {x : D} {v : V} {H : Hp} (h : D.rp K x v H) : v = .non ↔ x = .non := by
  cases x with
  | non => exact ⟨fun _ => rfl, fun _ => h⟩
  | int i => rw [show v = .int i from h]; exact ⟨nofun, nofun⟩
  | bl i => rw [show v = .bl i from h]; exact ⟨nofun, nofun⟩
  | str i => rw [show v = .str i from h]; exact ⟨nofun, nofun⟩
  | tup xs => obtain ⟨a, vs, e, _⟩ := h; rw [e]; exact ⟨nofun, nofun⟩
  | lst xs => obtain ⟨a, vs, e, _⟩ := h; rw [e]; exact ⟨nofun, nofun⟩
  | lsr xs => obtain ⟨a, vs, e, _⟩ := h; rw [e]; exact ⟨nofun, nofun⟩
  | ob c f xs => obtain ⟨a, C, dx, fs, us, _, e, _⟩ := h; rw [e]; exact ⟨nofun, nofun⟩
def isD : D → D → Option Bool
  | .bl i, .bl j => some (decide (i = j))
  | x, .non => some (decide (x = .non))
  | _, _ => none
@[simp] theorem isD_bl {i j : Bool} : isD (.bl i) (.bl j) = some (decide (i = j)) := rfl
@[simp] theorem isD_non {x : D} : isD x .non = some (decide (x = .non)) := by cases x <;> rfl
theorem is_ok : ∀ x y z, isD x y = some z → ∃ r, OpR X (compareOp .Is) r ∧ OpV X r (rv x) (rv y) (rv z) := fun x y z h => by
  unfold isD at h
  split at h
  · rename_i i j
    cases h; exact ⟨_, op_isBl, fun env σ u v w R1 hx hy Q q => ⟨i, j, hx, hy, q _ w R1 (Le.refl w) rfl⟩⟩
  · cases h
    exact ⟨_, op_isN, fun env σ u v w R1 hx hy Q q => ⟨hy, q _ w R1 (Le.refl w) (show V.bl _ = V.bl _ by congr 1; exact decide_eq_decide.mpr (rp_non hx))⟩⟩
  · cases h
def isnD : D → D → Option Bool
  | x, .non => some (!decide (x = .non))
  | _, _ => none
@[simp] theorem isnD_non {x : D} : isnD x .non = some (!decide (x = .non)) := rfl
theorem isn_ok : ∀ x y z, isnD x y = some z → ∃ r, OpR X (compareOp .IsNot) r ∧ OpV X r (rv x) (rv y) (rv z) := fun x y z h => by
  unfold isnD at h
  split at h
  · cases h
    exact ⟨_, op_notN, fun env σ u v w R1 hx hy Q q => ⟨hy, q _ w R1 (Le.refl w) (show V.bl _ = V.bl _ by congr 2; exact decide_eq_decide.mpr (rp_non hx))⟩⟩
  · cases h
/-! in: whole numbers; data in a list -/
def ints? : List D → Option (List Int)
  | [] => some []
  | .int i :: xs => match ints? xs with
    | some is => some (i :: is)
    | none => none
  | _ :: _ => none
@[simp] theorem ints_nil : ints? [] = some [] := rfl
@[simp] theorem ints_cons {i : Int} {xs : List D} : ints? (.int i :: xs) = (ints? xs).map (i :: ·) := by
  show (match ints? xs with | some is => some (i :: is) | none => none) = _
  cases ints? xs <;> rfl
@[simp] theorem ints_map {xs : List Int} : ints? (xs.map D.int) = some xs := by
  induction xs with
  | nil => rfl
  | cons x xs ih => rw [List.map_cons, ints_cons, ih]; rfl
theorem ints_eq : ∀ {xs : List D} {is : List Int}, ints? xs = some is → xs = is.map D.int := by
  intro xs
  induction xs with
  | nil => intro is h; cases h; rfl
  | cons x xs ih =>
    intro is h
    cases x with
    | int i =>
      rw [ints_cons] at h
      cases q : ints? xs with
      | none => rw [q] at h; cases h
      | some js =>
        rw [q] at h
        cases h
        rw [ih q]
        rfl
    | _ => cases h
theorem al_int {K : PySem.W.Frag} {H : Hp} : ∀ {is : List Int} {vs : List V}, D.rpL K (is.map D.int) vs H → vs = is.map V.int
  | [], _, h => h
  | i :: is, _, ⟨v, r, h1, h2, h3⟩ => by rw [h1, show v = .int i from h2, al_int h3]; rfl
def inD : D → D → Option Bool
  | .int i, d => match d.seq? with
    | some xs => match ints? xs with
      | some is => some (decide (i ∈ is))
      | none => none
    | none => none
  | x, .lst ys => if D.wf 20 x = true ∧ D.wf 20 (.lst ys) = true then some (decide (x ∈ ys)) else none
  | x, .tup ys => if D.wf 20 x = true ∧ D.wf 20 (.tup ys) = true then some (decide (x ∈ ys)) else none
  | _, _ => none
@[simp] theorem inD_tup {i : Int} {xs : List D} : inD (.int i) (.tup xs) = (ints? xs).map fun is => decide (i ∈ is) := by
  show (match ints? xs with | some is => some (decide (i ∈ is)) | none => none) = _
  cases ints? xs <;> rfl
@[simp] theorem inD_lst {i : Int} {xs : List D} : inD (.int i) (.lst xs) = (ints? xs).map fun is => decide (i ∈ is) := by
  show (match ints? xs with | some is => some (decide (i ∈ is)) | none => none) = _
  cases ints? xs <;> rfl
theorem daL_map : ∀ xs : List D, D.daL xs = xs.map D.da
  | [] => rfl
  | x :: xs => by rw [List.map_cons, ← daL_map xs]; rfl
theorem any_da {x : D} (hx : D.wf 20 x = true) : ∀ {ys : List D}, ys.all (D.wf 19) = true → (D.daL ys).any (fun z => PyData.eqv z x.da) = decide (x ∈ ys) := by
  have up : ∀ (n : Nat) {y : D}, D.wf n y = true → D.wf (n + 1) y = true := by
    intro n
    induction n with
    | zero =>
      intro y h
      cases y <;> first | exact h | (cases h; done) | exact wf_int
    | succ n ih =>
      intro y h
      cases y <;> first
        | exact h
        | (cases h; done)
        | (rw [wf_tup] at h ⊢; rw [List.all_eq_true] at h ⊢; exact fun z hz => ih (h z hz))
        | (rw [wf_lst] at h ⊢; rw [List.all_eq_true] at h ⊢; exact fun z hz => ih (h z hz))
  intro ys
  induction ys with
  | nil => intro _; simp [D.daL]
  | cons y ys ih =>
    intro h
    rw [List.all_cons, Bool.and_eq_true] at h
    have e : PyData.eqv y.da x.da = decide (x = y) := by rw [da_deq (up 19 h.1) hx]; exact decide_eq_decide.mpr ⟨fun z => z.symm, fun z => z.symm⟩
    show ((y.da :: D.daL ys).any fun z => PyData.eqv z x.da) = _
    rw [List.any_cons, ih h.2, e]
    simp [Bool.decide_or]
def rInDT (K : PySem.W.Frag) (neg : Bool) : R2 := fun x y H Q => ∃ d ds, Dp K H x d ∧ Dp K H y (.tuple ds) ∧ SeqAt.shaped d = true ∧ SeqAt.shaped (.tuple ds) = true ∧ Q (.bl (if neg then !ds.any (fun z => PyData.eqv z d) else ds.any fun z => PyData.eqv z d)) H
theorem op_inDT (hu : X.A.units + 65 < cLine) : OpR X (compareOp .In) (rInDT X.K false) := by
  intro pins s σ H x y v u Q I rx ry h
  obtain ⟨d, ds, hd, he, sd, se, q⟩ := h
  obtain ⟨as, r1⟩ := Dp.reads I d x v hd rx
  obtain ⟨bs, r2⟩ := Dp.reads I (.tuple ds) y u he ry
  exact SeqAt.in_tuple_reads r2 r1 (SeqAt.canLay_of_shaped se) (SeqAt.canLay_of_shaped sd) (room_in_shaped sd hu) ⟨.bl _, H, I, rfl, q⟩
theorem op_notInDT (hu : X.A.units + 65 < cLine) : OpR X (compareOp .NotIn) (rInDT X.K true) := by
  intro pins s σ H x y v u Q I rx ry h
  obtain ⟨d, ds, hd, he, sd, se, q⟩ := h
  obtain ⟨as, r1⟩ := Dp.reads I d x v hd rx
  obtain ⟨bs, r2⟩ := Dp.reads I (.tuple ds) y u he ry
  exact SeqAt.notIn_tuple_reads r2 r1 (SeqAt.canLay_of_shaped se) (SeqAt.canLay_of_shaped sd) (room_in_shaped sd hu) ⟨.bl _, H, I, rfl, q⟩
theorem in_ok {k : Nat} (hr : Rm k X.A) (neg : Bool) : ∀ x y z, inD x y = some z → ∃ r, OpR X (compareOp (if neg then .NotIn else .In)) r ∧ OpV X r (rv x) (rv y) (rv (if neg then !z else z)) := fun x y z h => by
  unfold inD at h
  split at h
  · rename_i d i
    split at h
    · rename_i xs hs
      split at h
      · rename_i is hi
        cases h
        have e := ints_eq hi
        subst e
        cases neg with
        | true => exact ⟨_, op_notIn_seq, fun env σ u v w R1 hx hy Q q => by
            obtain ⟨p, vs, e1, h2, h3⟩ := sq_seq hs _ _ _ hy
            have e2 := al_int (rpL_al.mpr h3)
            subst e2
            refine ⟨p, _, e1, h2.imp (Ex.l R1.ok.sub) (Ex.t R1.ok.sub), by rw [show u = .int i from hx]; rfl, flat_ints is, ?_⟩
            rw [show u = .int i from hx, inV_ints]
            exact q _ w R1 (Le.refl w) rfl⟩
        | false => exact ⟨_, op_in_seq, fun env σ u v w R1 hx hy Q q => by
            obtain ⟨p, vs, e1, h2, h3⟩ := sq_seq hs _ _ _ hy
            have e2 := al_int (rpL_al.mpr h3)
            subst e2
            refine ⟨p, _, e1, h2.imp (Ex.l R1.ok.sub) (Ex.t R1.ok.sub), by rw [show u = .int i from hx]; rfl, flat_ints is, ?_⟩
            rw [show u = .int i from hx, inV_ints]
            exact q _ w R1 (Le.refl w) rfl⟩
      · cases h
    · cases h
  · split at h
    · rename_i x ys _ hw
      cases h
      have hu : X.A.units + 65 < cLine := by have := hr.room.un; omega
      cases neg with
      | true => exact ⟨_, op_notInD hu, fun env σ u v w R1 hx hy Q q => ⟨_, D.daL ys, dp_mono R1.ok.sub (dp_da 20 hw.1 hx), dp_mono R1.ok.sub (dp_da 20 hw.2 hy), da_shp hw.1, da_shp hw.2, q _ w R1 (Le.refl w) (by rw [any_da hw.1 hw.2]; exact rfl)⟩⟩
      | false => exact ⟨_, op_inD hu, fun env σ u v w R1 hx hy Q q => ⟨_, D.daL ys, dp_mono R1.ok.sub (dp_da 20 hw.1 hx), dp_mono R1.ok.sub (dp_da 20 hw.2 hy), da_shp hw.1, da_shp hw.2, q _ w R1 (Le.refl w) (by rw [any_da hw.1 hw.2]; exact rfl)⟩⟩
    · cases h
  · split at h
    · rename_i x ys _ hw
      cases h
      have hu : X.A.units + 65 < cLine := by have := hr.room.un; omega
      cases neg with
      | true => exact ⟨_, op_notInDT hu, fun env σ u v w R1 hx hy Q q => ⟨_, D.daL ys, dp_mono R1.ok.sub (dp_da 20 hw.1 hx), dp_mono R1.ok.sub (dp_da 20 hw.2 hy), da_shp hw.1, da_shp hw.2, q _ w R1 (Le.refl w) (by rw [any_da hw.1 hw.2]; exact rfl)⟩⟩
      | false => exact ⟨_, op_inDT hu, fun env σ u v w R1 hx hy Q q => ⟨_, D.daL ys, dp_mono R1.ok.sub (dp_da 20 hw.1 hx), dp_mono R1.ok.sub (dp_da 20 hw.2 hy), da_shp hw.1, da_shp hw.2, q _ w R1 (Le.refl w) (by rw [any_da hw.1 hw.2]; exact rfl)⟩⟩
    · cases h
  · cases h
def ninD (x y : D) : Option Bool := (inD x y).map not
@[simp] theorem ninD_ {x y : D} : ninD x y = (inD x y).map not := rfl
theorem nin_ok {k : Nat} (hr : Rm k X.A) : ∀ x y z, ninD x y = some z → ∃ r, OpR X (compareOp .NotIn) r ∧ OpV X r (rv x) (rv y) (rv z) := fun x y z h => by
  unfold ninD at h
  cases q : inD x y with
  | none => rw [q] at h; cases h
  | some t =>
    rw [q] at h
    cases h
    exact in_ok hr true x y t q
theorem in_ok' {k : Nat} (hr : Rm k X.A) : ∀ x y z, inD x y = some z → ∃ r, OpR X (compareOp .In) r ∧ OpV X r (rv x) (rv y) (rv z) := fun x y z h => in_ok hr false x y z h
/-! chains of two -/
def chC (f g : D → D → Option Bool) (A B C : Cp D) : Cp Bool := fun ρ => bd (A ρ) fun x ρ1 => bd (B ρ1) fun y ρ2 => match f x y with
  | none => none
  | some false => some (.ok false ρ2)
  | some true => bd (C ρ2) fun z ρ3 => lf (g y z) ρ3
@[simp] theorem chC_ {f g : D → D → Option Bool} {A B C : Cp D} {ρ : PE'} : chC f g A B C ρ = bd (A ρ) fun x ρ1 => bd (B ρ1) fun y ρ2 => match f x y with
  | none => none
  | some false => some (.ok false ρ2)
  | some true => bd (C ρ2) fun z ρ3 => lf (g y z) ρ3 := rfl
theorem to_ch {op op' : CmpOp} {f g : D → D → Option Bool} (hf : ∀ x y z, f x y = some z → ∃ r, OpR X (compareOp op) r ∧ OpV X r (rv x) (rv y) (rv z)) (hg : ∀ x y z, g x y = some z → ∃ r, OpR X (compareOp op') r ∧ OpV X r (rv x) (rv y) (rv z))
    (ha : CE X We xa a A) (hb : CE X We xa b B) (hc : CE X We xa c C) {ρ : PE'} {r : Rs Bool} (h : chC f g A B C ρ = some r) : ∃ (q q' : R2) (ta tb tc : TE), OpR X (compareOp op) q ∧ OpR X (compareOp op') q' ∧ PE X a ta ∧ PE X b tb ∧ PE X c tc ∧
      ∀ σ H Q, tR X We xa (S xa ρ) r.vb σ H Q → tChain q q' ta tb tc σ H Q := by
  rcases bd_some h with ⟨x, ρ2, h1, h2⟩ | ⟨c', d', ρ2, h1, rfl⟩
  · rcases bd_some h2 with ⟨y, ρ3, h3, h4⟩ | ⟨c', d', ρ3, h3, rfl⟩
    · cases q : f x y with
      | none => rw [q] at h4; cases h4
      | some t =>
        obtain ⟨p, ho, hv⟩ := hf x y t q
        rw [q] at h4
        cases t with
        | false =>
          cases h4
          refine ⟨_, _, _, _, _, ho, op_no, ha.run _ _ h1, hb.run _ _ h3, pe_no, fun σ H Q ⟨w, e1, R1, q⟩ => ⟨w, e1, R1, fun v w' R' l p => ⟨w', rfl, R', fun u w2 R2 l2 p2 => hv _ _ _ _ w2 R2 ((rv x).mono l2.hi p) p2 _ fun z w3 R3 l3 p3 => ⟨false, p3, ?_⟩⟩⟩⟩
          rw [if_neg Bool.false_ne_true]
          exact q _ w3 R3 ((l.trans l2).trans l3) rfl
        | true =>
          rcases bd_some h4 with ⟨z, ρ4, h5, h6⟩ | ⟨c', d', ρ4, h5, rfl⟩
          · obtain ⟨t, h7, rfl⟩ := lf_ok h6
            obtain ⟨p', ho', hv'⟩ := hg y z t h7
            refine ⟨_, _, _, _, _, ho, ho', ha.run _ _ h1, hb.run _ _ h3, hc.run _ _ h5, fun σ H Q ⟨w, e1, R1, q⟩ => ⟨w, e1, R1, fun v w' R' l p => ⟨w', rfl, R', fun u w2 R2 l2 p2 => hv _ _ _ _ w2 R2 ((rv x).mono l2.hi p) p2 _ fun z' w3 R3 l3 p3 => ⟨true, p3, ?_⟩⟩⟩⟩
            rw [if_pos rfl]
            refine ⟨w3, rfl, R3, fun v4 w4 R4 l4 p4 => hv' _ _ _ _ w4 R4 ((rv y).mono (l3.hi.trans l4.hi) p2) p4 _ fun z5 w5 R5 l5 p5 => q z5 w5 R5 ((((l.trans l2).trans l3).trans l4).trans l5) p5⟩
          · refine ⟨_, _, _, _, _, ho, op_no, ha.run _ _ h1, hb.run _ _ h3, hc.run _ _ h5, fun σ H Q ⟨w, e1, R1, q⟩ => ⟨w, e1, R1, fun v w' R' l p => ⟨w', rfl, R', fun u w2 R2 l2 p2 => hv _ _ _ _ w2 R2 ((rv x).mono l2.hi p) p2 _ fun z' w3 R3 l3 p3 => ⟨true, p3, ?_⟩⟩⟩⟩
            rw [if_pos rfl]
            have l' := (l.trans l2).trans l3
            exact ⟨w3, rfl, R3, fun w4 d u R4 l4 n => q w4 d u R4 (l'.trans l4) (l'.none n)⟩
    · refine ⟨_, _, _, _, _, op_no, op_no, ha.run _ _ h1, hb.run _ _ h3, pe_no, fun σ H Q ⟨w, e1, R1, q⟩ => ⟨w, e1, R1, fun v w' R' l p => ⟨w', rfl, R', fun w2 d u R2 l2 n => q w2 d u R2 (l.trans l2) (l.none n)⟩⟩⟩
  · exact ⟨_, _, _, _, _, op_no, op_no, ha.run _ _ h1, pe_no, pe_no, fun σ H Q q => q⟩
theorem cb_ch {op op' : CmpOp} {f g : D → D → Option Bool} (hf : ∀ x y z, f x y = some z → ∃ r, OpR X (compareOp op) r ∧ OpV X r (rv x) (rv y) (rv z)) (hg : ∀ x y z, g x y = some z → ∃ r, OpR X (compareOp op') r ∧ OpV X r (rv x) (rv y) (rv z))
    (ha : CE X We xa a A) (hb : CE X We xa b B) (hc : CE X We xa c C) (hm : lastMarks [op, op'] [b, c] = false := by with_unfolding_all rfl) : CB X We xa (.Compare a [op, op'] [b, c] pos) (chC f g A B C) := ⟨fun ρ r h => by
  obtain ⟨q, q', ta, tb, tc, h1, h2, h3, h4, h5, h6⟩ := to_ch hf hg ha hb hc h
  exact (pt_chain h1 h2 h3 h4 h5 hm).imp fun σ H Q q => h6 _ _ _ (tRT_tR q)⟩
theorem ce_ch {op op' : CmpOp} {f g : D → D → Option Bool} (hf : ∀ x y z, f x y = some z → ∃ r, OpR X (compareOp op) r ∧ OpV X r (rv x) (rv y) (rv z)) (hg : ∀ x y z, g x y = some z → ∃ r, OpR X (compareOp op') r ∧ OpV X r (rv x) (rv y) (rv z))
    (ha : CE X We xa a A) (hb : CE X We xa b B) (hc : CE X We xa c C) (hm : lastMarks [op, op'] [b, c] = false := by with_unfolding_all rfl) : CE X We xa (.Compare a [op, op'] [b, c] pos) (vB (chC f g A B C)) := ⟨fun ρ r h => by
  obtain ⟨t, h', rfl⟩ := vB_eq h
  obtain ⟨q, q', ta, tb, tc, h1, h2, h3, h4, h5, h6⟩ := to_ch hf hg ha hb hc h'
  exact (pe_chain h1 h2 h3 h4 h5 hm).imp h6⟩
/-! ### truth, and, or, not, if -/
/-- an error in a test: the reading of an error -/
theorem cb_val (h : CE X We xa e (vB M)) (he : ∀ whole, isTrue e X.env whole = (do let v ← whole; standAt e.pos; holding [v] (truthy v)) := by intro _; rfl) : CB X We xa e M := ⟨fun ρ r hM => by
  cases r with
  | ok b ρ1 => exact hb_val (h.run ρ (.ok (.bl b) ρ1) (by rw [vB_, hM]; rfl)) he
  | er c d ρ1 => exact (pt_val (h.run ρ (.er c d ρ1) (by rw [vB_, hM]; rfl)) he).imp fun σ H Q q => q⟩
/-- what is true of a thing -/
def truD : D → Option Bool
  | .bl b => some b
  | .int i => some (i != 0)
  | .non => some false
  | .tup xs => some (!xs.isEmpty)
  | .lst xs => some (!xs.isEmpty)
  | .lsr xs => some (!xs.isEmpty)
  | _ => none
@[simp] theorem truD_bl {b : Bool} : truD (.bl b) = some b := rfl
@[simp] theorem truD_int {i : Int} : truD (.int i) = some (i != 0) := rfl
@[simp] theorem truD_non : truD .non = some false := rfl
@[simp] theorem truD_tup {xs : List D} : truD (.tup xs) = some (!xs.isEmpty) := rfl
@[simp] theorem truD_lst {xs : List D} : truD (.lst xs) = some (!xs.isEmpty) := rfl
@[simp] theorem truD_lsr {xs : List D} : truD (.lsr xs) = some (!xs.isEmpty) := rfl
theorem cb_tru (h : CE X We xa e A) (he : ∀ whole, isTrue e X.env whole = (do let v ← whole; standAt e.pos; holding [v] (truthy v)) := by intro _; rfl) : CB X We xa e (mapC truD A) := ⟨fun ρ r hM => by
  rcases bd_some hM with ⟨x, ρ1, h1, h2⟩ | ⟨c, d, ρ1, h1, rfl⟩
  · obtain ⟨b, h3, rfl⟩ := lf_ok h2
    have hx := h.run _ _ h1
    cases x with
    | bl i => cases h3; exact hb_val hx he
    | int i => cases h3; exact hb_tru hx (fun v w ok p => by rw [show v = .int i from p]; exact rfl) he
    | non => cases h3; exact hb_tru hx (fun v w ok p => by rw [show v = .non from p]; exact rfl) he
    | tup xs => cases h3; exact hb_truT (α := D) (by rw [← rv_tup]; exact hx) he
    | lst xs => cases h3; exact hb_truL (xs := Lst.mk xs) (by rw [← rv_lst]; exact hx) he
    | lsr xs => cases h3; exact hb_truS (xs := Lsr.mk xs) (by rw [← rv_lsr]; exact hx) he
    | _ => cases h3
  · exact (pt_truth (h.run _ _ h1) he).imp fun σ H Q q => q⟩
def notC (M : Cp Bool) : Cp Bool := fun ρ => bd (M ρ) fun b ρ1 => some (.ok (!b) ρ1)
@[simp] theorem notC_ {ρ : PE'} : notC M ρ = bd (M ρ) fun b ρ1 => some (.ok (!b) ρ1) := rfl
theorem cb_not (h : CB X We xa a M) : CB X We xa (.UnaryOp .Not a pos) (notC M) := ⟨fun ρ r hM => by
  rcases bd_some hM with ⟨x, ρ1, h1, h2⟩ | ⟨c, d, ρ1, h1, rfl⟩
  · cases h2
    exact hb_not (h.run _ _ h1)
  · exact (pt_not (h.run _ _ h1)).imp fun σ H Q q => q⟩
theorem ce_not (h : CE X We xa a (vB M)) : CE X We xa (.UnaryOp .Not a pos) (vB (notC M)) := ⟨fun ρ r hM => by
  obtain ⟨t, hM', rfl⟩ := vB_eq hM
  clear hM
  rcases bd_some hM' with ⟨x, ρ1, h1, h2⟩ | ⟨c, d, ρ1, h1, h2⟩
  · cases h2
    exact he_not (c := x) (h.run ρ (.ok (.bl x) ρ1) (by rw [vB_, h1]; rfl))
  · subst h2
    exact (pe_not (h.run ρ (.er c d ρ1) (by rw [vB_, h1]; rfl))).imp fun σ H Q q => q⟩
def andC (M N : Cp Bool) : Cp Bool := fun ρ => bd (M ρ) fun b ρ1 => if b = true then N ρ1 else some (.ok false ρ1)
def orC (M N : Cp Bool) : Cp Bool := fun ρ => bd (M ρ) fun b ρ1 => if b = true then some (.ok true ρ1) else N ρ1
@[simp] theorem andC_ {ρ : PE'} : andC M N ρ = bd (M ρ) fun b ρ1 => if b = true then N ρ1 else some (.ok false ρ1) := rfl
@[simp] theorem orC_ {ρ : PE'} : orC M N ρ = bd (M ρ) fun b ρ1 => if b = true then some (.ok true ρ1) else N ρ1 := rfl
theorem cw_and1 (h : CB X We xa a M) : CW X We xa (.BoolOp .And [a] pos) M := ⟨fun ρ r hM => pw_and1 (h.run _ _ hM)⟩
theorem cw_or1 (h : CB X We xa a M) : CW X We xa (.BoolOp .Or [a] pos) M := ⟨fun ρ r hM => pw_or1 (h.run _ _ hM)⟩
theorem tRT_le {env : List Slot} {ρ : PE'} {r : Rs Bool} {σ : L2.St} {w w' : Wd} {Q : Bool → Hp → Prop} (l : Le w w') (h : match r with | .ok b ρ' => ∀ w2, Rep X.K (S xa ρ') σ w2 → Le w w2 → Q b w2.H | .er c d ρ' => ∀ w' d' v, Rep X.K (S xa ρ') σ w' → Le w w' → w.H d' = none → w'.H d' = some (.xd [("what", v)]) → w'.O d' = none → w'.Hi d' = none → (rv d).p X.K v w'.Hi → We (.ref (cK X.K c)) (some d') σ w'.H) (R : Rep X.K env σ w') : tRT X We xa env r σ w'.H Q := by
  cases r with
  | ok b ρ' => exact ⟨w', rfl, R, fun w2 R2 l2 => h w2 R2 (l.trans l2)⟩
  | er c d ρ' => exact ⟨w', rfl, R, fun w2 d' v R2 l2 n => h w2 d' v R2 (l.trans l2) (l.none n)⟩
theorem cw_and {a' : Expr} (ha : CB X We xa a M) (hb : CW X We xa (.BoolOp .And (a' :: rest) pos) N) : CW X We xa (.BoolOp .And (a :: a' :: rest) pos) (andC M N) := ⟨fun ρ r hM => by
  rcases bd_some hM with ⟨x, ρ1, h1, h2⟩ | ⟨c, d, ρ1, h1, rfl⟩
  · cases x with
    | true =>
      rw [if_pos rfl] at h2
      refine (pw_and (ha.run _ _ h1) (hb.run _ _ h2)).imp fun σ H Q q => ?_
      cases r with
      | ok b ρ' =>
        obtain ⟨w, e1, R1, q⟩ := q
        exact ⟨w, e1, R1, fun w' R' l => iteT (tRT_le (r := .ok b ρ') (ρ := ρ) l q R')⟩
      | er c d ρ' =>
        obtain ⟨w, e1, R1, q⟩ := q
        exact ⟨w, e1, R1, fun w' R' l => iteT (tRT_le (r := .er c d ρ') (ρ := ρ) l q R')⟩
    | false =>
      rw [if_neg Bool.false_ne_true] at h2
      cases h2
      exact (pw_and (ha.run _ _ h1) pw_no).imp fun σ H Q ⟨w, e1, R1, q⟩ => ⟨w, e1, R1, fun w' R' l => iteF (q w' R' l)⟩
  · exact (pw_and (ha.run _ _ h1) pw_no).imp fun σ H Q q => q⟩
theorem cw_or {a' : Expr} (ha : CB X We xa a M) (hb : CW X We xa (.BoolOp .Or (a' :: rest) pos) N) : CW X We xa (.BoolOp .Or (a :: a' :: rest) pos) (orC M N) := ⟨fun ρ r hM => by
  rcases bd_some hM with ⟨x, ρ1, h1, h2⟩ | ⟨c, d, ρ1, h1, rfl⟩
  · cases x with
    | false =>
      rw [if_neg Bool.false_ne_true] at h2
      refine (pw_or (ha.run _ _ h1) (hb.run _ _ h2)).imp fun σ H Q q => ?_
      cases r with
      | ok b ρ' =>
        obtain ⟨w, e1, R1, q⟩ := q
        exact ⟨w, e1, R1, fun w' R' l => iteF (tRT_le (r := .ok b ρ') (ρ := ρ) l q R')⟩
      | er c d ρ' =>
        obtain ⟨w, e1, R1, q⟩ := q
        exact ⟨w, e1, R1, fun w' R' l => iteF (tRT_le (r := .er c d ρ') (ρ := ρ) l q R')⟩
    | true =>
      rw [if_pos rfl] at h2
      cases h2
      exact (pw_or (ha.run _ _ h1) pw_no).imp fun σ H Q ⟨w, e1, R1, q⟩ => ⟨w, e1, R1, fun w' R' l => iteT (q w' R' l)⟩
  · exact (pw_or (ha.run _ _ h1) pw_no).imp fun σ H Q q => q⟩
theorem cb_w (h : CW X We xa e M) : CB X We xa e M := ⟨fun ρ r hM => (h.run _ _ hM).pt⟩
/-! as values -/
theorem ce_one {op : BoolOp} (h : CE X We xa a A) : CE X We xa (.BoolOp op [a] pos) A := ⟨fun ρ r hM => pe_one (h.run _ _ hM)⟩
def aftR (X : Cx) (We : WX) (xa : Xa) (σ : L2.St) (w : Wd) (Q : VK) : Rs D → Prop
  | .ok b ρ' => ∀ v w2, Rep X.K (S xa ρ') σ w2 → Le w w2 → (rv b).p X.K v w2.Hi → Q v w2.H
  | .er c d ρ' => ∀ w' d' v, Rep X.K (S xa ρ') σ w' → Le w w' → w.H d' = none → w'.H d' = some (.xd [("what", v)]) → w'.O d' = none → w'.Hi d' = none → (rv d).p X.K v w'.Hi → We (.ref (cK X.K c)) (some d') σ w'.H
theorem tR_le {env : List Slot} {r : Rs D} {σ : L2.St} {w w' : Wd} {Q : VK} (l : Le w w') (h : aftR X We xa σ w Q r) (R : Rep X.K env σ w') : tR X We xa env r σ w'.H Q := by
  cases r with
  | ok b ρ' => exact ⟨w', rfl, R, fun v w2 R2 l2 => h v w2 R2 (l.trans l2)⟩
  | er c d ρ' => exact ⟨w', rfl, R, fun w2 d' v R2 l2 n => h w2 d' v R2 (l.trans l2) (l.none n)⟩
theorem tR_in {env : List Slot} {r : Rs D} {σ : L2.St} {H : Hp} {Q : VK} (h : tR X We xa env r σ H Q) : ∃ w : Wd, w.H = H ∧ Rep X.K env σ w ∧ aftR X We xa σ w Q r := by
  cases r with
  | ok b ρ' => exact h
  | er c d ρ' => exact h
theorem ce_and {a' : Expr} (ha : CE X We xa a (vB M)) (hb : CE X We xa (.BoolOp .And (a' :: rest) pos) (vB N)) : CE X We xa (.BoolOp .And (a :: a' :: rest) pos) (vB (andC M N)) := ⟨fun ρ r hM => by
  obtain ⟨t, hM', rfl⟩ := vB_eq hM
  clear hM
  rcases bd_some hM' with ⟨x, ρ1, h1, h2⟩ | ⟨c, d, ρ1, h1, rfl⟩
  · have ha' := ha.run ρ (.ok (.bl x) ρ1) (by rw [vB_, h1]; rfl)
    cases x with
    | true =>
      rw [if_pos rfl] at h2
      have hb' := hb.run ρ1 t.vb (by cases t <;> (rw [vB_, h2]; rfl))
      refine (pe_and ha' hb').imp fun σ H Q q => ?_
      obtain ⟨w, e1, R1, q⟩ := tR_in q
      exact ⟨w, e1, R1, fun v w' R' l p => ⟨true, p, iteT (tR_le l q R')⟩⟩
    | false =>
      rw [if_neg Bool.false_ne_true] at h2
      cases h2
      exact (pe_and ha' pe_no).imp fun σ H Q ⟨w, e1, R1, q⟩ => ⟨w, e1, R1, fun v w' R' l p => ⟨false, p, iteF (q _ w' R' l rfl)⟩⟩
  · exact (pe_and (ha.run ρ (.er c d ρ1) (by rw [vB_, h1]; rfl)) pe_no).imp fun σ H Q q => q⟩
theorem ce_or {a' : Expr} (ha : CE X We xa a (vB M)) (hb : CE X We xa (.BoolOp .Or (a' :: rest) pos) (vB N)) : CE X We xa (.BoolOp .Or (a :: a' :: rest) pos) (vB (orC M N)) := ⟨fun ρ r hM => by
  obtain ⟨t, hM', rfl⟩ := vB_eq hM
  clear hM
  rcases bd_some hM' with ⟨x, ρ1, h1, h2⟩ | ⟨c, d, ρ1, h1, rfl⟩
  · have ha' := ha.run ρ (.ok (.bl x) ρ1) (by rw [vB_, h1]; rfl)
    cases x with
    | false =>
      rw [if_neg Bool.false_ne_true] at h2
      have hb' := hb.run ρ1 t.vb (by cases t <;> (rw [vB_, h2]; rfl))
      refine (pe_or ha' hb').imp fun σ H Q q => ?_
      obtain ⟨w, e1, R1, q⟩ := tR_in q
      exact ⟨w, e1, R1, fun v w' R' l p => ⟨false, p, iteF (tR_le l q R')⟩⟩
    | true =>
      rw [if_pos rfl] at h2
      cases h2
      exact (pe_or ha' pe_no).imp fun σ H Q ⟨w, e1, R1, q⟩ => ⟨w, e1, R1, fun v w' R' l p => ⟨true, p, iteT (q _ w' R' l rfl)⟩⟩
  · exact (pe_or (ha.run ρ (.er c d ρ1) (by rw [vB_, h1]; rfl)) pe_no).imp fun σ H Q q => q⟩
/-- a value that is asked as a truth: bools alone -/
def bD : D → Option Bool
  | .bl b => some b
  | _ => none
@[simp] theorem bD_bl {b : Bool} : bD (.bl b) = some b := rfl
theorem ce_bool (h : CE X We xa e A) : CE X We xa e (vB (mapC bD A)) := ⟨fun ρ r hM => by
  obtain ⟨t, hM', rfl⟩ := vB_eq hM
  clear hM
  rcases bd_some hM' with ⟨x, ρ1, h1, h2⟩ | ⟨c, d, ρ1, h1, rfl⟩
  · obtain ⟨b, h3, rfl⟩ := lf_ok h2
    cases x with
    | bl i => cases h3; exact h.run _ _ h1
    | _ => cases h3
  · exact h.run _ _ h1⟩
def ifC (M : Cp Bool) (A B : Cp D) : Cp D := fun ρ => bd (M ρ) fun b ρ1 => if b = true then A ρ1 else B ρ1
@[simp] theorem ifC_ {ρ : PE'} : ifC M A B ρ = bd (M ρ) fun b ρ1 => if b = true then A ρ1 else B ρ1 := rfl
theorem ce_if {t : Expr} (ht : CB X We xa t M) (ha : CE X We xa a A) (hb : CE X We xa b B) : CE X We xa (.IfExp t a b pos) (ifC M A B) := ⟨fun ρ r hM => by
  rcases bd_some hM with ⟨x, ρ1, h1, h2⟩ | ⟨c, d, ρ1, h1, rfl⟩
  · cases x with
    | true =>
      rw [if_pos rfl] at h2
      refine (pe_ifExp (ht.run _ _ h1) (ha.run _ _ h2) pe_no).imp fun σ H Q q => ?_
      obtain ⟨w, e1, R1, q⟩ := tR_in q
      exact ⟨w, e1, R1, fun w' R' l => iteT (tR_le l q R')⟩
    | false =>
      rw [if_neg Bool.false_ne_true] at h2
      refine (pe_ifExp (ht.run _ _ h1) pe_no (hb.run _ _ h2)).imp fun σ H Q q => ?_
      obtain ⟨w, e1, R1, q⟩ := tR_in q
      exact ⟨w, e1, R1, fun w' R' l => iteF (tR_le l q R')⟩
  · exact (pe_ifExp (ht.run _ _ h1) pe_no pe_no).imp fun σ H Q q => q⟩
/-! ### arguments, displays -/
def nilA : Cp (List D) := fun ρ => some (.ok [] ρ)
def consA (A : Cp D) (As : Cp (List D)) : Cp (List D) := fun ρ => bd (A ρ) fun x ρ1 => bd (As ρ1) fun xs ρ2 => some (.ok (x :: xs) ρ2)
@[simp] theorem nilA_ {ρ : PE'} : nilA ρ = some (.ok [] ρ) := rfl
@[simp] theorem consA_ {ρ : PE'} : consA A As ρ = bd (A ρ) fun x ρ1 => bd (As ρ1) fun xs ρ2 => some (.ok (x :: xs) ρ2) := rfl
theorem ca_nil : CA X We xa [] nilA := ⟨fun ρ r h => by cases h; exact ha_nil⟩
theorem ca_cons (h : CE X We xa e A) (t : CA X We xa es As) (hs : starEach (e :: es) X.env = (false, eval e X.env) :: starEach es X.env := by rfl) : CA X We xa (e :: es) (consA A As) := ⟨fun ρ r hM => by
  rcases bd_some hM with ⟨x, ρ1, h1, h2⟩ | ⟨c, d, ρ1, h1, rfl⟩
  · rcases bd_some h2 with ⟨y, ρ2, h3, h4⟩ | ⟨c', d', ρ2, h3, rfl⟩
    · cases h4
      exact ha_cons (h.run _ _ h1) (t.run _ _ h3) hs
    · exact (pa_cons (h.run _ _ h1) (t.run _ _ h3) hs).imp fun σ H Q ⟨w, e1, R1, q⟩ => ⟨w, e1, R1, fun v w' R' l _ => ⟨w', rfl, R', fun w2 d u R2 l2 n => q w2 d u R2 (l.trans l2) (l.none n)⟩⟩
  · exact (pa_cons (h.run _ _ h1) (t := fun _ _ _ => False) ⟨fun _ _ _ _ _ _ _ h => h.elim⟩ hs).imp fun σ H Q q => q⟩
def tupC (As : Cp (List D)) : Cp D := fun ρ => bd (As ρ) fun xs ρ1 => if xs.length ≤ 1000 then some (.ok (.tup xs) ρ1) else none
@[simp] theorem tupC_ {ρ : PE'} : tupC As ρ = bd (As ρ) fun xs ρ1 => if xs.length ≤ 1000 then some (.ok (.tup xs) ρ1) else none := rfl
theorem ce_tup {x1} (h : CA X We xa es As) : CE X We xa (.Tuple es x1 pos) (tupC As) := ⟨fun ρ r hM => by
  rcases bd_some hM with ⟨x, ρ1, h1, h2⟩ | ⟨c, d, ρ1, h1, rfl⟩
  · split at h2
    · rename_i hz
      cases h2
      show HE X _ _ _ (rv (D.tup x))
      rw [rv_tup]
      exact he_tup (h.run _ _ h1) hz
    · cases h2
  · exact (pe_tup (h.run _ _ h1)).imp fun σ H Q q => q⟩
def lstC (As : Cp (List D)) : Cp (List D) := fun ρ => bd (As ρ) fun xs ρ1 => if xs.length ≤ 1000 then some (.ok xs ρ1) else none
@[simp] theorem lstC_ {ρ : PE'} : lstC As ρ = bd (As ρ) fun xs ρ1 => if xs.length ≤ 1000 then some (.ok xs ρ1) else none := rfl
theorem cl_lst (h : CA X We xa es As) : CL X We xa (.List es pos) (lstC As) := ⟨fun ρ r hM => by
  rcases bd_some hM with ⟨x, ρ1, h1, h2⟩ | ⟨c, d, ρ1, h1, rfl⟩
  · split at h2
    · rename_i hz
      cases h2
      exact hl_lst (h.run _ _ h1) hz
    · cases h2
  · exact (pe_lst (h.run _ _ h1)).imp fun σ H Q q => q⟩
/-- a fresh list kept as it is -/
def frzC (L : Cp (List D)) : Cp D := fun ρ => bd (L ρ) fun xs ρ1 => some (.ok (.lst xs) ρ1)
@[simp] theorem frzC_ {L : Cp (List D)} {ρ : PE'} : frzC L ρ = bd (L ρ) fun xs ρ1 => some (.ok (.lst xs) ρ1) := rfl
theorem ce_frz {L : Cp (List D)} (h : CL X We xa e L) : CE X We xa e (frzC L) := ⟨fun ρ r hM => by
  rcases bd_some hM with ⟨x, ρ1, h1, h2⟩ | ⟨c, d, ρ1, h1, rfl⟩
  · cases h2
    show HE X _ _ _ (rv (D.lst x))
    rw [rv_lst]
    exact he_lst (h.run _ _ h1)
  · exact h.run _ _ h1⟩
end
end BC

namespace BC
open PySem PySem.Spec PyProof.Rows L2
variable [TabL]
/-! ### sequences: len, items, slices -/
def SV.lst? : SV → Option (List D)
  | .own xs => some xs
  | .par xs => some xs
  | _ => none
def SV.put : SV → List D → SV
  | .own _, ys => .own ys
  | .par _, ys => .par ys
  | s, _ => s
@[simp] theorem lst_own {xs : List D} : (SV.own xs).lst? = some xs := rfl
@[simp] theorem lst_par {xs : List D} : (SV.par xs).lst? = some xs := rfl
@[simp] theorem lst_im {d : D} : (SV.im d).lst? = none := rfl
@[simp] theorem lst_un : SV.un.lst? = none := rfl
@[simp] theorem put_own {xs ys : List D} : (SV.own xs).put ys = .own ys := rfl
@[simp] theorem put_par {xs ys : List D} : (SV.par xs).put ys = .par ys := rfl
/-- own or handed in: one of two kinds -/
def SV.kd : SV → Bool
  | .own _ => true
  | _ => false
@[simp] theorem kd_own {xs : List D} : (SV.own xs).kd = true := rfl
@[simp] theorem kd_par {xs : List D} : (SV.par xs).kd = false := rfl
def mkL : Bool → List D → Slot
  | true, xs => own xs
  | false, xs => par xs
theorem mkL_own : ∀ b : Bool, Own (α := D) (mkL b)
  | true => own_own
  | false => own_par
theorem sl_mk {xa : Xa} {s : SV} {xs : List D} (h : s.lst? = some xs) : s.sl xa = mkL s.kd xs := by
  cases s with
  | own ys => cases h; rfl
  | par ys => cases h; rfl
  | _ => cases h
theorem sl_put {xa : Xa} {s : SV} {xs ys : List D} (h : s.lst? = some xs) : (s.put ys).sl xa = mkL s.kd ys := by
  cases s with
  | own zs => rfl
  | par zs => rfl
  | _ => cases h
theorem kd_eq {s t : SV} {xs ys : List D} (h : s.lst? = some xs) (h2 : t.lst? = some ys) (h3 : t = s.put ys) : t.kd = s.kd := by
  subst h3
  cases s <;> first | rfl | cases h
/-- the list of a slot -/
def lsAt (ρ : PE') (i : Nat) : Option (Bool × List D) := match ρ[i]? with
  | some (.own xs) => some (true, xs)
  | some (.par xs) => some (false, xs)
  | _ => none
theorem lsAt_S {xa : Xa} {ρ : PE'} {i : Nat} {b : Bool} {xs : List D} (h : lsAt ρ i = some (b, xs)) : (S xa ρ)[i]? = some (mkL b xs) := by
  unfold lsAt at h
  split at h
  · rename_i ys q; cases h; exact S_get q
  · rename_i ys q; cases h; exact S_get q
  · cases h
def mkS : Bool → List D → SV
  | true, xs => .own xs
  | false, xs => .par xs
@[simp] theorem mkS_t {xs : List D} : mkS true xs = .own xs := rfl
@[simp] theorem mkS_f {xs : List D} : mkS false xs = .par xs := rfl
theorem mkS_sl {xa : Xa} {b : Bool} {xs : List D} : (mkS b xs).sl xa = mkL b xs := by cases b <;> rfl
/-- what a name's sequence holds, the name's own list unread -/
def sqAt (ρ : PE') (i : Nat) : Option (List D) := match ρ[i]? with
  | some (.own xs) => some xs
  | some (.par xs) => some xs
  | some (.im d) => d.seq?
  | _ => none
def lenD (d : D) : Option D := match d.seq? with
  | some xs => some (.int xs.length)
  | none => none
@[simp] theorem lenD_tup {xs : List D} : lenD (.tup xs) = some (.int xs.length) := rfl
@[simp] theorem lenD_lst {xs : List D} : lenD (.lst xs) = some (.int xs.length) := rfl
@[simp] theorem lenD_lsr {xs : List D} : lenD (.lsr xs) = some (.int xs.length) := rfl
def lenV (i : Nat) : Cp D := fun ρ => match sqAt ρ i with
  | some xs => some (.ok (.int xs.length) ρ)
  | none => none
theorem sq_cases {ρ : PE'} {i : Nat} {xs : List D} (h : sqAt ρ i = some xs) : (∃ b, lsAt ρ i = some (b, xs)) ∨ ∃ d, ρ[i]? = some (.im d) ∧ d.seq? = some xs := by
  unfold sqAt at h
  unfold lsAt
  split at h
  · rename_i q; cases h; exact .inl ⟨true, by rw [q]⟩
  · rename_i q; cases h; exact .inl ⟨false, by rw [q]⟩
  · rename_i d q; exact .inr ⟨d, q, h⟩
  · cases h
def ixL (xs : List D) : D → Option D
  | .int j => atI xs j
  | _ => none
@[simp] theorem ixL_int {xs : List D} {j : Int} : ixL xs (.int j) = atI xs j := rfl
def ixD (d y : D) : Option D := match d.seq? with
  | some xs => ixL xs y
  | none => none
@[simp] theorem ixD_tup {xs : List D} {y : D} : ixD (.tup xs) y = ixL xs y := rfl
@[simp] theorem ixD_lst {xs : List D} {y : D} : ixD (.lst xs) y = ixL xs y := rfl
@[simp] theorem ixD_lsr {xs : List D} {y : D} : ixD (.lsr xs) y = ixL xs y := rfl
def ixC (A B : Cp D) : Cp D := fun ρ => bd (A ρ) fun x ρ1 => bd (B ρ1) fun y ρ2 => lf (ixD x y) ρ2
@[simp] theorem ixC_ {A B : Cp D} {ρ : PE'} : ixC A B ρ = bd (A ρ) fun x ρ1 => bd (B ρ1) fun y ρ2 => lf (ixD x y) ρ2 := rfl
def ixV (i : Nat) (B : Cp D) : Cp D := fun ρ => match ρ[i]? with
  | some (.im d) => bd (B ρ) fun y ρ1 => lf (ixD d y) ρ1
  | some (.own _) => bd (B ρ) fun y ρ1 => match ρ1[i]? with
    | some (.own xs) => lf (ixL xs y) ρ1
    | _ => none
  | some (.par _) => bd (B ρ) fun y ρ1 => match ρ1[i]? with
    | some (.par xs) => lf (ixL xs y) ρ1
    | _ => none
  | _ => none
section
variable {env env1 env2 : List Slot} {X : Cx} {We : WX} {xa : Xa} {a b c e : Expr} {A B C : Cp D} {M N : Cp Bool} {pos : Pos} {es rest : List Expr} {As L : Cp (List D)}
theorem he_lenD {d : D} {xs : List D} (h : HE X e env env1 (rv d)) (hs' : d.seq? = some xs) {p : Pos} (hm : X.mg "len" = none) (hg : Gl X "len") (hs : starEach [e] X.env = (false, eval e X.env) :: starEach [] X.env) (hpl : (backTo pos (starEach [] X.env)).any (·.1) = false) : HE X (.Call (.Name "len" p) [e] [] pos) env env1 (rv (D.int xs.length)) := he_len h (sq_seq hs') hm hg hs hpl
theorem ce_len {p : Pos} (h : CE X We xa e A) (hm : X.mg "len" = none) (hg : Gl X "len" := by rfl) (hs : starEach [e] X.env = (false, eval e X.env) :: starEach [] X.env := by rfl) (hpl : (backTo pos (starEach [] X.env)).any (·.1) = false := by rfl) :
    CE X We xa (.Call (.Name "len" p) [e] [] pos) (mapC lenD A) := ⟨fun ρ r hM => by
  rcases bd_some hM with ⟨x, ρ1, h1, h2⟩ | ⟨c, d, ρ1, h1, rfl⟩
  · obtain ⟨z, h3, rfl⟩ := lf_ok h2
    unfold lenD at h3
    split at h3
    · rename_i xs hx
      cases h3
      exact he_lenD (h.run _ _ h1) hx hm hg hs hpl
    · cases h3
  · exact hx_len (h.run _ _ h1) hm hg hs hpl⟩
theorem ce_lenV (i : Nat) {x : Str} {p q : Pos} (hm : X.mg "len" = none) (hN : X.N[i]? = some x := by rfl)
    (hv : Vis X.env.scope x := by first | exact Or.inl rfl | exact Or.inr (Or.inl rfl) | exact Or.inr (Or.inr rfl)) (hd : (x == ("__debug__" : Str)) = false := by decide) (hcd : (x == ("__classdict__" : Str)) = false := by decide)
    (hg : Gl X "len" := by rfl) (hs : starEach [.Name x q] X.env = (false, eval (.Name x q) X.env) :: starEach [] X.env := by rfl) (hpl : (backTo pos (starEach [] X.env)).any (·.1) = false := by rfl) :
    CE X We xa (.Call (.Name "len" p) [.Name x q] [] pos) (lenV i) := ⟨fun ρ r hM => by
  unfold lenV at hM
  split at hM
  · rename_i xs hx
    cases hM
    rcases sq_cases hx with ⟨b, h1⟩ | ⟨d, h1, h2⟩
    · exact he_lenO (mkL_own b) i (lsAt_S h1) hm hN hv hd hcd hg hs hpl
    · exact he_lenD (he_var i (S_get h1) hN hv hd hcd) h2 hm hg hs hpl
  · cases hM⟩
theorem he_ixO' {α : Type} [Rp α] {mk : List α → Slot} {xs zs : List α} (O : Own mk) (i : Nat) {x : Str} {j : Int} {y : α} {q : Pos} (hi : env1[i]? = some (mk xs)) (h0 : env[i]? = some (mk zs)) (hx : atI xs j = some y) (hb : HE X b env env1 (rv j)) (hN : X.N[i]? = some x)
    (hv : Vis X.env.scope x) (hd : (x == ("__debug__" : Str)) = false) (hcd : (x == ("__classdict__" : Str)) = false) (hs : PlainIx b) : HE X (.Subscript (.Name x q) b pos) env env1 (rv y) :=
  (pe_ix ix_list (pe_own O i h0 hN hv hd hcd) hb hs).imp fun σ H Q ⟨w, e1, R1, q⟩ => ⟨w, e1, R1, fun a ha => ⟨w, rfl, R1, fun v w' R' l p => by
    obtain ⟨vs, _, _, h5, h6⟩ := R'.own O hi ha
    obtain ⟨z, e2, h3⟩ := atI_map h6 hx
    exact ⟨a, vs, j, z, rfl, p, SqL.of h5, e2, q z w' R' l h3⟩⟩⟩
theorem he_ixD {d y z : D} (h : ixD d y = some z) (ha : HE X a env env1 (rv d)) (hb : HE X b env1 env2 (rv y)) (hs : PlainIx b) : HE X (.Subscript a b pos) env env2 (rv z) := by
  unfold ixD at h
  split at h
  · rename_i xs hx
    unfold ixL at h
    split at h
    · cases d with
      | tup ys => cases hx; rw [rv_tup] at ha; exact he_ixT h ha hb hs
      | lst ys => cases hx; rw [rv_lst] at ha; exact he_ixL (xs := Lst.mk xs) h ha hb hs
      | lsr ys => cases hx; rw [rv_lsr] at ha; exact he_ixS (xs := Lsr.mk xs) h ha hb hs
      | _ => cases hx
    · cases h
  · cases h
theorem ix_no {X : Cx} : IxR X (fun _ _ _ _ => False) := fun _ _ pins s σ H x y v u Q I r1 r2 h _ => h.elim
theorem ce_ix (ha : CE X We xa a A) (hb : CE X We xa b B) (hs : PlainIx b := by intro _ _; rfl) : CE X We xa (.Subscript a b pos) (ixC A B) := ⟨fun ρ r hM => by
  rcases bd_some hM with ⟨x, ρ1, h1, h2⟩ | ⟨c, d, ρ1, h1, rfl⟩
  · rcases bd_some h2 with ⟨y, ρ2, h3, h4⟩ | ⟨c', d', ρ2, h3, rfl⟩
    · obtain ⟨z, h5, rfl⟩ := lf_ok h4
      exact he_ixD h5 (ha.run _ _ h1) (hb.run _ _ h3) hs
    · exact (pe_ix ix_no (ha.run _ _ h1) (hb.run _ _ h3) hs).imp fun σ H Q ⟨w, e1, R1, q⟩ => ⟨w, e1, R1, fun v w' R' l _ => ⟨w', rfl, R', fun w2 d u R2 l2 n => q w2 d u R2 (l.trans l2) (l.none n)⟩⟩
  · exact (pe_ix ix_no (ha.run _ _ h1) pe_no hs).imp fun σ H Q q => q⟩
theorem ce_ixV (i : Nat) {x : Str} {q : Pos} (hb : CE X We xa b B) (hN : X.N[i]? = some x := by rfl)
    (hv : Vis X.env.scope x := by first | exact Or.inl rfl | exact Or.inr (Or.inl rfl) | exact Or.inr (Or.inr rfl)) (hd : (x == ("__debug__" : Str)) = false := by decide) (hcd : (x == ("__classdict__" : Str)) = false := by decide) (hs : PlainIx b := by intro _ _; rfl) :
    CE X We xa (.Subscript (.Name x q) b pos) (ixV i B) := ⟨fun ρ r hM => by
  unfold ixV at hM
  split at hM
  · rename_i d hd'
    rcases bd_some hM with ⟨y, ρ1, h1, h2⟩ | ⟨c, d', ρ1, h1, rfl⟩
    · obtain ⟨z, h5, rfl⟩ := lf_ok h2
      exact he_ixD h5 (he_var i (S_get hd') hN hv hd hcd) (hb.run _ _ h1) hs
    · exact (pe_ix ix_no (he_var i (S_get hd') hN hv hd hcd) (hb.run _ _ h1) hs).imp fun σ H Q ⟨w, e1, R1, q⟩ => ⟨w, e1, R1, fun v w' R' l _ => ⟨w', rfl, R', fun w2 d u R2 l2 n => q w2 d u R2 (l.trans l2) (l.none n)⟩⟩
  · rename_i zs hd'
    rcases bd_some hM with ⟨y, ρ1, h1, h2⟩ | ⟨c, d', ρ1, h1, rfl⟩
    · split at h2
      · rename_i xs hx
        obtain ⟨z, h5, rfl⟩ := lf_ok h2
        unfold ixL at h5
        split at h5
        · exact he_ixO' (mk := BC.own) own_own i (S_get hx) (S_get hd') h5 (hb.run _ _ h1) hN hv hd hcd hs
        · cases h5
      · cases h2
    · exact (pe_ix ix_no (pe_own (mk := BC.own) own_own i (S_get hd') hN hv hd hcd) (hb.run _ _ h1) hs).imp fun σ H Q ⟨w, e1, R1, q⟩ => ⟨w, e1, R1, fun a ha => ⟨w, e1 ▸ rfl, R1, q⟩⟩
  · rename_i zs hd'
    rcases bd_some hM with ⟨y, ρ1, h1, h2⟩ | ⟨c, d', ρ1, h1, rfl⟩
    · split at h2
      · rename_i xs hx
        obtain ⟨z, h5, rfl⟩ := lf_ok h2
        unfold ixL at h5
        split at h5
        · exact he_ixO' (mk := BC.par) own_par i (S_get hx) (S_get hd') h5 (hb.run _ _ h1) hN hv hd hcd hs
        · cases h5
      · cases h2
    · exact (pe_ix ix_no (pe_own (mk := BC.par) own_par i (S_get hd') hN hv hd hcd) (hb.run _ _ h1) hs).imp fun σ H Q ⟨w, e1, R1, q⟩ => ⟨w, e1, R1, fun a ha => ⟨w, e1 ▸ rfl, R1, q⟩⟩
  · cases hM⟩

/-! slices -/
structure CO (X : Cx) (xa : Xa) (e : Option Expr) (M : Cp (Option Int)) : Prop where
  run : ∀ ρ o ρ', M ρ = some (.ok o ρ') → HO' X e (S xa ρ) (S xa ρ') o
def noC : Cp (Option Int) := fun ρ => some (.ok none ρ)
@[simp] theorem noC_ {ρ : PE'} : noC ρ = some (.ok none ρ) := rfl
def intD : D → Option (Option Int)
  | .int i => some (some i)
  | _ => none
@[simp] theorem intD_int {i : Int} : intD (.int i) = some (some i) := rfl
theorem co_none : CO X xa none noC := ⟨fun ρ o ρ' h => by cases h; exact ho_none⟩
theorem co_some (h : CE X We xa e A) : CO X xa (some e) (mapC intD A) := ⟨fun ρ o ρ' hM => by
  rcases bd_some hM with ⟨x, ρ1, h1, h2⟩ | ⟨c, d, ρ1, h1, h2⟩
  · obtain ⟨z, h3, h4⟩ := lf_ok h2
    cases h4
    cases x with
    | int i => cases h3; exact ho_some (h.run _ _ h1)
    | _ => cases h3
  · cases h2⟩
def cutL (d : D) (l h : Option Int) : Option D := match d with
  | .tup xs => some (.tup (cut xs l h))
  | .lst xs => some (.lst (cut xs l h))
  | _ => none
@[simp] theorem cutL_tup {xs : List D} {l h : Option Int} : cutL (.tup xs) l h = some (.tup (cut xs l h)) := rfl
@[simp] theorem cutL_lst {xs : List D} {l h : Option Int} : cutL (.lst xs) l h = some (.lst (cut xs l h)) := rfl
def slC (A : Cp D) (L H : Cp (Option Int)) : Cp D := fun ρ => match A ρ with
  | some (.ok d ρ1) => match L ρ1 with
    | some (.ok l ρ2) => match H ρ2 with
      | some (.ok h ρ3) => lf (cutL d l h) ρ3
      | _ => none
    | _ => none
  | _ => none
theorem slC_ {A : Cp D} {L H : Cp (Option Int)} {ρ ρ1 ρ2 ρ3 : PE'} {d : D} {l h : Option Int} (h1 : A ρ = some (.ok d ρ1)) (h2 : L ρ1 = some (.ok l ρ2)) (h3 : H ρ2 = some (.ok h ρ3)) : slC A L H ρ = lf (cutL d l h) ρ3 := by unfold slC; rw [h1]; dsimp only; rw [h2]; dsimp only; rw [h3]
theorem ce_sl {lo hi : Option Expr} {Lo Hi : Cp (Option Int)} {p2 : Pos} (ha : CE X We xa a A) (hl : CO X xa lo Lo) (hh : CO X xa hi Hi) : CE X We xa (.Subscript a (.Slice lo hi none p2) pos) (slC A Lo Hi) := ⟨fun ρ r hM => by
  unfold slC at hM
  split at hM
  · rename_i d ρ1 h1
    split at hM
    · rename_i l ρ2 h2
      split at hM
      · rename_i h ρ3 h3
        obtain ⟨z, h4, rfl⟩ := lf_ok hM
        have ha := ha.run _ _ h1
        cases d with
        | tup xs =>
          cases h4
          have ha : HE X _ _ _ (rv (D.tup xs)) := ha
          rw [rv_tup] at ha
          show HE X _ _ _ (rv (D.tup _))
          rw [rv_tup]
          exact he_slT ha (hl.run _ _ _ h2) (hh.run _ _ _ h3)
        | lst xs =>
          cases h4
          have ha : HE X _ _ _ (rv (D.lst xs)) := ha
          rw [rv_lst] at ha
          show HE X _ _ _ (rv (D.lst _))
          rw [rv_lst]
          exact he_lst (hl_sl (ys := Lst.mk xs) ha (hl.run _ _ _ h2) (hh.run _ _ _ h3))
        | _ => cases h4
      · cases hM
    · cases hM
  · cases hM⟩
def revD : D → Option D
  | .tup xs => some (.tup xs.reverse)
  | .lst xs => some (.lst xs.reverse)
  | _ => none
@[simp] theorem revD_tup {xs : List D} : revD (.tup xs) = some (.tup xs.reverse) := rfl
@[simp] theorem revD_lst {xs : List D} : revD (.lst xs) = some (.lst xs.reverse) := rfl
theorem ce_rev {k : Nat} {p1 p2 p3 : Pos} (ha : CE X We xa a A) : CE X We xa (.Subscript a (.Slice none none (some (.UnaryOp .USub (.Constant (.int 1) k p1) p2)) p3) pos) (mapC revD A) := ⟨fun ρ r hM => by
  rcases bd_some hM with ⟨x, ρ1, h1, h2⟩ | ⟨c, d, ρ1, h1, rfl⟩
  · obtain ⟨z, h3, rfl⟩ := lf_ok h2
    have ha := ha.run _ _ h1
    cases x with
    | tup xs =>
      cases h3
      have ha : HE X _ _ _ (rv (D.tup xs)) := ha
      rw [rv_tup] at ha
      show HE X _ _ _ (rv (D.tup _))
      rw [rv_tup]
      exact he_revT ha
    | lst xs =>
      cases h3
      have ha : HE X _ _ _ (rv (D.lst xs)) := ha
      rw [rv_lst] at ha
      show HE X _ _ _ (rv (D.lst _))
      rw [rv_lst]
      exact he_lst (hl_revL (ys := Lst.mk xs) ha)
    | _ => cases h3
  · exact (pe_revT (ha.run _ _ h1)).imp fun σ H Q q => q⟩
/-! ### built-ins over sequences -/
def tupD (d : D) : Option D := match d.seq? with
  | some xs => some (.tup xs)
  | none => none
@[simp] theorem tupD_tup {xs : List D} : tupD (.tup xs) = some (.tup xs) := rfl
@[simp] theorem tupD_lst {xs : List D} : tupD (.lst xs) = some (.tup xs) := rfl
@[simp] theorem tupD_lsr {xs : List D} : tupD (.lsr xs) = some (.tup xs) := rfl
theorem he_tupleD {d : D} {xs : List D} {p : Pos} (h : HE X e env env1 (rv d)) (hx : d.seq? = some xs) (hm : X.mg "tuple" = none) (hg : Gl X "tuple") (hs : starEach [e] X.env = (false, eval e X.env) :: starEach [] X.env) (hpl : (backTo pos (starEach [] X.env)).any (·.1) = false) : HE X (.Call (.Name "tuple" p) [e] [] pos) env env1 (rv (D.tup xs)) := by
  rw [rv_tup]
  cases d with
  | tup ys => cases hx; rw [rv_tup] at h; exact he_tupleT h hm hg hs hpl
  | lst ys => cases hx; rw [rv_lst] at h; exact he_tupleL (ys := Lst.mk xs) h hm hg hs hpl
  | lsr ys =>
    cases hx
    rw [rv_lsr] at h
    exact (pe_callTy call_tuple_of hg hm (by decide +kernel) (pa_cons h pa_nil hs) (he := hs) (hpl := hpl)).imp fun σ H Q ⟨w, e1, R1, q⟩ => ⟨w, e1, R1, fun v w' R' l ⟨t, vs, e2, h1, h2⟩ => by
      refine ⟨t, vs, by rw [e2], .inl ⟨Ex.l R'.ok.sub h1, fun p hp => ?_⟩⟩
      have h5 := (R'.ok.fresh hp).1
      exact q _ (w'.add p (.tup vs)) (R'.add hp) (l.trans (add_le R'.ok hp)) ⟨p, _, rfl, SqT.of upd_same, h2.mono (Ex.new h5)⟩⟩
  | _ => cases hx
theorem ce_tuple {p : Pos} (h : CE X We xa e A) (hm : X.mg "tuple" = none) (hg : Gl X "tuple" := by rfl) (hs : starEach [e] X.env = (false, eval e X.env) :: starEach [] X.env := by rfl) (hpl : (backTo pos (starEach [] X.env)).any (·.1) = false := by rfl) :
    CE X We xa (.Call (.Name "tuple" p) [e] [] pos) (mapC tupD A) := ⟨fun ρ r hM => by
  rcases bd_some hM with ⟨x, ρ1, h1, h2⟩ | ⟨c, d, ρ1, h1, rfl⟩
  · obtain ⟨z, h3, rfl⟩ := lf_ok h2
    unfold tupD at h3
    split at h3
    · rename_i xs hx
      cases h3
      exact he_tupleD (h.run _ _ h1) hx hm hg hs hpl
    · cases h3
  · exact (pe_callTy call_tuple_of hg hm (by decide +kernel) (pa_cons (h.run _ _ h1) pa_nil hs) (he := hs) (hpl := hpl)).imp fun σ H Q q => q⟩
def tupV (i : Nat) : Cp D := fun ρ => match sqAt ρ i with
  | some xs => some (.ok (.tup xs) ρ)
  | none => none
theorem ce_tupleV (i : Nat) {x : Str} {p p1 : Pos} (hm : X.mg "tuple" = none) (hN : X.N[i]? = some x := by rfl)
    (hv : Vis X.env.scope x := by first | exact Or.inl rfl | exact Or.inr (Or.inl rfl) | exact Or.inr (Or.inr rfl)) (hd : (x == ("__debug__" : Str)) = false := by decide) (hcd : (x == ("__classdict__" : Str)) = false := by decide)
    (hg : Gl X "tuple" := by rfl) (hs : starEach [.Name x p1] X.env = (false, eval (.Name x p1) X.env) :: starEach [] X.env := by rfl) (hpl : (backTo pos (starEach [] X.env)).any (·.1) = false := by rfl) :
    CE X We xa (.Call (.Name "tuple" p) [.Name x p1] [] pos) (tupV i) := ⟨fun ρ r hM => by
  unfold tupV at hM
  split at hM
  · rename_i xs hx
    cases hM
    rcases sq_cases hx with ⟨b, h1⟩ | ⟨d, h1, h2⟩
    · show HE X _ _ _ (rv (D.tup xs))
      rw [rv_tup]
      exact he_tupleO (mkL_own b) i (lsAt_S h1) hm hN hv hd hcd hg hs hpl
    · exact he_tupleD (he_var i (S_get h1) hN hv hd hcd) h2 hm hg hs hpl
  · cases hM⟩
def lsC (A : Cp D) : Cp (List D) := mapC D.seq? A
theorem cl_list {p : Pos} (h : CE X We xa e A) (hm : X.mg "list" = none) (hg : Gl X "list" := by rfl) (hs : starEach [e] X.env = (false, eval e X.env) :: starEach [] X.env := by rfl) (hpl : (backTo pos (starEach [] X.env)).any (·.1) = false := by rfl) :
    CL X We xa (.Call (.Name "list" p) [e] [] pos) (mapC D.seq? A) := ⟨fun ρ r hM => by
  rcases bd_some hM with ⟨x, ρ1, h1, h2⟩ | ⟨c, d, ρ1, h1, rfl⟩
  · obtain ⟨z, h3, rfl⟩ := lf_ok h2
    exact hl_list (h.run _ _ h1) (sq_seq h3) hm hg hs hpl
  · exact (pe_callTy call_list_of hg hm (by decide +kernel) (pa_cons (h.run _ _ h1) pa_nil hs) (he := hs) (hpl := hpl)).imp fun σ H Q q => q⟩
/-! int, max, min -/
def toInt : D → Option D
  | .int i => some (.int i)
  | .bl b => some (.int (if b = true then 1 else 0))
  | _ => none
@[simp] theorem toInt_int {i : Int} : toInt (.int i) = some (.int i) := rfl
@[simp] theorem toInt_bl {b : Bool} : toInt (.bl b) = some (.int (if b = true then 1 else 0)) := rfl
theorem ce_intof {p : Pos} (h : CE X We xa e A) (hm : X.mg "int" = none) (hg : Gl X "int" := by rfl) (hs : starEach [e] X.env = (false, eval e X.env) :: starEach [] X.env := by rfl) (hpl : (backTo pos (starEach [] X.env)).any (·.1) = false := by rfl) :
    CE X We xa (.Call (.Name "int" p) [e] [] pos) (mapC toInt A) := ⟨fun ρ r hM => by
  rcases bd_some hM with ⟨x, ρ1, h1, h2⟩ | ⟨c, d, ρ1, h1, rfl⟩
  · obtain ⟨z, h3, rfl⟩ := lf_ok h2
    have h := h.run _ _ h1
    cases x with
    | int i => cases h3; exact he_intI h hm hg hs hpl
    | bl i => cases h3; exact he_intB h hm hg hs hpl
    | _ => cases h3
  · exact (pe_callTy call_int1 hg hm (by decide +kernel) (pa_cons (h.run _ _ h1) pa_nil hs) (he := hs) (hpl := hpl)).imp fun σ H Q q => q⟩
def maxD : D → D → Option D
  | .int i, .int j => some (.int (max i j))
  | _, _ => none
def minD : D → D → Option D
  | .int i, .int j => some (.int (min i j))
  | _, _ => none
@[simp] theorem maxD_int {i j : Int} : maxD (.int i) (.int j) = some (.int (max i j)) := rfl
@[simp] theorem minD_int {i j : Int} : minD (.int i) (.int j) = some (.int (min i j)) := rfl
theorem ce_max2 {p : Pos} (hc : X.calm = true) (ha : CE X We xa a A) (hb : CE X We xa b B) (hm : X.mg "max" = none) (hg : Gl X "max" := by rfl) (hs : starEach [a, b] X.env = (false, eval a X.env) :: starEach [b] X.env := by rfl) (hs2 : starEach [b] X.env = (false, eval b X.env) :: starEach [] X.env := by rfl) (hpl : (backTo pos (starEach [b] X.env)).any (·.1) = false := by rfl) :
    CE X We xa (.Call (.Name "max" p) [a, b] [] pos) (binC maxD A B) := ⟨fun ρ r hM => by
  rcases bd_some hM with ⟨x, ρ1, h1, h2⟩ | ⟨c, d, ρ1, h1, rfl⟩
  · rcases bd_some h2 with ⟨y, ρ2, h3, h4⟩ | ⟨c', d', ρ2, h3, rfl⟩
    · obtain ⟨z, h5, rfl⟩ := lf_ok h4
      unfold maxD at h5
      split at h5
      · cases h5
        exact he_max2 hc (ha.run _ _ h1) (hb.run _ _ h3) hm hg hs hs2 hpl
      · cases h5
    · exact (pe_callB (call_max2 hc) hg hm (by decide +kernel) (pa_cons (ha.run _ _ h1) (pa_cons (hb.run _ _ h3) pa_nil hs2) hs) (he := hs) (hpl := hpl)).imp fun σ H Q ⟨w, e1, R1, q⟩ => ⟨w, e1, R1, fun v w' R' l _ => ⟨w', rfl, R', fun w2 d u R2 l2 n => q w2 d u R2 (l.trans l2) (l.none n)⟩⟩
  · exact (pe_callB (call_max2 hc) hg hm (by decide +kernel) (pa_cons (ha.run _ _ h1) (pa_cons pe_no pa_nil hs2) hs) (he := hs) (hpl := hpl)).imp fun σ H Q q => q⟩
theorem ce_min2 {p : Pos} (hc : X.calm = true) (ha : CE X We xa a A) (hb : CE X We xa b B) (hm : X.mg "min" = none) (hg : Gl X "min" := by rfl) (hs : starEach [a, b] X.env = (false, eval a X.env) :: starEach [b] X.env := by rfl) (hs2 : starEach [b] X.env = (false, eval b X.env) :: starEach [] X.env := by rfl) (hpl : (backTo pos (starEach [b] X.env)).any (·.1) = false := by rfl) :
    CE X We xa (.Call (.Name "min" p) [a, b] [] pos) (binC minD A B) := ⟨fun ρ r hM => by
  rcases bd_some hM with ⟨x, ρ1, h1, h2⟩ | ⟨c, d, ρ1, h1, rfl⟩
  · rcases bd_some h2 with ⟨y, ρ2, h3, h4⟩ | ⟨c', d', ρ2, h3, rfl⟩
    · obtain ⟨z, h5, rfl⟩ := lf_ok h4
      unfold minD at h5
      split at h5
      · cases h5
        exact he_min2 hc (ha.run _ _ h1) (hb.run _ _ h3) hm hg hs hs2 hpl
      · cases h5
    · exact (pe_callB (call_min2 hc) hg hm (by decide +kernel) (pa_cons (ha.run _ _ h1) (pa_cons (hb.run _ _ h3) pa_nil hs2) hs) (he := hs) (hpl := hpl)).imp fun σ H Q ⟨w, e1, R1, q⟩ => ⟨w, e1, R1, fun v w' R' l _ => ⟨w', rfl, R', fun w2 d u R2 l2 n => q w2 d u R2 (l.trans l2) (l.none n)⟩⟩
  · exact (pe_callB (call_min2 hc) hg hm (by decide +kernel) (pa_cons (ha.run _ _ h1) (pa_cons pe_no pa_nil hs2) hs) (he := hs) (hpl := hpl)).imp fun σ H Q q => q⟩
/-! fields of records -/
def fldD (f : Str) : D → Option D
  | .ob _ fn xs => if fn.idxOf f < fn.length then xs[fn.idxOf f]? else none
  | _ => none
@[simp] theorem fldD_ob {f c : Str} {fn : List Str} {xs : List D} : fldD f (.ob c fn xs) = if fn.idxOf f < fn.length then xs[fn.idxOf f]? else none := rfl
theorem alP_rv {K : PySem.W.Frag} {H : Hp} : ∀ {xs : List D} {us : List V}, D.rpL K xs us H → AlP K H (rvs xs) us
  | [], _, h => h
  | x :: xs, _, ⟨v, r, h1, h2, h3⟩ => ⟨v, r, h1, h2, alP_rv h3⟩
theorem ce_fld {f : Str} (h : CE X We xa e A) (hb : attributeBase e f X.env (eval e X.env) = eval e X.env := by rfl) : CE X We xa (.Attribute e f pos) (mapC (fldD f) A) := ⟨fun ρ r hM => by
  rcases bd_some hM with ⟨x, ρ1, h1, h2⟩ | ⟨c, d, ρ1, h1, rfl⟩
  · obtain ⟨z, h3, rfl⟩ := lf_ok h2
    have h := h.run _ _ h1
    cases x with
    | ob c fn xs =>
      rw [fldD_ob] at h3
      split at h3
      · rename_i hlt
        have hf : fn[fn.idxOf f]? = some f := by rw [List.getElem?_eq_getElem hlt, List.getElem_idxOf]
        refine he_fld (fn := fn) (Ps := rvs xs) (fn.idxOf f) (he_to h fun K v H ⟨a, C, dx, fs, us, _, e2, h5, h6, h7, h8⟩ => ⟨a, C, e2, dx, fs, us, h5, h6, alP_rv h7, h8⟩) hf ?_ hb
        unfold rvs
        rw [List.getElem?_map, h3]
        rfl
      · cases h3
    | _ => cases h3
  · exact (pe_fld (h.run _ _ h1) hb).imp fun σ H Q q => q⟩
end
end BC

namespace BC
open PySem PySem.Spec PyProof.Rows L2
variable [TabL]
/-! ### statements -/
def bs {α : Type} (o : Option (Rs α)) (f : α → PE' → Option Out) : Option Out := match o with
  | some (.ok x ρ) => f x ρ
  | some (.er c d ρ) => some (.er c d ρ)
  | none => none
@[simp] theorem bs_ok {α : Type} {x : α} {ρ : PE'} {f : α → PE' → Option Out} : bs (some (.ok x ρ)) f = f x ρ := rfl
@[simp] theorem bs_er {α : Type} {c : Str} {d : D} {ρ : PE'} {f : α → PE' → Option Out} : bs (some (.er c d ρ)) f = some (.er c d ρ) := rfl
@[simp] theorem bs_none {α : Type} {f : α → PE' → Option Out} : bs none f = none := rfl
theorem bs_some {α : Type} {o : Option (Rs α)} {f : α → PE' → Option Out} {r : Out} (h : bs o f = some r) : (∃ x ρ, o = some (.ok x ρ) ∧ f x ρ = some r) ∨ ∃ c d ρ, o = some (.er c d ρ) ∧ r = .er c d ρ := by
  match o with
  | some (.ok x ρ) => exact .inl ⟨x, ρ, rfl, h⟩
  | some (.er c d ρ) => exact .inr ⟨c, d, ρ, rfl, by cases h; rfl⟩
  | none => cases h
def setC (i : Nat) (A : Cp D) : Cs := fun ρ => bs (A ρ) fun d ρ1 => some (.nx (ρ1.set i (.im d)))
def setL (i : Nat) (A : Cp (List D)) : Cs := fun ρ => bs (A ρ) fun d ρ1 => some (.nx (ρ1.set i (.own d)))
def exprC (A : Cp D) : Cs := fun ρ => bs (A ρ) fun _ ρ1 => some (.nx ρ1)
def retC (A : Cp D) : Cs := fun ρ => bs (A ρ) fun d ρ1 => some (.rt d ρ1)
def retL (A : Cp (List D)) : Cs := fun ρ => bs (A ρ) fun d ρ1 => some (.rl d ρ1)
def retN : Cs := fun ρ => some (.rt .non ρ)
def pasC : Cs := fun ρ => some (.nx ρ)
def brkC : Cs := fun ρ => some (.bk ρ)
def conC : Cs := fun ρ => some (.ct ρ)
def nilS : Cs := fun ρ => some (.nx ρ)
def seqS (A B : Cs) : Cs := fun ρ => match A ρ with
  | some (.nx ρ1) => B ρ1
  | o => o
def ifS (M : Cp Bool) (A B : Cs) : Cs := fun ρ => bs (M ρ) fun b ρ1 => if b = true then A ρ1 else B ρ1
section
variable {i : Nat} {A : Cp D} {L : Cp (List D)} {M : Cp Bool} {P Q : Cs} {ρ ρ1 : PE'}
@[simp] theorem setC_ : setC i A ρ = bs (A ρ) fun d ρ1 => some (.nx (ρ1.set i (.im d))) := rfl
@[simp] theorem setL_ : setL i L ρ = bs (L ρ) fun d ρ1 => some (.nx (ρ1.set i (.own d))) := rfl
@[simp] theorem exprC_ : exprC A ρ = bs (A ρ) fun _ ρ1 => some (.nx ρ1) := rfl
@[simp] theorem retC_ : retC A ρ = bs (A ρ) fun d ρ1 => some (.rt d ρ1) := rfl
@[simp] theorem retL_ : retL L ρ = bs (L ρ) fun d ρ1 => some (.rl d ρ1) := rfl
@[simp] theorem retN_ : retN ρ = some (.rt .non ρ) := rfl
@[simp] theorem pasC_ : pasC ρ = some (.nx ρ) := rfl
@[simp] theorem brkC_ : brkC ρ = some (.bk ρ) := rfl
@[simp] theorem conC_ : conC ρ = some (.ct ρ) := rfl
@[simp] theorem nilS_ : nilS ρ = some (.nx ρ) := rfl
/-- what follows a statement -/
def sq (o : Option Out) (B : Cs) : Option Out := match o with
  | some (.nx ρ1) => B ρ1
  | o => o
@[simp] theorem seqS_ : seqS P Q ρ = sq (P ρ) Q := rfl
@[simp] theorem sq_nx : sq (some (.nx ρ)) Q = Q ρ := rfl
@[simp] theorem sq_rt {d : D} : sq (some (.rt d ρ)) Q = some (.rt d ρ) := rfl
@[simp] theorem sq_rl {d : List D} : sq (some (.rl d ρ)) Q = some (.rl d ρ) := rfl
@[simp] theorem sq_bk : sq (some (.bk ρ)) Q = some (.bk ρ) := rfl
@[simp] theorem sq_ct : sq (some (.ct ρ)) Q = some (.ct ρ) := rfl
@[simp] theorem sq_er {c : Str} {d : D} : sq (some (.er c d ρ)) Q = some (.er c d ρ) := rfl
@[simp] theorem sq_none : sq none Q = none := rfl
@[simp] theorem ifS_ : ifS M P Q ρ = bs (M ρ) fun b ρ1 => if b = true then P ρ1 else Q ρ1 := rfl
end
theorem wk_sql {α : Type} [Rp α] {K : PySem.W.Frag} {a : Addr} {xs : List α} {vs : List V} {w0 : Wd} (h : SqL K w0.Hi a vs) (al : Al α K w0.Hi xs vs) : Wk K (Itl K a) (rvs xs) w0 where
  go := fun i w l ok hi => by
    rw [rvs_len, ← al.len] at hi
    exact ⟨vs, vs[i], Ex.l (l.hi.trans ok.sub) h, by simp [hi]⟩
  stop := fun i w l ok hi => by
    rw [rvs_len, ← al.len] at hi
    exact ⟨vs, Ex.l (l.hi.trans ok.sub) h, Nat.le_of_eq hi.symm⟩
  yld := fun i w x H' P l ok hi ⟨e, y⟩ => by
    obtain ⟨v, hv, hp⟩ := al.getV hi
    have := y vs (Ex.l (l.hi.trans ok.sub) h)
    rw [hv] at this
    cases this
    exact ⟨w, e.symm, Le.refl w, P.mono l.hi hp, fun _ _ R => R⟩
section
variable {env env1 env2 : List Slot} {X : Cx} {We : WX} {xa : Xa} {a b c e tg iter : Expr} {A B C : Cp D} {M N : Cp Bool} {pos : Pos} {es rest : List Expr} {As L : Cp (List D)} {s : Stmt} {r ss ts : List Stmt} {P Q : Cs}
theorem cs_nil : CSs X We xa [] nilS := ⟨fun ρ o h => by cases h; exact hs_nil⟩
theorem cs_cons (h : CS X We xa s P) (t : CSs X We xa r Q) : CSs X We xa (s :: r) (seqS P Q) := ⟨fun ρ o hM => by
  rw [seqS_] at hM
  cases q : P ρ with
  | none => rw [q] at hM; cases hM
  | some x =>
    rw [q] at hM
    have hx := h.run ρ x q
    cases x with
    | nx ρ1 => exact hs_cons hx (t.run _ _ hM)
    | rt d ρ1 => cases hM; exact hs_end hx trivial
    | bk ρ1 => cases hM; exact hs_end hx trivial
    | ct ρ1 => cases hM; exact hs_end hx trivial
    | er c d ρ1 => cases hM; exact hs_end hx trivial
    | rl d ρ1 => cases hM; exact hs_end hx trivial⟩
theorem cs_one (h : CS X We xa s P) : CSs X We xa [s] P := ⟨fun ρ o hM => hs_one (h.run ρ o hM)⟩
theorem S_im {xa : Xa} {ρ : PE'} {i : Nat} {d : D} : (S xa ρ).set i (im (rv d)) = S xa (ρ.set i (.im d)) := S_set (s := .im d)
theorem S_own {xa : Xa} {ρ : PE'} {i : Nat} {d : List D} : (S xa ρ).set i (own d) = S xa (ρ.set i (.own d)) := S_set (s := .own d)
theorem cs_set (i : Nat) {x : Str} {pos' : Pos} (he : CE X We xa e A) (hN : X.N.Nodup) (hi : X.N[i]? = some x := by rfl) (hx : Loc X.env.scope x := by first | exact Or.inl rfl | exact Or.inr rfl) (hs : swapsWith e (some (.Name x pos')) pos.line X.env = pure false := by rfl)
    (hf : X.fn x = true ∨ X.env.scope.names.lookup x = some .local := by first | exact .inl rfl | exact .inr rfl | assumption) : CS X We xa (.Assign [.Name x pos'] e pos) (setC i A) := ⟨fun ρ o hM => by
  rcases bs_some hM with ⟨d, ρ1, h1, h2⟩ | ⟨c, d, ρ1, h1, rfl⟩
  · cases h2
    show HS X We _ _ (.nx (S xa _))
    rw [← S_im]
    exact st_set i (he.run _ _ h1) hN hi hx hs hf
  · exact (ps_set hN hi hx (he.run _ _ h1) hs hf).imp fun D σ H ⟨w, e1, R1, q⟩ => ⟨w, e1, R1, fun w' d v R' l n => q σ w' d v R' l n⟩⟩
theorem cs_own (i : Nat) {x : Str} {pos' : Pos} (he : CL X We xa e L) (hN : X.N.Nodup) (hi : X.N[i]? = some x := by rfl) (hx : Loc X.env.scope x := by first | exact Or.inl rfl | exact Or.inr rfl) (hs : swapsWith e (some (.Name x pos')) pos.line X.env = pure false := by rfl)
    (hf : X.fn x = true ∨ X.env.scope.names.lookup x = some .local := by first | exact .inl rfl | exact .inr rfl | assumption) : CS X We xa (.Assign [.Name x pos'] e pos) (setL i L) := ⟨fun ρ o hM => by
  rcases bs_some hM with ⟨d, ρ1, h1, h2⟩ | ⟨c, d, ρ1, h1, rfl⟩
  · cases h2
    show HS X We _ _ (.nx (S xa _))
    rw [← S_own]
    exact st_own i (he.run _ _ h1) hN hi hx hs hf
  · exact (ps_set hN hi hx (he.run _ _ h1) hs hf).imp fun D σ H ⟨w, e1, R1, q⟩ => ⟨w, e1, R1, fun w' d v R' l n => q σ w' d v R' l n⟩⟩
theorem cs_expr (he : CE X We xa e A) (hs : swapsWith e none pos.line X.env = pure false := by rfl) : CS X We xa (.Expr e pos) (exprC A) := ⟨fun ρ o hM => by
  rcases bs_some hM with ⟨d, ρ1, h1, h2⟩ | ⟨c, d, ρ1, h1, rfl⟩
  · cases h2
    exact st_expr (he.run _ _ h1) hs
  · exact (ps_expr (he.run _ _ h1) hs).imp fun D σ H ⟨w, e1, R1, q⟩ => ⟨w, e1, R1, fun w' d v R' l n => q σ w' d v R' l n⟩⟩
theorem cs_ret (he : CE X We xa e A) : CS X We xa (.Return (some e) pos) (retC A) := ⟨fun ρ o hM => by
  rcases bs_some hM with ⟨d, ρ1, h1, h2⟩ | ⟨c, d, ρ1, h1, rfl⟩
  · cases h2
    exact st_ret (he.run _ _ h1)
  · exact (ps_ret (he.run _ _ h1)).imp fun D σ H ⟨w, e1, R1, q⟩ => ⟨w, e1, R1, fun w' d v R' l n => q σ w' d v R' l n⟩⟩
theorem cs_retL (he : CL X We xa e L) : CS X We xa (.Return (some e) pos) (retL L) := ⟨fun ρ o hM => by
  rcases bs_some hM with ⟨d, ρ1, h1, h2⟩ | ⟨c, d, ρ1, h1, rfl⟩
  · cases h2
    exact st_retL (he.run _ _ h1)
  · exact (ps_ret (he.run _ _ h1)).imp fun D σ H ⟨w, e1, R1, q⟩ => ⟨w, e1, R1, fun w' d v R' l n => q σ w' d v R' l n⟩⟩
theorem cs_retN : CS X We xa (.Return none pos) retN := ⟨fun ρ o hM => by cases hM; exact st_retN⟩
theorem cs_pass : CS X We xa (.Pass pos) pasC := ⟨fun ρ o hM => by cases hM; exact st_pass⟩
theorem cs_break : CS X We xa (.Break pos) brkC := ⟨fun ρ o hM => by cases hM; exact st_break⟩
theorem cs_cont : CS X We xa (.Continue pos) conC := ⟨fun ρ o hM => by cases hM; exact st_cont⟩
theorem cs_if (hc : CB X We xa e M) (h1 : CSs X We xa ss P) (h2 : CSs X We xa ts Q) : CS X We xa (.If e ss ts pos) (ifS M P Q) := ⟨fun ρ o hM => by
  rcases bs_some hM with ⟨d, ρ1, h3, h4⟩ | ⟨c, d, ρ1, h3, rfl⟩
  · cases d with
    | true => exact st_if (hc.run _ _ h3) (fun _ => h1.run _ _ (by rw [if_pos rfl] at h4; exact h4)) (fun z => by cases z)
    | false => exact st_if (hc.run _ _ h3) (fun z => by cases z) (fun _ => h2.run _ _ (by rw [if_neg Bool.false_ne_true] at h4; exact h4))
  · exact (ps_if (hc.run _ _ h3) pss_no pss_no).imp fun D σ H ⟨w, e1, R1, q⟩ => ⟨w, e1, R1, fun w' d v R' l n => q σ w' d v R' l n⟩⟩
/-! ### targets, walks -/
def tgN (i : Nat) : D → PE' → Option PE' := fun d ρ => some (ρ.set i (.im d))
@[simp] theorem tgN_ {i : Nat} {d : D} {ρ : PE'} : tgN i d ρ = some (ρ.set i (.im d)) := rfl
def tgP (s t : D → PE' → Option PE') : D → PE' → Option PE' := fun d ρ => match d with
  | .tup [x, y] => match s x ρ with
    | some ρ1 => t y ρ1
    | none => none
  | _ => none
@[simp] theorem tgP_ {s t : D → PE' → Option PE'} {x y : D} {ρ : PE'} : tgP s t (.tup [x, y]) ρ = (s x ρ).bind (t y) := by
  show (match s x ρ with | some ρ1 => t y ρ1 | none => none) = _
  cases s x ρ <;> rfl
theorem cg_name (i : Nat) {x : Str} (hN : X.N.Nodup) (hi : X.N[i]? = some x := by rfl) (hx : Loc X.env.scope x := by first | exact Or.inl rfl | exact Or.inr rfl) (hf : X.fn x = true ∨ X.env.scope.names.lookup x = some .local := by first | exact .inl rfl | exact .inr rfl | assumption) : CG X xa (.Name x pos) [i] (tgN i) := ⟨fun d ρ ρ' h => by
  cases h
  rw [← S_im]
  exact hg_name i hN hi hx hf⟩
theorem cg_pair {ea eb : Expr} {k : Nat} {is js : List Nat} {s t : D → PE' → Option PE'} (hc : X.calm = true) (ha : CG X xa ea is s) (hb : CG X xa eb js t)
    (hs : (assignEach [ea, eb] X.env).map (·.2) = assign ea X.env :: (assignEach [eb] X.env).map (·.2) := by rfl) (hs2 : (assignEach [eb] X.env).map (·.2) = assign eb X.env :: (assignEach [] X.env).map (·.2) := by rfl)
    (hn : (assignEach [ea, eb] X.env).length = 2 := by rfl) (hst : (assignEach [ea, eb] X.env).findIdx? (·.1) = none := by rfl) : CG X xa (.Tuple [ea, eb] k pos) (is ++ js) (tgP s t) := ⟨fun d ρ ρ' h => by
  unfold tgP at h
  split at h
  · rename_i x y
    split at h
    · rename_i ρ1 h1
      rw [rv_tup]
      exact hg_two hc (ha.run _ _ _ h1) (hb.run _ _ _ h) hs hs2 hn hst
    · cases h
  · cases h⟩
/-- tg = e -/
def asgC (A : Cp D) (t : D → PE' → Option PE') : Cs := fun ρ => bs (A ρ) fun d ρ1 => match t d ρ1 with
  | some ρ2 => some (.nx ρ2)
  | none => none
@[simp] theorem asgC_ {t : D → PE' → Option PE'} {ρ : PE'} : asgC A t ρ = bs (A ρ) fun d ρ1 => match t d ρ1 with
  | some ρ2 => some (.nx ρ2)
  | none => none := rfl
theorem cs_asg {is : List Nat} {t : D → PE' → Option PE'} (he : CE X We xa e A) (hg : CG X xa tg is t) (hs : swapsWithSole [tg] e pos.line X.env = pure false := by rfl) (hw : swappedStores [tg] e X.env = pure none := by rfl)
    (h1 : (assignEach [tg] X.env).map (·.2) = [assign tg X.env] := by rfl) : CS X We xa (.Assign [tg] e pos) (asgC A t) := ⟨fun ρ o hM => by
  rcases bs_some hM with ⟨d, ρ1, h3, h4⟩ | ⟨c, d, ρ1, h3, rfl⟩
  · split at h4
    · rename_i ρ2 h5
      cases h4
      exact st_asg (he.run _ _ h3) (hg.run _ _ _ h5) hs hw h1
    · cases h4
  · exact (ps_asg (he.run _ _ h3) (pg_any (tg := tg)) hs hw h1).imp fun D σ H ⟨w, e1, R1, q⟩ => ⟨w, e1, R1, fun w' d v R' l n => q σ w' d v R' l n⟩⟩
/-- a, b = e, f: swapped stores; each side a value or a fresh list -/
def parC (i j : Nat) (A B : Cp D) : Cs := fun ρ => bs (A ρ) fun d ρ1 => bs (B ρ1) fun d2 ρ2 => some (.nx ((ρ2.set i (.im d)).set j (.im d2)))
@[simp] theorem parC_ {i j : Nat} {ρ : PE'} : parC i j A B ρ = bs (A ρ) fun d ρ1 => bs (B ρ1) fun d2 ρ2 => some (.nx ((ρ2.set i (.im d)).set j (.im d2))) := rfl
theorem cs_par (i j : Nat) {x y : Str} {px py pt pt2 : Pos} {kt k2} (hc : X.calm = true) (hN : X.N.Nodup) (ha : CE X We xa a A) (hb : CE X We xa b B) (hij : i ≠ j := by decide) (hi : X.N[i]? = some x := by rfl) (hj : X.N[j]? = some y := by rfl)
    (hx : X.env.scope.names.lookup x = some .local := by rfl) (hy : X.env.scope.names.lookup y = some .local := by rfl)
    (hw : swappedStores [.Tuple [.Name x px, .Name y py] kt pt] (.Tuple [a, b] k2 pt2) X.env = pure (some [x, y]) := by rfl)
    (hs : swapsWithSole [.Tuple [.Name x px, .Name y py] kt pt] (.Tuple [a, b] k2 pt2) pos.line X.env = pure false := by rfl)
    (hs1 : starEach [a, b] X.env = (false, eval a X.env) :: starEach [b] X.env := by rfl) (hs2 : starEach [b] X.env = (false, eval b X.env) :: starEach [] X.env := by rfl) : CS X We xa (.Assign [.Tuple [.Name x px, .Name y py] kt pt] (.Tuple [a, b] k2 pt2) pos) (parC i j A B) := ⟨fun ρ o hM => by
  rcases bs_some hM with ⟨d, ρ1, h3, h4⟩ | ⟨c, d, ρ1, h3, rfl⟩
  · rcases bs_some h4 with ⟨d2, ρ2, h5, h6⟩ | ⟨c, d2, ρ2, h5, rfl⟩
    · cases h6
      show HS X We _ _ (.nx (S xa _))
      rw [← S_im, ← S_im]
      exact st_par i j hc hN (ha_cons (ha.run _ _ h3) (ha_cons (hb.run _ _ h5) ha_nil hs2) hs1) hij hi hj hx hy hw hs
    · exact (ps_par hc hN hi hj hij hx hy (pa_cons (ha.run _ _ h3) (pa_cons (hb.run _ _ h5) pa_nil hs2) hs1) hw hs).imp fun D σ H ⟨w, e1, R1, q⟩ => ⟨w, e1, R1, fun v w' R' l _ => ⟨w', rfl, R', fun w2 d u R2 l2 n => q σ w2 d u R2 (l.trans l2) (l.none n)⟩⟩
  · exact (ps_par hc hN hi hj hij hx hy (pa_cons (ha.run _ _ h3) (pa_cons pe_no pa_nil hs2) hs1) hw hs).imp fun D σ H ⟨w, e1, R1, q⟩ => ⟨w, e1, R1, fun w' d v R' l n => q σ w' d v R' l n⟩⟩
/-! what is walked -/
def seqI (A : Cp D) : Cp (List D) := mapC D.seq? A
@[simp] theorem seqI_ {ρ : PE'} : seqI A ρ = bd (A ρ) fun x ρ1 => lf x.seq? ρ1 := rfl
theorem hi_seq {d : D} {xs : List D} (h : HE X e env env1 (rv d)) (hx : d.seq? = some xs) : HI X tg e env env1 (rvs xs) := by
  cases d with
  | tup ys => cases hx; rw [rv_tup] at h; exact hi_tup h
  | lst ys => cases hx; rw [rv_lst] at h; exact hi_lst (xs := Lst.mk xs) h
  | lsr ys =>
    cases hx
    rw [rv_lsr] at h
    exact (pi_list h).imp fun σ H Q ⟨w, e1, R1, q⟩ => ⟨w, e1, R1, fun v w' R' l ⟨t, vs, e2, h1, h2⟩ => ⟨t, e2, ⟨vs, Ex.l R'.ok.sub h1⟩, q _ w' R' l (wk_sql h1 h2)⟩⟩
  | _ => cases hx

theorem ci_seq (h : CE X We xa e A) : CI X xa tg e (seqI A) := ⟨fun ρ xs ρ' hM => by
  rcases bd_some hM with ⟨x, ρ1, h1, h2⟩ | ⟨c, d, ρ1, h1, h2⟩
  · obtain ⟨z, h3, h4⟩ := lf_ok h2
    cases h4
    exact hi_seq (h.run _ _ h1) h3
  · cases h2⟩
def rng1D : D → Option (List D)
  | .int j => if -4611686018427387904 ≤ j ∧ j < 4611686018427387904 then some ((rng 0 j.toNat).map D.int) else none
  | _ => none
@[simp] theorem rng1D_int {j : Int} : rng1D (.int j) = if -4611686018427387904 ≤ j ∧ j < 4611686018427387904 then some ((rng 0 j.toNat).map D.int) else none := rfl
def rng2D : D → D → Option (List D)
  | .int i, .int j => if -4611686018427387904 ≤ i ∧ i < 4611686018427387904 ∧ -4611686018427387904 ≤ j ∧ j < 4611686018427387904 then some ((rng i (j - i).toNat).map D.int) else none
  | _, _ => none
@[simp] theorem rng2D_int {i j : Int} : rng2D (.int i) (.int j) = if -4611686018427387904 ≤ i ∧ i < 4611686018427387904 ∧ -4611686018427387904 ≤ j ∧ j < 4611686018427387904 then some ((rng i (j - i).toNat).map D.int) else none := rfl
theorem rvs_int (is : List Int) : rvs (is.map D.int) = rvs is := by
  unfold rvs
  rw [List.map_map]
  rfl
theorem ci_rng1 {p : Pos} (h : CE X We xa e A) (hm : X.mg "range" = none) (hg : Gl X "range" := by rfl) (hs : starEach [e] X.env = (false, eval e X.env) :: starEach [] X.env := by rfl) (hs2 : starEach [e] X.env = [(false, eval e X.env)] := by rfl) : CI X xa tg (.Call (.Name "range" p) [e] [] pos) (mapC rng1D A) := ⟨fun ρ xs ρ' hM => by
  rcases bd_some hM with ⟨x, ρ1, h1, h2⟩ | ⟨c, d, ρ1, h1, h2⟩
  · obtain ⟨z, h3, h4⟩ := lf_ok h2
    cases h4
    unfold rng1D at h3
    split at h3
    · split at h3
      · rename_i hb
        cases h3
        rw [rvs_int]
        exact hi_rng1 (h.run _ _ h1) hb hm hg hs hs2
      · cases h3
    · cases h3
  · cases h2⟩
def binL (f : D → D → Option (List D)) (A B : Cp D) : Cp (List D) := fun ρ => bd (A ρ) fun x ρ1 => bd (B ρ1) fun y ρ2 => lf (f x y) ρ2
@[simp] theorem binL_ {f : D → D → Option (List D)} {ρ : PE'} : binL f A B ρ = bd (A ρ) fun x ρ1 => bd (B ρ1) fun y ρ2 => lf (f x y) ρ2 := rfl
theorem ci_rng2 {p : Pos} (h : CE X We xa a A) (h' : CE X We xa b B) (hm : X.mg "range" = none) (hg : Gl X "range" := by rfl)
    (hs : starEach [a, b] X.env = (false, eval a X.env) :: starEach [b] X.env := by rfl) (hs' : starEach [b] X.env = (false, eval b X.env) :: starEach [] X.env := by rfl)
    (hs2 : starEach [a, b] X.env = [(false, eval a X.env), (false, eval b X.env)] := by rfl) (hs3 : starEach [b] X.env = [(false, eval b X.env)] := by rfl) : CI X xa tg (.Call (.Name "range" p) [a, b] [] pos) (binL rng2D A B) := ⟨fun ρ xs ρ' hM => by
  rcases bd_some hM with ⟨x, ρ1, h1, h2⟩ | ⟨c, d, ρ1, h1, h2⟩
  · rcases bd_some h2 with ⟨y, ρ2, h3, h4⟩ | ⟨c', d', ρ2, h3, h4⟩
    · obtain ⟨z, h5, h6⟩ := lf_ok h4
      cases h6
      unfold rng2D at h5
      split at h5
      · split at h5
        · rename_i hb
          cases h5
          rw [rvs_int]
          exact hi_rng2 (h.run _ _ h1) (h'.run _ _ h3) hb hm hg hs hs' hs2 hs3
        · cases h5
      · cases h5
    · cases h4
  · cases h2⟩
def enuD (d : D) : Option (List D) := match d with
  | .tup xs => some ((enr 0 xs).map fun y => .tup [.int y.1, y.2])
  | _ => none
@[simp] theorem enuD_tup {xs : List D} : enuD (.tup xs) = some ((enr 0 xs).map fun y => .tup [.int y.1, y.2]) := rfl
theorem rv_pr (i : Int) (x : D) : rv (D.tup [.int i, x]) = rv (i, x) := VP.eq fun K v H => ⟨fun ⟨a, vs, h1, h2, u, r, h3, h4, z, r2, h5, h6, h7⟩ => ⟨a, u, z, h1, by rw [h3, h5, show r2 = [] from h7] at h2; exact h2, h4, h6⟩, fun ⟨a, u, z, h1, h2, h3, h4⟩ => ⟨a, [u, z], h1, h2, u, [z], rfl, h3, z, [], rfl, h4, rfl⟩⟩
theorem ci_enu {elts : List Expr} {kk : Nat} {p tpos : Pos} (h : CE X We xa e A) (hm : X.mg "enumerate" = none) (hg : Gl X "enumerate" := by rfl) (hs : starEach [e] X.env = [(false, eval e X.env)] := by rfl) (hs' : starEach [e] X.env = (false, eval e X.env) :: starEach [] X.env := by rfl) :
    CI X xa (.Tuple elts kk tpos) (.Call (.Name "enumerate" p) [e] [] pos) (mapC enuD A) := ⟨fun ρ xs ρ' hM => by
  rcases bd_some hM with ⟨x, ρ1, h1, h2⟩ | ⟨c, d, ρ1, h1, h2⟩
  · obtain ⟨z, h3, h4⟩ := lf_ok h2
    cases h4
    unfold enuD at h3
    split at h3
    · rename_i ys
      cases h3
      have h := h.run _ _ h1
      have h : HE X _ _ _ (rv (D.tup ys)) := h
      rw [rv_tup] at h
      have e : rvs ((enr 0 ys).map fun y => D.tup [.int y.1, y.2]) = rvs (enr 0 ys) := by
        unfold rvs
        rw [List.map_map]
        exact List.map_congr_left fun y _ => rv_pr y.1 y.2
      rw [e]
      exact hi_enT h hm hg hs' hs
    · cases h3
  · cases h2⟩
/-! ### for, while -/
def forL (t : D → PE' → Option PE') (P : Cs) : List D → PE' → Option Out
  | [], ρ => some (.nx ρ)
  | x :: xs, ρ => match t x ρ with
    | none => none
    | some ρ1 => match P ρ1 with
      | some (.nx ρ2) => forL t P xs ρ2
      | some (.ct ρ2) => forL t P xs ρ2
      | some (.bk ρ2) => some (.nx ρ2)
      | o => o
def lpk (k : PE' → Option Out) (o : Option Out) : Option Out := match o with
  | some (.nx ρ2) => k ρ2
  | some (.ct ρ2) => k ρ2
  | some (.bk ρ2) => some (.nx ρ2)
  | o => o
@[simp] theorem lpk_nx {k : PE' → Option Out} {ρ : PE'} : lpk k (some (.nx ρ)) = k ρ := rfl
@[simp] theorem lpk_ct {k : PE' → Option Out} {ρ : PE'} : lpk k (some (.ct ρ)) = k ρ := rfl
@[simp] theorem lpk_bk {k : PE' → Option Out} {ρ : PE'} : lpk k (some (.bk ρ)) = some (.nx ρ) := rfl
@[simp] theorem lpk_rt {k : PE' → Option Out} {d : D} {ρ : PE'} : lpk k (some (.rt d ρ)) = some (.rt d ρ) := rfl
@[simp] theorem lpk_rl {k : PE' → Option Out} {d : List D} {ρ : PE'} : lpk k (some (.rl d ρ)) = some (.rl d ρ) := rfl
@[simp] theorem lpk_er {k : PE' → Option Out} {c : Str} {d : D} {ρ : PE'} : lpk k (some (.er c d ρ)) = some (.er c d ρ) := rfl
theorem forL_nil {t : D → PE' → Option PE'} {ρ : PE'} : forL t P [] ρ = some (.nx ρ) := rfl
theorem forL_cons {t : D → PE' → Option PE'} {ρ ρ1 : PE'} {x : D} {xs : List D} (h : t x ρ = some ρ1) : forL t P (x :: xs) ρ = lpk (forL t P xs) (P ρ1) := by
  show (match t x ρ with | none => none | some ρ1 => match P ρ1 with | some (.nx ρ2) => forL t P xs ρ2 | some (.ct ρ2) => forL t P xs ρ2 | some (.bk ρ2) => some (.nx ρ2) | o => o) = _
  rw [h]
  dsimp only
  unfold lpk
  rfl
def forC (I : Cp (List D)) (t : D → PE' → Option PE') (P : Cs) : Cs := fun ρ => match I ρ with
  | some (.ok xs ρ1) => forL t P xs ρ1
  | _ => none
theorem forC_ok {I : Cp (List D)} {t : D → PE' → Option PE'} {ρ ρ1 : PE'} {xs : List D} (h : I ρ = some (.ok xs ρ1)) : forC I t P ρ = forL t P xs ρ1 := by unfold forC; rw [h]
theorem lp_of {t : D → PE' → Option PE'} {is : List Nat} (hg : CG X xa tg is t) (hb : CSs X We xa ss P) : ∀ (xs : List D) (ρ : PE') (o : Out), forL t P xs ρ = some o → Lp X We tg ss (rvs xs) (S xa ρ) (o.oc X.K xa)
  | [], ρ, o, h => by cases h; exact .nil
  | x :: xs, ρ, o, h => by
    unfold forL at h
    split at h
    · cases h
    · rename_i ρ1 h1
      have g := hg.run _ _ _ h1
      split at h
      · rename_i ρ2 h2
        exact .cons g (hb.run _ _ h2) (lp_of hg hb xs ρ2 o h)
      · rename_i ρ2 h2
        exact .cont g (hb.run _ _ h2) (lp_of hg hb xs ρ2 o h)
      · rename_i ρ2 h2
        cases h
        exact .brk g (hb.run _ _ h2)
      · rename_i n1 n2 n3
        have b := hb.run _ _ h
        cases o with
        | nx ρ2 => exact absurd h (n1 ρ2)
        | ct ρ2 => exact absurd h (n2 ρ2)
        | bk ρ2 => exact absurd h (n3 ρ2)
        | rt d ρ2 => exact .exit g b trivial
        | rl d ρ2 => exact .exit g b trivial
        | er c d ρ2 => exact .exit g b trivial
theorem cs_for {I : Cp (List D)} {t : D → PE' → Option PE'} {is : List Nat} (hp : PassesOwn (model X.prog X.w) X.A X.env X.xe) (hc : X.calm = true) (hi : CI X xa tg iter I) (hg : CG X xa tg is t) (hb : CSs X We xa ss P) (hs : ∀ x, foldedSetIterable iter X.env x = pure x := by intro _; rfl) : CS X We xa (.For tg iter ss [] pos) (forC I t P) := ⟨fun ρ o hM => by
  unfold forC at hM
  split at hM
  · rename_i xs ρ1 h1
    exact st_for hp hc (hi.run _ _ _ h1) (lp_of hg hb xs ρ1 o hM) hs
  · cases hM⟩
def whN (M : Cp Bool) (P : Cs) : Nat → PE' → Option Out
  | 0, _ => none
  | n + 1, ρ => match M ρ with
    | some (.ok false ρ1) => some (.nx ρ1)
    | some (.ok true ρ1) => match P ρ1 with
      | some (.nx ρ2) => whN M P n ρ2
      | some (.ct ρ2) => whN M P n ρ2
      | some (.bk ρ2) => some (.nx ρ2)
      | o => o
    | _ => none
def wfuel : Nat := 1000000
def whC (M : Cp Bool) (P : Cs) : Cs := fun ρ => whN M P wfuel ρ
theorem wl_of (hM : CB X We xa e M) (hb : CSs X We xa ss P) : ∀ (n : Nat) (ρ : PE') (o : Out), whN M P n ρ = some o → Wl X We e ss (S xa ρ) (o.oc X.K xa)
  | 0, _, _, h => by cases h
  | n + 1, ρ, o, h => by
    unfold whN at h
    split at h
    · rename_i ρ1 h1
      cases h
      exact wl_done (hM.run _ _ h1)
    · rename_i ρ1 h1
      have g := hM.run _ _ h1
      split at h
      · rename_i ρ2 h2
        exact wl_turn g (hb.run _ _ h2) (wl_of hM hb n ρ2 o h)
      · rename_i ρ2 h2
        exact wl_cont g (hb.run _ _ h2) (wl_of hM hb n ρ2 o h)
      · rename_i ρ2 h2
        cases h
        exact wl_brk g (hb.run _ _ h2)
      · rename_i n1 n2 n3
        have b := hb.run _ _ h
        cases o with
        | nx ρ2 => exact absurd h (n1 ρ2)
        | ct ρ2 => exact absurd h (n2 ρ2)
        | bk ρ2 => exact absurd h (n3 ρ2)
        | rt d ρ2 => exact wl_exit g b trivial
        | rl d ρ2 => exact wl_exit g b trivial
        | er c d ρ2 => exact wl_exit g b trivial
    · cases h
theorem cs_while (hp : PassesOwn (model X.prog X.w) X.A X.env X.xe) (hM : CB X We xa e M) (hb : CSs X We xa ss P) : CS X We xa (.While e ss [] pos) (whC M P) := ⟨fun ρ o h => st_while hp (wl_of hM hb wfuel ρ o h)⟩
/-! ### a list of one's own changed -/
def appC (i : Nat) (A : Cp D) : Cs := fun ρ => match lsAt ρ i with
  | some (b, _) => bs (A ρ) fun d ρ1 => match lsAt ρ1 i with
    | some (b', xs) => if b' = b ∧ xs.length ≤ 100000 then some (.nx (ρ1.set i (mkS b (xs ++ [d])))) else none
    | none => none
  | none => none
theorem st_append' {α : Type} [Rp α] {mk : List α → Slot} {xs zs : List α} {apos : Pos} (O : Own mk) (i : Nat) {x : Str} {y : α} {q : Pos} (h0 : env[i]? = some (mk zs)) (hi : env1[i]? = some (mk xs)) (hz : xs.length ≤ 100000) (he : HE X e env env1 (rv y)) (hN : X.N[i]? = some x)
    (hv : Vis X.env.scope x) (hd : (x == ("__debug__" : Str)) = false) (hcd : (x == ("__classdict__" : Str)) = false)
    (hs : swapsWith (.Call (.Attribute (.Name x q) "append" apos) [e] [] pos) none pos.line X.env = pure false)
    (hbase : attributeBase (.Name x q) "append" X.env (eval (.Name x q) X.env) = eval (.Name x q) X.env)
    (hfew : ((backTo pos (starEach [e] X.env)).all (fun x => !x.1) && (backToKw pos (keywordEach [] X.env)).all (fun x => x.1.isSome)
      && decide (([e] : List Expr).length + ([] : List Keyword).length + (if ([] : List Keyword).isEmpty then 0 else 1) < 30)) = true)
    (hline : (apos.endLine == pos.line) = true) (hst : starEach [e] X.env = (false, eval e X.env) :: starEach [] X.env) (hplain : (backTo pos (starEach [] X.env)).any (·.1) = false) :
    HS X We (.Expr (.Call (.Attribute (.Name x q) "append" apos) [e] [] pos) pos) env (.nx (env1.set i (mk (xs ++ [y])))) :=
  (ps_expr (pe_bm PySem.F.plainAttrs_list PySem.F.slot_list_append PySem.F.type_list_append mt_append (pe_own O i h0 hN hv hd hcd) (pa_cons he pa_nil hst) hbase hfew hline hst hplain) hs).imp fun D σ H ⟨w, e1, R1, q⟩ => ⟨w, e1, R1, fun a ha => by
    obtain ⟨vs, h3, h4, h5, h6⟩ := R1.own O h0 ha
    refine ⟨.inl ⟨rfl, vs, SqL.of h5⟩, w, rfl, R1, fun v w' R' l p => ?_⟩
    obtain ⟨vs', h3', h4', h5', h6'⟩ := R'.own O hi ha
    refine ⟨a, vs', v, rfl, rfl, h5', by rw [h6'.len]; exact Nat.lt_of_le_of_lt hz (by decide), ?_⟩
    obtain ⟨R2, l2⟩ := wr_rep (s := mk (xs ++ [y])) (vs := vs' ++ [v]) R' h4' ha (O.put h3' rfl h4' upd_same (h6'.app (Al.cons p Al.nil)) rfl)
    exact q σ _ R2 (l.trans l2)⟩
theorem cs_append (i : Nat) {x : Str} {q apos : Pos} (he : CE X We xa e A) (hN : X.N[i]? = some x := by rfl)
    (hv : Vis X.env.scope x := by first | exact Or.inl rfl | exact Or.inr (Or.inl rfl) | exact Or.inr (Or.inr rfl)) (hd : (x == ("__debug__" : Str)) = false := by decide) (hcd : (x == ("__classdict__" : Str)) = false := by decide)
    (hs : swapsWith (.Call (.Attribute (.Name x q) "append" apos) [e] [] pos) none pos.line X.env = pure false := by rfl)
    (hbase : attributeBase (.Name x q) "append" X.env (eval (.Name x q) X.env) = eval (.Name x q) X.env := by rfl)
    (hfew : ((backTo pos (starEach [e] X.env)).all (fun x => !x.1) && (backToKw pos (keywordEach [] X.env)).all (fun x => x.1.isSome)
      && decide (([e] : List Expr).length + ([] : List Keyword).length + (if ([] : List Keyword).isEmpty then 0 else 1) < 30)) = true := by rfl)
    (hline : (apos.endLine == pos.line) = true := by rfl) (hst : starEach [e] X.env = (false, eval e X.env) :: starEach [] X.env := by rfl) (hplain : (backTo pos (starEach [] X.env)).any (·.1) = false := by rfl) :
    CS X We xa (.Expr (.Call (.Attribute (.Name x q) "append" apos) [e] [] pos) pos) (appC i A) := ⟨fun ρ o hM => by
  unfold appC at hM
  split at hM
  · rename_i b zs h1
    rcases bs_some hM with ⟨d, ρ1, h3, h4⟩ | ⟨c, d, ρ1, h3, rfl⟩
    · split at h4
      · rename_i b' xs h2
        split at h4
        · rename_i hz
          obtain ⟨rfl, hz⟩ := hz
          cases h4
          show HS X We _ _ (.nx (S xa _))
          rw [← S_set, mkS_sl]
          exact st_append' (mkL_own b') i (lsAt_S h1) (lsAt_S h2) hz (he.run _ _ h3) hN hv hd hcd hs hbase hfew hline hst hplain
        · cases h4
      · cases h4
    · refine (ps_expr (pe_bm PySem.F.plainAttrs_list PySem.F.slot_list_append PySem.F.type_list_append mt_append (pe_own (mkL_own b) i (lsAt_S h1) hN hv hd hcd) (pa_cons (he.run _ _ h3) pa_nil hst) hbase hfew hline hst hplain) hs).imp fun D σ H ⟨w, e1, R1, q⟩ => ⟨w, e1, R1, fun a ha => ?_⟩
      obtain ⟨vs, h3, h4, h5, h6⟩ := R1.own (mkL_own b) (lsAt_S h1) ha
      exact ⟨.inl ⟨rfl, vs, SqL.of h5⟩, w, rfl, R1, fun w' d v R' l n => q σ w' d v R' l n⟩
  · cases hM⟩
/-- xs.pop(): the last one -/
def popC (i : Nat) : Cs := fun ρ => match lsAt ρ i with
  | some (b, xs) => if xs = [] then none else some (.nx (ρ.set i (mkS b xs.dropLast)))
  | none => none
theorem cs_pop (i : Nat) {x : Str} {q apos : Pos} (hN : X.N[i]? = some x := by rfl)
    (hv : Vis X.env.scope x := by first | exact Or.inl rfl | exact Or.inr (Or.inl rfl) | exact Or.inr (Or.inr rfl)) (hd : (x == ("__debug__" : Str)) = false := by decide) (hcd : (x == ("__classdict__" : Str)) = false := by decide)
    (hs : swapsWith (.Call (.Attribute (.Name x q) "pop" apos) [] [] pos) none pos.line X.env = pure false := by rfl)
    (hbase : attributeBase (.Name x q) "pop" X.env (eval (.Name x q) X.env) = eval (.Name x q) X.env := by rfl) (hline : (apos.endLine == pos.line) = true := by rfl) :
    CS X We xa (.Expr (.Call (.Attribute (.Name x q) "pop" apos) [] [] pos) pos) (popC i) := ⟨fun ρ o hM => by
  unfold popC at hM
  split at hM
  · rename_i b xs h1
    split at hM
    · cases hM
    · rename_i hne
      cases hM
      show HS X We _ _ (.nx (S xa _))
      rw [← S_set, mkS_sl]
      have e : xs = xs.dropLast ++ [xs.getLast hne] := (List.dropLast_concat_getLast hne).symm
      exact st_pop (mkL_own b) i (y := xs.getLast hne) (by rw [← e]; exact lsAt_S h1) hN hv hd hcd hs hbase hline
  · cases hM⟩
/-- xs[e] = f -/
def setI (i : Nat) (B A : Cp D) : Cs := fun ρ => bs (A ρ) fun d ρ1 => match lsAt ρ1 i with
  | some (b, _) => match B ρ1 with
    | some (.ok (.int j) ρ2) => match lsAt ρ2 i with
      | some (b', xs) => if b' = b then (match ixN xs.length j with
        | some k => some (.nx (ρ2.set i (mkS b (xs.set k d))))
        | none => none) else none
      | none => none
    | _ => none
  | none => none
theorem st_setO' {α : Type} [Rp α] {mk : List α → Slot} {xs zs : List α} (O : Own mk) (i : Nat) {x : Str} {y : α} {q p2 : Pos} {j : Int} {k : Nat} (h0 : env1[i]? = some (mk zs)) (hi : env2[i]? = some (mk xs)) (hk : ixN xs.length j = some k) (he : HE X e env env1 (rv y)) (hb : HE X b env1 env2 (rv j)) (hN : X.N[i]? = some x)
    (hv : Vis X.env.scope x) (hd : (x == ("__debug__" : Str)) = false) (hcd : (x == ("__classdict__" : Str)) = false)
    (hs : swapsWithSole [.Subscript (.Name x q) b p2] e pos.line X.env = pure false) (hw : swappedStores [.Subscript (.Name x q) b p2] e X.env = pure none)
    (h1 : (assignEach [.Subscript (.Name x q) b p2] X.env).map (·.2) = [assign (.Subscript (.Name x q) b p2) X.env])
    (ha : ∀ v, assign (.Subscript (.Name x q) b p2) X.env v = (do
      let ov ← holding [v] (eval (.Name x q) X.env)
      let iv ← holding [v, ov] (eval b X.env)
      standAt p2
      holding [v, ov, iv] (setItem ov iv v)
      release [v, ov, iv] [])) : HS X We (.Assign [.Subscript (.Name x q) b p2] e pos) env (.nx (env2.set i (mk (xs.set k y)))) :=
  (ps_asg he (pg_sub (pe_own O i h0 hN hv hd hcd) hb set_list ha) hs hw h1).imp fun D σ H ⟨w, e1, R1, qq⟩ => ⟨w, e1, R1, fun v w' R' l p => ⟨w', rfl, R', fun a ha => ⟨w', rfl, R', fun u w2 R2 l2 p2 => by
    obtain ⟨vs, h3, h4, h5, h6⟩ := R2.own O hi ha
    refine ⟨a, vs, j, k, rfl, p2, h5, by rw [h6.len]; exact hk, ?_⟩
    obtain ⟨R3, l3⟩ := wr_rep (s := mk (xs.set k y)) (vs := vs.set k v) R2 h4 ha (O.put h3 rfl h4 upd_same (Al.set (Rp.mono l2.hi p) k h6) rfl)
    exact qq σ _ R3 ((l.trans l2).trans l3)⟩⟩⟩
theorem cs_setI (i : Nat) {x : Str} {q p2 : Pos} (hb : CE X We xa b B) (he : CE X We xa e A) (hN : X.N[i]? = some x := by rfl)
    (hv : Vis X.env.scope x := by first | exact Or.inl rfl | exact Or.inr (Or.inl rfl) | exact Or.inr (Or.inr rfl)) (hd : (x == ("__debug__" : Str)) = false := by decide) (hcd : (x == ("__classdict__" : Str)) = false := by decide)
    (hs : swapsWithSole [.Subscript (.Name x q) b p2] e pos.line X.env = pure false := by rfl) (hw : swappedStores [.Subscript (.Name x q) b p2] e X.env = pure none := by rfl)
    (h1 : (assignEach [.Subscript (.Name x q) b p2] X.env).map (·.2) = [assign (.Subscript (.Name x q) b p2) X.env] := by rfl)
    (ha : ∀ v, assign (.Subscript (.Name x q) b p2) X.env v = (do
      let ov ← holding [v] (eval (.Name x q) X.env)
      let iv ← holding [v, ov] (eval b X.env)
      standAt p2
      holding [v, ov, iv] (setItem ov iv v)
      release [v, ov, iv] []) := by intro _; rfl) : CS X We xa (.Assign [.Subscript (.Name x q) b p2] e pos) (setI i B A) := ⟨fun ρ o hM => by
  rcases bs_some hM with ⟨d, ρ1, h3, h4⟩ | ⟨c, d, ρ1, h3, rfl⟩
  · split at h4
    · rename_i b1 zs g1
      split at h4
      · rename_i j ρ2 g2
        split at h4
        · rename_i b2 xs g3
          split at h4
          · rename_i eb
            subst eb
            split at h4
            · rename_i k g4
              cases h4
              show HS X We _ _ (.nx (S xa _))
              rw [← S_set, mkS_sl]
              exact st_setO' (mkL_own b2) i (lsAt_S g1) (lsAt_S g3) g4 (he.run _ _ h3) (hb.run _ _ g2) hN hv hd hcd hs hw h1 ha
            · cases h4
          · cases h4
        · cases h4
      · cases h4
    · cases h4
  · exact (ps_asg (he.run _ _ h3) (pg_any (tg := .Subscript (.Name x q) b p2)) hs hw h1).imp fun D σ H ⟨w, e1, R1, q⟩ => ⟨w, e1, R1, fun w' d v R' l n => q σ w' d v R' l n⟩⟩
/-- x += e and its like, whole numbers -/
def augC (f : D → D → Option D) (i : Nat) (A : Cp D) : Cs := fun ρ => match ρ[i]? with
  | some (.im d) => bs (A ρ) fun y ρ1 => match f d y with
    | some z => some (.nx (ρ1.set i (.im z)))
    | none => none
  | _ => none
def iAdd : D → D → Option D
  | .int i, .int j => some (.int (i + j))
  | _, _ => none
@[simp] theorem iAdd_int {i j : Int} : iAdd (.int i) (.int j) = some (.int (i + j)) := rfl
theorem cs_augAdd (i : Nat) {x : Str} {pos' : Pos} (he : CE X We xa e A) (hN : X.N.Nodup) (hi : X.N[i]? = some x := by rfl) (hx : Loc X.env.scope x := by first | exact Or.inl rfl | exact Or.inr rfl)
    (hf : X.fn x = true ∨ X.env.scope.names.lookup x = some .local := by first | exact .inl rfl | exact .inr rfl | assumption) : CS X We xa (.AugAssign (.Name x pos') .Add e pos) (augC iAdd i A) := ⟨fun ρ o hM => by
  unfold augC at hM
  split at hM
  · rename_i d0 h0
    rcases bs_some hM with ⟨d, ρ1, h3, h4⟩ | ⟨c, d, ρ1, h3, rfl⟩
    · split at h4
      · rename_i z hz
        cases h4
        unfold iAdd at hz
        split at hz
        · cases hz
          show HS X We _ _ (.nx (S xa _))
          rw [← S_im]
          exact st_augAdd i (S_get h0) (he.run _ _ h3) hN hi hx hf
        · cases hz
      · cases h4
    · exact (ps_aug hN hi hx (he.run _ _ h3) ip_add hf).imp fun D σ H ⟨w, e1, R1, q⟩ => by
        obtain ⟨z, hz, y, ey, hy⟩ := R1.sl i _ (S_get h0)
        subst ey
        exact ⟨y, hz, w, e1, R1, fun w' d v R' l n => q σ w' d v R' l n⟩
  · cases hM⟩
theorem cs_augSub (i : Nat) {x : Str} {pos' : Pos} (he : CE X We xa e A) (hN : X.N.Nodup) (hi : X.N[i]? = some x := by rfl) (hx : Loc X.env.scope x := by first | exact Or.inl rfl | exact Or.inr rfl)
    (hf : X.fn x = true ∨ X.env.scope.names.lookup x = some .local := by first | exact .inl rfl | exact .inr rfl | assumption) : CS X We xa (.AugAssign (.Name x pos') .Sub e pos) (augC subD i A) := ⟨fun ρ o hM => by
  unfold augC at hM
  split at hM
  · rename_i d0 h0
    rcases bs_some hM with ⟨d, ρ1, h3, h4⟩ | ⟨c, d, ρ1, h3, rfl⟩
    · split at h4
      · rename_i z hz
        cases h4
        unfold subD at hz
        split at hz
        · cases hz
          show HS X We _ _ (.nx (S xa _))
          rw [← S_im]
          exact st_augSub i (S_get h0) (he.run _ _ h3) hN hi hx hf
        · cases hz
      · cases h4
    · exact (ps_aug hN hi hx (he.run _ _ h3) ip_sub hf).imp fun D σ H ⟨w, e1, R1, q⟩ => by
        obtain ⟨z, hz, y, ey, hy⟩ := R1.sl i _ (S_get h0)
        subst ey
        exact ⟨y, hz, w, e1, R1, fun w' d v R' l n => q σ w' d v R' l n⟩
  · cases hM⟩
end
end BC

namespace BC
open PySem PySem.Spec PyProof.Rows L2
variable [TabL]
/-! ### defs -/
inductive FOut where
  | rt (d : D) (ps : List (Nat × SV))
  | er (c : Str) (d : D) (ps : List (Nat × SV))
  | fr (xs : List D) (ps : List (Nat × SV))
abbrev Fn := List SV → Option FOut
def x0 : Xa := ⟨0, 0, "", BC.un⟩
def FOut.fo (K : PySem.W.Frag) : FOut → FO
  | .rt d ps => .rt (rv d) (ps.map fun q => (q.1, q.2.sl x0))
  | .er c d ps => .er (cK K c) (rv d) (ps.map fun q => (q.1, q.2.sl x0))
  | .fr xs ps => .fr (rvs xs) (ps.map fun q => (q.1, q.2.sl x0))
/-- what a list handed in holds behind -/
def pso : List SV → PE' → List (Nat × SV)
  | .par _ :: _, .par ys :: _ => [(0, .par ys)]
  | _, _ => []
@[simp] theorem pso_par {xs ys : List D} {as : List SV} {ρ : PE'} : pso (.par xs :: as) (.par ys :: ρ) = [(0, .par ys)] := rfl
@[simp] theorem pso_nil {ρ : PE'} : pso [] ρ = [] := by cases ρ <;> rfl
@[simp] theorem pso_im {d : D} {as : List SV} {ρ : PE'} : pso (.im d :: as) ρ = [] := by cases ρ <;> rfl
theorem pso_S {as : List SV} {ρ : PE'} : ∀ q ∈ (pso as ρ).map (fun q => (q.1, q.2.sl x0)), (S x0 ρ)[q.1]? = some q.2 := by
  unfold pso
  split
  · intro q hq
    simp at hq
    subst hq
    rfl
  · intro q hq
    simp at hq
/-- how a body's end is a def's -/
def Out.fin (as : List SV) : Out → Option FOut
  | .nx ρ => some (.rt .non (pso as ρ))
  | .rt d ρ => some (.rt d (pso as ρ))
  | .er c d ρ => some (.er c d (pso as ρ))
  | .rl xs ρ => some (.fr xs (pso as ρ))
  | _ => none
@[simp] theorem fin_nx {as : List SV} {ρ : PE'} : Out.fin as (.nx ρ) = some (.rt .non (pso as ρ)) := rfl
@[simp] theorem fin_rt {as : List SV} {ρ : PE'} {d : D} : Out.fin as (.rt d ρ) = some (.rt d (pso as ρ)) := rfl
@[simp] theorem fin_rl {as : List SV} {ρ : PE'} {d : List D} : Out.fin as (.rl d ρ) = some (.fr d (pso as ρ)) := rfl
@[simp] theorem fin_er {as : List SV} {ρ : PE'} {c : Str} {d : D} : Out.fin as (.er c d ρ) = some (.er c d (pso as ρ)) := rfl
def defM (np nn : Nat) (M : Cs) : Fn := fun as => if as.length = np then match M (as ++ List.replicate (nn - np) .un) with
  | some o => o.fin as
  | none => none else none
theorem defM_run {np nn : Nat} {M : Cs} {as : List SV} {o : Out} (hl : as.length = np) (h : M (as ++ List.replicate (nn - np) .un) = some o) : defM np nn M as = o.fin as := by
  unfold defM
  rw [if_pos hl, h]
def spC (K : PySem.W.Frag) (np : Nat) (m : Fn) : Sp := Spq K (fun as : List SV => as.length = np ∧ ∃ o, m as = some o) (fun as => S x0 as) (fun as => match m as with
  | some o => o.fo K
  | none => .rt (rv ()) [])
theorem S_app {xa : Xa} {as bs : List SV} : S xa (as ++ bs) = S xa as ++ S xa bs := by
  unfold S
  rw [List.map_append]
theorem S_rep {xa : Xa} {n : Nat} : S xa (List.replicate n .un) = List.replicate n un := by
  unfold S
  rw [List.map_replicate]
  rfl
/-- a def keeps its reckoned promise -/
theorem fn_cX {P : Program} {w : World} {K : PySem.W.Frag} {mg : Str → Option Value} {base : Heap} {k : Nat} {x qual : Str} {st : Stmt} {f : Addr} {fd : FuncData} {N ps : List Str} {M : Cs} {np nn : Nat}
    (F : FunX K x qual st f fd) (Sc : FnScope N ps (defScope st)) (hp : ps.length = np) (hn : N.length = nn)
    (body : ∀ (cdv : Value), fd.code = cdv → ∀ (Ar : Around) (outer : List Env) (s : Shared) (H : Hp) (E : XK), Rm k (Ar.deeper (envOfC qual (defScope st) s.heap.objs.size f cdv)) →
      CSs (cxOf (L2.CX P w) P w K mg base N qual (defScope st) f cdv Ar outer s H E) (WeE E) x0 (defBody st) M) :
    FnG P w K mg base (k + 1) f fd ps (spC K np (defM np nn M)) := by
  unfold spC
  have main := fn_okq (P := P) (w := w) (K := K) (mg := mg) (base := base) (k := k) (x := x) (qual := qual) (st := st) (f := f) (fd := fd) (N := N) (ps := ps) (A := { as : List SV // as.length = np }) (pre := fun as => ∃ o, defM np nn M as.1 = some o) (ins := fun as => S x0 as.1) (out := fun as => match defM np nn M as.1 with
    | some o => o.fo K
    | none => .rt (rv ()) []) F Sc (fun as => by rw [S_len, as.2, hp]) fun cdv hcd Ar outer s H E hr as hpre => by
      obtain ⟨as, hl⟩ := as
      obtain ⟨o, ho⟩ := hpre
      have ho0 := ho
      have ho : defM np nn M as = some o := ho
      unfold defM at ho
      rw [if_pos hl] at ho
      split at ho
      · rename_i oc hoc
        refine ⟨oc.oc K x0, ?_, ?_⟩
        · show Fits _ (match defM np nn M as with | some o => o.fo K | none => .rt (rv ()) [])
          rw [show defM np nn M as = some o from ho0]
          cases oc with
          | nx ρ => cases ho; exact .nx pso_S
          | rt d ρ => cases ho; exact .rt pso_S
          | er c d ρ => cases ho; exact .er pso_S
          | rl xs ρ => cases ho; exact .fr pso_S
          | bk ρ => cases ho
          | ct ρ => cases ho
        · have := (body cdv hcd Ar outer s H E hr).run _ _ hoc
          rw [S_app, S_rep] at this
          rw [hn, hp]
          exact this
      · cases ho
  refine main.imp fun vs H Q E ⟨⟨as, h1, h2⟩, w, e1, R, q⟩ => ⟨⟨⟨as, h1⟩, h2⟩, w, e1, R, q⟩
theorem fn_c {P : Program} {w : World} {K : PySem.W.Frag} {mg : Str → Option Value} {base : Heap} {k : Nat} {x qual : Str} {st : Stmt} {f : Addr} {fd : FuncData} {N ps : List Str} {M : Cs} {np nn : Nat}
    (F : Fun K x qual st f fd) (Sc : FnScope N ps (defScope st)) (hp : ps.length = np) (hn : N.length = nn)
    (body : ∀ (cdv : Value), fd.code = cdv → ∀ (Ar : Around) (outer : List Env) (s : Shared) (H : Hp) (E : XK), Rm k (Ar.deeper (envOfC qual (defScope st) s.heap.objs.size f cdv)) →
      CSs (cxOf (L2.CX P w) P w K mg base N qual (defScope st) f cdv Ar outer s H E) (WeE E) x0 (defBody st) M) :
    FnG P w K mg base (k + 1) f fd ps (spC K np (defM np nn M)) :=
  fn_cX (fun_x F) Sc hp hn body
/-! ### calls -/
section
variable {env env1 env2 : List Slot} {X : Cx} {We : WX} {xa : Xa} {a b c e tg iter : Expr} {A B C : Cp D} {M N : Cp Bool} {p pos : Pos} {es rest : List Expr} {As L : Cp (List D)} {s : Stmt} {r ss ts : List Stmt} {P Q : Cs} {x : Str} {k np : Nat} {ps : List Str} {m : Fn}
def imS (xs : List D) : List SV := xs.map .im
@[simp] theorem imS_nil : imS [] = [] := rfl
@[simp] theorem imS_cons {x : D} {xs : List D} : imS (x :: xs) = .im x :: imS xs := rfl
theorem S_ims {xa : Xa} {xs : List D} : S xa (imS xs) = (rvs xs).map im := by
  unfold S imS rvs
  rw [List.map_map, List.map_map]
  rfl
def callR (o : Option FOut) (ρ : PE') : Option (Rs D) := match o with
  | some (.rt d []) => some (.ok d ρ)
  | some (.er c d []) => some (.er c d ρ)
  | _ => none
@[simp] theorem callR_rt {d : D} {ρ : PE'} : callR (some (.rt d [])) ρ = some (.ok d ρ) := rfl
@[simp] theorem callR_er {c : Str} {d : D} {ρ : PE'} : callR (some (.er c d [])) ρ = some (.er c d ρ) := rfl
def callC (m : Fn) (As : Cp (List D)) : Cp D := fun ρ => bd (As ρ) fun xs ρ1 => callR (m (imS xs)) ρ1
@[simp] theorem callC_ {ρ : PE'} : callC m As ρ = bd (As ρ) fun xs ρ1 => callR (m (imS xs)) ρ1 := rfl
theorem alP_lenS {K : PySem.W.Frag} {H : Hp} {xs : List D} {vs : List V} (h : AlP K H (rvs xs) vs) : vs.length = xs.length := by rw [alP_len h, rvs_len]
theorem pa_no {es : List Expr} : PA X es (fun _ _ _ => False) := ⟨fun _ _ _ _ _ _ _ h => h.elim⟩
theorem spm {vs : List V} {H : Hp} {Q : VK} {E : XK} {as : List SV} {o : FOut} (hlen : as.length = np) (ho : m as = some o) (w : Wd) (e1 : w.H = H) (R : Rep X.K (S x0 as) (vs.map some) w) (q : (o.fo X.K).sat X.K w Q E) : spC X.K np m vs H Q E := by
  refine ⟨⟨as, hlen, o, ho⟩, w, e1, R, ?_⟩
  show FO.sat _ _ _ _ (match m as with | some o => o.fo X.K | none => .rt (rv ()) [])
  rw [ho]
  exact q
theorem sp_rt {vs : List V} {w' : Wd} {σ : L2.St} {Q : VK} {E : XK} {xs : List D} {d : D} (hlen : (imS xs).length = np) (ho : m (imS xs) = some (.rt d [])) (R' : Rep X.K env1 σ w') (al : AlP X.K w'.Hi (rvs xs) vs) (q : ∀ v w2, Rep X.K env1 σ w2 → Le w' w2 → (rv d).p X.K v w2.Hi → Q v w2.H) : spC X.K np m vs w'.H Q E := by
  refine spm hlen ho w'.in0 rfl (by rw [S_ims]; exact rep_ims (in0_ok R'.ok) al) ?_
  intro v w2 ok l2 _ pv
  obtain ⟨R3, l3⟩ := out_rep R' ok l2
  exact q v (w'.out w2) R3 l3 pv
theorem sp_er {vs : List V} {w' : Wd} {σ : L2.St} {Q : VK} {xs : List D} {c : Str} {d : D} (hlen : (imS xs).length = np) (ho : m (imS xs) = some (.er c d [])) (R' : Rep X.K env1 σ w') (al : AlP X.K w'.Hi (rvs xs) vs) (q : ∀ w2 d' v, Rep X.K env1 σ w2 → Le w' w2 → w'.H d' = none → w2.H d' = some (.xd [("what", v)]) → w2.O d' = none → w2.Hi d' = none → (rv d).p X.K v w2.Hi → We (.ref (cK X.K c)) (some d') σ w2.H) : spC X.K np m vs w'.H Q (WE We σ) := by
  refine spm hlen ho w'.in0 rfl (by rw [S_ims]; exact rep_ims (in0_ok R'.ok) al) ?_
  intro d v w2 ok l2 _ hn h1 h2 h3 h4
  obtain ⟨R3, l3⟩ := out_rep R' ok l2
  have hn' : w'.H d = none := hn
  exact q (w'.out w2) d v R3 l3 hn' h1 ((R'.ok.fresh hn').2) h3 h4
theorem sp_fr {vs : List V} {w' : Wd} {σ : L2.St} {Q : VK} {E : XK} {xs ys : List D} (hlen : (imS xs).length = np) (ho : m (imS xs) = some (.fr ys [])) (R' : Rep X.K env1 σ w') (al : AlP X.K w'.Hi (rvs xs) vs) (q : ∀ p us w2, Rep X.K env1 σ w2 → Le w' w2 → w2.H p = none → Al D X.K w2.Hi ys us → Q (.ref p) (upd w2.H p (.lst us))) : spC X.K np m vs w'.H Q E := by
  refine spm hlen ho w'.in0 rfl (by rw [S_ims]; exact rep_ims (in0_ok R'.ok) al) ?_
  intro pp us w2 ok lx _ pv
  have l2 := lx.le rfl
  have hp := lx.no
  obtain ⟨R3, l3⟩ := out_rep R' ok l2
  exact q pp us (w'.out w2) R3 l3 hp (alP_al pv)
theorem defM_len {np nn : Nat} {M : Cs} {as : List SV} {o : FOut} (h : defM np nn M as = some o) : as.length = np := by
  unfold defM at h
  split at h
  · rename_i h1; exact h1
  · cases h
def callRL (o : Option FOut) (ρ : PE') : Option (Rs (List D)) := match o with
  | some (.fr d []) => some (.ok d ρ)
  | some (.er c d []) => some (.er c d ρ)
  | _ => none
@[simp] theorem callRL_fr {d : List D} {ρ : PE'} : callRL (some (.fr d [])) ρ = some (.ok d ρ) := rfl
@[simp] theorem callRL_er {c : Str} {d : D} {ρ : PE'} : callRL (some (.er c d [])) ρ = some (.er c d ρ) := rfl
def callL (m : Fn) (As : Cp (List D)) : Cp (List D) := fun ρ => bd (As ρ) fun xs ρ1 => callRL (m (imS xs)) ρ1
@[simp] theorem callL_ {ρ : PE'} : callL m As ρ = bd (As ρ) fun xs ρ1 => callRL (m (imS xs)) ρ1 := rfl
/-- f(e, ..) -/
theorem ce_call (D' : Def X.prog X.w X.K X.mg X.base x k ps (spC X.K np m)) (hlen : ∀ as o, m as = some o → as.length = np) (hr : Rm k X.A) (tk : Takes X We) (ha : CA X We xa (e :: es) As) (hg : Gl X x := by rfl) (hdb : (x == ("__debug__" : Str)) = false := by decide)
    (hst : starEach (e :: es) X.env = (false, eval e X.env) :: starEach es X.env := by rfl) (hpl : (backTo pos (starEach es X.env)).any (·.1) = false := by rfl) : CE X We xa (.Call (.Name x p) (e :: es) [] pos) (callC m As) := ⟨fun ρ r hM => by
  obtain ⟨f, fd, F, hm, hk, hb⟩ := D'.ex
  rcases bd_some hM with ⟨xs, ρ1, h1, h2⟩ | ⟨c, d, ρ1, h1, rfl⟩
  · have ha := ha.run _ _ h1
    unfold callR at h2
    split at h2
    · rename_i d ho
      cases h2
      exact (pe_callG F hr hg hm hk hb (fun _ => passN) ha hdb hst hpl).imp fun σ H Q ⟨w, e1, R1, q⟩ => ⟨w, e1, R1, fun vs w' R' l al => sp_rt (hlen _ _ ho) ho R' al fun v w2 R2 l2 => q v w2 R2 (l.trans l2)⟩
    · rename_i c d ho
      cases h2
      exact (pe_callG (E := WE We) F hr hg hm hk hb (fun σ => passAt tk σ) ha hdb hst hpl).imp fun σ H Q ⟨w, e1, R1, q⟩ => ⟨w, e1, R1, fun vs w' R' l al => sp_er (hlen _ _ ho) ho R' al fun w2 d' v R2 l2 n => q w2 d' v R2 (l.trans l2) (l.none n)⟩
    · cases h2
  · exact (pe_callG F hr hg hm hk hb (fun _ => passN) (ha.run _ _ h1) hdb hst hpl).imp fun σ H Q q => q⟩
theorem cl_call (D' : Def X.prog X.w X.K X.mg X.base x k ps (spC X.K np m)) (hlen : ∀ as o, m as = some o → as.length = np) (hr : Rm k X.A) (tk : Takes X We) (ha : CA X We xa (e :: es) As) (hg : Gl X x := by rfl) (hdb : (x == ("__debug__" : Str)) = false := by decide)
    (hst : starEach (e :: es) X.env = (false, eval e X.env) :: starEach es X.env := by rfl) (hpl : (backTo pos (starEach es X.env)).any (·.1) = false := by rfl) : CL X We xa (.Call (.Name x p) (e :: es) [] pos) (callL m As) := ⟨fun ρ r hM => by
  obtain ⟨f, fd, F, hm, hk, hb⟩ := D'.ex
  rcases bd_some hM with ⟨xs, ρ1, h1, h2⟩ | ⟨c, d, ρ1, h1, rfl⟩
  · have ha := ha.run _ _ h1
    unfold callRL at h2
    split at h2
    · rename_i d ho
      cases h2
      exact (pe_callG F hr hg hm hk hb (fun _ => passN) ha hdb hst hpl).imp fun σ H Q ⟨w, e1, R1, q⟩ => ⟨w, e1, R1, fun vs w' R' l al => sp_fr (hlen _ _ ho) ho R' al fun p us w2 R2 l2 => q p us w2 R2 (l.trans l2)⟩
    · rename_i c d ho
      cases h2
      exact (pe_callG (E := WE We) F hr hg hm hk hb (fun σ => passAt tk σ) ha hdb hst hpl).imp fun σ H Q ⟨w, e1, R1, q⟩ => ⟨w, e1, R1, fun vs w' R' l al => sp_er (hlen _ _ ho) ho R' al fun w2 d' v R2 l2 n => q w2 d' v R2 (l.trans l2) (l.none n)⟩
    · cases h2
  · exact (pe_callG F hr hg hm hk hb (fun _ => passN) (ha.run _ _ h1) hdb hst hpl).imp fun σ H Q q => q⟩
/-! keywords -/
structure CK (X : Cx) (We : WX) (xa : Xa) (es : List Keyword) (M : Cp (List D)) : Prop where
  run : ∀ ρ r, M ρ = some r → PK X es (tRA X We xa (S xa ρ) r)
theorem ck_nil : CK X We xa [] nilA := ⟨fun ρ r h => by cases h; exact hk_nil⟩
theorem pk_no {es : List Keyword} : PK X es (fun _ _ _ => False) := ⟨fun _ _ _ _ _ _ _ h => h.elim⟩
theorem ck_cons {nm : Option Str} {kpos : Pos} {kws : List Keyword} (h : CE X We xa e A) (t : CK X We xa kws As) : CK X We xa (⟨nm, e, kpos⟩ :: kws) (consA A As) := ⟨fun ρ r hM => by
  rcases bd_some hM with ⟨x, ρ1, h1, h2⟩ | ⟨c, d, ρ1, h1, rfl⟩
  · rcases bd_some h2 with ⟨y, ρ2, h3, h4⟩ | ⟨c', d', ρ2, h3, rfl⟩
    · cases h4
      exact hk_cons (h.run _ _ h1) (t.run _ _ h3)
    · exact (pk_cons (h.run _ _ h1) (t.run _ _ h3)).imp fun σ H Q ⟨w, e1, R1, q⟩ => ⟨w, e1, R1, fun v w' R' l _ => ⟨w', rfl, R', fun w2 d u R2 l2 n => q w2 d u R2 (l.trans l2) (l.none n)⟩⟩
  · exact (pk_cons (h.run _ _ h1) pk_no).imp fun σ H Q q => q⟩
def jsD (js : List Nat) (xs : List D) : List D := js.map fun j => xs.getD j .non
def callK (m : Fn) (n : Nat) (js : List Nat) (As : Cp (List D)) : Cp D := fun ρ => bd (As ρ) fun xs ρ1 => if xs.length = n then callR (m (imS (jsD js xs))) ρ1 else none
@[simp] theorem callK_ {n : Nat} {js : List Nat} {ρ : PE'} : callK m n js As ρ = bd (As ρ) fun xs ρ1 => if xs.length = n then callR (m (imS (jsD js xs))) ρ1 else none := rfl
theorem alP_rjs {K : PySem.W.Frag} {H : Hp} {xs : List D} {vs : List V} (h : AlP K H (rvs xs) vs) (js : List Nat) : AlP K H (rvs (jsD js xs)) (js.map fun j => vs.getD j .non) := by
  have e : rvs (jsD js xs) = js.map fun j => (rvs xs).getD j (rv ()) := by
    unfold rvs jsD
    rw [List.map_map]
    refine List.map_congr_left fun j _ => ?_
    show rv (xs.getD j .non) = _
    rw [← rv_non, List.getD_eq_getElem?_getD, List.getD_eq_getElem?_getD, List.getElem?_map]
    cases xs[j]? <;> rfl
  rw [e]
  exact alP_js h js
/-- f(k = e, ..) -/
theorem ce_callK0 {kws : List Keyword} {kbs : List (List Str × Nat × List Nat)} {ks : List Str} {js : List Nat} (D' : DefK X.prog X.w X.K X.mg X.base x k ps (spC X.K np m) kbs) (hlen : ∀ as o, m as = some o → as.length = np) (hr : Rm k X.A) (tk : Takes X We) (hk : CK X We xa kws As) (hq : (ks, 0, js) ∈ kbs) (hks : (backToKw pos (keywordEach kws X.env)).filterMap (·.1) = ks := by rfl)
    (hall : (backToKw pos (keywordEach kws X.env)).all (·.1.isSome) = true := by rfl) (hg : Gl X x := by rfl) (hdb : (x == ("__debug__" : Str)) = false := by decide)
    (hpl : ((backTo pos (starEach [] X.env)).any (·.1) || (backToKw pos (keywordEach kws X.env)).any (·.1.isNone)) = false := by rfl) : CE X We xa (.Call (.Name x p) [] kws pos) (callK m ks.length js As) := ⟨fun ρ r hM => by
  obtain ⟨f, fd, F, hm, hkp, _, hkb⟩ := D'.ex
  have kb := hkb _ hq
  rcases bd_some hM with ⟨xs, ρ1, h1, h2⟩ | ⟨c, d, ρ1, h1, rfl⟩
  · split at h2
    · rename_i hn
      have hk := hk.run _ _ h1
      refine ⟨fun pins s σ H Q I q0 => ?_⟩
      obtain ⟨w, e1, R1, q⟩ : ∃ w : Wd, w.H = H ∧ Rep X.K (S xa ρ) σ w ∧ aftR X We xa σ w Q r := tR_in q0
      refine wpAny_Call_Name_kw (ld_glob I hg hm (PySem.W.callWith_KW0 I.kIn hkp hall (thn (hk.run pos pins s σ H (fun zs H1 => ∃ w' : Wd, w'.H = H1 ∧ Rep X.K (S xa ρ1) σ w' ∧ Le w w' ∧ AlP X.K w'.Hi (rvs xs) zs) I ⟨w, e1, R1, fun vs w' R' l al => ⟨w', rfl, R', l, al⟩⟩) fun ws s2 ⟨zs, H2, I2, rz, w', e2, R', l, al⟩ => ⟨I2.kIn, ?_⟩) hpl) hdb)
      subst e2
      rw [hks]
      have hz : zs.length = ks.length := by rw [alP_lenS al, hn]
      have al2 := alP_rjs al js
      have fin : ∀ E : XK, PassesAt (L2.CX X.prog X.w) X σ E → spC X.K np m (js.map fun j => zs.getD j .non) w'.H Q E → wpAny (model X.prog X.w) X.A (call (.ref f) [] (ks.zip ws)) (EP X pins σ Q) X.xe s2 := fun E hE hsp => by
        refine wpAny_call (codeAny_mono (runG F hr (kb.to s2 [] ws rfl (rz.length.symm.trans hz)) hE I2 (vals_js (vals_app .nil rz) js) hsp) fun r s' hq => ?_)
        cases r with
        | error e => exact hq
        | ok fl => cases fl <;> first | exact hq | exact hq.elim
      unfold callR at h2
      split at h2
      · rename_i d ho
        cases h2
        exact fin E0 passN (sp_rt (hlen _ _ ho) ho R' al2 fun v w2 R2 l2 => q v w2 R2 (l.trans l2))
      · rename_i c d ho
        cases h2
        exact fin (WE We σ) (passAt tk σ) (sp_er (hlen _ _ ho) ho R' al2 fun w2 d' v R2 l2 n => q w2 d' v R2 (l.trans l2) (l.none n))
      · cases h2
    · cases h2
  · have hk := hk.run _ _ h1
    refine ⟨fun pins s σ H Q I q0 => ?_⟩
    exact wpAny_Call_Name_kw (ld_glob I hg hm (PySem.W.callWith_KW0 I.kIn hkp hall (thn (hk.run pos pins s σ H (fun zs H1 => False) I q0) fun ws s2 ⟨zs, H2, I2, rz, z⟩ => z.elim) hpl) hdb)⟩
/-- f(e, .., k = e, ..) -/
def appA (As Bs : Cp (List D)) : Cp (List D) := fun ρ => bd (As ρ) fun xs ρ1 => bd (Bs ρ1) fun ys ρ2 => some (.ok (xs ++ ys) ρ2)
@[simp] theorem appA_ {Bs : Cp (List D)} {ρ : PE'} : appA As Bs ρ = bd (As ρ) fun xs ρ1 => bd (Bs ρ1) fun ys ρ2 => some (.ok (xs ++ ys) ρ2) := rfl
theorem rvs_app {xs ys : List D} : rvs (xs ++ ys) = rvs xs ++ rvs ys := by unfold rvs; rw [List.map_append]
theorem ce_callK {kws : List Keyword} {kbs : List (List Str × Nat × List Nat)} {ks : List Str} {js : List Nat} {n : Nat} {Bs : Cp (List D)} (D' : DefK X.prog X.w X.K X.mg X.base x k ps (spC X.K np m) kbs) (hlen : ∀ as o, m as = some o → as.length = np) (hr : Rm k X.A) (tk : Takes X We) (ha : CA X We xa (e :: es) As) (hk : CK X We xa kws Bs) (hq : (ks, n, js) ∈ kbs) (hn' : es.length + 1 = n := by rfl) (hks : (backToKw pos (keywordEach kws X.env)).filterMap (·.1) = ks := by rfl)
    (hall : (backToKw pos (keywordEach kws X.env)).all (·.1.isSome) = true := by rfl) (hg : Gl X x := by rfl) (hdb : (x == ("__debug__" : Str)) = false := by decide)
    (he : starEach (e :: es) X.env = (false, eval e X.env) :: starEach es X.env := by rfl)
    (hpl : ((backTo pos (starEach (e :: es) X.env)).any (·.1) || (backToKw pos (keywordEach kws X.env)).any (·.1.isNone)) = false := by rfl) (hl2 : ∀ ρ xs ρ', As ρ = some (.ok xs ρ') → xs.length = n) : CE X We xa (.Call (.Name x p) (e :: es) kws pos) (callK m (n + ks.length) js (appA As Bs)) := ⟨fun ρ r hM => by
  obtain ⟨f, fd, F, hm, hkp, _, hkb⟩ := D'.ex
  have kb := hkb _ hq
  rcases bd_some hM with ⟨xs, ρ1, h1, h2⟩ | ⟨c, d, ρ1, h1, rfl⟩
  · split at h2
    · rename_i hn
      rcases bd_some h1 with ⟨ys, ρa, g1, g2⟩ | ⟨c, d, ρa, g1, g2⟩
      · rcases bd_some g2 with ⟨zs', ρb, g3, g4⟩ | ⟨c, d, ρb, g3, g4⟩
        · cases g4
          have ha := ha.run _ _ g1
          have hk := hk.run _ _ g3
          refine ⟨fun pins s σ H Q I q0 => ?_⟩
          obtain ⟨w, e1, R1, q⟩ : ∃ w : Wd, w.H = H ∧ Rep X.K (S xa ρ) σ w ∧ aftR X We xa σ w Q r := tR_in q0
          refine wpAny_Call_Name_kw (ld_glob I hg hm (PySem.W.callWith_KW (h₀ := X.base) I.ok.mod.kin hkp hall (thn (ha.run pos pins s σ H (fun zs H1 => ∃ w' : Wd, w'.H = H1 ∧ Rep X.K (S xa ρa) σ w' ∧ Le w w' ∧ AlP X.K w'.Hi (rvs ys) zs) I ⟨w, e1, R1, fun vs w' R' l al => ⟨w', rfl, R', l, al⟩⟩) fun us s1 ⟨vs, H1, I1, r', w1, e1, R1, l1, al1⟩ => ?_) hpl he) hdb)
          subst e1
          refine thn (hk.run pos pins s1 σ _ (fun zs H1 => ∃ w' : Wd, w'.H = H1 ∧ Rep X.K (S xa ρ1) σ w' ∧ Le w1 w' ∧ AlP X.K w'.Hi (rvs zs') zs) I1 ⟨w1, rfl, R1, fun vs w' R' l al => ⟨w', rfl, R', l, al⟩⟩) fun ws s2 ⟨zs, H2, I2, rz, w2, e2, R', l2, al2⟩ => ⟨I2.kIn, ?_⟩
          subst e2
          rw [hks]
          have hy := hl2 _ _ _ g1
          have hvs : vs.length = n := by rw [alP_lenS al1, hy]
          have hz : zs.length = ks.length := by
            rw [alP_lenS al2]
            rw [List.length_append, hy] at hn
            omega
          have l := l1.trans l2
          have al3 : AlP X.K w2.Hi (rvs (ys ++ zs')) (vs ++ zs) := by rw [rvs_app]; exact (al1.mono l2.hi).append al2
          have al4 := alP_rjs al3 js
          have fin : ∀ E : XK, PassesAt (L2.CX X.prog X.w) X σ E → spC X.K np m (js.map fun j => (vs ++ zs).getD j .non) w2.H Q E → wpAny (model X.prog X.w) X.A (call (.ref f) us (ks.zip ws)) (EP X pins σ Q) X.xe s2 := fun E hE hsp => by
            refine wpAny_call (codeAny_mono (runG F hr (kb.to s2 us ws (r'.length.symm.trans hvs) (rz.length.symm.trans hz)) hE I2 (vals_js (vals_app r' rz) js) hsp) fun r s' hq => ?_)
            cases r with
            | error e => exact hq
            | ok fl => cases fl <;> first | exact hq | exact hq.elim
          unfold callR at h2
          split at h2
          · rename_i d ho
            cases h2
            exact fin E0 passN (sp_rt (hlen _ _ ho) ho R' al4 fun v w3 R2 l3 => q v w3 R2 (l.trans l3))
          · rename_i c d ho
            cases h2
            exact fin (WE We σ) (passAt tk σ) (sp_er (hlen _ _ ho) ho R' al4 fun w3 d' v R2 l3 n => q w3 d' v R2 (l.trans l3) (l.none n))
          · cases h2
        · cases g4
      · cases g2
    · cases h2
  · rcases bd_some h1 with ⟨ys, ρa, g1, g2⟩ | ⟨c', d', ρa, g1, g2⟩
    · rcases bd_some g2 with ⟨zs', ρb, g3, g4⟩ | ⟨c', d', ρb, g3, g4⟩
      · cases g4
      · cases g4
        have ha := ha.run _ _ g1
        have hk := hk.run _ _ g3
        refine ⟨fun pins s σ H Q I ⟨w, e1, R1, q⟩ => ?_⟩
        refine wpAny_Call_Name_kw (ld_glob I hg hm (PySem.W.callWith_KW (h₀ := X.base) I.ok.mod.kin hkp hall (thn (ha.run pos pins s σ H (fun zs H1 => ∃ w' : Wd, w'.H = H1 ∧ Rep X.K (S xa ρa) σ w' ∧ Le w w') I ⟨w, e1, R1, fun vs w' R' l al => ⟨w', rfl, R', l⟩⟩) fun us s1 ⟨vs, H1, I1, r', w1, e1, R1, l1⟩ => ?_) hpl he) hdb)
        subst e1
        exact thn (hk.run pos pins s1 σ _ (fun zs H1 => False) I1 ⟨w1, rfl, R1, fun w' d v R' l n => q w' d v R' (l1.trans l) (l1.none n)⟩) fun ws s2 ⟨zs, H2, I2, rz, z⟩ => z.elim
    · cases g2
      have ha := ha.run _ _ g1
      refine ⟨fun pins s σ H Q I q0 => ?_⟩
      exact wpAny_Call_Name_kw (ld_glob I hg hm (PySem.W.callWith_KW (h₀ := X.base) I.ok.mod.kin hkp hall (thn (ha.run pos pins s σ H (fun zs H1 => False) I q0) fun us s1 ⟨vs, H1, I1, r', z⟩ => z.elim) hpl he) hdb)⟩
/-! f(xs, e, ..): xs a list of ours that it may change -/
theorem call1_rep {K : PySem.W.Frag} {mk : List D → Slot} {xs ys : List D} {i : Nat} {b : Addr} {σ : L2.St} {w' : Wd} {vs : List V} {Ps : List VP} (R' : Rep K env1 σ w') (O : Own mk) (h1 : env1[i]? = some (mk xs)) (hb : σ[i]? = some (some (.ref b))) (al : AlP K w'.Hi Ps vs) :
    ∃ wc : Wd, wc.H = w'.H ∧ wc.Hi = w'.Hi ∧ Rep K (par xs :: Ps.map im) (some (.ref b) :: vs.map some) wc ∧ (∀ (pp : Addr) (w2 : Wd), LeX pp wc w2 → Pars K w2 [(0, par ys)] → Le wc w2) ∧ ∀ w2 : Wd, w2.Ok → Le wc w2 → Pars K w2 [(0, par ys)] → ∃ w3 : Wd, w3.H = w2.H ∧ w3.Hi = w2.Hi ∧ w3.O = w'.O ∧ Rep K (env1.set i (mk ys)) σ w3 ∧ Le w' w3 := by
  obtain ⟨us, h3, h4, h5, h6⟩ := R'.own O h1 hb
  obtain ⟨hn, _⟩ := R'.ok.ho b i h4
  let wc : Wd := { Hi := w'.Hi, H := w'.H, O := fun c => if c = b then some 0 else none, pa := fun j => if j = 0 then some b else none }
  have okc : wc.Ok := ⟨R'.ok.sub, fun c j h => by
    by_cases z : c = b
    · subst z
      exact ⟨hn, fun z => by rw [show wc.H c = w'.H c from rfl, h5] at z; cases z⟩
    · have : (if c = b then some 0 else none) = some j := h
      rw [if_neg z] at this
      exact absurd this (by simp), fun c j h => by
    by_cases z : c = b
    · subst z
      exact lst_pl h5
    · have : (if c = b then some 0 else none) = some j := h
      rw [if_neg z] at this
      exact absurd this (by simp), R'.ok.tb⟩
  refine ⟨wc, rfl, rfl, ?_, fun pp w2 lx hp => ?_, ?_⟩
  · have R2 := rep_ims (K := K) (w := wc) okc al
    refine ⟨okc, by rw [List.length_cons, List.length_cons, R2.len], fun j s hs => ?_⟩
    cases j with
    | zero =>
      simp at hs
      subst hs
      exact ⟨some (.ref b), rfl, b, us, rfl, rfl, if_pos rfl, h5, h6⟩
    | succ j =>
      obtain ⟨z, h7, h8⟩ := R2.sl j s (by simpa using hs)
      refine ⟨z, by simpa using h7, ?_⟩
      rw [List.getElem?_cons_succ, List.getElem?_map] at hs
      cases qq : Ps[j]? with
      | none => rw [qq] at hs; cases hs
      | some P' =>
        rw [qq] at hs
        cases hs
        exact h8
  · refine lx.le ?_
    show (if pp = b then some 0 else none) = none
    refine if_neg fun e => ?_
    obtain ⟨z, c, ws, h7, h8, h9, h10, h11⟩ := hp (0, par ys) List.mem_cons_self
    have ecb : c = b := by
      rw [lx.pa] at h8
      have : some b = some c := h8
      exact (Option.some.inj this).symm
    have := lx.no
    rw [e, ← ecb, h10] at this
    cases this
  · intro w2 ok2 l2 hp
    obtain ⟨z, c, ws, h7, h8, h9, h10, h11⟩ := hp (0, par ys) List.mem_cons_self
    have ecb : c = b := by
      rw [l2.pa] at h8
      have : some b = some c := h8
      exact (Option.some.inj this).symm
    subst ecb
    have kp : ∀ d o, d ≠ c → NT o → w'.H d = some o → w2.H d = some o ∧ w2.Hi d = w'.Hi d := fun d o nd nt h => by
      obtain ⟨g1, _, g3⟩ := l2.kp d o h (if_neg nd) nt
      exact ⟨g1, g3⟩
    have ok3 : (w'.out w2).Ok := ⟨ok2.sub, fun d j h => by
      by_cases z : d = c
      · subst z
        exact ⟨(ok2.ho d 0 h9).1, fun z => by rw [show (w'.out w2).H d = w2.H d from rfl, h10] at z; cases z⟩
      · obtain ⟨g1, g2⟩ := R'.ok.ho d j h
        cases q : w'.H d with
        | none => exact absurd q g2
        | some o =>
          obtain ⟨g3, g4⟩ := kp d o z (own_nt R'.ok h q) q
          exact ⟨g4.trans g1, fun z => by rw [show (w'.out w2).H d = w2.H d from rfl, g3] at z; cases z⟩, fun d j h => by
      show (∀ ps, w2.H d ≠ some (.tbl ps)) ∧ ∀ f, w2.H d ≠ some (.ext f)
      by_cases z : d = c
      · subst z
        exact lst_pl h10
      · cases q : w'.H d with
        | none => exact absurd q (R'.ok.ho d j h).2
        | some o =>
          have pl := R'.ok.pl d j h
          rw [q] at pl
          rw [(kp d o z (own_nt R'.ok h q) q).1]
          exact pl, ok2.tb⟩
    refine ⟨w'.out w2, rfl, rfl, rfl, ⟨ok3, by rw [List.length_set]; exact R'.len, fun j s hs => ?_⟩, ⟨l2.hi, fun d o h k nt => ?_, l2.dm, rfl, l2.tx⟩⟩
    · by_cases z : i = j
      · subst z
        have hlt : i < env1.length := (List.getElem?_eq_some_iff.mp h1).1
        rw [List.getElem?_set_self hlt] at hs
        cases hs
        exact ⟨_, hb, O.put h3 rfl h4 h10 h11 rfl⟩
      · rw [List.getElem?_set_ne z] at hs
        obtain ⟨t, g1, g2⟩ := R'.sl j s hs
        refine ⟨t, g1, s.mono g2 l2.hi (fun d hd => ⟨hd, ?_⟩) rfl⟩
        have nd : d ≠ c := fun zz => by
          subst zz
          rw [h4] at hd
          cases hd
          exact z rfl
        cases q : w'.H d with
        | none => exact absurd q (R'.ok.ho d j hd).2
        | some o => exact (kp d o nd (own_nt R'.ok hd q) q).1
    · have nd : d ≠ c := fun zz => by
        subst zz
        rw [h4] at k
        cases k
      exact ⟨(kp d o nd nt h).1, k, (kp d o nd nt h).2⟩
def call1R (o : Option FOut) (i : Nat) (b : Bool) (ρ : PE') : Option (Rs D) := match o with
  | some (.rt d [(0, .par ys)]) => some (.ok d (ρ.set i (mkS b ys)))
  | some (.er c d [(0, .par ys)]) => some (.er c d (ρ.set i (mkS b ys)))
  | _ => none
@[simp] theorem call1R_rt {i : Nat} {b : Bool} {d : D} {ys : List D} {ρ : PE'} : call1R (some (.rt d [(0, .par ys)])) i b ρ = some (.ok d (ρ.set i (mkS b ys))) := rfl
@[simp] theorem call1R_er {i : Nat} {b : Bool} {c : Str} {d : D} {ys : List D} {ρ : PE'} : call1R (some (.er c d [(0, .par ys)])) i b ρ = some (.er c d (ρ.set i (mkS b ys))) := rfl
def call1L (o : Option FOut) (i : Nat) (b : Bool) (ρ : PE') : Option (Rs (List D)) := match o with
  | some (.fr d [(0, .par ys)]) => some (.ok d (ρ.set i (mkS b ys)))
  | some (.er c d [(0, .par ys)]) => some (.er c d (ρ.set i (mkS b ys)))
  | _ => none
@[simp] theorem call1L_fr {i : Nat} {b : Bool} {d ys : List D} {ρ : PE'} : call1L (some (.fr d [(0, .par ys)])) i b ρ = some (.ok d (ρ.set i (mkS b ys))) := rfl
def c1C (m : Fn) (i : Nat) (As : Cp (List D)) : Cp D := fun ρ => match lsAt ρ i with
  | some (b, _) => bd (As ρ) fun xs ρ1 => match lsAt ρ1 i with
    | some (b', ys) => if b' = b then call1R (m (.par ys :: imS xs)) i b ρ1 else none
    | none => none
  | none => none
def c1L (m : Fn) (i : Nat) (As : Cp (List D)) : Cp (List D) := fun ρ => match lsAt ρ i with
  | some (b, _) => bd (As ρ) fun xs ρ1 => match lsAt ρ1 i with
    | some (b', ys) => if b' = b then call1L (m (.par ys :: imS xs)) i b ρ1 else none
    | none => none
  | none => none
theorem S_par {xa : Xa} {xs ys : List D} : S xa (.par ys :: imS xs) = par ys :: (rvs xs).map im := by
  rw [← S_ims]
  rfl
theorem ce_call1 {y : Str} {q : Pos} (i : Nat) (D' : Def X.prog X.w X.K X.mg X.base x k ps (spC X.K np m)) (hlen : ∀ as o, m as = some o → as.length = np) (hr : Rm k X.A) (tk : Takes X We) (ha : CA X We xa es As)
    (hN : X.N[i]? = some y := by rfl) (hv : Vis X.env.scope y := by first | exact Or.inl rfl | exact Or.inr (Or.inl rfl) | exact Or.inr (Or.inr rfl)) (hd : (y == ("__debug__" : Str)) = false := by decide) (hcd : (y == ("__classdict__" : Str)) = false := by decide)
    (hg : Gl X x := by rfl) (hdb : (x == ("__debug__" : Str)) = false := by decide)
    (hst : starEach (.Name y q :: es) X.env = (false, eval (.Name y q) X.env) :: starEach es X.env := by rfl) (hpl : (backTo pos (starEach es X.env)).any (·.1) = false := by rfl) : CE X We xa (.Call (.Name x p) (.Name y q :: es) [] pos) (c1C m i As) := ⟨fun ρ r hM => by
  obtain ⟨f, fd, F, hm, hk, hb⟩ := D'.ex
  unfold c1C at hM
  split at hM
  · rename_i b zs g1
    have O := mkL_own b
    rcases bd_some hM with ⟨xs, ρ1, h1, h2⟩ | ⟨c, d, ρ1, h1, rfl⟩
    · split at h2
      · rename_i b' ys g2
        split at h2
        · rename_i eb
          subst eb
          have ha := ha.run _ _ h1
          unfold call1R at h2
          split at h2
          · rename_i d us ho
            cases h2
            refine (pe_callG F hr hg hm hk hb (fun _ => passN) (pa_cons (pe_own O i (lsAt_S g1) hN hv hd hcd) ha hst) hdb hst hpl).imp fun σ H Q ⟨w, e1, R1, q⟩ => ⟨w, e1, R1, fun b hb => ⟨w, rfl, R1, fun vs w' R' l al => ?_⟩⟩
            obtain ⟨wc, c1, c2, c3, c5, c4⟩ := call1_rep (ys := us) R' O (lsAt_S g2) hb al
            refine spm (hlen _ _ ho) ho wc c1 (by rw [S_par]; exact c3) ?_
            intro v w2 ok l2 hp pv
            obtain ⟨w3, d1, d2, d3, d4, d5⟩ := c4 w2 ok l2 hp
            rw [← d1]
            refine q v w3 ?_ (l.trans d5) (by rw [d2]; exact pv)
            rw [← S_set, mkS_sl]
            exact d4
          · rename_i c d us ho
            cases h2
            refine (pe_callG (E := WE We) F hr hg hm hk hb (fun σ => passAt tk σ) (pa_cons (pe_own O i (lsAt_S g1) hN hv hd hcd) ha hst) hdb hst hpl).imp fun σ H Q ⟨w, e1, R1, q⟩ => ⟨w, e1, R1, fun b hb => ⟨w, rfl, R1, fun vs w' R' l al => ?_⟩⟩
            obtain ⟨wc, c1, c2, c3, c5, c4⟩ := call1_rep (ys := us) R' O (lsAt_S g2) hb al
            refine spm (hlen _ _ ho) ho wc c1 (by rw [S_par]; exact c3) ?_
            intro d v w2 ok l2 hp hn h1 h2 h3 h4
            obtain ⟨w3, d1, d2, d3, d4, d5⟩ := c4 w2 ok l2 hp
            have hn' : w'.H d = none := by rw [← c1]; exact hn
            rw [← d1]
            refine q w3 d v ?_ (l.trans d5) (l.none hn') (by rw [d1]; exact h1) (by rw [d3]; exact (R'.ok.fresh hn').2) (by rw [d2]; exact h3) (by rw [d2]; exact h4)
            rw [← S_set, mkS_sl]
            exact d4
          · cases h2
        · cases h2
      · cases h2
    · exact (pe_callG F hr hg hm hk hb (fun _ => passN) (pa_cons (pe_own O i (lsAt_S g1) hN hv hd hcd) (ha.run _ _ h1) hst) hdb hst hpl).imp fun σ H Q ⟨w, e1, R1, q⟩ => ⟨w, e1, R1, fun b hb => ⟨w, e1 ▸ rfl, R1, q⟩⟩
  · cases hM⟩
theorem cl_call1 {y : Str} {q : Pos} (i : Nat) (D' : Def X.prog X.w X.K X.mg X.base x k ps (spC X.K np m)) (hlen : ∀ as o, m as = some o → as.length = np) (hr : Rm k X.A) (tk : Takes X We) (ha : CA X We xa es As)
    (hN : X.N[i]? = some y := by rfl) (hv : Vis X.env.scope y := by first | exact Or.inl rfl | exact Or.inr (Or.inl rfl) | exact Or.inr (Or.inr rfl)) (hd : (y == ("__debug__" : Str)) = false := by decide) (hcd : (y == ("__classdict__" : Str)) = false := by decide)
    (hg : Gl X x := by rfl) (hdb : (x == ("__debug__" : Str)) = false := by decide)
    (hst : starEach (.Name y q :: es) X.env = (false, eval (.Name y q) X.env) :: starEach es X.env := by rfl) (hpl : (backTo pos (starEach es X.env)).any (·.1) = false := by rfl) : CL X We xa (.Call (.Name x p) (.Name y q :: es) [] pos) (c1L m i As) := ⟨fun ρ r hM => by
  obtain ⟨f, fd, F, hm, hk, hb⟩ := D'.ex
  unfold c1L at hM
  split at hM
  · rename_i b zs g1
    have O := mkL_own b
    rcases bd_some hM with ⟨xs, ρ1, h1, h2⟩ | ⟨c, d, ρ1, h1, rfl⟩
    · split at h2
      · rename_i b' ys g2
        split at h2
        · rename_i eb
          subst eb
          have ha := ha.run _ _ h1
          unfold call1L at h2
          split at h2
          · rename_i d us ho
            cases h2
            refine (pe_callG F hr hg hm hk hb (fun _ => passN) (pa_cons (pe_own O i (lsAt_S g1) hN hv hd hcd) ha hst) hdb hst hpl).imp fun σ H Q ⟨w, e1, R1, q⟩ => ⟨w, e1, R1, fun b hb => ⟨w, rfl, R1, fun vs w' R' l al => ?_⟩⟩
            obtain ⟨wc, c1, c2, c3, c5, c4⟩ := call1_rep (ys := us) R' O (lsAt_S g2) hb al
            refine spm (hlen _ _ ho) ho wc c1 (by rw [S_par]; exact c3) ?_
            intro pp v w2 ok lx hp pv
            have l2 := c5 pp w2 lx hp
            have hpp := lx.no
            obtain ⟨w3, d1, d2, d3, d4, d5⟩ := c4 w2 ok l2 hp
            rw [← d1]
            refine q pp v w3 ?_ (l.trans d5) (by rw [d1]; exact hpp) (by rw [d2]; exact alP_al pv)
            rw [← S_set, mkS_sl]
            exact d4
          · rename_i c d us ho
            cases h2
            refine (pe_callG (E := WE We) F hr hg hm hk hb (fun σ => passAt tk σ) (pa_cons (pe_own O i (lsAt_S g1) hN hv hd hcd) ha hst) hdb hst hpl).imp fun σ H Q ⟨w, e1, R1, q⟩ => ⟨w, e1, R1, fun b hb => ⟨w, rfl, R1, fun vs w' R' l al => ?_⟩⟩
            obtain ⟨wc, c1, c2, c3, c5, c4⟩ := call1_rep (ys := us) R' O (lsAt_S g2) hb al
            refine spm (hlen _ _ ho) ho wc c1 (by rw [S_par]; exact c3) ?_
            intro d v w2 ok l2 hp hn h1 h2 h3 h4
            obtain ⟨w3, d1, d2, d3, d4, d5⟩ := c4 w2 ok l2 hp
            have hn' : w'.H d = none := by rw [← c1]; exact hn
            rw [← d1]
            refine q w3 d v ?_ (l.trans d5) (l.none hn') (by rw [d1]; exact h1) (by rw [d3]; exact (R'.ok.fresh hn').2) (by rw [d2]; exact h3) (by rw [d2]; exact h4)
            rw [← S_set, mkS_sl]
            exact d4
          · cases h2
        · cases h2
      · cases h2
    · exact (pe_callG F hr hg hm hk hb (fun _ => passN) (pa_cons (pe_own O i (lsAt_S g1) hN hv hd hcd) (ha.run _ _ h1) hst) hdb hst hpl).imp fun σ H Q ⟨w, e1, R1, q⟩ => ⟨w, e1, R1, fun b hb => ⟨w, e1 ▸ rfl, R1, q⟩⟩
  · cases hM⟩
end
end BC

namespace BC
open PySem PySem.Spec PyProof.Rows L2
variable [TabL]
/-! ### comprehensions -/
def wipS (ρ : PE') : List Nat → PE'
  | [] => ρ
  | v :: vs => (wipS ρ vs).set v .un
@[simp] theorem wipS_nil {ρ : PE'} : wipS ρ [] = ρ := rfl
@[simp] theorem wipS_cons {ρ : PE'} {v : Nat} {vs : List Nat} : wipS ρ (v :: vs) = (wipS ρ vs).set v .un := rfl
theorem S_wip {xa : Xa} {ρ : PE'} : ∀ vs : List Nat, S xa (wipS ρ vs) = wipeE (S xa ρ) vs
  | [] => rfl
  | v :: vs => by
    show S xa ((wipS ρ vs).set v .un) = (wipeE (S xa ρ) vs).set v un
    rw [← S_wip vs, ← S_set]
    rfl
/-- what was known ahead of a block's own names -/
def kpS (ρ : PE') (v : Nat) : SV := match ρ[v]? with
  | some (.im d) => .im d
  | _ => .un
def reS (ρ : PE') : List Nat → PE' → PE'
  | [], ρ' => ρ'
  | v :: vs, ρ' => (reS ρ vs ρ').set v (kpS ρ v)
@[simp] theorem reS_nil {ρ ρ' : PE'} : reS ρ [] ρ' = ρ' := rfl
@[simp] theorem reS_cons {ρ ρ' : PE'} {v : Nat} {vs : List Nat} : reS ρ (v :: vs) ρ' = (reS ρ vs ρ').set v (kpS ρ v) := rfl
theorem reS_len {ρ ρ' : PE'} : ∀ vs : List Nat, (reS ρ vs ρ').length = ρ'.length
  | [] => rfl
  | v :: vs => by rw [reS_cons, List.length_set, reS_len vs]
theorem reS_get {ρ ρ' : PE'} {j : Nat} {s : SV} : ∀ {vs : List Nat}, (reS ρ vs ρ')[j]? = some s → (j ∉ vs ∧ ρ'[j]? = some s) ∨ (j ∈ vs ∧ s = kpS ρ j)
  | [], h => .inl ⟨by simp, h⟩
  | v :: vs, h => by
    rw [reS_cons] at h
    by_cases z : v = j
    · subst z
      have hlt : v < (reS ρ vs ρ').length := by
        have := (List.getElem?_eq_some_iff.mp h).1
        rw [List.length_set] at this
        exact this
      rw [List.getElem?_set_self hlt] at h
      cases h
      exact .inr ⟨List.mem_cons_self, rfl⟩
    · rw [List.getElem?_set_ne z] at h
      rcases reS_get h with ⟨h1, h2⟩ | ⟨h1, h2⟩
      · exact .inl ⟨fun q => by rcases List.mem_cons.mp q with q | q; exact z q.symm; exact h1 q, h2⟩
      · exact .inr ⟨List.mem_cons_of_mem _ h1, h2⟩
theorem lcEnv_re {xa : Xa} {vs : List Nat} {ρ ρ' : PE'} : LcEnv vs (S xa ρ) (S xa ρ') (S xa (reS ρ vs ρ')) := ⟨by rw [S_len, S_len, reS_len], fun j s h => by
  unfold S at h
  rw [List.getElem?_map] at h
  cases q : (reS ρ vs ρ')[j]? with
  | none => rw [q] at h; cases h
  | some t =>
    rw [q] at h
    have h : t.sl xa = s := Option.some.inj h
    subst h
    rcases reS_get q with ⟨h1, h2⟩ | ⟨h1, h2⟩
    · exact .inl ⟨h1, S_get h2⟩
    · refine .inr ⟨h1, ?_⟩
      subst h2
      unfold kpS
      split
      · rename_i d hd
        exact .inr ⟨rv d, rfl, S_get hd⟩
      · exact .inl rfl⟩
def lcL (t : D → PE' → Option PE') (M : Cp Bool) (E : Cp D) (vs : List Nat) : List D → PE' → Option (List D × PE')
  | [], ρ => some ([], ρ)
  | x :: xs, ρ => match t x ρ with
    | none => none
    | some ρ1 => match M ρ1 with
      | some (.ok true ρ2) => match E ρ2 with
        | some (.ok y ρ3) => match lcL t M E vs xs (wipS ρ3 vs) with
          | some (ys, ρ') => some (y :: ys, ρ')
          | none => none
        | _ => none
      | some (.ok false ρ2) => lcL t M E vs xs (wipS ρ2 vs)
      | _ => none
def lcC (I : Cp (List D)) (t : D → PE' → Option PE') (M : Cp Bool) (E : Cp D) (vs : List Nat) : Cp (List D) := fun ρ => match I ρ with
  | some (.ok xs ρ1) => if xs.length ≤ 100000 then match lcL t M E vs xs (wipS ρ1 vs) with
    | some (ys, ρ2) => some (.ok ys (reS ρ1 vs ρ2))
    | none => none else none
  | _ => none
theorem lcC_ok {I : Cp (List D)} {t : D → PE' → Option PE'} {M : Cp Bool} {E : Cp D} {vs : List Nat} {ρ ρ1 ρ2 : PE'} {xs ys : List D} (h : I ρ = some (.ok xs ρ1)) (hz : xs.length ≤ 100000) (h2 : lcL t M E vs xs (wipS ρ1 vs) = some (ys, ρ2)) : lcC I t M E vs ρ = some (.ok ys (reS ρ1 vs ρ2)) := by
  unfold lcC
  rw [h]
  dsimp only
  rw [if_pos hz, h2]
/-- all items alike: filtered and mapped -/
theorem lcL_fm {α : Type} {t : D → PE' → Option PE'} {M : Cp Bool} {E : Cp D} {vs : List Nat} {ρ : PE'} (enc : α → D) (c : α → Bool) (f : α → D) : ∀ (xs : List α), (∀ x ∈ xs, ∃ ρ1, t (enc x) ρ = some ρ1 ∧ (∃ ρ2, M ρ1 = some (.ok (c x) ρ2) ∧ (c x = true → ∃ ρ3, E ρ2 = some (.ok (f x) ρ3) ∧ wipS ρ3 vs = ρ) ∧ (c x = false → wipS ρ2 vs = ρ))) → lcL t M E vs (xs.map enc) ρ = some ((xs.filter c).map f, ρ)
  | [], _ => rfl
  | x :: xs, h => by
    obtain ⟨ρ1, h1, ρ2, h2, h3, h4⟩ := h x List.mem_cons_self
    have ih := lcL_fm enc c f xs fun y hy => h y (List.mem_cons_of_mem _ hy)
    rw [List.map_cons]
    unfold lcL
    rw [h1]
    dsimp only
    rw [h2]
    cases q : c x with
    | true =>
      obtain ⟨ρ3, h5, h6⟩ := h3 q
      dsimp only
      rw [h5]
      dsimp only
      rw [h6, ih, List.filter_cons_of_pos q]
      rfl
    | false =>
      dsimp only
      rw [h4 q, ih, List.filter_cons_of_neg (by rw [q]; exact Bool.false_ne_true)]
def tyes : Cp Bool := fun ρ => some (.ok true ρ)
@[simp] theorem tyes_ {ρ : PE'} : tyes ρ = some (.ok true ρ) := rfl
/-- mapped alone -/
theorem lcL_m {α : Type} {t : D → PE' → Option PE'} {E : Cp D} {vs : List Nat} {ρ : PE'} (enc : α → D) (f : α → D) (xs : List α) (h : ∀ x ∈ xs, ∃ ρ1, t (enc x) ρ = some ρ1 ∧ ∃ ρ3, E ρ1 = some (.ok (f x) ρ3) ∧ wipS ρ3 vs = ρ) : lcL t tyes E vs (xs.map enc) ρ = some (xs.map f, ρ) := by
  have := lcL_fm (t := t) (M := tyes) (E := E) (vs := vs) (ρ := ρ) enc (fun _ => true) f xs fun x hx => by
    obtain ⟨ρ1, h1, ρ3, h2, h3⟩ := h x hx
    exact ⟨ρ1, h1, ρ1, rfl, fun _ => ⟨ρ3, h2, h3⟩, fun z => by cases z⟩
  rw [this, List.filter_eq_self.mpr fun _ _ => rfl]
abbrev W0 : WX := fun _ _ _ _ => False
structure CTs (X : Cx) (We : WX) (xa : Xa) (es : List Expr) (M : Cp Bool) : Prop where
  run : ∀ ρ b ρ', M ρ = some (.ok b ρ') → HTs X es (S xa ρ) (S xa ρ') b
section
variable {env env1 env2 : List Slot} {X : Cx} {We : WX} {xa : Xa} {a b c e elt tg iter : Expr} {ifs : List Expr} {A B C E : Cp D} {M N : Cp Bool} {p pos spos : Pos} {es rest : List Expr} {As L I : Cp (List D)} {s : Stmt} {r ss ts : List Stmt} {P Q : Cs} {x : Str} {k np : Nat} {scope : Scope} {own' : List (Str × Nat)} {t : D → PE' → Option PE'}
theorem ct_nil : CTs X We xa [] tyes := ⟨fun ρ b ρ' h => by cases h; exact hts_nil⟩
theorem ct_one (h : CB X We xa c M) : CTs X We xa [c] M := ⟨fun ρ b ρ' h1 => hts_one (h.run _ _ h1)⟩
theorem cl_of {vs : List Nat} (hg : ∀ s H C cl fp, CG (blkX X scope s H C cl fp) xa tg vs t) (ht : ∀ s H C cl fp, CTs (blkX X scope s H C cl fp) W0 xa ifs M) (he : ∀ s H C cl fp, CE (blkX X scope s H C cl fp) W0 xa elt E) :
    ∀ (xs : List D) (ρ : PE') (ys : List D) (ρ' : PE'), lcL t M E vs xs ρ = some (ys, ρ') → Cl X scope tg elt ifs vs (rvs xs) (S xa ρ) (rvs ys) (S xa ρ')
  | [], ρ, ys, ρ', h => by cases h; exact .nil
  | x :: xs, ρ, ys, ρ', h => by
    unfold lcL at h
    split at h
    · cases h
    · rename_i ρ1 h1
      split at h
      · rename_i ρ2 h2
        split at h
        · rename_i y ρ3 h3
          split at h
          · rename_i zs ρ4 h4
            cases h
            have ih := cl_of hg ht he xs _ _ _ h4
            rw [S_wip] at ih
            exact .yes (fun s H C cl fp => (hg s H C cl fp).run _ _ _ h1) (fun s H C cl fp => (ht s H C cl fp).run _ _ _ h2) (fun s H C cl fp => (he s H C cl fp).run _ _ h3) ih
          · cases h
        · cases h
      · rename_i ρ2 h2
        have ih := cl_of hg ht he xs _ _ _ h
        rw [S_wip] at ih
        exact .no (fun s H C cl fp => (hg s H C cl fp).run _ _ _ h1) (fun s H C cl fp => (ht s H C cl fp).run _ _ _ h2) ih
      · cases h
theorem cl_lc {vs : List Nat} (hc : X.calm = true) (hN : X.N.Nodup) (hi : CI X xa tg iter I) (ok : BlkOk X.N X.env.scope scope own') (hvs : own'.map (·.2) = vs) (hg : ∀ s H C cl fp, CG (blkX X scope s H C cl fp) xa tg vs t) (ht : ∀ s H C cl fp, CTs (blkX X scope s H C cl fp) W0 xa ifs M) (he : ∀ s H C cl fp, CE (blkX X scope s H C cl fp) W0 xa elt E)
    (hs : ∀ x, foldedSetIterable iter X.env x = pure x := by intro _; rfl) : CL X We xa (.ListComp elt [⟨tg, iter, ifs, 0⟩] scope pos) (lcC I t M E vs) := ⟨fun ρ r hM => by
  subst hvs
  unfold lcC at hM
  split at hM
  · rename_i xs ρ1 h1
    split at hM
    · rename_i hz
      split at hM
      · rename_i ys ρ2 h2
        cases hM
        have cl := cl_of hg ht he xs _ _ _ h2
        rw [S_wip] at cl
        exact hl_lc hc hN (hi.run _ _ _ h1) ok (by rw [rvs_len]; exact hz) cl lcEnv_re hs
      · cases hM
    · cases hM
  · cases hM⟩
/-- name = [..] on one line -/
theorem cs_ownLc {vs : List Nat} (i : Nat) {y : Str} {py : Pos} (hc : X.calm = true) (hN : X.N.Nodup) (hi : CI X xa tg iter I) (ok : BlkOk X.N X.env.scope scope own') (hvs : own'.map (·.2) = vs) (hg : ∀ s H C cl fp, CG (blkX X scope s H C cl fp) xa tg vs t) (ht : ∀ s H C cl fp, CTs (blkX X scope s H C cl fp) W0 xa ifs M) (he : ∀ s H C cl fp, CE (blkX X scope s H C cl fp) W0 xa elt E)
    (hy : X.N[i]? = some y := by rfl) (hyl : X.env.scope.names.lookup y = some .local := by rfl) (hsw : swapsWith (.ListComp elt [⟨tg, iter, ifs, 0⟩] scope pos) (some (.Name y py)) spos.line X.env = pure true := by rfl) (hs : ∀ x, foldedSetIterable iter X.env x = pure x := by intro _; rfl) :
    CS X We xa (.Assign [.Name y py] (.ListComp elt [⟨tg, iter, ifs, 0⟩] scope pos) spos) (setL i (lcC I t M E vs)) := ⟨fun ρ o hM => by
  subst hvs
  rcases bs_some hM with ⟨d, ρ1, h1, h2⟩ | ⟨c, d, ρ1, h1, rfl⟩
  · cases h2
    unfold lcC at h1
    split at h1
    · rename_i xs ρ1 h3
      split at h1
      · rename_i hz
        split at h1
        · rename_i ys ρ2 h4
          cases h1
          have cl := cl_of hg ht he xs _ _ _ h4
          rw [S_wip] at cl
          show HS X We _ _ (.nx (S xa _))
          rw [← S_own]
          exact st_ownLc i hc hN (hi.run _ _ _ h3) ok (by rw [rvs_len]; exact hz) cl lcEnv_re hy hyl hsw hs
        · cases h1
      · cases h1
    · cases h1
  · unfold lcC at h1
    split at h1
    · split at h1
      · split at h1 <;> cases h1
      · cases h1
    · cases h1⟩
/-! ### sums and copies of lists -/
theorem ov_catL {xs ys : List D} (hz : xs.length + ys.length ≤ 100000) : OpV X rCat (rv (D.lst xs)) (rv (D.lst ys)) (rv (D.lst (xs ++ ys))) := fun env σ x y w R1 hx hy Q q => by
  rw [rv_lst] at hx hy
  obtain ⟨t, vs, e1, h1, h2⟩ := hx
  obtain ⟨u, ws, e2, h3, h4⟩ := hy
  refine ⟨t, u, vs, ws, e1, e2, R1.ok.sub _ _ h1, R1.ok.sub _ _ h3, by rw [h2.len, h4.len]; exact Nat.le_trans hz (by decide), fun p hp => ?_⟩
  have h5 := (R1.ok.fresh hp).1
  refine q _ (w.add p (.lst (vs ++ ws))) (R1.add hp) (add_le R1.ok hp) ?_
  rw [rv_lst]
  exact ⟨p, _, rfl, upd_same, (h2.app h4).mono (Ex.new h5)⟩
theorem al_rep {K : PySem.W.Frag} {H : Hp} {xs : List D} {vs : List V} (h : Al D K H xs vs) : ∀ n : Nat, Al D K H (List.replicate n xs).flatten (List.replicate n vs).flatten
  | 0 => rfl
  | n + 1 => by
    rw [List.replicate_succ, List.replicate_succ, List.flatten_cons, List.flatten_cons]
    exact h.app (al_rep h n)
theorem ov_repL {xs : List D} {k : Int} (hk : -9223372036854775808 ≤ k ∧ k < 9223372036854775808) (hz : xs.length * k.toNat ≤ 100000) : OpV X rRep (rv (D.lst xs)) (rv (D.int k)) (rv (D.lst (List.replicate k.toNat xs).flatten)) := fun env σ x y w R1 hx hy Q q => by
  rw [rv_lst] at hx
  obtain ⟨t, vs, e1, h1, h2⟩ := hx
  refine ⟨t, k, vs, e1, hy, R1.ok.sub _ _ h1, hk.1, hk.2, by rw [h2.len]; exact Nat.le_trans hz (by decide), fun p hp => ?_⟩
  have h5 := (R1.ok.fresh hp).1
  refine q _ (w.add p (.lst (List.replicate k.toNat vs).flatten)) (R1.add hp) (add_le R1.ok hp) ?_
  rw [rv_lst]
  exact ⟨p, _, rfl, upd_same, (al_rep h2 _).mono (Ex.new h5)⟩
/-- sums with lists among them: what comes is kept as it is -/
def addE : D → D → Option D
  | .lst xs, .lst ys => if xs.length + ys.length ≤ 100000 then some (.lst (xs ++ ys)) else none
  | .str x, .str y => if x.length + y.length ≤ 16777216 then some (.str (x ++ y)) else none
  | x, y => addD x y
@[simp] theorem addE_int {i j : Int} : addE (.int i) (.int j) = some (.int (i + j)) := rfl
@[simp] theorem addE_tup {xs ys : List D} : addE (.tup xs) (.tup ys) = if xs.length + ys.length ≤ 100000 then some (.tup (xs ++ ys)) else none := rfl
@[simp] theorem addE_lst {xs ys : List D} : addE (.lst xs) (.lst ys) = if xs.length + ys.length ≤ 100000 then some (.lst (xs ++ ys)) else none := rfl
theorem ce_addE (ha : CE X We xa a A) (hb : CE X We xa b B) : CE X We xa (.BinOp a .Add b pos) (binC addE A B) := ce_op (fun x y z h => by
  unfold addE at h
  split at h
  · split at h
    · rename_i hz
      cases h
      exact ⟨_, op_cat, ov_catL hz⟩
    · cases h
  · split at h
    · rename_i i j hz
      cases h
      exact ⟨_, op_add_str, fun env σ u v w R1 hx hy Q q => ⟨i, j, hx, hy, by rw [sizeLine_eq]; exact hz, q _ w R1 (Le.refl w) rfl⟩⟩
    · cases h
  · unfold addD at h
    split at h
    · cases h; exact ⟨_, op_add, ov_I fun _ _ => rfl⟩
    · split at h
      · rename_i hz
        cases h
        rw [rv_tup, rv_tup, rv_tup]
        exact ⟨_, op_catA, ov_catT hz⟩
      · cases h
    · cases h) ha hb
def mulE : D → D → Option D
  | .lst xs, .int k => if (-9223372036854775808 ≤ k ∧ k < 9223372036854775808) ∧ xs.length * k.toNat ≤ 100000 then some (.lst (List.replicate k.toNat xs).flatten) else none
  | x, y => mulD x y
@[simp] theorem mulE_int {i j : Int} : mulE (.int i) (.int j) = mulD (.int i) (.int j) := rfl
@[simp] theorem mulE_lst {xs : List D} {k : Int} : mulE (.lst xs) (.int k) = if (-9223372036854775808 ≤ k ∧ k < 9223372036854775808) ∧ xs.length * k.toNat ≤ 100000 then some (.lst (List.replicate k.toNat xs).flatten) else none := rfl
theorem ce_mulE (ha : CE X We xa a A) (hb : CE X We xa b B) : CE X We xa (.BinOp a .Mult b pos) (binC mulE A B) := ce_op (fun x y z h => by
  unfold mulE at h
  split at h
  · split at h
    · rename_i hz
      cases h
      exact ⟨_, op_rep, ov_repL hz.1 hz.2⟩
    · cases h
  · unfold mulD at h
    split at h
    · split at h
      · rename_i hc
        cases h; exact ⟨_, op_mul, ov_C hc fun _ _ => rfl⟩
      · cases h
    · cases h) ha hb
/-- as fresh lists -/
def catL (A B : Cp D) : Cp (List D) := fun ρ => bd (A ρ) fun x ρ1 => bd (B ρ1) fun y ρ2 => lf (match x, y with
  | .lst xs, .lst ys => if xs.length + ys.length ≤ 100000 then some (xs ++ ys) else none
  | _, _ => none) ρ2
theorem cl_cat (ha : CE X We xa a A) (hb : CE X We xa b B) : CL X We xa (.BinOp a .Add b pos) (catL A B) := ⟨fun ρ r hM => by
  rcases bd_some hM with ⟨x, ρ1, h1, h2⟩ | ⟨c, d, ρ1, h1, rfl⟩
  · rcases bd_some h2 with ⟨y, ρ2, h3, h4⟩ | ⟨c, d, ρ2, h3, rfl⟩
    · obtain ⟨z, h5, rfl⟩ := lf_ok h4
      split at h5
      · rename_i xs ys
        split at h5
        · rename_i hz
          cases h5
          have ha := ha.run _ _ h1
          have hb := hb.run _ _ h3
          have ha : HE X _ _ _ (rv (D.lst xs)) := ha
          have hb : HE X _ _ _ (rv (D.lst ys)) := hb
          rw [rv_lst] at ha hb
          exact hl_cat (xs := Lst.mk xs) (ys := Lst.mk ys) hz ha hb
        · cases h5
      · cases h5
    · exact (pe_op op_cat (ha.run _ _ h1) (hb.run _ _ h3)).imp fun σ H Q ⟨w, e1, R1, q⟩ => ⟨w, e1, R1, fun v w' R' l _ => ⟨w', rfl, R', fun w2 d u R2 l2 n => q w2 d u R2 (l.trans l2) (l.none n)⟩⟩
  · exact (pe_op op_cat (ha.run _ _ h1) pe_no).imp fun σ H Q q => q⟩
def repL (A B : Cp D) : Cp (List D) := fun ρ => bd (A ρ) fun x ρ1 => bd (B ρ1) fun y ρ2 => lf (match x, y with
  | .lst xs, .int k => if (-9223372036854775808 ≤ k ∧ k < 9223372036854775808) ∧ xs.length * k.toNat ≤ 100000 then some (List.replicate k.toNat xs).flatten else none
  | _, _ => none) ρ2
theorem cl_rep (ha : CE X We xa a A) (hb : CE X We xa b B) : CL X We xa (.BinOp a .Mult b pos) (repL A B) := ⟨fun ρ r hM => by
  rcases bd_some hM with ⟨x, ρ1, h1, h2⟩ | ⟨c, d, ρ1, h1, rfl⟩
  · rcases bd_some h2 with ⟨y, ρ2, h3, h4⟩ | ⟨c, d, ρ2, h3, rfl⟩
    · obtain ⟨z, h5, rfl⟩ := lf_ok h4
      split at h5
      · rename_i xs k
        split at h5
        · rename_i hz
          cases h5
          have ha := ha.run _ _ h1
          have hb := hb.run _ _ h3
          have ha : HE X _ _ _ (rv (D.lst xs)) := ha
          rw [rv_lst] at ha
          exact (pe_op op_rep ha hb).imp fun σ H Q ⟨w, e1, R1, q⟩ => ⟨w, e1, R1, fun v w1 R2 l1 ⟨t, vs, e1, h1, h2⟩ => ⟨w1, rfl, R2, fun u w2 R3 l2 hu =>
            ⟨t, k, vs, e1, hu, R3.ok.sub _ _ (l2.hi _ _ h1), hz.1.1, hz.1.2, by rw [h2.len]; exact Nat.le_trans hz.2 (by decide), fun p hp => q p _ w2 R3 (l1.trans l2) hp (al_rep (h2.mono l2.hi) _)⟩⟩⟩
        · cases h5
      · cases h5
    · exact (pe_op op_rep (ha.run _ _ h1) (hb.run _ _ h3)).imp fun σ H Q ⟨w, e1, R1, q⟩ => ⟨w, e1, R1, fun v w' R' l _ => ⟨w', rfl, R', fun w2 d u R2 l2 n => q w2 d u R2 (l.trans l2) (l.none n)⟩⟩
  · exact (pe_op op_rep (ha.run _ _ h1) pe_no).imp fun σ H Q q => q⟩
end
/-! ### repr -/
def repD (d : D) : Option D := if D.wfb 20 d = true ∧ d.da.showable = true ∧ d.da.shown.length ≤ 16777216 then some (.str d.da.shown) else none
section
variable {X : Cx} {We : WX} {xa : Xa} {e : Expr} {A : Cp D} {p pos : Pos} {k : Nat}
theorem ce_repr (hr : Rm k X.A) (h : CE X We xa e A) (hm : X.mg "repr" = none) (hg : Gl X "repr" := by rfl) (hst : starEach [e] X.env = (false, eval e X.env) :: starEach [] X.env := by rfl) (hpl : (backTo pos (starEach [] X.env)).any (·.1) = false := by rfl) :
    CE X We xa (.Call (.Name "repr" p) [e] [] pos) (mapC repD A) := ⟨fun ρ r hM => by
  rcases bd_some hM with ⟨x, ρ1, h1, h2⟩ | ⟨c, d, ρ1, h1, rfl⟩
  · obtain ⟨z, h3, rfl⟩ := lf_ok h2
    unfold repD at h3
    split at h3
    · rename_i hw
      obtain ⟨w1, w2, w4⟩ := hw
      cases h3
      have hd : x.da.depth ≤ 64 := by have := (da_layb 20 w1).1; omega
      exact (pe_callB (call_reprD hr) hg hm (by decide +kernel) (pa_cons (h.run _ _ h1) pa_nil hst) (he := hst) (hpl := hpl)).imp fun σ H Q ⟨w, e1, R1, q⟩ => ⟨w, e1, R1, fun v w' R' l pv =>
        ⟨v, _, rfl, dp_mono R'.ok.sub (dp_dab 20 w1 pv), w2, (da_layb 20 w1).2, hd, by rw [sizeLine_eq]; exact w4, q _ w' R' l rfl⟩⟩
    · cases h3
  · exact (pe_callB (call_reprD hr) hg hm (by decide +kernel) (pa_cons (h.run _ _ h1) pa_nil hst) (he := hst) (hpl := hpl)).imp fun σ H Q q => q⟩
end
end BC

namespace BC
open PySem PySem.Spec PyProof.Rows L2
variable [TabL]
/-! ### over lists: sum, all, any, max, min, sorted -/
def bls? : List D → Option (List Bool)
  | [] => some []
  | .bl i :: xs => match bls? xs with
    | some is => some (i :: is)
    | none => none
  | _ :: _ => none
@[simp] theorem bls_nil : bls? [] = some [] := rfl
@[simp] theorem bls_cons {i : Bool} {xs : List D} : bls? (.bl i :: xs) = (bls? xs).map (i :: ·) := by
  show (match bls? xs with | some is => some (i :: is) | none => none) = _
  cases bls? xs <;> rfl
@[simp] theorem bls_map {xs : List Bool} : bls? (xs.map D.bl) = some xs := by
  induction xs with
  | nil => rfl
  | cons x xs ih => rw [List.map_cons, bls_cons, ih]; rfl
theorem bls_eq : ∀ {xs : List D} {is : List Bool}, bls? xs = some is → xs = is.map D.bl := by
  intro xs
  induction xs with
  | nil => intro is h; cases h; rfl
  | cons x xs ih =>
    intro is h
    cases x with
    | bl i =>
      rw [bls_cons] at h
      cases q : bls? xs with
      | none => rw [q] at h; cases h
      | some js =>
        rw [q] at h
        cases h
        rw [ih q]
        rfl
    | _ => cases h
theorem al_bl {K : PySem.W.Frag} {H : Hp} : ∀ {is : List Bool} {vs : List V}, D.rpL K (is.map D.bl) vs H → vs = is.map V.bl
  | [], _, h => h
  | i :: is, _, ⟨v, r, h1, h2, h3⟩ => by rw [h1, show v = .bl i from h2, al_bl h3]; rfl
def allD : D → Option D
  | .lst xs => (bls? xs).map fun bs => .bl (bs.all id)
  | _ => none
@[simp] theorem allD_lst {xs : List D} : allD (.lst xs) = (bls? xs).map fun bs => .bl (bs.all id) := rfl
def anyD : D → Option D
  | .lst xs => (bls? xs).map fun bs => .bl (bs.any id)
  | _ => none
@[simp] theorem anyD_lst {xs : List D} : anyD (.lst xs) = (bls? xs).map fun bs => .bl (bs.any id) := rfl
def sumD : D → Option D
  | .lst xs => (ints? xs).map fun is => .int is.sum
  | _ => none
@[simp] theorem sumD_lst {xs : List D} : sumD (.lst xs) = (ints? xs).map fun is => .int is.sum := rfl
def maxI : List Int → Option Int
  | [] => none
  | x :: xs => some (xs.foldl max x)
def minI : List Int → Option Int
  | [] => none
  | x :: xs => some (xs.foldl min x)
def maxL : D → Option D
  | .lst xs => match ints? xs with
    | some is => (maxI is).map D.int
    | none => none
  | _ => none
def minL : D → Option D
  | .lst xs => match ints? xs with
    | some is => (minI is).map D.int
    | none => none
  | _ => none
@[simp] theorem maxL_lst {xs : List Int} : maxL (.lst (xs.map D.int)) = (maxI xs).map D.int := by unfold maxL; simp
@[simp] theorem minL_lst {xs : List Int} : minL (.lst (xs.map D.int)) = (minI xs).map D.int := by unfold minL; simp
theorem foldl_max_spec : ∀ (xs : List Int) (x : Int), (xs.foldl max x = x ∨ xs.foldl max x ∈ xs) ∧ x ≤ xs.foldl max x ∧ ∀ y ∈ xs, y ≤ xs.foldl max x
  | [], x => ⟨.inl rfl, Int.le_refl _, fun y h => by simp at h⟩
  | z :: zs, x => by
    obtain ⟨h1, h2, h3⟩ := foldl_max_spec zs (max x z)
    rw [List.foldl_cons]
    refine ⟨?_, by omega, fun y hy => ?_⟩
    · rcases h1 with h1 | h1
      · rw [h1]
        rcases Int.le_total x z with h | h
        · exact .inr (by rw [Int.max_eq_right h]; exact List.mem_cons_self)
        · exact .inl (Int.max_eq_left h)
      · exact .inr (List.mem_cons_of_mem _ h1)
    · rcases List.mem_cons.mp hy with rfl | hy
      · omega
      · exact h3 y hy
theorem foldl_min_spec : ∀ (xs : List Int) (x : Int), (xs.foldl min x = x ∨ xs.foldl min x ∈ xs) ∧ xs.foldl min x ≤ x ∧ ∀ y ∈ xs, xs.foldl min x ≤ y
  | [], x => ⟨.inl rfl, Int.le_refl _, fun y h => by simp at h⟩
  | z :: zs, x => by
    obtain ⟨h1, h2, h3⟩ := foldl_min_spec zs (min x z)
    rw [List.foldl_cons]
    refine ⟨?_, by omega, fun y hy => ?_⟩
    · rcases h1 with h1 | h1
      · rw [h1]
        rcases Int.le_total x z with h | h
        · exact .inl (Int.min_eq_left h)
        · exact .inr (by rw [Int.min_eq_right h]; exact List.mem_cons_self)
      · exact .inr (List.mem_cons_of_mem _ h1)
    · rcases List.mem_cons.mp hy with rfl | hy
      · omega
      · exact h3 y hy
theorem maxI_spec {xs : List Int} {m : Int} (h : maxI xs = some m) : m ∈ xs ∧ ∀ y ∈ xs, y ≤ m := by
  cases xs with
  | nil => cases h
  | cons x xs =>
    cases h
    obtain ⟨h1, h2, h3⟩ := foldl_max_spec xs x
    refine ⟨?_, fun y hy => ?_⟩
    · rcases h1 with h1 | h1
      · rw [h1]; exact List.mem_cons_self
      · exact List.mem_cons_of_mem _ h1
    · rcases List.mem_cons.mp hy with rfl | hy
      · exact h2
      · exact h3 y hy
theorem minI_spec {xs : List Int} {m : Int} (h : minI xs = some m) : m ∈ xs ∧ ∀ y ∈ xs, m ≤ y := by
  cases xs with
  | nil => cases h
  | cons x xs =>
    cases h
    obtain ⟨h1, h2, h3⟩ := foldl_min_spec xs x
    refine ⟨?_, fun y hy => ?_⟩
    · rcases h1 with h1 | h1
      · rw [h1]; exact List.mem_cons_self
      · exact List.mem_cons_of_mem _ h1
    · rcases List.mem_cons.mp hy with rfl | hy
      · exact h2
      · exact h3 y hy
/-- ascending -/
def insI (x : Int) : List Int → List Int
  | [] => [x]
  | y :: ys => if x ≤ y then x :: y :: ys else y :: insI x ys
def srtI : List Int → List Int
  | [] => []
  | x :: xs => insI x (srtI xs)
theorem insI_perm (x : Int) : ∀ ys : List Int, (insI x ys).Perm (x :: ys)
  | [] => .refl _
  | y :: ys => by
    unfold insI
    split
    · exact .refl _
    · exact (List.Perm.cons y (insI_perm x ys)).trans (.swap _ _ _)
theorem srtI_perm : ∀ xs : List Int, (srtI xs).Perm xs
  | [] => .refl _
  | x :: xs => (insI_perm x _).trans (.cons x (srtI_perm xs))
theorem insI_sorted (x : Int) : ∀ {ys : List Int}, ys.Pairwise (· ≤ ·) → (insI x ys).Pairwise (· ≤ ·)
  | [], _ => by unfold insI; simp
  | y :: ys, h => by
    unfold insI
    rw [List.pairwise_cons] at h
    split
    · rename_i hxy
      rw [List.pairwise_cons]
      refine ⟨fun z hz => ?_, List.pairwise_cons.mpr h⟩
      rcases List.mem_cons.mp hz with rfl | hz
      · exact hxy
      · exact Int.le_trans hxy (h.1 z hz)
    · rename_i hxy
      rw [List.pairwise_cons]
      refine ⟨fun z hz => ?_, insI_sorted x h.2⟩
      rcases List.mem_cons.mp ((insI_perm x ys).mem_iff.mp hz) with rfl | hz
      · omega
      · exact h.1 z hz
theorem srtI_sorted : ∀ xs : List Int, (srtI xs).Pairwise (· ≤ ·)
  | [] => .nil
  | x :: xs => insI_sorted x (srtI_sorted xs)
theorem sorted_unique {xs ys : List Int} (hp : xs.Perm ys) (hx : xs.Pairwise (· ≤ ·)) (hy : ys.Pairwise (· ≤ ·)) : xs = ys := by
  induction xs generalizing ys with
  | nil => exact (List.nil_perm.mp hp).symm
  | cons x xs ih =>
    cases ys with
    | nil => exact absurd (List.perm_nil.mp hp) (by simp)
    | cons y ys =>
      rw [List.pairwise_cons] at hx hy
      have e : x = y := by
        have h1 : x ∈ y :: ys := hp.mem_iff.mp List.mem_cons_self
        have h2 : y ∈ x :: xs := hp.mem_iff.mpr List.mem_cons_self
        rcases List.mem_cons.mp h1 with h1 | h1
        · exact h1
        · rcases List.mem_cons.mp h2 with h2 | h2
          · exact h2.symm
          · have := hx.1 y h2
            have := hy.1 x h1
            omega
      subst e
      rw [ih hp.cons_inv hx.2 hy.2]
theorem srtI_id {xs : List Int} (h : xs.Pairwise (· ≤ ·)) : srtI xs = xs := sorted_unique (srtI_perm xs) (srtI_sorted xs) h
def srtL : D → Option (List D)
  | .lst xs => match ints? xs with
    | some is => some ((srtI is).map D.int)
    | none => none
  | _ => none
@[simp] theorem srtL_lst {xs : List Int} : srtL (.lst (xs.map D.int)) = some ((srtI xs).map D.int) := by unfold srtL; simp
section
variable {env env1 env2 : List Slot} {X : Cx} {We : WX} {xa : Xa} {a b c e elt tg iter : Expr} {ifs : List Expr} {A B C E : Cp D} {M N : Cp Bool} {p pos spos : Pos} {es rest : List Expr} {As L I : Cp (List D)} {s : Stmt} {r ss ts : List Stmt} {P Q : Cs} {x : Str} {k np : Nat}
theorem ce_all (hc : X.calm = true) (h : CE X We xa e A) (hm : X.mg "all" = none) (hg : Gl X "all" := by rfl) (hs : starEach [e] X.env = (false, eval e X.env) :: starEach [] X.env := by rfl) (hpl : (backTo pos (starEach [] X.env)).any (·.1) = false := by rfl) :
    CE X We xa (.Call (.Name "all" p) [e] [] pos) (mapC allD A) := ⟨fun ρ r hM => by
  rcases bd_some hM with ⟨x, ρ1, h1, h2⟩ | ⟨c, d, ρ1, h1, rfl⟩
  · obtain ⟨z, h3, rfl⟩ := lf_ok h2
    have h := h.run _ _ h1
    cases x with
    | lst xs =>
      rw [allD_lst] at h3
      cases q : bls? xs with
      | none => rw [q] at h3; cases h3
      | some bs =>
        rw [q] at h3
        cases h3
        have e := bls_eq q
        subst e
        have h : HE X _ _ _ (rv (D.lst (bs.map D.bl))) := h
        rw [rv_lst] at h
        exact (pe_callB (cr_all hc) hg hm (by decide +kernel) (pa_cons h pa_nil hs) (he := hs) (hpl := hpl)).imp fun σ H Q ⟨w, e1, R1, q⟩ => ⟨w, e1, R1, fun v w' R' l ⟨t, vs, e2, h1, h2⟩ =>
          ⟨t, bs, by rw [e2], SqL.of (R'.ok.sub _ _ (by rw [← al_bl (rpL_al.mpr h2)]; exact h1)), q _ w' R' l rfl⟩⟩
    | _ => cases h3
  · exact (pe_callB (cr_all hc) hg hm (by decide +kernel) (pa_cons (h.run _ _ h1) pa_nil hs) (he := hs) (hpl := hpl)).imp fun σ H Q q => q⟩
theorem ce_any (hc : X.calm = true) (h : CE X We xa e A) (hm : X.mg "any" = none) (hg : Gl X "any" := by rfl) (hs : starEach [e] X.env = (false, eval e X.env) :: starEach [] X.env := by rfl) (hpl : (backTo pos (starEach [] X.env)).any (·.1) = false := by rfl) :
    CE X We xa (.Call (.Name "any" p) [e] [] pos) (mapC anyD A) := ⟨fun ρ r hM => by
  rcases bd_some hM with ⟨x, ρ1, h1, h2⟩ | ⟨c, d, ρ1, h1, rfl⟩
  · obtain ⟨z, h3, rfl⟩ := lf_ok h2
    have h := h.run _ _ h1
    cases x with
    | lst xs =>
      rw [anyD_lst] at h3
      cases q : bls? xs with
      | none => rw [q] at h3; cases h3
      | some bs =>
        rw [q] at h3
        cases h3
        have e := bls_eq q
        subst e
        have h : HE X _ _ _ (rv (D.lst (bs.map D.bl))) := h
        rw [rv_lst] at h
        exact (pe_callB (cr_any hc) hg hm (by decide +kernel) (pa_cons h pa_nil hs) (he := hs) (hpl := hpl)).imp fun σ H Q ⟨w, e1, R1, q⟩ => ⟨w, e1, R1, fun v w' R' l ⟨t, vs, e2, h1, h2⟩ =>
          ⟨t, bs, by rw [e2], SqL.of (R'.ok.sub _ _ (by rw [← al_bl (rpL_al.mpr h2)]; exact h1)), q _ w' R' l rfl⟩⟩
    | _ => cases h3
  · exact (pe_callB (cr_any hc) hg hm (by decide +kernel) (pa_cons (h.run _ _ h1) pa_nil hs) (he := hs) (hpl := hpl)).imp fun σ H Q q => q⟩
theorem ce_sum (hc : X.calm = true) (h : CE X We xa e A) (hm : X.mg "sum" = none) (hg : Gl X "sum" := by rfl) (hs : starEach [e] X.env = (false, eval e X.env) :: starEach [] X.env := by rfl) (hpl : (backTo pos (starEach [] X.env)).any (·.1) = false := by rfl) :
    CE X We xa (.Call (.Name "sum" p) [e] [] pos) (mapC sumD A) := ⟨fun ρ r hM => by
  rcases bd_some hM with ⟨x, ρ1, h1, h2⟩ | ⟨c, d, ρ1, h1, rfl⟩
  · obtain ⟨z, h3, rfl⟩ := lf_ok h2
    have h := h.run _ _ h1
    cases x with
    | lst xs =>
      rw [sumD_lst] at h3
      cases q : ints? xs with
      | none => rw [q] at h3; cases h3
      | some bs =>
        rw [q] at h3
        cases h3
        have e := ints_eq q
        subst e
        have h : HE X _ _ _ (rv (D.lst (bs.map D.int))) := h
        rw [rv_lst] at h
        exact (pe_callB (cr_sum hc) hg hm (by decide +kernel) (pa_cons h pa_nil hs) (he := hs) (hpl := hpl)).imp fun σ H Q ⟨w, e1, R1, q⟩ => ⟨w, e1, R1, fun v w' R' l ⟨t, vs, e2, h1, h2⟩ =>
          ⟨t, bs, by rw [e2], SqL.of (R'.ok.sub _ _ (by rw [← al_int (rpL_al.mpr h2)]; exact h1)), q _ w' R' l rfl⟩⟩
    | _ => cases h3
  · exact (pe_callB (cr_sum hc) hg hm (by decide +kernel) (pa_cons (h.run _ _ h1) pa_nil hs) (he := hs) (hpl := hpl)).imp fun σ H Q q => q⟩
theorem ce_maxL (hc : X.calm = true) (h : CE X We xa e A) (hm : X.mg "max" = none) (hg : Gl X "max" := by rfl) (hs : starEach [e] X.env = (false, eval e X.env) :: starEach [] X.env := by rfl) (hpl : (backTo pos (starEach [] X.env)).any (·.1) = false := by rfl) :
    CE X We xa (.Call (.Name "max" p) [e] [] pos) (mapC maxL A) := ⟨fun ρ r hM => by
  rcases bd_some hM with ⟨x, ρ1, h1, h2⟩ | ⟨c, d, ρ1, h1, rfl⟩
  · obtain ⟨z, h3, rfl⟩ := lf_ok h2
    have h := h.run _ _ h1
    unfold maxL at h3
    split at h3
    · rename_i xs
      split at h3
      · rename_i bs q
        cases qm : maxI bs with
        | none => rw [qm] at h3; cases h3
        | some mm =>
          rw [qm] at h3
          cases h3
          have e := ints_eq q
          subst e
          have h : HE X _ _ _ (rv (D.lst (bs.map D.int))) := h
          rw [rv_lst] at h
          obtain ⟨s1, s2⟩ := maxI_spec qm
          exact (pe_callB (cr_max hc) hg hm (by decide +kernel) (pa_cons h pa_nil hs) (he := hs) (hpl := hpl)).imp fun σ H Q ⟨w, e1, R1, q⟩ => ⟨w, e1, R1, fun v w' R' l ⟨t, vs, e2, h1, h2⟩ =>
            ⟨t, bs, by rw [e2], SqL.of (R'.ok.sub _ _ (by rw [← al_int (rpL_al.mpr h2)]; exact h1)), List.length_pos_of_mem s1, fun m' m1 m2 => q _ w' R' l (by
              have e3 : m' = mm := Int.le_antisymm (s2 m' m1) (m2 mm s1)
              rw [e3]; rfl)⟩⟩
      · cases h3
    · cases h3
  · exact (pe_callB (cr_max hc) hg hm (by decide +kernel) (pa_cons (h.run _ _ h1) pa_nil hs) (he := hs) (hpl := hpl)).imp fun σ H Q q => q⟩
theorem ce_minL (hc : X.calm = true) (h : CE X We xa e A) (hm : X.mg "min" = none) (hg : Gl X "min" := by rfl) (hs : starEach [e] X.env = (false, eval e X.env) :: starEach [] X.env := by rfl) (hpl : (backTo pos (starEach [] X.env)).any (·.1) = false := by rfl) :
    CE X We xa (.Call (.Name "min" p) [e] [] pos) (mapC minL A) := ⟨fun ρ r hM => by
  rcases bd_some hM with ⟨x, ρ1, h1, h2⟩ | ⟨c, d, ρ1, h1, rfl⟩
  · obtain ⟨z, h3, rfl⟩ := lf_ok h2
    have h := h.run _ _ h1
    unfold minL at h3
    split at h3
    · rename_i xs
      split at h3
      · rename_i bs q
        cases qm : minI bs with
        | none => rw [qm] at h3; cases h3
        | some mm =>
          rw [qm] at h3
          cases h3
          have e := ints_eq q
          subst e
          have h : HE X _ _ _ (rv (D.lst (bs.map D.int))) := h
          rw [rv_lst] at h
          obtain ⟨s1, s2⟩ := minI_spec qm
          exact (pe_callB (cr_min hc) hg hm (by decide +kernel) (pa_cons h pa_nil hs) (he := hs) (hpl := hpl)).imp fun σ H Q ⟨w, e1, R1, q⟩ => ⟨w, e1, R1, fun v w' R' l ⟨t, vs, e2, h1, h2⟩ =>
            ⟨t, bs, by rw [e2], SqL.of (R'.ok.sub _ _ (by rw [← al_int (rpL_al.mpr h2)]; exact h1)), List.length_pos_of_mem s1, fun m' m1 m2 => q _ w' R' l (by
              have e3 : m' = mm := Int.le_antisymm (m2 mm s1) (s2 m' m1)
              rw [e3]; rfl)⟩⟩
      · cases h3
    · cases h3
  · exact (pe_callB (cr_min hc) hg hm (by decide +kernel) (pa_cons (h.run _ _ h1) pa_nil hs) (he := hs) (hpl := hpl)).imp fun σ H Q q => q⟩
theorem al_ofints {K : PySem.W.Frag} {H : Hp} : ∀ is : List Int, Al D K H (is.map D.int) (is.map V.int)
  | [] => rfl
  | i :: is => ⟨.int i, is.map V.int, rfl, rfl, al_ofints is⟩
theorem cl_sorted (h : CE X We xa e A) (hm : X.mg "sorted" = none) (hg : Gl X "sorted" := by rfl) (hs : starEach [e] X.env = (false, eval e X.env) :: starEach [] X.env := by rfl) (hpl : (backTo pos (starEach [] X.env)).any (·.1) = false := by rfl) :
    CL X We xa (.Call (.Name "sorted" p) [e] [] pos) (mapC srtL A) := ⟨fun ρ r hM => by
  rcases bd_some hM with ⟨x, ρ1, h1, h2⟩ | ⟨c, d, ρ1, h1, rfl⟩
  · obtain ⟨z, h3, rfl⟩ := lf_ok h2
    have h := h.run _ _ h1
    unfold srtL at h3
    split at h3
    · rename_i xs
      split at h3
      · rename_i bs q
        cases h3
        have e := ints_eq q
        subst e
        have h : HE X _ _ _ (rv (D.lst (bs.map D.int))) := h
        rw [rv_lst] at h
        exact (pe_callB cr_sortedI hg hm (by decide +kernel) (pa_cons h pa_nil hs) (he := hs) (hpl := hpl)).imp fun σ H Q ⟨w, e1, R1, q⟩ => ⟨w, e1, R1, fun v w' R' l ⟨t, vs, e2, h1, h2⟩ =>
          ⟨t, bs, by rw [e2], SqL.of (R'.ok.sub _ _ (by rw [← al_int (rpL_al.mpr h2)]; exact h1)), fun ns' p hp hs' hn => by
            have e3 : ns' = srtI bs := sorted_unique (hp.trans (srtI_perm bs).symm) hs' (srtI_sorted bs)
            subst e3
            exact q p _ w' R' l hn (al_ofints _)⟩⟩
      · cases h3
    · cases h3
  · exact (pe_callB cr_sortedI hg hm (by decide +kernel) (pa_cons (h.run _ _ h1) pa_nil hs) (he := hs) (hpl := hpl)).imp fun σ H Q q => q⟩
end
/-! ### own errors -/
structure ErC (P : Program) (K : PySem.W.Frag) (mg : Str → Option Value) (x : Str) : Prop where
  ex : ∃ D fI C, PySem.RefX.InitTxt P K D fI ∧ PySem.RefX.ClsTxt K D fI C ∧ IsTxt K C ∧ mg x = some (.ref C) ∧ PySem.W.nsIn K mainGlobals x = some (some (.ref C)) ∧ mg "super" = none
def raiC (x : Str) (A : Cp D) : Cs := fun ρ => bs (A ρ) fun d ρ1 => some (.er x d ρ1)
@[simp] theorem raiC_ {x : Str} {A : Cp D} {ρ : PE'} : raiC x A ρ = bs (A ρ) fun d ρ1 => some (.er x d ρ1) := rfl
section
variable {env env1 env2 : List Slot} {X : Cx} {We : WX} {xa : Xa} {a b c e elt tg iter : Expr} {ifs : List Expr} {A B C E : Cp D} {M N : Cp Bool} {p pos pos2 spos : Pos} {es rest : List Expr} {As L I : Cp (List D)} {s : Stmt} {r ss ts : List Stmt} {P Q : Cs} {x : Str} {k np : Nat}
theorem cs_raise (T : ErC X.prog X.K X.mg x) (hc : X.calm = true) (tk : Takes X We) (hr : Rm (k + 1) X.A) (h : CE X We xa a A) (hg : Gl X x := by rfl)
    (he : starEach (a :: []) X.env = (false, eval a X.env) :: starEach [] X.env := by rfl) (hpl : (backTo pos (starEach [] X.env)).any (·.1) = false := by rfl) (hdb : (x == ("__debug__" : Str)) = false := by decide) :
    CS X We xa (.Raise (some (.Call (.Name x p) [a] [] pos)) none pos2) (raiC x A) := ⟨fun ρ o hM => by
  obtain ⟨D', fI, C, T1, Tc, _, gC, gK, gS⟩ := T.ex
  rcases bs_some hM with ⟨d, ρ1, h1, h2⟩ | ⟨c, d, ρ1, h1, rfl⟩
  · cases h2
    show HS X We _ _ (.er (cK X.K x) _ _)
    rw [cK_of gK]
    exact st_raise T1 Tc gC gS hc tk hr (h.run _ _ h1) hg he hpl hdb
  · exact (ps_raise hc tk (pmk_ref T1 Tc gC gS hr.room (pa_cons (h.run _ _ h1) pa_nil he) hg he hpl hdb)).imp fun D' σ H ⟨w, e1, R1, q⟩ => ⟨w, e1, R1, fun w' d v R' l n => q σ w' d v R' l n⟩⟩
end
end BC

namespace BC
open PySem PySem.Spec PyProof.Rows L2
variable [TabL]
/-! ### try .. except C as e -/
def SV.calm : SV → Bool
  | .exc _ _ => false
  | _ => true
theorem sl_calm {xa xb : Xa} (e : xa.fs = xb.fs) {s : SV} (h : s.calm = true) : s.sl xa = s.sl xb := by
  cases s <;> first | rfl | exact e | cases h
theorem S_calm {xa xb : Xa} (e : xa.fs = xb.fs) {ρ : PE'} (h : ρ.all SV.calm = true) : S xa ρ = S xb ρ := by
  unfold S
  rw [List.all_eq_true] at h
  exact List.map_congr_left fun s hs => sl_calm e (h s hs)
@[simp] theorem calm_un : SV.un.calm = true := rfl
@[simp] theorem calm_im {d : D} : (SV.im d).calm = true := rfl
@[simp] theorem calm_own {d : List D} : (SV.own d).calm = true := rfl
@[simp] theorem calm_par {d : List D} : (SV.par d).calm = true := rfl
@[simp] theorem calm_exc {c : Str} {d : D} : (SV.exc c d).calm = false := rfl
/-- the way out of a suite: a return -/
def sui (i : Nat) (o : Option Out) : Option Out := match o with
  | some (.rt d ρ) => if (ρ.set i .un).all SV.calm = true then some (.rt d (ρ.set i .un)) else none
  | _ => none
@[simp] theorem sui_rt {i : Nat} {d : D} {ρ : PE'} : sui i (some (.rt d ρ)) = if (ρ.set i .un).all SV.calm = true then some (.rt d (ρ.set i .un)) else none := rfl
def tryC (ns : List Str) (i : Nat) (P Q : Cs) : Cs := fun ρ => match P ρ with
  | some (.er c d ρ1) => if c ∈ ns ∧ ρ1.all SV.calm = true then sui i (Q (ρ1.set i (.exc c d))) else none
  | o => o
theorem tryC_er {ns : List Str} {i : Nat} {P Q : Cs} {ρ ρ1 : PE'} {c : Str} {d : D} (h : P ρ = some (.er c d ρ1)) (hc : c ∈ ns) (hq : ρ1.all SV.calm = true) : tryC ns i P Q ρ = sui i (Q (ρ1.set i (.exc c d))) := by
  unfold tryC
  rw [h]
  exact if_pos ⟨hc, hq⟩
theorem tryC_ok {ns : List Str} {i : Nat} {P Q : Cs} {ρ : PE'} {o : Out} (h : P ρ = some o) (ho : ∀ c d ρ1, o ≠ .er c d ρ1) : tryC ns i P Q ρ = some o := by
  unfold tryC
  rw [h]
  cases o with
  | er c d ρ1 => exact absurd rfl (ho c d ρ1)
  | _ => rfl
/-- the classes that may come, and the one that the clause names -/
structure ErS (K : PySem.W.Frag) (cc : Addr) (ns : List Str) : Prop where
  ex : ∀ c ∈ ns, ∃ C, PySem.W.nsIn K mainGlobals c = some (some (.ref C)) ∧ PySem.W.exmOne K (.ref C) (.ref cc) = some true
section
variable {env env1 env2 : List Slot} {X : Cx} {We : WX} {xa : Xa} {a b c e elt tg iter : Expr} {ifs : List Expr} {A B C E : Cp D} {M N : Cp Bool} {p pos pos' np' pos2 spos : Pos} {es rest : List Expr} {As L I : Cp (List D)} {s b₀ : Stmt} {r ss ts body suite : List Stmt} {P Q : Cs} {x n : Str} {k np : Nat} {cc : Addr} {ns : List Str}
theorem wkn_exc {xa : Xa} {ρ : PE'} {i : Nat} (h : (ρ.set i .un).all SV.calm = true) {xb : Xa} (e : xa.fs = xb.fs) : Wkn (S xa ρ) (S xb (ρ.set i .un)) := by
  refine ⟨by rw [S_len, S_len, List.length_set], fun j s hs => ?_⟩
  rw [S_calm (xb := xa) e.symm h] at hs
  unfold S at hs
  rw [List.getElem?_map] at hs
  cases q : (ρ.set i SV.un)[j]? with
  | none => rw [q] at hs; cases hs
  | some t =>
    rw [q] at hs
    have hs : t.sl xa = s := Option.some.inj hs
    subst hs
    by_cases z : i = j
    · subst z
      have hlt : i < ρ.length := by
        have := (List.getElem?_eq_some_iff.mp q).1
        rw [List.length_set] at this
        exact this
      rw [List.getElem?_set_self hlt] at q
      cases q
      exact ⟨_, S_get (List.getElem?_eq_getElem hlt), fun _ _ _ _ _ => trivial⟩
    · rw [List.getElem?_set_ne z] at q
      exact ⟨_, S_get q, fun _ _ _ _ h => h⟩
theorem cs_try (i : Nat) (hs : X.stack = X.env :: X.outer) (hf : X.env.frame = some X.env.locals) (hN : X.N.Nodup) (hc : Names X x (.ref cc)) (tk : Takes X (fun _ _ _ _ => False)) (es' : ErS X.K cc ns)
    (hb : ∀ (W : WX) (pn : List (Addr × Obj)) (xe : Value → Shared → Prop), Takes (X.tr pn xe) W → PassesOwn (model X.prog X.w) X.A X.env xe → CSs (X.tr pn xe) W xa body P)
    (hsu : ∀ (a : Addr) (oe : Obj) (d : Addr) (pn : List (Addr × Obj)) (c : Str), c ∈ ns → Zc (.ref (cK X.K c)) (some d) oe → (∃ vs, oe.data = .fields vs) → CSs (X.suite a ((a, oe) :: pn)) We ⟨a, d, c, xa.fs⟩ (b₀ :: suite) Q)
    (hi : X.N[i]? = some n := by rfl) (hln : X.env.kindOf n = some .local := by rfl) :
    CS X We xa (.Try body [.ExceptHandler (some (.Name x np')) (some n) (b₀ :: suite) pos'] [] [] pos) (tryC ns i P Q) := ⟨fun ρ o hM => by
  unfold tryC at hM
  split at hM
  · rename_i c d ρ1 h1
    split at hM
    · rename_i hcc
      obtain ⟨hcn, hcalm⟩ := hcc
      obtain ⟨C, g1, g2⟩ := es'.ex c hcn
      unfold sui at hM
      split at hM
      · rename_i dd ρ2 h2
        split at hM
        · rename_i hcalm2
          cases hM
          refine hs_try1 (c := cK X.K c) (P := rv d) (env1 := S xa ρ1) i hs hf hN hi hln hc tk (by rw [cK_of g1]; exact g2) trivial (fun _ _ _ => by intro z; cases z) (fun W pn xe t1 t2 => (hb W pn xe t1 t2).run _ _ h1) fun a oe d' pn hz hv => ?_
          have h3 := (hsu a oe d' pn c hcn hz hv).run _ _ h2
          have h4 : HSs (X.suite a ((a, oe) :: pn)) We (b₀ :: suite) (S ⟨a, d', c, xa.fs⟩ (ρ1.set i (.exc c d))) (.rt (rv dd) (S xa (ρ2.set i .un))) := hs_rtw (wkn_exc (xa := ⟨a, d', c, xa.fs⟩) (xb := xa) hcalm2 rfl) (fun _ _ _ h => h) h3
          rw [← S_set, S_calm (xa := ⟨a, d', c, xa.fs⟩) (xb := xa) rfl hcalm] at h4
          refine h4.imp fun D' σ H ⟨w, e1, R1, q⟩ => ⟨w, e1, R1.wkn ⟨by rw [List.length_set, List.length_set], fun j t ht => ?_⟩, q⟩
          by_cases z : i = j
          · subst z
            have hlt : i < (S xa ρ1).length := by
              have := (List.getElem?_eq_some_iff.mp ht).1
              rw [List.length_set] at this
              exact this
            rw [List.getElem?_set_self hlt] at ht
            cases ht
            exact ⟨_, List.getElem?_set_self hlt, fun K j x w h => ⟨rfl, h⟩⟩
          · rw [List.getElem?_set_ne z] at ht
            exact ⟨t, by rw [List.getElem?_set_ne z]; exact ht, fun _ _ _ _ h => h⟩
        · cases hM
      · cases hM
    · cases hM
  · rename_i hne
    refine hs_try0 i hs hf hN hi hln hc tk ?_ fun W pn xe t1 t2 => (hb W pn xe t1 t2).run _ _ hM
    cases o with
    | er c d ρ1 => exact absurd hM (hne c d ρ1)
    | _ => trivial⟩
/-! in the suite -/
def whatC (i : Nat) : Cp D := fun ρ => match ρ[i]? with
  | some (.exc _ d) => some (.ok d ρ)
  | _ => none
end
section
variable {X : Cx} {We : WX} {P : VP} {p pos p2 np : Pos} {n T : Str} {xa : Xa} {D' fI : Addr} {oe : Obj} {pn : List (Addr × Obj)} {ns : List Str}
theorem ce_what (i : Nat) (Tc : PySem.RefX.ClsTxt X.K D' fI (cK X.K xa.c)) (hz : Zc (.ref (cK X.K xa.c)) (some xa.d) oe) (hf : ∃ vs, oe.data = .fields vs) (hN : X.N[i]? = some n := by rfl) (hv : Vis X.env.scope n := by first | exact Or.inl rfl | exact Or.inr (Or.inl rfl) | exact Or.inr (Or.inr rfl))
    (hd : (n == ("__debug__" : Str)) = false := by decide) (hcd : (n == ("__classdict__" : Str)) = false := by decide) (hb : attributeBase (.Name n np) "what" X.env (eval (.Name n np) X.env) = eval (.Name n np) X.env := by rfl) : CE (X.suite xa.a ((xa.a, oe) :: pn)) We xa (.Attribute (.Name n np) "what" pos) (whatC i) := ⟨fun ρ r hM => by
  unfold whatC at hM
  split at hM
  · rename_i c d h1
    cases hM
    refine ⟨fun pins s σ H Q I ⟨w, e1, R1, q⟩ => ?_⟩
    subst e1
    obtain ⟨x, hx, _, e2, hO, v, hH, hp⟩ := R1.sl i _ (S_get h1)
    subst e2
    refine attr_of hb (thn ((pe_var (X := X.suite xa.a ((xa.a, oe) :: pn)) hN hv hd hcd).run pins s σ w.H (fun x H1 => x = .ref xa.a ∧ H1 = w.H) I ⟨.ref xa.a, hx, rfl, rfl⟩) fun u s1 ⟨x, H1, I1, rx, ex, eH⟩ => ?_)
    subst ex eH
    obtain rfl : u = Value.ref xa.a := rx
    obtain ⟨od, u, J, ru, hl⟩ := xd_what I1 hz hf hH
    exact HandSPX.exc_get I1.kIn J Tc.ga Tc.gg Tc.exC (PySem.W.findObj_own Tc.hdC Tc.noN rfl hl) (handed_of ru) ⟨v, w.H, I1.tok _, ru, q v w R1 (Le.refl w) hp⟩
  · cases hM⟩
/-- isinstance(e, T): by the class's name -/
def isiC (i : Nat) (f : Str → Option Bool) : Cp Bool := fun ρ => match ρ[i]? with
  | some (.exc c _) => lf (f c) ρ
  | _ => none
theorem ce_isiE (i : Nat) {cv : V} {bv : Value} {f : Str → Option Bool} (Tc : PySem.RefX.ClsTxt X.K D' fI (cK X.K xa.c)) (It : IsTxt X.K (cK X.K xa.c)) (hz : Zc (.ref (cK X.K xa.c)) (some xa.d) oe) (hf : ∃ vs, oe.data = .fields vs) (hT : PE (X.suite xa.a ((xa.a, oe) :: pn)) (.Name T p2) (tC cv)) (hcv : ClsV cv bv) (hk : ∀ b, f xa.c = some b → PySem.W.kitOne X.K (.ref (cK X.K xa.c)) bv = some b) (hm : X.mg "isinstance" = none) (hN : X.N[i]? = some n := by rfl) (hv : Vis X.env.scope n := by first | exact Or.inl rfl | exact Or.inr (Or.inl rfl) | exact Or.inr (Or.inr rfl))
    (hd : (n == ("__debug__" : Str)) = false := by decide) (hcd : (n == ("__classdict__" : Str)) = false := by decide) (hg : Gl X "isinstance" := by rfl)
    (hs : starEach [.Name n np, .Name T p2] X.env = (false, eval (.Name n np) X.env) :: starEach [.Name T p2] X.env := by rfl) (hs2 : starEach [.Name T p2] X.env = (false, eval (.Name T p2) X.env) :: starEach [] X.env := by rfl) (hpl : (backTo pos (starEach [.Name T p2] X.env)).any (·.1) = false := by rfl) :
    CE (X.suite xa.a ((xa.a, oe) :: pn)) We xa (.Call (.Name "isinstance" p) [.Name n np, .Name T p2] [] pos) (vB (isiC i f)) := ⟨fun ρ r hM => by
  obtain ⟨t, hM', rfl⟩ := vB_eq hM
  unfold isiC at hM'
  split at hM'
  · rename_i c d h1
    obtain ⟨b, hb, rfl⟩ := lf_ok hM'
    have hc : CallR (X.suite xa.a ((xa.a, oe) :: pn)) (.builtin "isinstance") (fun xs H Q => ∃ v, xs = [.ref xa.a, cv] ∧ H xa.d = some (.xd [("what", v)]) ∧ xa.c = c ∧ Q (.bl b) H) := by
      intro pins s σ H xs us Q I r ⟨v, e1, hH, ec, q⟩
      subst e1
      obtain ⟨u1, u2, rfl, r1, r2⟩ := vals2 r
      have e2 := hcv.eq r2
      subst e2
      obtain rfl : u1 = Value.ref xa.a := r1
      obtain ⟨od, u, J, _, _⟩ := xd_what I hz hf hH
      exact PySem.W.kia_one (PySem.W.kitx_exc It.cl Tc.ga Tc.gg Tc.exC It.ha It.hn It.ht It.hm) I.kIn J (hk b (by rw [ec]; exact hb)) (fun z => nomatch z) fun tk => ⟨.bl b, H, I.kept (t' := tk) fun _ _ z => z, rfl, q⟩
    refine ⟨fun pins s σ H Q I ⟨w, e1, R1, q⟩ => ?_⟩
    subst e1
    obtain ⟨x, hx, ec, e2, hO, v, hH, hp⟩ := R1.sl i _ (S_get h1)
    subst e2
    exact (pe_callB (X := X.suite xa.a ((xa.a, oe) :: pn)) hc hg hm (by decide +kernel) (pa_cons (pe_var hN hv hd hcd) (pa_cons hT pa_nil hs2) hs) (he := hs) (hpl := hpl)).run pins s σ w.H Q I ⟨.ref xa.a, hx, v, rfl, hH, ec, q _ w R1 (Le.refl w) rfl⟩
  · cases hM'⟩
end
/-! ### records made -/
structure ClD (P : Program) (w : World) (K : PySem.W.Frag) (mg : Str → Option Value) (base : Heap) (x : Str) (fn : List Str) (k : Nat) : Prop where
  ex : ∃ (C fI : Addr) (fd : FuncData), Mk K C fI ∧ FnOk P w K mg base CX0 k fI fd ("self" :: fn) (spRec K fn) ∧ RC K C fn ∧ mg x = some (.ref C) ∧ PySem.W.nsIn K mainGlobals x = some (some (.ref C)) ∧ Binds K fd ("self" :: fn) []
def newC (x : Str) (fn : List Str) (As : Cp (List D)) : Cp D := fun ρ => bd (As ρ) fun xs ρ1 => if xs.length = fn.length then some (.ok (.ob x fn xs) ρ1) else none
@[simp] theorem newC_ {x : Str} {fn : List Str} {As : Cp (List D)} {ρ : PE'} : newC x fn As ρ = bd (As ρ) fun xs ρ1 => if xs.length = fn.length then some (.ok (.ob x fn xs) ρ1) else none := rfl
section
variable {env env1 : List Slot} {X : Cx} {We : WX} {xa : Xa} {e : Expr} {es : List Expr} {As : Cp (List D)} {p pos : Pos} {x : Str} {fn : List Str} {k j : Nat}
theorem rpL_alP {K : PySem.W.Frag} {H : Hp} : ∀ {xs : List D} {us : List V}, AlP K H (rvs xs) us → D.rpL K xs us H
  | [], _, h => h
  | x :: xs, _, ⟨v, r, h1, h2, h3⟩ => ⟨v, r, h1, h2, rpL_alP h3⟩
theorem he_newD {xs : List D} (T : ClD X.prog X.w X.K X.mg X.base x fn k) (hr : Rm j X.A) (hj : k + 1 ≤ j) (ha : HA X (e :: es) env env1 (rvs xs)) (hn : xs.length = fn.length) (hg : Gl X x) (hdb : (x == ("__debug__" : Str)) = false) (he : starEach (e :: es) X.env = (false, eval e X.env) :: starEach es X.env) (hpl : (backTo pos (starEach es X.env)).any (·.1) = false) :
    HE X (.Call (.Name x p) (e :: es) [] pos) env env1 (rv (D.ob x fn xs)) := by
  obtain ⟨C, fI, fd, M, F, rc, hm, hK, hb⟩ := T.ex
  exact (pe_make M F (hr.room.mono hj) hg hm hb .nil (E := E0) pass0 ha hdb he hpl).imp fun σ H Q ⟨w, e1, R1, q⟩ => ⟨w, e1, R1, fun us w' R' l al a dx hx hdx ne => by
    refine ⟨a, C, dx, us, by rw [List.append_nil], (alP_lenS al).trans hn, upd_same, rc, fun H' fs h1 h2 h3 => ⟨rfl, ?_⟩⟩
    have hx2 : (w'.put dx (.own a)).H a = none := (upd_ne (Ne.symm ne)).trans hx
    have eH : H' = ((w'.put dx (.own a)).add a (.ins C dx fs)).H := by
      funext b
      by_cases z : b = a
      · rw [z, h2]
        exact (upd_same).symm
      · rw [h1 b z, upd_ne z]
        exact (upd_ne z).symm
    rw [eH]
    have R2 := (R'.put (o := .own a) hdx).add (o := .ins C dx fs) hx2
    have l2 := (put_le (o := .own a) R'.ok hdx).trans (add_le (o := .ins C dx fs) (put_ok R'.ok hdx) hx2)
    exact q (.ref a) _ R2 (l.trans l2) ⟨a, C, dx, fs, us, hK, rfl, upd_same, rc, rpL_alP (al.mono l2.hi), h3⟩⟩
theorem ce_new (T : ClD X.prog X.w X.K X.mg X.base x fn k) (hr : Rm j X.A) (hj : k + 1 ≤ j) (ha : CA X We xa (e :: es) As) (hg : Gl X x := by rfl) (hdb : (x == ("__debug__" : Str)) = false := by decide) (he : starEach (e :: es) X.env = (false, eval e X.env) :: starEach es X.env := by rfl) (hpl : (backTo pos (starEach es X.env)).any (·.1) = false := by rfl) :
    CE X We xa (.Call (.Name x p) (e :: es) [] pos) (newC x fn As) := ⟨fun ρ r hM => by
  rcases bd_some hM with ⟨xs, ρ1, h1, h2⟩ | ⟨c, d, ρ1, h1, rfl⟩
  · split at h2
    · rename_i hn
      cases h2
      exact he_newD T hr hj (ha.run _ _ h1) hn hg hdb he hpl
    · cases h2
  · obtain ⟨C, fI, fd, M, F, rc, hm, hK, hb⟩ := T.ex
    exact (pe_make M F (hr.room.mono hj) hg hm hb .nil (E := E0) pass0 (ha.run _ _ h1) hdb he hpl).imp fun σ H Q q => q⟩
end
end BC

namespace BC
open PySem PySem.Spec PyProof.Rows L2
variable [TabL]
/-! ### the rest that the texts ask -/
theorem takesW0 {X : Cx} : Takes X W0 := fun u s' ⟨_, _, _, _, _, _, _, _, _, _, _, _, _, _, _, _, w⟩ => w.elim
theorem lenA_nil : ∀ (ρ : PE') xs (ρ' : PE'), nilA ρ = some (.ok xs ρ') → xs.length = 0 := fun ρ xs ρ' h => by cases h; rfl
theorem lenA_cons {A : Cp D} {As : Cp (List D)} {n : Nat} (h : ∀ (ρ : PE') xs (ρ' : PE'), As ρ = some (.ok xs ρ') → xs.length = n) : ∀ (ρ : PE') xs (ρ' : PE'), consA A As ρ = some (.ok xs ρ') → xs.length = n + 1 := fun ρ xs ρ' hM => by
  rcases bd_some hM with ⟨x, ρ1, h1, h2⟩ | ⟨c, d, ρ1, h1, h2⟩
  · rcases bd_some h2 with ⟨y, ρ2, h3, h4⟩ | ⟨c', d', ρ2, h3, h4⟩
    · cases h4
      rw [List.length_cons, h _ _ _ h3]
    · cases h4
  · cases h2
/-- a list of one's own, compared as it stands -/
def eqN (neg : Bool) (x y : D) : Option Bool := if neg then neD x y else eqD x y
@[simp] theorem eqN_t {x y : D} : eqN true x y = neD x y := rfl
@[simp] theorem eqN_f {x y : D} : eqN false x y = eqD x y := rfl
def eqV (neg : Bool) (i : Nat) (B : Cp D) : Cp Bool := fun ρ => match ρ[i]? with
  | some (.im d) => bd (B ρ) fun y ρ1 => lf (eqN neg d y) ρ1
  | some (.own _) => bd (B ρ) fun y ρ1 => match ρ1[i]? with
    | some (.own xs) => if D.wf 20 (.lst xs) = true ∧ D.wf 20 y = true then some (.ok (if neg then !decide (D.lst xs = y) else decide (D.lst xs = y)) ρ1) else none
    | _ => none
  | _ => none
def opN (neg : Bool) : CmpOp := if neg then .NotEq else .Eq
def inN (neg : Bool) (x y : D) : Option Bool := if neg then ninD x y else inD x y
@[simp] theorem inN_t {x y : D} : inN true x y = ninD x y := rfl
@[simp] theorem inN_f {x y : D} : inN false x y = inD x y := rfl
def inV (neg : Bool) (A : Cp D) (i : Nat) : Cp Bool := fun ρ => bd (A ρ) fun x ρ1 => match ρ1[i]? with
  | some (.im d) => lf (inN neg x d) ρ1
  | some (.own xs) => lf (inN neg x (.lst xs)) ρ1
  | _ => none
section
variable {env env1 env2 : List Slot} {X : Cx} {We : WX} {xa : Xa} {a b c e elt tg iter : Expr} {ifs : List Expr} {A B C E : Cp D} {M N : Cp Bool} {p pos p2 spos : Pos} {es rest : List Expr} {As L I : Cp (List D)} {s : Stmt} {r ss ts : List Stmt} {P Q : Cs} {x : Str} {k np : Nat} {m : Fn} {ps : List Str} {q : Pos}
theorem dpAll_L {K : PySem.W.Frag} {H : Hp} {xs : List D} {vs : List V} (h : D.wf 20 (.lst xs) = true) (al : Al D K H xs vs) : DpAll K H vs (D.daL xs) := by
  have h : xs.all (D.wf 19) = true := h
  induction xs generalizing vs with
  | nil => rw [show vs = [] from al]; exact .nil
  | cons x xs ih =>
    obtain ⟨v, r, h1, h2, h3⟩ := al
    rw [List.all_cons, Bool.and_eq_true] at h
    rw [h1]
    exact .cons (dp_da 19 h.1 h2) (ih (by exact h.2) h3 h.2)
theorem to_eqV {neg : Bool} {i : Nat} (hr : Rm k X.A) (hb : CE X We xa b B) (hN : X.N[i]? = some x) (hv : Vis X.env.scope x) (hd : (x == ("__debug__" : Str)) = false) (hcd : (x == ("__classdict__" : Str)) = false) {ρ : PE'} {r : Rs Bool} (h : eqV neg i B ρ = some r) :
    ∃ (o : R2) (ta tb : TE), OpR X (compareOp (opN neg)) o ∧ PE X (.Name x q) ta ∧ PE X b tb ∧ ∀ σ H Q, tR X We xa (S xa ρ) r.vb σ H Q → tOp o ta tb σ H Q := by
  unfold eqV at h
  split at h
  · rename_i d hd'
    rcases bd_some h with ⟨y, ρ1, h1, h2⟩ | ⟨c, d', ρ1, h1, rfl⟩
    · obtain ⟨z, h5, rfl⟩ := lf_ok h2
      have hv' : HE X (.Name x q) (S xa ρ) (S xa ρ) (rv d) := he_var i (S_get hd') hN hv hd hcd
      cases neg with
      | true =>
        obtain ⟨o, ho, hv2⟩ := ne_ok hr d y z h5
        exact ⟨o, _, _, ho, hv', hb.run _ _ h1, to_op rfl rfl rfl hv2⟩
      | false =>
        obtain ⟨o, ho, hv2⟩ := eq_ok hr d y z h5
        exact ⟨o, _, _, ho, hv', hb.run _ _ h1, to_op rfl rfl rfl hv2⟩
    · have hv' : HE X (.Name x q) (S xa ρ) (S xa ρ) (rv d) := he_var i (S_get hd') hN hv hd hcd
      exact ⟨_, _, _, op_no, hv', hb.run _ _ h1, fun σ H Q ⟨w, e1, R1, q⟩ => ⟨w, e1, R1, fun v w' R' l _ => ⟨w', rfl, R', fun w2 d u R2 l2 n => q w2 d u R2 (l.trans l2) (l.none n)⟩⟩⟩
  · rename_i zs hd'
    rcases bd_some h with ⟨y, ρ1, h1, h2⟩ | ⟨c, d', ρ1, h1, rfl⟩
    · split at h2
      · rename_i xs hx
        split at h2
        · rename_i hw
          cases h2
          cases neg with
          | true =>
            refine ⟨_, _, _, op_neD hr.un, pe_own (mk := BC.own) own_own i (S_get hd') hN hv hd hcd, hb.run _ _ h1, fun σ H Q ⟨w, e1, R1, q⟩ => ⟨w, e1, R1, fun a ha => ⟨w, e1 ▸ rfl, R1, fun v w' R' l p => ?_⟩⟩⟩
            obtain ⟨vs, h3, h4, h5, h6⟩ := R'.own own_own (S_get hx) ha
            exact ⟨_, _, .lst (SqL.of h5) (dpAll_mono R'.ok.sub (dpAll_L hw.1 h6)), dp_mono R'.ok.sub (dp_da 20 hw.2 p), da_shp hw.1, da_shp hw.2, q _ w' R' l (by rw [show PyData.list (D.daL xs) = (D.lst xs).da from rfl, da_deq hw.1 hw.2]; exact rfl)⟩
          | false =>
            refine ⟨_, _, _, op_eqD hr.un, pe_own (mk := BC.own) own_own i (S_get hd') hN hv hd hcd, hb.run _ _ h1, fun σ H Q ⟨w, e1, R1, q⟩ => ⟨w, e1, R1, fun a ha => ⟨w, e1 ▸ rfl, R1, fun v w' R' l p => ?_⟩⟩⟩
            obtain ⟨vs, h3, h4, h5, h6⟩ := R'.own own_own (S_get hx) ha
            exact ⟨_, _, .lst (SqL.of h5) (dpAll_mono R'.ok.sub (dpAll_L hw.1 h6)), dp_mono R'.ok.sub (dp_da 20 hw.2 p), da_shp hw.1, da_shp hw.2, q _ w' R' l (by rw [show PyData.list (D.daL xs) = (D.lst xs).da from rfl, da_deq hw.1 hw.2]; exact rfl)⟩
        · cases h2
      · cases h2
    · exact ⟨_, _, _, op_no, pe_own (mk := BC.own) own_own i (S_get hd') hN hv hd hcd, hb.run _ _ h1, fun σ H Q ⟨w, e1, R1, q⟩ => ⟨w, e1, R1, fun a ha => ⟨w, e1 ▸ rfl, R1, q⟩⟩⟩
  · cases h
theorem ce_eqV {neg : Bool} (i : Nat) (hr : Rm k X.A) (hb : CE X We xa b B) (hN : X.N[i]? = some x := by rfl) (hv : Vis X.env.scope x := by first | exact Or.inl rfl | exact Or.inr (Or.inl rfl) | exact Or.inr (Or.inr rfl)) (hd : (x == ("__debug__" : Str)) = false := by decide) (hcd : (x == ("__classdict__" : Str)) = false := by decide) :
    CE X We xa (.Compare (.Name x q) [opN neg] [b] pos) (vB (eqV neg i B)) := ⟨fun ρ r h => by
  obtain ⟨t, h', rfl⟩ := vB_eq h
  obtain ⟨o, ta, tb, h1, h2, h3, h4⟩ := to_eqV (q := q) hr hb hN hv hd hcd h'
  exact (pe_cmpR h1 h2 h3 (by cases neg <;> exact nomark _)).imp h4⟩
theorem cb_eqV {neg : Bool} (i : Nat) (hr : Rm k X.A) (hb : CE X We xa b B) (hN : X.N[i]? = some x := by rfl) (hv : Vis X.env.scope x := by first | exact Or.inl rfl | exact Or.inr (Or.inl rfl) | exact Or.inr (Or.inr rfl)) (hd : (x == ("__debug__" : Str)) = false := by decide) (hcd : (x == ("__classdict__" : Str)) = false := by decide) :
    CB X We xa (.Compare (.Name x q) [opN neg] [b] pos) (eqV neg i B) := ⟨fun ρ r h => by
  obtain ⟨o, ta, tb, h1, h2, h3, h4⟩ := to_eqV (q := q) hr hb hN hv hd hcd h
  exact (pt_cmpR h1 h2 h3 (by cases neg <;> exact nomark _)).imp fun σ H Q q => h4 _ _ _ (tRT_tR q)⟩
def opI (neg : Bool) : CmpOp := if neg then .NotIn else .In
theorem inN_ok {neg : Bool} (hr : Rm k X.A) : ∀ x y z, inN neg x y = some z → ∃ r, OpR X (compareOp (opI neg)) r ∧ OpV X r (rv x) (rv y) (rv z) := by
  cases neg with
  | true => exact nin_ok hr
  | false => exact in_ok' hr
/-- own lists: the items stand in what never changes -/
theorem to_inV {neg : Bool} {i : Nat} (hr : Rm k X.A) (ha : CE X We xa a A) (hN : X.N[i]? = some x) (hv : Vis X.env.scope x) (hd : (x == ("__debug__" : Str)) = false) (hcd : (x == ("__classdict__" : Str)) = false) {ρ : PE'} {r : Rs Bool} (h : inV neg A i ρ = some r) :
    ∃ (o : R2) (ta tb : TE), OpR X (compareOp (opI neg)) o ∧ PE X a ta ∧ PE X (.Name x q) tb ∧ ∀ σ H Q, tR X We xa (S xa ρ) r.vb σ H Q → tOp o ta tb σ H Q := by
  rcases bd_some h with ⟨y, ρ1, h1, h2⟩ | ⟨c, d', ρ1, h1, rfl⟩
  · split at h2
    · rename_i d hd'
      obtain ⟨z, h5, rfl⟩ := lf_ok h2
      have hv' : HE X (.Name x q) (S xa ρ1) (S xa ρ1) (rv d) := he_var i (S_get hd') hN hv hd hcd
      obtain ⟨o, ho, hv2⟩ := inN_ok hr y d z h5
      exact ⟨o, _, _, ho, ha.run _ _ h1, hv', to_op rfl rfl rfl hv2⟩
    · rename_i xs hd'
      obtain ⟨z, h5, rfl⟩ := lf_ok h2
      have key : ∀ z, inD y (.lst xs) = some z → (∃ (n : Int) (is : List Int), y = .int n ∧ xs = is.map D.int ∧ z = decide (n ∈ is)) ∨ (D.wf 20 y = true ∧ D.wf 20 (.lst xs) = true ∧ z = decide (y ∈ xs)) := fun z g5 => by
        unfold inD at g5
        split at g5
        · rename_i d n hs
          split at g5
          · rename_i ys hs
            cases hs
            split at g5
            · rename_i is hi
              cases g5
              exact .inl ⟨_, is, rfl, ints_eq hi, rfl⟩
            · cases g5
          · cases g5
        · rename_i ys _ hh
          split at g5
          · rename_i hw
            cases hh
            have g5 := Option.some.inj g5
            subst g5
            exact .inr ⟨hw.1, hw.2, rfl⟩
          · cases g5
        · exact absurd ‹D.lst xs = D.tup _› (by intro z; cases z)
        · cases g5
      have hu : X.A.units + 65 < cLine := by have := hr.room.un; omega
      cases neg with
      | true =>
        have h5 : (inD y (.lst xs)).map not = some z := h5
        cases qq : inD y (.lst xs) with
        | none => rw [qq] at h5; cases h5
        | some t =>
          rw [qq] at h5
          cases h5
          rcases key t qq with ⟨n, is, rfl, rfl, rfl⟩ | ⟨w1, w2, rfl⟩
          · refine ⟨_, _, _, op_notIn_seq, ha.run _ _ h1, pe_own (mk := BC.own) own_own i (S_get hd') hN hv hd hcd, fun σ H Q ⟨w, e1, R1, q⟩ => ⟨w, e1, R1, fun v w' R' l p => ⟨w', rfl, R', fun a ha => ?_⟩⟩⟩
            obtain ⟨vs, h3, h4, h5, h6⟩ := R'.own own_own (S_get hd') ha
            have e2 := al_int (rpL_al.mpr h6)
            subst e2
            refine ⟨a, _, rfl, .inl (SqL.of h5), by rw [show v = .int n from p]; rfl, flat_ints is, ?_⟩
            rw [show v = .int n from p, inV_ints]
            exact q _ w' R' l rfl
          · refine ⟨_, _, _, op_notInD hu, ha.run _ _ h1, pe_own (mk := BC.own) own_own i (S_get hd') hN hv hd hcd, fun σ H Q ⟨w, e1, R1, q⟩ => ⟨w, e1, R1, fun v w' R' l p => ⟨w', rfl, R', fun a ha => ?_⟩⟩⟩
            obtain ⟨vs, h3, h4, h5, h6⟩ := R'.own own_own (S_get hd') ha
            exact ⟨_, D.daL xs, dp_mono R'.ok.sub (dp_da 20 w1 p), .lst (SqL.of h5) (dpAll_mono R'.ok.sub (dpAll_L w2 h6)), da_shp w1, da_shp (x := .lst xs) w2, q _ w' R' l (by rw [any_da w1 w2]; exact rfl)⟩
      | false =>
        rcases key z h5 with ⟨n, is, rfl, rfl, rfl⟩ | ⟨w1, w2, rfl⟩
        · refine ⟨_, _, _, op_in_seq, ha.run _ _ h1, pe_own (mk := BC.own) own_own i (S_get hd') hN hv hd hcd, fun σ H Q ⟨w, e1, R1, q⟩ => ⟨w, e1, R1, fun v w' R' l p => ⟨w', rfl, R', fun a ha => ?_⟩⟩⟩
          obtain ⟨vs, h3, h4, h5, h6⟩ := R'.own own_own (S_get hd') ha
          have e2 := al_int (rpL_al.mpr h6)
          subst e2
          refine ⟨a, _, rfl, .inl (SqL.of h5), by rw [show v = .int n from p]; rfl, flat_ints is, ?_⟩
          rw [show v = .int n from p, inV_ints]
          exact q _ w' R' l rfl
        · refine ⟨_, _, _, op_inD hu, ha.run _ _ h1, pe_own (mk := BC.own) own_own i (S_get hd') hN hv hd hcd, fun σ H Q ⟨w, e1, R1, q⟩ => ⟨w, e1, R1, fun v w' R' l p => ⟨w', rfl, R', fun a ha => ?_⟩⟩⟩
          obtain ⟨vs, h3, h4, h5, h6⟩ := R'.own own_own (S_get hd') ha
          exact ⟨_, D.daL xs, dp_mono R'.ok.sub (dp_da 20 w1 p), .lst (SqL.of h5) (dpAll_mono R'.ok.sub (dpAll_L w2 h6)), da_shp w1, da_shp (x := .lst xs) w2, q _ w' R' l (by rw [any_da w1 w2]; exact rfl)⟩
    · cases h2
  · exact ⟨_, _, _, op_no, ha.run _ _ h1, pe_no, fun σ H Q q => q⟩
theorem ce_inV {neg : Bool} (i : Nat) (hr : Rm k X.A) (ha : CE X We xa a A) (hN : X.N[i]? = some x := by rfl) (hv : Vis X.env.scope x := by first | exact Or.inl rfl | exact Or.inr (Or.inl rfl) | exact Or.inr (Or.inr rfl)) (hd : (x == ("__debug__" : Str)) = false := by decide) (hcd : (x == ("__classdict__" : Str)) = false := by decide) :
    CE X We xa (.Compare a [opI neg] [.Name x q] pos) (vB (inV neg A i)) := ⟨fun ρ r h => by
  obtain ⟨t, h', rfl⟩ := vB_eq h
  obtain ⟨o, ta, tb, h1, h2, h3, h4⟩ := to_inV (q := q) hr ha hN hv hd hcd h'
  exact (pe_cmpR h1 h2 h3 (by cases neg <;> rfl)).imp h4⟩
theorem cb_inV {neg : Bool} (i : Nat) (hr : Rm k X.A) (ha : CE X We xa a A) (hN : X.N[i]? = some x := by rfl) (hv : Vis X.env.scope x := by first | exact Or.inl rfl | exact Or.inr (Or.inl rfl) | exact Or.inr (Or.inr rfl)) (hd : (x == ("__debug__" : Str)) = false := by decide) (hcd : (x == ("__classdict__" : Str)) = false := by decide) :
    CB X We xa (.Compare a [opI neg] [.Name x q] pos) (inV neg A i) := ⟨fun ρ r h => by
  obtain ⟨o, ta, tb, h1, h2, h3, h4⟩ := to_inV (q := q) hr ha hN hv hd hcd h
  exact (pt_cmpR h1 h2 h3 (by cases neg <;> rfl)).imp fun σ H Q q => h4 _ _ _ (tRT_tR q)⟩
/-- isinstance(x, T), T a built-in type -/
def tyD : D → Option String
  | .int _ => some "int"
  | .bl _ => some "bool"
  | .non => some "NoneType"
  | .str _ => some "str"
  | .tup _ => some "tuple"
  | .lst _ => some "list"
  | _ => none
def isiD (T : String) (d : D) : Option Bool := match tyD d with
  | some t => kitB t T
  | none => none
theorem tyD_ok {K : PySem.W.Frag} {d : D} {t : String} (h : tyD d = some t) {v : V} {w : Wd} (ok : w.Ok) (p : D.rp K d v w.Hi) : TyX K w.H v (.type t) := by
  cases d with
  | int i => cases h; rw [show v = .int i from p]; exact .base (.int _)
  | bl i => cases h; rw [show v = .bl i from p]; exact .base (.bl _)
  | non => cases h; rw [show v = .non from p]; exact .base .non
  | str i => cases h; rw [show v = .str i from p]; exact .base (.str _)
  | tup xs => cases h; obtain ⟨a, vs, e, h2, _⟩ := p; rw [e]; exact tyT (Ex.t ok.sub h2)
  | lst xs => cases h; obtain ⟨a, vs, e, h2, _⟩ := p; rw [e]; exact .base (.lst (ok.sub _ _ h2))
  | _ => cases h
theorem ce_isi {T : Str} (T' : String) (h : CE X We xa a A) (hm : X.mg "isinstance" = none) (hm2 : X.mg T = none) (hv : bootBuiltins T = some (.type T') := by decide +kernel) (hn : T ≠ "__name__" := by decide) (hdb : (T == ("__debug__" : Str)) = false := by decide) (hg : Gl X "isinstance" := by rfl) (hg2 : Gl X T := by rfl)
    (hs : starEach [a, .Name T p2] X.env = (false, eval a X.env) :: starEach [.Name T p2] X.env := by rfl) (hs2 : starEach [.Name T p2] X.env = (false, eval (.Name T p2) X.env) :: starEach [] X.env := by rfl)
    (hpl : (backTo pos (starEach [.Name T p2] X.env)).any (·.1) = false := by rfl) : CE X We xa (.Call (.Name "isinstance" p) [a, .Name T p2] [] pos) (vB (mapC (isiD T') A)) := ⟨fun ρ r hM => by
  obtain ⟨t, hM', rfl⟩ := vB_eq hM
  rcases bd_some hM' with ⟨x, ρ1, h1, h2⟩ | ⟨c, d, ρ1, h1, rfl⟩
  · obtain ⟨z, h3, rfl⟩ := lf_ok h2
    unfold isiD at h3
    split at h3
    · rename_i t ht
      exact (pe_callB call_isi hg hm (by decide +kernel) (pa_cons (h.run _ _ h1) (pa_cons (pe_bltn (v := .ty T') hg2 hm2 hv rfl hn hdb) pa_nil hs2) hs) (he := hs) (hpl := hpl)).imp fun σ H Q ⟨w, e1, R1, q⟩ => ⟨w, e1, R1, fun v w' R' l p =>
        ⟨v, .ty T', _, _, z, rfl, .ty T', tyD_ok ht R'.ok p, kit_ty h3, q _ w' R' l rfl⟩⟩
    · cases h3
  · exact (pe_callB call_isi hg hm (by decide +kernel) (pa_cons (h.run _ _ h1) (pa_cons (pe_bltn (v := .ty T') hg2 hm2 hv rfl hn hdb) pa_nil hs2) hs) (he := hs) (hpl := hpl)).imp fun σ H Q q => q⟩
/-- the documentation at a body's head: a text that is let go -/
theorem cs_doc {i : Str} {j : Nat} {cp : Pos} (hs : swapsWith (.Constant (.str i) j cp) none pos.line X.env = pure false := by rfl) : CS X We xa (.Expr (.Constant (.str i) j cp) pos) pasC := ⟨fun ρ o h => by cases h; exact st_expr he_str hs⟩
/-- xs.pop() as a value -/
def popV (i : Nat) : Cp D := fun ρ => match lsAt ρ i with
  | some (b, xs) => match xs.getLast? with
    | some y => some (.ok y (ρ.set i (mkS b xs.dropLast)))
    | none => none
  | none => none
theorem ce_pop (i : Nat) {apos : Pos} (hN : X.N[i]? = some x := by rfl)
    (hv : Vis X.env.scope x := by first | exact Or.inl rfl | exact Or.inr (Or.inl rfl) | exact Or.inr (Or.inr rfl)) (hd : (x == ("__debug__" : Str)) = false := by decide) (hcd : (x == ("__classdict__" : Str)) = false := by decide)
    (hbase : attributeBase (.Name x q) "pop" X.env (eval (.Name x q) X.env) = eval (.Name x q) X.env := by rfl) (hline : (apos.endLine == pos.line) = true := by rfl) :
    CE X We xa (.Call (.Attribute (.Name x q) "pop" apos) [] [] pos) (popV i) := ⟨fun ρ r hM => by
  unfold popV at hM
  split at hM
  · rename_i b xs h1
    split at hM
    · rename_i y hy
      cases hM
      have O := mkL_own b
      have h0 := lsAt_S (xa := xa) h1
      refine (pe_bm0 PySem.F.plainAttrs_list PySem.F.slot_list_pop PySem.F.type_list_pop mt_pop (pe_own O i h0 hN hv hd hcd) hbase hline).imp fun σ H Q ⟨w, e1, R1, q⟩ => ⟨w, e1, R1, fun a ha => ?_⟩
      obtain ⟨vs, h3, h4, h5, h6⟩ := R1.own O h0 ha
      have hl := h6.len
      rw [List.getLast?_eq_getElem?] at hy
      have hlt := (List.getElem?_eq_some_iff.mp hy).1
      obtain ⟨z, hz, hp⟩ := h6.get hy
      refine ⟨.inl ⟨rfl, vs, SqL.of h5⟩, a, vs, z, rfl, rfl, h5, by rw [hl]; exact hz, ?_⟩
      have al : Al D X.K w.Hi xs.dropLast vs.dropLast := by
        rw [List.dropLast_eq_take, List.dropLast_eq_take, hl]
        exact h6.take _
      obtain ⟨R2, l2⟩ := wr_rep (s := mkL b xs.dropLast) (vs := vs.dropLast) R1 h4 ha (O.put h3 rfl h4 upd_same al rfl)
      refine q _ _ ?_ l2 (Rp.mono l2.hi hp)
      rw [← S_set, mkS_sl]
      exact R2
    · cases hM
  · cases hM⟩
/-- xs.extend(e), e a list -/
def extC (i : Nat) (A : Cp D) : Cs := fun ρ => match lsAt ρ i with
  | some (b, _) => match A ρ with
    | some (.ok (.lst ys) ρ1) => match lsAt ρ1 i with
      | some (b', xs) => if b' = b ∧ xs.length + ys.length ≤ 100000 then some (.nx (ρ1.set i (mkS b (xs ++ ys)))) else none
      | none => none
    | _ => none
  | none => none
theorem cs_extend (i : Nat) {apos : Pos} (he : CE X We xa e A) (hN : X.N[i]? = some x := by rfl)
    (hv : Vis X.env.scope x := by first | exact Or.inl rfl | exact Or.inr (Or.inl rfl) | exact Or.inr (Or.inr rfl)) (hd : (x == ("__debug__" : Str)) = false := by decide) (hcd : (x == ("__classdict__" : Str)) = false := by decide)
    (hs : swapsWith (.Call (.Attribute (.Name x q) "extend" apos) [e] [] pos) none pos.line X.env = pure false := by rfl)
    (hbase : attributeBase (.Name x q) "extend" X.env (eval (.Name x q) X.env) = eval (.Name x q) X.env := by rfl)
    (hfew : ((backTo pos (starEach [e] X.env)).all (fun x => !x.1) && (backToKw pos (keywordEach [] X.env)).all (fun x => x.1.isSome)
      && decide (([e] : List Expr).length + ([] : List Keyword).length + (if ([] : List Keyword).isEmpty then 0 else 1) < 30)) = true := by rfl)
    (hline : (apos.endLine == pos.line) = true := by rfl) (hst : starEach [e] X.env = (false, eval e X.env) :: starEach [] X.env := by rfl) (hplain : (backTo pos (starEach [] X.env)).any (·.1) = false := by rfl) :
    CS X We xa (.Expr (.Call (.Attribute (.Name x q) "extend" apos) [e] [] pos) pos) (extC i A) := ⟨fun ρ o hM => by
  unfold extC at hM
  split at hM
  · rename_i b zs h1
    split at hM
    · rename_i ys ρ1 h3
      split at hM
      · rename_i b' xs h2
        split at hM
        · rename_i hz
          obtain ⟨rfl, hz⟩ := hz
          cases hM
          show HS X We _ _ (.nx (S xa _))
          rw [← S_set, mkS_sl]
          have O := mkL_own b'
          have he := he.run _ _ h3
          have he : HE X e _ _ (rv (D.lst ys)) := he
          rw [rv_lst] at he
          refine (ps_expr (pe_bm PySem.F.plainAttrs_list PySem.F.slot_list_extend PySem.F.type_list_extend mt_extend (pe_own O i (lsAt_S h1) hN hv hd hcd) (pa_cons he pa_nil hst) hbase hfew hline hst hplain) hs).imp fun D' σ H ⟨w, e1, R1, q⟩ => ⟨w, e1, R1, fun a ha => ?_⟩
          obtain ⟨vs, h3, h4, h5, h6⟩ := R1.own O (lsAt_S h1) ha
          refine ⟨.inl ⟨rfl, vs, SqL.of h5⟩, w, rfl, R1, fun v w' R' l ⟨t, us, et, hu, hal⟩ => ?_⟩
          obtain ⟨vs', h3', h4', h5', h6'⟩ := R'.own O (lsAt_S h2) ha
          refine ⟨a, t, vs', us, rfl, by rw [et], h5', R'.ok.sub _ _ hu, by rw [h6'.len, hal.len]; exact Nat.le_trans hz (by decide), ?_⟩
          obtain ⟨R2, l2⟩ := wr_rep (s := mkL b' (xs ++ ys)) (vs := vs' ++ us) R' h4' ha (O.put h3' rfl h4' upd_same (h6'.app hal) rfl)
          exact q σ _ R2 (l.trans l2)
        · cases hM
      · cases hM
    · cases hM
  · cases hM⟩
/-- f(xs), xs a fresh list that it may change -/
def cfC (m : Fn) (L : Cp (List D)) : Cp D := fun ρ => bd (L ρ) fun xs ρ1 => match m [.par xs] with
  | some (.rt d _) => some (.ok d ρ1)
  | _ => none
theorem ce_callF (D' : Def X.prog X.w X.K X.mg X.base x k ps (spC X.K np m)) (hlen : ∀ as o, m as = some o → as.length = np) (hr : Rm k X.A) (tk : Takes X We) (ha : CL X We xa e L) (hg : Gl X x := by rfl) (hdb : (x == ("__debug__" : Str)) = false := by decide)
    (hst : starEach [e] X.env = (false, eval e X.env) :: starEach [] X.env := by rfl) (hpl : (backTo pos (starEach [] X.env)).any (·.1) = false := by rfl) : CE X We xa (.Call (.Name x p) [e] [] pos) (cfC m L) := ⟨fun ρ r hM => by
  rcases bd_some hM with ⟨xs, ρ1, h1, h2⟩ | ⟨c, d, ρ1, h1, rfl⟩
  · split at h2
    · rename_i d pz ho
      cases h2
      exact he_callL (pz := pz.map fun q => (q.1, q.2.sl x0)) D' ([.par xs] : List SV) ⟨hlen _ _ ho, _, ho⟩ hr (ha.run _ _ h1) rfl (by rw [ho]; rfl) hg hdb hst hpl
    · cases h2
  · obtain ⟨f, fd, F, hm, hk, hb⟩ := D'.ex
    exact (pe_callG F hr hg hm hk hb (fun _ => passN) (pa_cons (ha.run _ _ h1) pa_nil hst) hdb hst hpl).imp fun σ H Q q => q⟩
/-! swapped stores with fresh lists -/
def parLE (i j : Nat) (A : Cp (List D)) (B : Cp D) : Cs := fun ρ => bs (A ρ) fun d ρ1 => bs (B ρ1) fun d2 ρ2 => some (.nx ((ρ2.set i (.own d)).set j (.im d2)))
def parEL (i j : Nat) (A : Cp D) (B : Cp (List D)) : Cs := fun ρ => bs (A ρ) fun d ρ1 => bs (B ρ1) fun d2 ρ2 => some (.nx ((ρ2.set i (.im d)).set j (.own d2)))
def parLL (i j : Nat) (A B : Cp (List D)) : Cs := fun ρ => bs (A ρ) fun d ρ1 => bs (B ρ1) fun d2 ρ2 => some (.nx ((ρ2.set i (.own d)).set j (.own d2)))
@[simp] theorem parLE_ {i j : Nat} {ρ : PE'} : parLE i j L B ρ = bs (L ρ) fun d ρ1 => bs (B ρ1) fun d2 ρ2 => some (.nx ((ρ2.set i (.own d)).set j (.im d2))) := rfl
@[simp] theorem parEL_ {i j : Nat} {ρ : PE'} : parEL i j A L ρ = bs (A ρ) fun d ρ1 => bs (L ρ1) fun d2 ρ2 => some (.nx ((ρ2.set i (.im d)).set j (.own d2))) := rfl
/-- a list that stood beside becomes a slot's own -/
def Wd.ado (w : Wd) (p : Addr) (i : Nat) : Wd := { w with O := fun b => if b = p then some i else w.O b }
theorem ado_rep {K : PySem.W.Frag} {env : List Slot} {σ : L2.St} {w w0 : Wd} {p : Addr} {vs : List V} {xs : List D} {i : Nat} (R : Rep K env σ w) (l : Le w0 w) (h0 : w0.H p = none) (hH : w.H p = some (.lst vs)) (hO : w.O p = none) (hHi : w.Hi p = none) (al : Al D K w.Hi xs vs) :
    Rep K env σ (w.ado p i) ∧ Le w0 (w.ado p i) ∧ (own xs).p K i (some (.ref p)) (w.ado p i) := by
  refine ⟨R.to ⟨R.ok.sub, fun b j hb => ?_, fun b j hb => ?_, R.ok.tb⟩ (Ex.refl _) (fun b j hb => ⟨?_, rfl⟩) rfl, ⟨l.hi, fun b o hb hk nt => ?_, l.dm, l.pa, l.tx⟩, p, vs, rfl, if_pos rfl, hH, al⟩
  · by_cases z : b = p
    · subst z
      exact ⟨hHi, fun z => by rw [show (w.ado b i).H b = w.H b from rfl, hH] at z; cases z⟩
    · have : (if b = p then some i else w.O b) = some j := hb
      rw [if_neg z] at this
      exact R.ok.ho b j this
  · by_cases z : b = p
    · subst z
      exact lst_pl hH
    · have : (if b = p then some i else w.O b) = some j := hb
      rw [if_neg z] at this
      exact R.ok.pl b j this
  · show (if b = p then some i else w.O b) = some j
    rw [if_neg fun z => by rw [z, hO] at hb; cases hb]
    exact hb
  · obtain ⟨g1, g2, g3⟩ := l.kp b o hb hk nt
    exact ⟨g1, (if_neg (ne_of_none hb h0)).trans g2, g3⟩
theorem cs_parEL (i j : Nat) {x y : Str} {px py pt pt2 : Pos} {kt k2} (hc : X.calm = true) (hN : X.N.Nodup) (ha : CE X We xa a A) (hb : CL X We xa b L) (hij : i ≠ j := by decide) (hi : X.N[i]? = some x := by rfl) (hj : X.N[j]? = some y := by rfl)
    (hx : X.env.scope.names.lookup x = some .local := by rfl) (hy : X.env.scope.names.lookup y = some .local := by rfl)
    (hw : swappedStores [.Tuple [.Name x px, .Name y py] kt pt] (.Tuple [a, b] k2 pt2) X.env = pure (some [x, y]) := by rfl)
    (hs : swapsWithSole [.Tuple [.Name x px, .Name y py] kt pt] (.Tuple [a, b] k2 pt2) pos.line X.env = pure false := by rfl)
    (hs1 : starEach [a, b] X.env = (false, eval a X.env) :: starEach [b] X.env := by rfl) (hs2 : starEach [b] X.env = (false, eval b X.env) :: starEach [] X.env := by rfl) : CS X We xa (.Assign [.Tuple [.Name x px, .Name y py] kt pt] (.Tuple [a, b] k2 pt2) pos) (parEL i j A L) := ⟨fun ρ o hM => by
  rcases bs_some hM with ⟨d, ρ1, h3, h4⟩ | ⟨c, d, ρ1, h3, rfl⟩
  · rcases bs_some h4 with ⟨d2, ρ2, h5, h6⟩ | ⟨c, d2, ρ2, h5, rfl⟩
    · cases h6
      refine (ps_par hc hN hi hj hij hx hy (pa_cons (ha.run _ _ h3) (pa_cons (hb.run _ _ h5) pa_nil hs2) hs1) hw hs).imp fun D' σ H ⟨w, e1, R1, q⟩ => ⟨w, e1, R1, fun v w' R' l p => ⟨w', rfl, R', fun pp vs w2 R2 l2 hp al => ⟨v, .ref pp, rfl, ?_⟩⟩⟩
      have R3 := R2.new (i := j) (o := .lst vs) hp
      have l3 := new_le (i := j) (o := .lst vs) R2.ok hp
      refine q _ (w2.new j pp (.lst vs)) ?_ ((l.trans l2).trans l3)
      have R4 := R3.set (i := i) (s := im (rv d)) ⟨v, rfl, (rv d).mono (l2.hi.trans l3.hi) p⟩
      have R5 := R4.set (i := j) (s := own d2) ⟨pp, vs, rfl, if_pos rfl, upd_same, al.mono l3.hi⟩
      rw [S_im, S_own] at R5
      exact R5
    · exact (ps_par hc hN hi hj hij hx hy (pa_cons (ha.run _ _ h3) (pa_cons (hb.run _ _ h5) pa_nil hs2) hs1) hw hs).imp fun D σ H ⟨w, e1, R1, q⟩ => ⟨w, e1, R1, fun v w' R' l _ => ⟨w', rfl, R', fun w2 d u R2 l2 n => q σ w2 d u R2 (l.trans l2) (l.none n)⟩⟩
  · exact (ps_par hc hN hi hj hij hx hy (pa_cons (ha.run _ _ h3) (pa_cons pe_no pa_nil hs2) hs1) hw hs).imp fun D σ H ⟨w, e1, R1, q⟩ => ⟨w, e1, R1, fun w' d v R' l n => q σ w' d v R' l n⟩⟩
theorem cs_parLE (i j : Nat) {x y : Str} {px py pt pt2 : Pos} {kt k2} (hc : X.calm = true) (hN : X.N.Nodup) (ha : CL X We xa a L) (hb : CE X We xa b B) (hij : i ≠ j := by decide) (hi : X.N[i]? = some x := by rfl) (hj : X.N[j]? = some y := by rfl)
    (hx : X.env.scope.names.lookup x = some .local := by rfl) (hy : X.env.scope.names.lookup y = some .local := by rfl)
    (hw : swappedStores [.Tuple [.Name x px, .Name y py] kt pt] (.Tuple [a, b] k2 pt2) X.env = pure (some [x, y]) := by rfl)
    (hs : swapsWithSole [.Tuple [.Name x px, .Name y py] kt pt] (.Tuple [a, b] k2 pt2) pos.line X.env = pure false := by rfl)
    (hs1 : starEach [a, b] X.env = (false, eval a X.env) :: starEach [b] X.env := by rfl) (hs2 : starEach [b] X.env = (false, eval b X.env) :: starEach [] X.env := by rfl) : CS X We xa (.Assign [.Tuple [.Name x px, .Name y py] kt pt] (.Tuple [a, b] k2 pt2) pos) (parLE i j L B) := ⟨fun ρ o hM => by
  rcases bs_some hM with ⟨d, ρ1, h3, h4⟩ | ⟨c, d, ρ1, h3, rfl⟩
  · rcases bs_some h4 with ⟨d2, ρ2, h5, h6⟩ | ⟨c, d2, ρ2, h5, rfl⟩
    · cases h6
      refine (ps_par hc hN hi hj hij hx hy (pa_cons (ha.run _ _ h3) (pa_cons (hb.run _ _ h5) pa_nil hs2) hs1) hw hs).imp fun D' σ H ⟨w, e1, R1, q⟩ => ⟨w, e1, R1, fun pp vs w' R' l hp al => ⟨w'.put pp (.lst vs), rfl, R'.put hp, fun u w2 R2 l2 p2 => ⟨.ref pp, u, rfl, ?_⟩⟩⟩
      obtain ⟨f1, f2⟩ := R'.ok.fresh hp
      obtain ⟨g1, g2, g3⟩ := l2.kp pp (.lst vs) upd_same f2 nt_lst
      have l3 := put_le (o := .lst vs) R'.ok hp
      obtain ⟨a1, a2, a3⟩ := ado_rep (i := i) R2 (l3.trans l2) hp g1 g2 (g3.trans f1) (al.mono l2.hi)
      refine q _ (w2.ado pp i) ?_ (l.trans a2)
      have R4 := a1.set (i := i) (s := own d) a3
      have R5 := R4.set (i := j) (s := im (rv d2)) ⟨u, rfl, p2⟩
      rw [S_own, S_im] at R5
      exact R5
    · exact (ps_par hc hN hi hj hij hx hy (pa_cons (ha.run _ _ h3) (pa_cons (hb.run _ _ h5) pa_nil hs2) hs1) hw hs).imp fun D σ H ⟨w, e1, R1, q⟩ => ⟨w, e1, R1, fun pp vs w' R' l hp al => ⟨w'.put pp (.lst vs), rfl, R'.put hp, fun w2 d u R2 l2 n => q σ w2 d u R2 ((l.trans (put_le R'.ok hp)).trans l2) ((l.trans (put_le R'.ok hp)).none n)⟩⟩
  · exact (ps_par hc hN hi hj hij hx hy (pa_cons (ha.run _ _ h3) (pa_cons pe_no pa_nil hs2) hs1) hw hs).imp fun D σ H ⟨w, e1, R1, q⟩ => ⟨w, e1, R1, fun w' d v R' l n => q σ w' d v R' l n⟩⟩
theorem cs_parLL (i j : Nat) {L2 : Cp (List D)} {x y : Str} {px py pt pt2 : Pos} {kt k2} (hc : X.calm = true) (hN : X.N.Nodup) (ha : CL X We xa a L) (hb : CL X We xa b L2) (hij : i ≠ j := by decide) (hi : X.N[i]? = some x := by rfl) (hj : X.N[j]? = some y := by rfl)
    (hx : X.env.scope.names.lookup x = some .local := by rfl) (hy : X.env.scope.names.lookup y = some .local := by rfl)
    (hw : swappedStores [.Tuple [.Name x px, .Name y py] kt pt] (.Tuple [a, b] k2 pt2) X.env = pure (some [x, y]) := by rfl)
    (hs : swapsWithSole [.Tuple [.Name x px, .Name y py] kt pt] (.Tuple [a, b] k2 pt2) pos.line X.env = pure false := by rfl)
    (hs1 : starEach [a, b] X.env = (false, eval a X.env) :: starEach [b] X.env := by rfl) (hs2 : starEach [b] X.env = (false, eval b X.env) :: starEach [] X.env := by rfl) : CS X We xa (.Assign [.Tuple [.Name x px, .Name y py] kt pt] (.Tuple [a, b] k2 pt2) pos) (parLL i j L L2) := ⟨fun ρ o hM => by
  rcases bs_some hM with ⟨d, ρ1, h3, h4⟩ | ⟨c, d, ρ1, h3, rfl⟩
  · rcases bs_some h4 with ⟨d2, ρ2, h5, h6⟩ | ⟨c, d2, ρ2, h5, rfl⟩
    · cases h6
      refine (ps_par hc hN hi hj hij hx hy (pa_cons (ha.run _ _ h3) (pa_cons (hb.run _ _ h5) pa_nil hs2) hs1) hw hs).imp fun D' σ H ⟨w, e1, R1, q⟩ => ⟨w, e1, R1, fun pp vs w' R' l hp al => ⟨w'.put pp (.lst vs), rfl, R'.put hp, fun p2 us w2 R2 l2 hp2 al2 => ⟨.ref pp, .ref p2, rfl, ?_⟩⟩⟩
      obtain ⟨f1, f2⟩ := R'.ok.fresh hp
      obtain ⟨g1, g2, g3⟩ := l2.kp pp (.lst vs) upd_same f2 nt_lst
      have l3 := put_le (o := .lst vs) R'.ok hp
      have R3 := R2.new (i := j) (o := .lst us) hp2
      have l4 := new_le (i := j) (o := .lst us) R2.ok hp2
      have ne : pp ≠ p2 := ne_of_none g1 hp2
      obtain ⟨a1, a2, a3⟩ := ado_rep (i := i) R3 ((l3.trans l2).trans l4) hp (by show upd w2.H p2 _ pp = _; rw [upd_ne ne]; exact g1) (by show (if pp = p2 then some j else w2.O pp) = none; rw [if_neg ne]; exact g2) (g3.trans f1) (al.mono (l2.hi.trans l4.hi))
      refine q _ ((w2.new j p2 (.lst us)).ado pp i) ?_ (l.trans a2)
      have R4 := a1.set (i := i) (s := own d) a3
      have R5 := R4.set (i := j) (s := own d2) ⟨p2, us, rfl, by
        show (if p2 = pp then some i else if p2 = p2 then some j else w2.O p2) = some j
        rw [if_neg (Ne.symm ne), if_pos rfl], upd_same, al2⟩
      rw [S_own, S_own] at R5
      exact R5
    · exact (ps_par hc hN hi hj hij hx hy (pa_cons (ha.run _ _ h3) (pa_cons (hb.run _ _ h5) pa_nil hs2) hs1) hw hs).imp fun D σ H ⟨w, e1, R1, q⟩ => ⟨w, e1, R1, fun pp vs w' R' l hp al => ⟨w'.put pp (.lst vs), rfl, R'.put hp, fun w2 d u R2 l2 n => q σ w2 d u R2 ((l.trans (put_le R'.ok hp)).trans l2) ((l.trans (put_le R'.ok hp)).none n)⟩⟩
  · exact (ps_par hc hN hi hj hij hx hy (pa_cons (ha.run _ _ h3) (pa_cons pe_no pa_nil hs2) hs1) hw hs).imp fun D σ H ⟨w, e1, R1, q⟩ => ⟨w, e1, R1, fun w' d v R' l n => q σ w' d v R' l n⟩⟩
@[simp] theorem parLL_ {i j : Nat} {L2 : Cp (List D)} {ρ : PE'} : parLL i j L L2 ρ = bs (L ρ) fun d ρ1 => bs (L2 ρ1) fun d2 ρ2 => some (.nx ((ρ2.set i (.own d)).set j (.own d2))) := rfl
/-- a, b, c = a thing of three -/
def tg3 (s t u : D → PE' → Option PE') : D → PE' → Option PE' := fun d ρ => match d with
  | .tup [x, y, z] => match s x ρ with
    | some ρ1 => match t y ρ1 with
      | some ρ2 => u z ρ2
      | none => none
    | none => none
  | _ => none
@[simp] theorem tg3_ {s t u : D → PE' → Option PE'} {x y z : D} {ρ : PE'} : tg3 s t u (.tup [x, y, z]) ρ = ((s x ρ).bind (t y)).bind (u z) := by
  show (match s x ρ with | some ρ1 => (match t y ρ1 with | some ρ2 => u z ρ2 | none => none) | none => none) = _
  cases s x ρ with
  | none => rfl
  | some ρ1 => cases h : t y ρ1 <;> simp [h]
theorem cg_three {ea eb ec : Expr} {k : Nat} {is js ks : List Nat} {s t u : D → PE' → Option PE'} (hc : X.calm = true) (ha : CG X xa ea is s) (hb : CG X xa eb js t) (hd : CG X xa ec ks u)
    (hs : (assignEach [ea, eb, ec] X.env).map (·.2) = assign ea X.env :: (assignEach [eb, ec] X.env).map (·.2) := by rfl) (hs2 : (assignEach [eb, ec] X.env).map (·.2) = assign eb X.env :: (assignEach [ec] X.env).map (·.2) := by rfl) (hs3 : (assignEach [ec] X.env).map (·.2) = assign ec X.env :: (assignEach [] X.env).map (·.2) := by rfl)
    (hn : (assignEach [ea, eb, ec] X.env).length = 3 := by rfl) (hst : (assignEach [ea, eb, ec] X.env).findIdx? (·.1) = none := by rfl) : CG X xa (.Tuple [ea, eb, ec] k pos) (is ++ (js ++ ks)) (tg3 s t u) := ⟨fun d ρ ρ' h => by
  unfold tg3 at h
  split at h
  · rename_i x y z
    split at h
    · rename_i ρ1 h1
      split at h
      · rename_i ρ2 h2
        rw [rv_tup]
        exact (pg_tup hc (pgs_cons (ha.run _ _ _ h1) (pgs_cons (hb.run _ _ _ h2) (pgs_cons (hd.run _ _ _ h) pgs_nil hs3) hs2) hs) hn hst).imp fun v σ H Q ⟨w, e1, R1, ⟨t, vs, e2, h1, v1, r1, e3, p1, v2, r2, e4, p2, v3, r3, e5, p3, e6⟩, q⟩ => by
          subst e1 e3 e4 e5
          rw [show r3 = [] from e6] at h1
          exact ⟨t, [v1, v2, v3], e2, Ex.t R1.ok.sub h1, rfl, v1, [v2, v3], rfl, w, rfl, R1, p1, fun σ' w' R' l B1 => ⟨v2, [v3], rfl, w', rfl, R', Rp.mono l.hi p2, fun σ2 w2 R2 l2 B2 => ⟨v3, [], rfl, w2, rfl, R2, Rp.mono (l.hi.trans l2.hi) p3, fun σ3 w3 R3 l3 B3 => ⟨rfl, q σ3 w3 R3 ((l.trans l2).trans l3) (B1.trans (B2.trans B3))⟩⟩⟩⟩
      · cases h
    · cases h
  · cases h⟩
end
end BC

namespace BC
open PySem PySem.Spec PyProof.Rows L2
variable [TabL]
/-! ### isinstance of what is handled -/
structure IsiK (K : PySem.W.Frag) (mg : Str → Option Value) (ns : List Str) (T : Str) : Prop where
  ex : ∃ CT, mg T = some (.ref CT) ∧ ∀ c ∈ ns, PySem.W.kitOne K (.ref (cK K c)) (.ref CT) = some (decide (c = T))
def isiF (ns : List Str) (T : Str) (c : Str) : Option Bool := if c ∈ ns then some (decide (c = T)) else none
section
variable {X : Cx} {We : WX} {p pos p2 np : Pos} {n T : Str} {xa : Xa} {D' fI : Addr} {oe : Obj} {pn : List (Addr × Obj)} {ns : List Str}
theorem ce_isiE2 (i : Nat) (Tc : PySem.RefX.ClsTxt X.K D' fI (cK X.K xa.c)) (It : IsTxt X.K (cK X.K xa.c)) (hz : Zc (.ref (cK X.K xa.c)) (some xa.d) oe) (hf : ∃ vs, oe.data = .fields vs) (KT : IsiK X.K X.mg ns T) (hm : X.mg "isinstance" = none) (hN : X.N[i]? = some n := by rfl) (hv : Vis X.env.scope n := by first | exact Or.inl rfl | exact Or.inr (Or.inl rfl) | exact Or.inr (Or.inr rfl))
    (hd : (n == ("__debug__" : Str)) = false := by decide) (hcd : (n == ("__classdict__" : Str)) = false := by decide) (hg : Gl X "isinstance" := by rfl) (hgT : Gl X T := by rfl) (hdT : (T == ("__debug__" : Str)) = false := by decide)
    (hs : starEach [.Name n np, .Name T p2] X.env = (false, eval (.Name n np) X.env) :: starEach [.Name T p2] X.env := by rfl) (hs2 : starEach [.Name T p2] X.env = (false, eval (.Name T p2) X.env) :: starEach [] X.env := by rfl) (hpl : (backTo pos (starEach [.Name T p2] X.env)).any (·.1) = false := by rfl) :
    CE (X.suite xa.a ((xa.a, oe) :: pn)) We xa (.Call (.Name "isinstance" p) [.Name n np, .Name T p2] [] pos) (vB (isiC i (isiF ns T))) := by
  obtain ⟨CT, h1, h2⟩ := KT.ex
  refine ce_isiE i Tc It hz hf (pe_glob (X := X.suite xa.a ((xa.a, oe) :: pn)) (v := .ref CT) hgT h1 rfl hdT) (.own CT) (fun b hb => ?_) hm hN hv hd hcd hg hs hs2 hpl
  unfold isiF at hb
  split at hb
  · rename_i hc
    cases hb
    exact h2 _ hc
  · cases hb
end
/-! ### the end -/
theorem rv_script (l : List Int) : rv (D.lsr (l.map D.int)) = rv (Lsr.mk l) := VP.eq fun K v H => by
  refine ⟨fun ⟨a, vs, h1, h2, h3⟩ => ⟨a, vs, h1, h2, ?_⟩, fun ⟨a, vs, h1, h2, h3⟩ => ⟨a, vs, h1, h2, ?_⟩⟩
  · rw [al_int h3]
    exact al_ints l
  · have := ints_of h3
    rw [this]
    exact rpL_al.mpr (al_ofints l)
theorem law_c {P : Program} {w : World} {K : PySem.W.Frag} {mg : Str → Option Value} {base : Heap} {k : Nat} {f : Addr} {fd : FuncData} {ps : List Str} {m : Fn} (F : FnG P w K mg base k f fd ps (spC K 1 m)) (h : ∀ l : List Int, l.length ≤ 63 → m [.im (.lsr (l.map D.int))] = some (.rt (.bl true) [])) : FnG P w K mg base k f fd ps (spLaw K) := by
  refine law_ok (F.imp fun vs H Q E ⟨⟨l, hl⟩, w, e1, R, q⟩ => ?_)
  refine ⟨⟨[.im (.lsr (l.map D.int))], rfl, _, h l hl⟩, w, e1, ?_, ?_⟩
  · show Rep K [im (rv (D.lsr (l.map D.int)))] _ _
    rw [rv_script]
    exact R
  · show FO.sat _ _ _ _ (match m [.im (.lsr (l.map D.int))] with | some o => o.fo K | none => .rt (rv ()) [])
    rw [h l hl]
    exact q
end BC

/-! zip of two and of three, lists and tuples among them. -/
namespace BC
open PySem PySem.Spec PyProof.Rows L2
variable [TabL]
/-- a list (l) or a tuple -/
def sqk (l : Bool) (K : PySem.W.Frag) (H : Hp) (a : Addr) (xs : List V) : Prop := match l with
  | true => SqL K H a xs
  | false => SqT K H a xs
def isk (l : Bool) (h : Heap) (a : Addr) (its : Array Value) : Prop := match l with
  | true => h.IsList a its
  | false => h.IsTuple a its
def itk (l : Bool) (h : Heap) (i a : Addr) (k : Nat) : Prop := match l with
  | true => h.IsListIter i a k
  | false => h.IsTupleIter i a k
def obk (l : Bool) (a : Addr) : Obj := match l with
  | true => { cls := .type "list_iterator", data := .fields #[.ref a, .int 0 0] }
  | false => { cls := .type "tuple_iterator", data := .fields #[.ref a, .int 0 0] }
theorem sqk_ex {l : Bool} {K : PySem.W.Frag} {H H' : Hp} {a : Addr} {xs : List V} (e : Ex H H') (h : sqk l K H a xs) : sqk l K H' a xs := by
  cases l
  · exact Ex.t e h
  · exact Ex.l e h
section
variable {X : Cx} {pins : List (Addr × Obj)} {σ : L2.St} {H : Hp} {s : Shared}
theorem sqk_at {l : Bool} {a : Addr} {xs : List V} (I : Inv X pins σ H s) (h : sqk l X.K H a xs) : ∃ its : List Value, Vals xs its ∧ isk l s.heap a its.toArray ∧ a < s.heap.objs.size := by
  cases l
  · obtain ⟨its, rv, p, _⟩ := I.tuple h
    obtain ⟨o, ho, _⟩ := id p
    exact ⟨its, rv, p, Heap.lt_size ho⟩
  · obtain ⟨its, rv, p, _⟩ := I.list h
    exact ⟨its, rv, p.isList, p.lt⟩
theorem sqk_inj {l : Bool} {a : Addr} {xs ys : List V} (I : Inv X pins σ H s) (h : sqk l X.K H a xs) (h' : sqk l X.K H a ys) : xs = ys := by
  cases l
  · exact I.tuple_inj h h'
  · exact I.list_inj h h'
end
theorem draws_k {prog : Program} {w : World} {A : Around} (l : Bool) (hh : A.handled = none) (it a : Addr) (hne : a ≠ it) (items : Array Value) :
    Draws prog w A it [it, a] items.size (fun i v => items[i]? = some v) (fun i h => itk l h it a i ∧ isk l h a items) := by
  cases l
  · exact Draws.tuple hh it a hne items
  · exact Draws.list hh it a hne items
theorem begins_k (l : Bool) (a : Addr) (items : Array Value) : Begins (.ref a) (obk l a) fun h => isk l h a items := by
  cases l
  · exact begins_tuple a items
  · exact begins_list a items
theorem itk_new {l : Bool} {h : Heap} {it a : Addr} (e : h.get? it = some (obk l a)) : itk l h it a 0 := by
  cases l
  · exact ⟨_, e, rfl, rfl⟩
  · exact ⟨_, e, rfl, rfl⟩
theorem itk_at {l : Bool} {h h' : Heap} {it a : Addr} {k : Nat} (hi : itk l h it a k) (f : ∀ o, h.get? it = some o → h'.get? it = some o) : itk l h' it a k := by
  cases l
  · exact Heap.IsTupleIter.at hi f
  · exact Heap.IsListIter.at hi f
theorem itk_obj {l : Bool} {h : Heap} {it a : Addr} {k : Nat} (hi : itk l h it a k) : ∃ o, h.get? it = some o ∧ ∀ v, o.data ≠ .cell v := by
  cases l
  · obtain ⟨o, ho, hc, hd⟩ := hi
    exact ⟨o, ho, fun v q => by rw [hd] at q; cases q⟩
  · obtain ⟨o, ho, hc, hd⟩ := hi
    exact ⟨o, ho, fun v q => by rw [hd] at q; cases q⟩
theorem vals_arr {xs : List V} {its : List Value} {i : Nat} {x : V} {u : Value} (rv : Vals xs its) (hx : xs[i]? = some x) (hu : its.toArray[i]? = some u) : L2.RelV x u := by
  obtain ⟨u', h1, h2⟩ := rv.get hx
  rw [List.getElem?_toArray, h1] at hu
  cases hu
  exact h2
/-- zip of three -/
def It3 (K : PySem.W.Frag) (l1 l2 l3 : Bool) (a b c : Addr) : It :=
  ⟨fun i H => ∃ xs ys zs : List V, sqk l1 K H a xs ∧ sqk l2 K H b ys ∧ sqk l3 K H c zs ∧ i < xs.length ∧ i < ys.length ∧ i < zs.length,
   fun i H v H' => ∃ T x y z, v = .ref T ∧ H T = none ∧ H' = upd H T (.tup [x, y, z]) ∧ (∀ xs, sqk l1 K H a xs → xs[i]? = some x) ∧ (∀ ys, sqk l2 K H b ys → ys[i]? = some y) ∧ ∀ zs, sqk l3 K H c zs → zs[i]? = some z,
   fun i H => ∃ xs ys zs : List V, sqk l1 K H a xs ∧ sqk l2 K H b ys ∧ sqk l3 K H c zs ∧ i = min (min xs.length ys.length) zs.length⟩
theorem turn_zip3 {P : Program} {w : World} {K : PySem.W.Frag} {elts : List Expr} {kk : Nat} {tpos : Pos} (l1 l2 l3 : Bool) (a b c : Addr) (N : Nat) (ha : a < N) (hb : b < N) (hc' : c < N) :
    Turn P w K (.Tuple elts kk tpos) (It3 K l1 l2 l3 a b c) [N + 5, N + 3, N + 4, N, N + 1, N + 2] (N + 5) (fun i h => IsZip h (N + 5) (N + 3) (N + 4) .none ∧ IsTupOf3 h (N + 3) (.ref N) (.ref (N + 1)) (.ref (N + 2)) ∧ (∃ x y z, IsTupOf3 h (N + 4) x y z) ∧ itk l1 h N a i ∧ itk l2 h (N + 1) b i ∧ itk l3 h (N + 2) c i) where
  mem := List.mem_cons_self
  obj := fun i h ⟨hz, hTI, ⟨x, y, z, hTO⟩, h1, h2, h3⟩ d hd => by
    simp only [List.mem_cons, List.not_mem_nil, or_false] at hd
    rcases hd with q | q | q | q | q | q
    · rw [q]; exact ⟨_, hz, fun v q => nomatch q⟩
    · rw [q]; exact ⟨_, hTI, fun v q => nomatch q⟩
    · rw [q]; exact ⟨_, hTO, fun v q => nomatch q⟩
    · rw [q]; exact itk_obj h1
    · rw [q]; exact itk_obj h2
    · rw [q]; exact itk_obj h3
  keep := fun i h h' ⟨hz, hTI, ⟨x, y, z, hTO⟩, h1, h2, h3⟩ k => ⟨k _ (by simp) _ hz, k _ (by simp) _ hTI, ⟨x, y, z, k _ (by simp) _ hTO⟩, itk_at h1 (k _ (by simp)), itk_at h2 (k _ (by simp)), itk_at h3 (k _ (by simp))⟩
  item := by
    intro X hP hw hK hc i pins s σ H E I hf ⟨hz, hTI, hTO, h1, h2, h3⟩ ⟨xs, ys, zs, q1, q2, q3, i1, i2, i3⟩
    subst hP hw hK
    obtain ⟨its, rv, p, _⟩ := sqk_at I q1
    obtain ⟨its2, rv2, p2, _⟩ := sqk_at I q2
    obtain ⟨its3, rv3, p3, _⟩ := sqk_at I q3
    have W := GoesN.zip3 (elts := elts) (x1 := kk) (pos := tpos) (A := X.A) (zip_sep3 (N := N) (fp1 := [a]) (fp2 := [b]) (fp3 := [c]) (by simpa using ha) (by simpa using hb) (by simpa using hc'))
      (draws_k (prog := X.prog) (w := X.w) (A := X.A.in1) l1 (I.ok.hd hc) N a (Nat.ne_of_lt ha) its.toArray) (draws_k (prog := X.prog) (w := X.w) (A := X.A.in1) l2 (I.ok.hd hc) (N + 1) b (Nat.ne_of_lt (Nat.lt_succ_of_lt hb)) its2.toArray) (draws_k (prog := X.prog) (w := X.w) (A := X.A.in1) l3 (I.ok.hd hc) (N + 2) c (Nat.ne_of_lt (Nat.lt_succ_of_lt (Nat.lt_succ_of_lt hc'))) its3.toArray)
    have hlt : i < min (min its.toArray.size its2.toArray.size) its3.toArray.size := by
      have e1 := rv.length
      have e2 := rv2.length
      have e3 := rv3.length
      simp only [List.size_toArray]
      omega
    refine W.goes i s _ E hlt ⟨hz, hTI, hTO, ⟨h1, p⟩, ⟨h2, p2⟩, ⟨h3, p3⟩⟩ fun v h' tk ⟨T, x, y, u, ev, hT, hx, hy, hu, hTT⟩ st' kk' _ => ?_
    subst ev
    obtain ⟨hz', hTI', hTO', ⟨h1', _⟩, ⟨h2', _⟩, ⟨h3', _⟩⟩ := st'
    have gx : xs[i]? = some xs[i] := List.getElem?_eq_getElem i1
    have gy : ys[i]? = some ys[i] := List.getElem?_eq_getElem i2
    have gz : zs[i]? = some zs[i] := List.getElem?_eq_getElem i3
    have new : ObjOk X.prog X.w (upd H T (.tup [xs[i], ys[i], zs[i]])) h' T (.tup [xs[i], ys[i], zs[i]]) := ⟨by show 3 ≤ sizeLine; decide, [x, y, u], .cons (vals_arr rv gx hx) (.cons (vals_arr rv2 gy hy) (.cons (vals_arr rv3 gz hu) .nil)), hTT⟩
    have I1 : Inv X pins σ (upd H T (.tup [xs[i], ys[i], zs[i]])) { s with heap := h', toks := tk } := I.turnedNew (ch := [N + 5, N + 3, N + 4, N, N + 1, N + 2]) (fun b ob hb q => kk' b ob (fun z => hb (by simp only [List.mem_cons, List.not_mem_nil, or_false] at z ⊢; rcases z with z | z | z | z | z <;> simp [z])) q) hf hT new
    refine ⟨.ref T, _, I1, rfl, ⟨T, _, _, _, rfl, I.hok.fresh hT, rfl, fun l hl => by rw [sqk_inj I hl q1]; exact gx, fun l hl => by rw [sqk_inj I hl q2]; exact gy, fun l hl => by rw [sqk_inj I hl q3]; exact gz⟩, ⟨hz', hTI', hTO', h1', h2', h3'⟩, fun d hd => ?_⟩
    have hd' : d < s.heap.objs.size := by
      obtain ⟨x0, y0, z0, hTO⟩ := hTO
      obtain ⟨o1, e1, _⟩ := itk_obj h1
      obtain ⟨o2, e2, _⟩ := itk_obj h2
      obtain ⟨o3, e3, _⟩ := itk_obj h3
      have hd2 := hd
      simp only [List.mem_cons, List.not_mem_nil, or_false] at hd2
      rcases hd2 with q | q | q | q | q | q
      · rw [q]; exact Heap.lt_size hz
      · rw [q]; exact Heap.lt_size hTI
      · rw [q]; exact Heap.lt_size hTO
      · rw [q]; exact Heap.lt_size e1
      · rw [q]; exact Heap.lt_size e2
      · rw [q]; exact Heap.lt_size e3
    rw [upd_ne (Nat.ne_of_lt (Nat.lt_of_lt_of_le hd' hT))]
    exact (hf d hd).1
  done := by
    intro X hP hw hK hc i pins s σ H E I hf ⟨hz, hTI, hTO, h1, h2, h3⟩ ⟨xs, ys, zs, q1, q2, q3, hi⟩
    subst hP hw hK
    obtain ⟨its, rv, p, _⟩ := sqk_at I q1
    obtain ⟨its2, rv2, p2, _⟩ := sqk_at I q2
    obtain ⟨its3, rv3, p3, _⟩ := sqk_at I q3
    have W := GoesN.zip3 (elts := elts) (x1 := kk) (pos := tpos) (A := X.A) (zip_sep3 (N := N) (fp1 := [a]) (fp2 := [b]) (fp3 := [c]) (by simpa using ha) (by simpa using hb) (by simpa using hc'))
      (draws_k (prog := X.prog) (w := X.w) (A := X.A.in1) l1 (I.ok.hd hc) N a (Nat.ne_of_lt ha) its.toArray) (draws_k (prog := X.prog) (w := X.w) (A := X.A.in1) l2 (I.ok.hd hc) (N + 1) b (Nat.ne_of_lt (Nat.lt_succ_of_lt hb)) its2.toArray) (draws_k (prog := X.prog) (w := X.w) (A := X.A.in1) l3 (I.ok.hd hc) (N + 2) c (Nat.ne_of_lt (Nat.lt_succ_of_lt (Nat.lt_succ_of_lt hc'))) its3.toArray)
    have hl : i = min (min its.toArray.size its2.toArray.size) its3.toArray.size := by
      rw [hi, rv.length, rv2.length, rv3.length]
      simp only [List.size_toArray]
    refine W.stops s _ E ?_ fun h' tk kk' _ => I.turnedL (ch := [N + 5, N + 3, N + 4, N, N + 1, N + 2]) (fun b o hb q => kk' b o (fun z => hb (by simp only [List.mem_cons, List.not_mem_nil, or_false] at z ⊢; rcases z with z | z | z | z | z <;> simp [z])) q) hf
    rw [← hl]
    exact ⟨hz, hTI, hTO, ⟨h1, p⟩, ⟨h2, p2⟩, ⟨h3, p3⟩⟩
  self := fun A i s Q E ⟨hz, _⟩ h => wpAny_pyIter_zip hz h
def iZ3 (K : PySem.W.Frag) (ta : TA) : TI := fun σ H R => ta σ H fun vs H1 => ∃ l1 l2 l3 a b c xs ys zs, vs = [.ref a, .ref b, .ref c] ∧ sqk l1 K H1 a xs ∧ sqk l2 K H1 b ys ∧ sqk l3 K H1 c zs ∧ R (It3 K l1 l2 l3 a b c) H1
theorem pi_zip3 {X : Cx} {e e2 e3 : Expr} {ta : TA} {p pos tpos : Pos} {elts : List Expr} {kk : Nat} (hg : Gl X "zip") (hm : X.mg "zip" = none) (ha : PA X [e, e2, e3] ta)
    (hs : starEach [e, e2, e3] X.env = (false, eval e X.env) :: starEach [e2, e3] X.env := by rfl) (hpl : (backTo pos (starEach [e2, e3] X.env)).any (·.1) = false := by rfl) :
    PI X (.Tuple elts kk tpos) (.Call (.Name "zip" p) [e, e2, e3] [] pos) (iZ3 X.K ta) := ⟨fun pins s σ H R I h => by
  refine Call_ (ld_blt I hg hm PyProof.Rows.boot_zip (PyProof.Rows.callWith_type1 (thn (ha.run pos pins s σ H _ I h) fun us s1 ⟨vs, H1, I1, r1, l1, l2, l3, a, b, c, xs, ys, zs, ex, q1, q2, q3, q⟩ => ?_) hs hpl))
  subst ex
  cases r1 with
  | cons r rr =>
    cases rr with
    | cons r' rr =>
      cases rr with
      | cons r'' rr =>
        cases rr
        cases r
        cases r'
        cases r''
        obtain ⟨its, rv, p1, a1⟩ := sqk_at I1 q1
        obtain ⟨its2, rv2, p2, a2⟩ := sqk_at I1 q2
        obtain ⟨its3, rv3, p3, a3⟩ := sqk_at I1 q3
        refine zip_begins3 (begins_k l1 a its.toArray) (begins_k l2 b its2.toArray) (begins_k l3 c its3.toArray) p1 p2 p3 fun h' hz hTI hTO g1 g2 g3 hsz hk => wpAny_pyIter_zip hz ?_
        have I2 : Inv X pins σ H1 { s1 with heap := h' } := I1.kept (t' := s1.toks) hk
        refine ⟨s1.heap.objs.size + 5, _, _, _, H1, rfl, I2, turn_zip3 l1 l2 l3 a b c s1.heap.objs.size a1 a2 a3, ⟨hz, hTI, ⟨_, _, _, hTO⟩, itk_new g1, itk_new g2, itk_new g3⟩, fun d hd => ?_, q⟩
        have hle : s1.heap.objs.size ≤ d := by
          simp only [List.mem_cons, List.not_mem_nil, or_false] at hd
          rcases hd with z | z | z | z | z | z <;> (rw [z]; first | exact Nat.le_refl _ | exact Nat.le_add_right _ _)
        exact I1.fpOk hle (I1.hok.fresh hle)⟩
/-- zip of two -/
def It2 (K : PySem.W.Frag) (l1 l2 : Bool) (a b : Addr) : It :=
  ⟨fun i H => ∃ xs ys : List V, sqk l1 K H a xs ∧ sqk l2 K H b ys ∧ i < xs.length ∧ i < ys.length,
   fun i H v H' => ∃ T x y, v = .ref T ∧ H T = none ∧ H' = upd H T (.tup [x, y]) ∧ (∀ xs, sqk l1 K H a xs → xs[i]? = some x) ∧ (∀ ys, sqk l2 K H b ys → ys[i]? = some y),
   fun i H => ∃ xs ys : List V, sqk l1 K H a xs ∧ sqk l2 K H b ys ∧ i = min xs.length ys.length⟩
theorem turn_zip2 {P : Program} {w : World} {K : PySem.W.Frag} {elts : List Expr} {kk : Nat} {tpos : Pos} (l1 l2 : Bool) (a b : Addr) (N : Nat) (ha : a < N) (hb : b < N) :
    Turn P w K (.Tuple elts kk tpos) (It2 K l1 l2 a b) [N + 4, N + 2, N + 3, N, N + 1] (N + 4) (fun i h => IsZip h (N + 4) (N + 2) (N + 3) .none ∧ IsTupOf2 h (N + 2) (.ref N) (.ref (N + 1)) ∧ (∃ x y, IsTupOf2 h (N + 3) x y) ∧ itk l1 h N a i ∧ itk l2 h (N + 1) b i) where
  mem := List.mem_cons_self
  obj := fun i h ⟨hz, hTI, ⟨x, y, hTO⟩, h1, h2⟩ d hd => by
    simp only [List.mem_cons, List.not_mem_nil, or_false] at hd
    rcases hd with q | q | q | q | q
    · rw [q]; exact ⟨_, hz, fun v q => nomatch q⟩
    · rw [q]; exact ⟨_, hTI, fun v q => nomatch q⟩
    · rw [q]; exact ⟨_, hTO, fun v q => nomatch q⟩
    · rw [q]; exact itk_obj h1
    · rw [q]; exact itk_obj h2
  keep := fun i h h' ⟨hz, hTI, ⟨x, y, hTO⟩, h1, h2⟩ k => ⟨k _ (by simp) _ hz, k _ (by simp) _ hTI, ⟨x, y, k _ (by simp) _ hTO⟩, itk_at h1 (k _ (by simp)), itk_at h2 (k _ (by simp))⟩
  item := by
    intro X hP hw hK hc i pins s σ H E I hf ⟨hz, hTI, hTO, h1, h2⟩ ⟨xs, ys, q1, q2, i1, i2⟩
    subst hP hw hK
    obtain ⟨its, rv, p, _⟩ := sqk_at I q1
    obtain ⟨its2, rv2, p2, _⟩ := sqk_at I q2
    have W := GoesN.zip2 (elts := elts) (x1 := kk) (pos := tpos) (A := X.A) (zip_sep2 (N := N) (fp1 := [a]) (fp2 := [b]) (by simpa using ha) (by simpa using hb))
      (draws_k (prog := X.prog) (w := X.w) (A := X.A.in1) l1 (I.ok.hd hc) N a (Nat.ne_of_lt ha) its.toArray) (draws_k (prog := X.prog) (w := X.w) (A := X.A.in1) l2 (I.ok.hd hc) (N + 1) b (Nat.ne_of_lt (Nat.lt_succ_of_lt hb)) its2.toArray)
    have hlt : i < min its.toArray.size its2.toArray.size := by
      have e1 := rv.length
      have e2 := rv2.length
      simp only [List.size_toArray]
      omega
    refine W.goes i s _ E hlt ⟨hz, hTI, hTO, ⟨h1, p⟩, ⟨h2, p2⟩⟩ fun v h' tk ⟨T, x, y, ev, hT, hx, hy, hTT⟩ st' kk' _ => ?_
    subst ev
    obtain ⟨hz', hTI', hTO', ⟨h1', _⟩, ⟨h2', _⟩⟩ := st'
    have gx : xs[i]? = some xs[i] := List.getElem?_eq_getElem i1
    have gy : ys[i]? = some ys[i] := List.getElem?_eq_getElem i2
    have new : ObjOk X.prog X.w (upd H T (.tup [xs[i], ys[i]])) h' T (.tup [xs[i], ys[i]]) := ⟨by show 2 ≤ sizeLine; decide, [x, y], .cons (vals_arr rv gx hx) (.cons (vals_arr rv2 gy hy) .nil), hTT⟩
    have I1 : Inv X pins σ (upd H T (.tup [xs[i], ys[i]])) { s with heap := h', toks := tk } := I.turnedNew (ch := [N + 4, N + 2, N + 3, N, N + 1]) (fun b ob hb q => kk' b ob (fun z => hb (by simp only [List.mem_cons, List.not_mem_nil, or_false] at z ⊢; rcases z with z | z | z | z <;> simp [z])) q) hf hT new
    refine ⟨.ref T, _, I1, rfl, ⟨T, _, _, rfl, I.hok.fresh hT, rfl, fun l hl => by rw [sqk_inj I hl q1]; exact gx, fun l hl => by rw [sqk_inj I hl q2]; exact gy⟩, ⟨hz', hTI', hTO', h1', h2'⟩, fun d hd => ?_⟩
    have hd' : d < s.heap.objs.size := by
      obtain ⟨x0, y0, hTO⟩ := hTO
      obtain ⟨o1, e1, _⟩ := itk_obj h1
      obtain ⟨o2, e2, _⟩ := itk_obj h2
      have hd2 := hd
      simp only [List.mem_cons, List.not_mem_nil, or_false] at hd2
      rcases hd2 with q | q | q | q | q
      · rw [q]; exact Heap.lt_size hz
      · rw [q]; exact Heap.lt_size hTI
      · rw [q]; exact Heap.lt_size hTO
      · rw [q]; exact Heap.lt_size e1
      · rw [q]; exact Heap.lt_size e2
    rw [upd_ne (Nat.ne_of_lt (Nat.lt_of_lt_of_le hd' hT))]
    exact (hf d hd).1
  done := by
    intro X hP hw hK hc i pins s σ H E I hf ⟨hz, hTI, hTO, h1, h2⟩ ⟨xs, ys, q1, q2, hi⟩
    subst hP hw hK
    obtain ⟨its, rv, p, _⟩ := sqk_at I q1
    obtain ⟨its2, rv2, p2, _⟩ := sqk_at I q2
    have W := GoesN.zip2 (elts := elts) (x1 := kk) (pos := tpos) (A := X.A) (zip_sep2 (N := N) (fp1 := [a]) (fp2 := [b]) (by simpa using ha) (by simpa using hb))
      (draws_k (prog := X.prog) (w := X.w) (A := X.A.in1) l1 (I.ok.hd hc) N a (Nat.ne_of_lt ha) its.toArray) (draws_k (prog := X.prog) (w := X.w) (A := X.A.in1) l2 (I.ok.hd hc) (N + 1) b (Nat.ne_of_lt (Nat.lt_succ_of_lt hb)) its2.toArray)
    have hl : i = min its.toArray.size its2.toArray.size := by
      rw [hi, rv.length, rv2.length]
      simp only [List.size_toArray]
    refine W.stops s _ E ?_ fun h' tk kk' _ => I.turnedL (ch := [N + 4, N + 2, N + 3, N, N + 1]) (fun b o hb q => kk' b o (fun z => hb (by simp only [List.mem_cons, List.not_mem_nil, or_false] at z ⊢; rcases z with z | z | z | z <;> simp [z])) q) hf
    rw [← hl]
    exact ⟨hz, hTI, hTO, ⟨h1, p⟩, ⟨h2, p2⟩⟩
  self := fun A i s Q E ⟨hz, _⟩ h => wpAny_pyIter_zip hz h
def iZ2 (K : PySem.W.Frag) (ta : TA) : TI := fun σ H R => ta σ H fun vs H1 => ∃ l1 l2 a b xs ys, vs = [.ref a, .ref b] ∧ sqk l1 K H1 a xs ∧ sqk l2 K H1 b ys ∧ R (It2 K l1 l2 a b) H1
theorem pi_zip2 {X : Cx} {e e2 : Expr} {ta : TA} {p pos tpos : Pos} {elts : List Expr} {kk : Nat} (hg : Gl X "zip") (hm : X.mg "zip" = none) (ha : PA X [e, e2] ta)
    (hs : starEach [e, e2] X.env = (false, eval e X.env) :: starEach [e2] X.env := by rfl) (hpl : (backTo pos (starEach [e2] X.env)).any (·.1) = false := by rfl) :
    PI X (.Tuple elts kk tpos) (.Call (.Name "zip" p) [e, e2] [] pos) (iZ2 X.K ta) := ⟨fun pins s σ H R I h => by
  refine Call_ (ld_blt I hg hm PyProof.Rows.boot_zip (PyProof.Rows.callWith_type1 (thn (ha.run pos pins s σ H _ I h) fun us s1 ⟨vs, H1, I1, r1, l1, l2, a, b, xs, ys, ex, q1, q2, q⟩ => ?_) hs hpl))
  subst ex
  cases r1 with
  | cons r rr =>
    cases rr with
    | cons r' rr =>
      cases rr
      cases r
      cases r'
      obtain ⟨its, rv, p1, a1⟩ := sqk_at I1 q1
      obtain ⟨its2, rv2, p2, a2⟩ := sqk_at I1 q2
      refine zip_begins2 (begins_k l1 a its.toArray) (begins_k l2 b its2.toArray) p1 p2 fun h' hz hTI hTO g1 g2 hsz hk => wpAny_pyIter_zip hz ?_
      have I2 : Inv X pins σ H1 { s1 with heap := h' } := I1.kept (t' := s1.toks) hk
      refine ⟨s1.heap.objs.size + 4, _, _, _, H1, rfl, I2, turn_zip2 l1 l2 a b s1.heap.objs.size a1 a2, ⟨hz, hTI, ⟨_, _, hTO⟩, itk_new g1, itk_new g2⟩, fun d hd => ?_, q⟩
      have hle : s1.heap.objs.size ≤ d := by
        simp only [List.mem_cons, List.not_mem_nil, or_false] at hd
        rcases hd with z | z | z | z | z <;> (rw [z]; first | exact Nat.le_refl _ | exact Nat.le_add_right _ _)
      exact I1.fpOk hle (I1.hok.fresh hle)⟩
/-! ### told of data -/
theorem seq_sqk {K : PySem.W.Frag} {H : Hp} {d : D} {xs : List D} {v : V} (h : d.seq? = some xs) (r : (rv d).p K v H) : ∃ l a vs, v = .ref a ∧ sqk l K H a vs ∧ Al D K H xs vs := by
  obtain ⟨a, vs, e, q, al⟩ := sq_seq h K v H r
  rcases q with q | q
  · exact ⟨true, a, vs, e, q, al⟩
  · exact ⟨false, a, vs, e, q, al⟩
def zp2 : List D → List D → List D
  | x :: xs, y :: ys => .tup [x, y] :: zp2 xs ys
  | _, _ => []
theorem zp2_len : ∀ xs ys, (zp2 xs ys).length = min xs.length ys.length
  | [], ys => by simp [zp2]
  | x :: xs, [] => by simp [zp2]
  | x :: xs, y :: ys => by rw [zp2, List.length_cons, zp2_len, List.length_cons, List.length_cons]; omega
theorem zp2_get : ∀ (xs ys : List D) (i : Nat) (d : D), (zp2 xs ys)[i]? = some d → ∃ x y, xs[i]? = some x ∧ ys[i]? = some y ∧ d = .tup [x, y]
  | [], ys, i, d, h => by simp [zp2] at h
  | x :: xs, [], i, d, h => by simp [zp2] at h
  | x :: xs, y :: ys, 0, d, h => by
    simp only [zp2, List.getElem?_cons_zero, Option.some.injEq] at h
    exact ⟨x, y, rfl, rfl, h.symm⟩
  | x :: xs, y :: ys, i + 1, d, h => by
    rw [zp2, List.getElem?_cons_succ] at h
    exact zp2_get xs ys i d h
def zp3 : List D → List D → List D → List D
  | x :: xs, y :: ys, z :: zs => .tup [x, y, z] :: zp3 xs ys zs
  | _, _, _ => []
theorem zp3_len : ∀ xs ys zs, (zp3 xs ys zs).length = min (min xs.length ys.length) zs.length
  | [], ys, zs => by simp [zp3]
  | x :: xs, [], zs => by simp [zp3]
  | x :: xs, y :: ys, [] => by simp [zp3]
  | x :: xs, y :: ys, z :: zs => by rw [zp3, List.length_cons, zp3_len, List.length_cons, List.length_cons, List.length_cons]; omega
theorem zp3_get : ∀ (xs ys zs : List D) (i : Nat) (d : D), (zp3 xs ys zs)[i]? = some d → ∃ x y z, xs[i]? = some x ∧ ys[i]? = some y ∧ zs[i]? = some z ∧ d = .tup [x, y, z]
  | [], ys, zs, i, d, h => by simp [zp3] at h
  | x :: xs, [], zs, i, d, h => by simp [zp3] at h
  | x :: xs, y :: ys, [], i, d, h => by simp [zp3] at h
  | x :: xs, y :: ys, z :: zs, 0, d, h => by
    simp only [zp3, List.getElem?_cons_zero, Option.some.injEq] at h
    exact ⟨x, y, z, rfl, rfl, rfl, h.symm⟩
  | x :: xs, y :: ys, z :: zs, i + 1, d, h => by
    rw [zp3, List.getElem?_cons_succ] at h
    exact zp3_get xs ys zs i d h
theorem rvs_at {xs : List D} {i : Nat} {P : VP} (h : (rvs xs)[i]? = some P) : ∃ d, xs[i]? = some d ∧ P = rv d := by
  unfold rvs at h
  rw [List.getElem?_map] at h
  cases q : xs[i]? with
  | none => rw [q] at h; cases h
  | some d =>
    rw [q] at h
    exact ⟨d, rfl, (Option.some.inj h).symm⟩
theorem wk_z2 {K : PySem.W.Frag} {l1 l2 : Bool} {a b : Addr} {xs ys : List D} {vs us : List V} {w0 : Wd} (h1 : sqk l1 K w0.Hi a vs) (al1 : Al D K w0.Hi xs vs) (h2 : sqk l2 K w0.Hi b us) (al2 : Al D K w0.Hi ys us) : Wk K (It2 K l1 l2 a b) (rvs (zp2 xs ys)) w0 where
  go := fun i w l ok hi => by
    rw [rvs_len, zp2_len, ← al1.len, ← al2.len] at hi
    exact ⟨vs, us, sqk_ex (l.hi.trans ok.sub) h1, sqk_ex (l.hi.trans ok.sub) h2, by omega, by omega⟩
  stop := fun i w l ok hi => by
    rw [rvs_len, zp2_len, ← al1.len, ← al2.len] at hi
    exact ⟨vs, us, sqk_ex (l.hi.trans ok.sub) h1, sqk_ex (l.hi.trans ok.sub) h2, hi⟩
  yld := fun i w v H' P l ok hi ⟨T, x, y, e1, hT, e2, hx, hy⟩ => by
    subst e1 e2
    obtain ⟨d, hd, rfl⟩ := rvs_at hi
    obtain ⟨p, q, hp, hq, rfl⟩ := zp2_get _ _ _ _ hd
    obtain ⟨x', ex, rx⟩ := al1.get hp
    obtain ⟨y', ey, ry⟩ := al2.get hq
    have hx := hx vs (sqk_ex (l.hi.trans ok.sub) h1)
    have hy := hy us (sqk_ex (l.hi.trans ok.sub) h2)
    rw [hx] at ex
    rw [hy] at ey
    cases ex
    cases ey
    have hn : w.Hi T = none := ok.sub.nn hT
    have e : Ex w0.Hi (upd w.Hi T (.tup [x, y])) := l.hi.trans (Ex.new hn)
    exact ⟨w.add T (.tup [x, y]), rfl, add_le ok hT, ⟨T, [x, y], rfl, SqT.of upd_same, x, [y], rfl, D.mono e rx, y, [], rfl, D.mono e ry, rfl⟩, fun env σ R => R.add hT⟩
theorem wk_z3 {K : PySem.W.Frag} {l1 l2 l3 : Bool} {a b c : Addr} {xs ys zs : List D} {vs us ts : List V} {w0 : Wd} (h1 : sqk l1 K w0.Hi a vs) (al1 : Al D K w0.Hi xs vs) (h2 : sqk l2 K w0.Hi b us) (al2 : Al D K w0.Hi ys us) (h3 : sqk l3 K w0.Hi c ts) (al3 : Al D K w0.Hi zs ts) : Wk K (It3 K l1 l2 l3 a b c) (rvs (zp3 xs ys zs)) w0 where
  go := fun i w l ok hi => by
    rw [rvs_len, zp3_len, ← al1.len, ← al2.len, ← al3.len] at hi
    exact ⟨vs, us, ts, sqk_ex (l.hi.trans ok.sub) h1, sqk_ex (l.hi.trans ok.sub) h2, sqk_ex (l.hi.trans ok.sub) h3, by omega, by omega, by omega⟩
  stop := fun i w l ok hi => by
    rw [rvs_len, zp3_len, ← al1.len, ← al2.len, ← al3.len] at hi
    exact ⟨vs, us, ts, sqk_ex (l.hi.trans ok.sub) h1, sqk_ex (l.hi.trans ok.sub) h2, sqk_ex (l.hi.trans ok.sub) h3, hi⟩
  yld := fun i w v H' P l ok hi ⟨T, x, y, z, e1, hT, e2, hx, hy, hz⟩ => by
    subst e1 e2
    obtain ⟨d, hd, rfl⟩ := rvs_at hi
    obtain ⟨p, q, r, hp, hq, hr, rfl⟩ := zp3_get _ _ _ _ _ hd
    obtain ⟨x', ex, rx⟩ := al1.get hp
    obtain ⟨y', ey, ry⟩ := al2.get hq
    obtain ⟨z', ez, rz⟩ := al3.get hr
    have hx := hx vs (sqk_ex (l.hi.trans ok.sub) h1)
    have hy := hy us (sqk_ex (l.hi.trans ok.sub) h2)
    have hz := hz ts (sqk_ex (l.hi.trans ok.sub) h3)
    rw [hx] at ex
    rw [hy] at ey
    rw [hz] at ez
    cases ex
    cases ey
    cases ez
    have hn : w.Hi T = none := ok.sub.nn hT
    have e : Ex w0.Hi (upd w.Hi T (.tup [x, y, z])) := l.hi.trans (Ex.new hn)
    exact ⟨w.add T (.tup [x, y, z]), rfl, add_le ok hT, ⟨T, [x, y, z], rfl, SqT.of upd_same, x, [y, z], rfl, D.mono e rx, y, [z], rfl, D.mono e ry, z, [], rfl, D.mono e rz, rfl⟩, fun env σ R => R.add hT⟩
section
variable {X : Cx} {We : WX} {xa : Xa} {e e2 e3 : Expr} {M : Cp (List D)} {pos : Pos}
def zipA2 (M : Cp (List D)) : Cp (List D) := fun ρ => bd (M ρ) fun ds ρ1 => match ds with
  | [d1, d2] => match d1.seq?, d2.seq? with
    | some xs, some ys => some (.ok (zp2 xs ys) ρ1)
    | _, _ => none
  | _ => none
def zipA3 (M : Cp (List D)) : Cp (List D) := fun ρ => bd (M ρ) fun ds ρ1 => match ds with
  | [d1, d2, d3] => match d1.seq?, d2.seq?, d3.seq? with
    | some xs, some ys, some zs => some (.ok (zp3 xs ys zs) ρ1)
    | _, _, _ => none
  | _ => none
theorem ci_zip2 {elts : List Expr} {kk : Nat} {p tpos : Pos} (h : CA X We xa [e, e2] M) (hm : X.mg "zip" = none) (hg : Gl X "zip" := by rfl) (hs : starEach [e, e2] X.env = (false, eval e X.env) :: starEach [e2] X.env := by rfl) (hpl : (backTo pos (starEach [e2] X.env)).any (·.1) = false := by rfl) :
    CI X xa (.Tuple elts kk tpos) (.Call (.Name "zip" p) [e, e2] [] pos) (zipA2 M) := ⟨fun ρ xs ρ' hM => by
  rcases bd_some hM with ⟨ds, ρ1, h1, h2⟩ | ⟨c, d, ρ1, h1, h2⟩
  · match ds, h1, h2 with
    | [d1, d2], h1, h2 =>
      cases q1 : d1.seq? with
      | none => simp [q1] at h2
      | some as =>
        cases q2 : d2.seq? with
        | none => simp [q1, q2] at h2
        | some bs =>
          simp only [q1, q2, Option.some.injEq, Rs.ok.injEq] at h2
          obtain ⟨e1, e2'⟩ := h2
          subst e1 e2'
          refine (pi_zip2 hg hm (h.run _ _ h1) hs hpl).imp fun σ H R ⟨w, e1, R1, q⟩ => ⟨w, e1, R1, fun vs w' R' l al => ?_⟩
          obtain ⟨v1, r1, ev, p1, v2, r2, ev2, p2, ev3⟩ := al
          obtain ⟨l1, a, us, ea, s1, al1⟩ := seq_sqk q1 p1
          obtain ⟨l2, b, ts, eb, s2, al2⟩ := seq_sqk q2 p2
          have s1' := sqk_ex R'.ok.sub s1
          have s2' := sqk_ex R'.ok.sub s2
          subst ev3 ev2 ev ea eb
          exact ⟨l1, l2, a, b, us, ts, rfl, s1', s2', q _ w' R' l (wk_z2 s1 al1 s2 al2)⟩
  · cases h2⟩
theorem ci_zip3 {elts : List Expr} {kk : Nat} {p tpos : Pos} (h : CA X We xa [e, e2, e3] M) (hm : X.mg "zip" = none) (hg : Gl X "zip" := by rfl) (hs : starEach [e, e2, e3] X.env = (false, eval e X.env) :: starEach [e2, e3] X.env := by rfl) (hpl : (backTo pos (starEach [e2, e3] X.env)).any (·.1) = false := by rfl) :
    CI X xa (.Tuple elts kk tpos) (.Call (.Name "zip" p) [e, e2, e3] [] pos) (zipA3 M) := ⟨fun ρ xs ρ' hM => by
  rcases bd_some hM with ⟨ds, ρ1, h1, h2⟩ | ⟨c, d, ρ1, h1, h2⟩
  · match ds, h1, h2 with
    | [d1, d2, d3], h1, h2 =>
      cases q1 : d1.seq? with
      | none => simp [q1] at h2
      | some as =>
        cases q2 : d2.seq? with
        | none => simp [q1, q2] at h2
        | some bs =>
          cases q3 : d3.seq? with
          | none => simp [q1, q2, q3] at h2
          | some cs =>
            simp only [q1, q2, q3, Option.some.injEq, Rs.ok.injEq] at h2
            obtain ⟨e1, e2'⟩ := h2
            subst e1 e2'
            refine (pi_zip3 hg hm (h.run _ _ h1) hs hpl).imp fun σ H R ⟨w, e1, R1, q⟩ => ⟨w, e1, R1, fun vs w' R' l al => ?_⟩
            obtain ⟨v1, r1, ev, p1, v2, r2, ev2, p2, v3, r3, ev4, p3, ev3⟩ := al
            obtain ⟨l1, a, us, ea, s1, al1⟩ := seq_sqk q1 p1
            obtain ⟨l2, b, ts, eb, s2, al2⟩ := seq_sqk q2 p2
            obtain ⟨l3, c, ss, ec, s3, al3⟩ := seq_sqk q3 p3
            have s1' := sqk_ex R'.ok.sub s1
            have s2' := sqk_ex R'.ok.sub s2
            have s3' := sqk_ex R'.ok.sub s3
            subst ev3 ev4 ev2 ev ea eb ec
            exact ⟨l1, l2, l3, a, b, c, us, ts, ss, rfl, s1', s2', s3', q _ w' R' l (wk_z3 s1 al1 s2 al2 s3 al3)⟩
  · cases h2⟩
end
end BC

/-! More: a *= b, comb, targets of any number. -/
namespace BC
open PySem PySem.Spec PyProof.Rows L2
variable [TabL]
section
variable {X : Cx} {We : WX} {xa : Xa} {a b e : Expr} {A B : Cp D} {pos p : Pos} {env env1 : List Slot}
theorem ip_mul {X : Cx} : PIp X .Mult (fun x y H Q => ∃ i j, x = .int i ∧ y = .int j ∧ CMul i j ∧ Q (.int (i * j)) H) := by
  intro pins s σ H x y v u Q I r1 r2 h
  obtain ⟨i, j, e1, e2, hc, q⟩ := h
  subst e1; subst e2
  obtain ⟨t, rfl⟩ := r1
  obtain ⟨t', rfl⟩ := r2
  exact PyProof.Rows.imul_int ⟨.int _, H, I.tok _, ⟨_, rfl⟩, q⟩ hc.ok
theorem st_augMul (i : Nat) {u v : Int} {x : Str} {pos' : Pos} (hc : CMul u v) (h0 : env[i]? = some (im (rv u))) (he : HE X e env env1 (rv v)) (hN : X.N.Nodup) (hi : X.N[i]? = some x := by rfl) (hx : Loc X.env.scope x := by first | exact Or.inl rfl | exact Or.inr rfl)
    (hf : X.fn x = true ∨ X.env.scope.names.lookup x = some .local := by first | exact .inl rfl | exact .inr rfl | assumption) : HS X We (.AugAssign (.Name x pos') .Mult e pos) env (.nx (env1.set i (im (rv (u * v))))) :=
  (ps_aug hN hi hx he ip_mul hf).imp fun D σ H ⟨w, e1, R1, q⟩ => by
    obtain ⟨z, hz, y, ey, hy⟩ := R1.sl i _ h0
    subst ey
    exact ⟨y, hz, w, e1, R1, fun t w' R' l p => ⟨u, v, hy, p, hc, q _ w' (R'.set (s := im (rv (u * v))) ⟨_, rfl, rfl⟩) l⟩⟩
theorem cs_augMul (i : Nat) {x : Str} {pos' : Pos} (he : CE X We xa e A) (hN : X.N.Nodup) (hi : X.N[i]? = some x := by rfl) (hx : Loc X.env.scope x := by first | exact Or.inl rfl | exact Or.inr rfl)
    (hf : X.fn x = true ∨ X.env.scope.names.lookup x = some .local := by first | exact .inl rfl | exact .inr rfl | assumption) : CS X We xa (.AugAssign (.Name x pos') .Mult e pos) (augC mulD i A) := ⟨fun ρ o hM => by
  unfold augC at hM
  split at hM
  · rename_i d0 h0
    rcases bs_some hM with ⟨d, ρ1, h3, h4⟩ | ⟨c, d, ρ1, h3, rfl⟩
    · split at h4
      · rename_i z hz
        cases h4
        unfold mulD at hz
        split at hz
        · split at hz
          · rename_i hc
            cases hz
            show HS X We _ _ (.nx (S xa _))
            rw [← S_im]
            exact st_augMul i hc (S_get h0) (he.run _ _ h3) hN hi hx hf
          · cases hz
        · cases hz
      · cases h4
    · refine (ps_aug hN hi hx (he.run _ _ h3) ip_mul hf).imp fun D σ H ⟨w, e1, R1, q⟩ => ?_
      obtain ⟨z, hz, y, ey, hy⟩ := R1.sl i _ (S_get h0)
      subst ey
      exact ⟨y, hz, w, e1, R1, fun w' d v R' l n => q σ w' d v R' l n⟩
  · cases hM⟩
/-! ### comb -/
def combI (n k : Int) : Int := PySem.W.mcComb n k
def combD : D → D → Option D
  | .int n, .int k => if 0 ≤ n ∧ n ≤ 18000 ∧ 0 ≤ k then some (.int (combI n k)) else none
  | _, _ => none
@[simp] theorem combD_int {n k : Int} : combD (.int n) (.int k) = if 0 ≤ n ∧ n ≤ 18000 ∧ 0 ≤ k then some (.int (combI n k)) else none := rfl
def rComb : List V → Hp → VK → Prop := fun vs H Q => ∃ n k : Int, vs = [.int n, .int k] ∧ 0 ≤ n ∧ n ≤ 18000 ∧ 0 ≤ k ∧ Q (.int (combI n k)) H
theorem cr_comb : CallR X (.builtin "math.comb") rComb := by
  intro pins s σ H vs us Q I r h
  obtain ⟨n, k, rfl, h1, h2, h3, q⟩ := h
  obtain ⟨t, u, rfl⟩ := Vals.int2 r
  exact PySem.W.mc_comb h1 h3 (by omega) (.inr h2) fun _ => ⟨.int _, H, I.tok _, ⟨_, rfl⟩, q⟩
theorem ce_comb (ha : CE X We xa a A) (hb : CE X We xa b B) (hm : X.mg "comb" = some (.builtin "math.comb")) (hg : Gl X "comb" := by rfl) (hs : starEach [a, b] X.env = (false, eval a X.env) :: starEach [b] X.env := by rfl) (hs2 : starEach [b] X.env = (false, eval b X.env) :: starEach [] X.env := by rfl) (hpl : (backTo pos (starEach [b] X.env)).any (·.1) = false := by rfl) :
    CE X We xa (.Call (.Name "comb" p) [a, b] [] pos) (binC combD A B) := ⟨fun ρ r hM => by
  rcases bd_some hM with ⟨x, ρ1, h1, h2⟩ | ⟨c, d, ρ1, h1, rfl⟩
  · rcases bd_some h2 with ⟨y, ρ2, h3, h4⟩ | ⟨c, d, ρ2, h3, rfl⟩
    · obtain ⟨z, h5, rfl⟩ := lf_ok h4
      unfold combD at h5
      split at h5
      · rename_i n k
        split at h5
        · rename_i hc
          cases h5
          refine (pe_callBfun cr_comb hg hm (pa_cons (ha.run _ _ h1) (pa_cons (hb.run _ _ h3) pa_nil hs2) hs) (he := hs) (hpl := hpl)).imp fun σ H Q ⟨w, e1, R1, q⟩ => ?_
          refine ⟨w, e1, R1, fun v w' R' l hv => ⟨w', rfl, R', fun v2 w2 R2 l2 hv2 => ?_⟩⟩
          have hv : v = .int n := hv
          have hv2 : v2 = .int k := hv2
          subst hv hv2
          exact ⟨n, k, rfl, hc.1, hc.2.1, hc.2.2, q _ w2 R2 (l.trans l2) rfl⟩
        · cases h5
      · cases h5
    · exact (pe_callBfun cr_comb hg hm (pa_cons (ha.run _ _ h1) (pa_cons (hb.run _ _ h3) pa_nil hs2) hs) (he := hs) (hpl := hpl)).imp fun σ H Q ⟨w, e1, R1, q⟩ => ⟨w, e1, R1, fun v w' R' l _ => ⟨w', rfl, R', fun w2 d u R2 l2 n => q w2 d u R2 (l.trans l2) (l.none n)⟩⟩
  · exact (pe_callBfun cr_comb hg hm (pa_cons (ha.run _ _ h1) (pa_cons pe_no pa_nil hs2) hs) (he := hs) (hpl := hpl)).imp fun σ H Q q => q⟩
end
/-! ### targets of any number -/
def tGL (K : PySem.W.Frag) (ds : List D) (env env' : List Slot) (is : List Nat) : TGs := fun us σ H Q => ∃ w : Wd, w.H = H ∧ Rep K env σ w ∧ Al D K w.Hi ds us ∧ ∀ σ' w', Rep K env' σ' w' → Le w w' → But is σ σ' → Q σ' w'.H
structure CGs (X : Cx) (xa : Xa) (es : List Expr) (vs : List Nat) (M : List D → PE' → Option PE') : Prop where
  len : ∀ ds ρ ρ', M ds ρ = some ρ' → ds.length = es.length
  run : ∀ ds ρ ρ', M ds ρ = some ρ' → PGs X es (tGL X.K ds (S xa ρ) (S xa ρ') vs)
def tgZ : List D → PE' → Option PE'
  | [], ρ => some ρ
  | _ :: _, _ => none
def tgS (t : D → PE' → Option PE') (u : List D → PE' → Option PE') : List D → PE' → Option PE'
  | d :: ds, ρ => (t d ρ).bind (u ds)
  | [], _ => none
def tgA (u : List D → PE' → Option PE') : D → PE' → Option PE'
  | .tup ds, ρ => u ds ρ
  | _, _ => none
@[simp] theorem tgZ_ {ρ : PE'} : tgZ [] ρ = some ρ := rfl
@[simp] theorem tgS_ {t : D → PE' → Option PE'} {u : List D → PE' → Option PE'} {d : D} {ds : List D} {ρ : PE'} : tgS t u (d :: ds) ρ = (t d ρ).bind (u ds) := rfl
@[simp] theorem tgA_ {u : List D → PE' → Option PE'} {ds : List D} {ρ : PE'} : tgA u (.tup ds) ρ = u ds ρ := rfl
section
variable {X : Cx} {xa : Xa} {pos : Pos}
theorem cgs_nil : CGs X xa [] [] tgZ where
  len := fun ds ρ ρ' h => by
    cases ds with
    | nil => rfl
    | cons d ds => cases h
  run := fun ds ρ ρ' h => by
    cases ds with
    | nil =>
      cases h
      exact ⟨fun pins s σ H vs us Q I r ⟨w, e1, R1, al, q⟩ => pgs_nil.run pins s σ H vs us Q I r ⟨al, by rw [← e1]; exact q σ w R1 (Le.refl w) (But.refl _ σ)⟩⟩
    | cons d ds => cases h
theorem cgs_cons {e : Expr} {es : List Expr} {is js : List Nat} {t : D → PE' → Option PE'} {u : List D → PE' → Option PE'} (ha : CG X xa e is t) (hb : CGs X xa es js u)
    (hs : (assignEach (e :: es) X.env).map (·.2) = assign e X.env :: (assignEach es X.env).map (·.2) := by rfl) : CGs X xa (e :: es) (is ++ js) (tgS t u) where
  len := fun ds ρ ρ' h => by
    cases ds with
    | nil => cases h
    | cons d ds =>
      rw [tgS_] at h
      cases h1 : t d ρ with
      | none => rw [h1] at h; cases h
      | some ρ1 =>
        rw [h1] at h
        rw [List.length_cons, List.length_cons, hb.len _ _ _ h]
  run := fun ds ρ ρ' h => by
    cases ds with
    | nil => cases h
    | cons d ds =>
      rw [tgS_] at h
      cases h1 : t d ρ with
      | none => rw [h1] at h; cases h
      | some ρ1 =>
        rw [h1] at h
        refine ⟨fun pins s σ H vs us Q I r ⟨w, e1, R1, ⟨v, r1, ev, rv1, al⟩, q⟩ => ?_⟩
        refine (pgs_cons (ha.run _ _ _ h1) (hb.run _ _ _ h) hs).run pins s σ H vs us Q I r ⟨v, r1, ev, w, e1, R1, rv1, fun σ1 w1 R2 l1 B1 => ⟨w1, rfl, R2, Al.mono l1.hi al, fun σ2 w2 R3 l2 B2 => q σ2 w2 R3 (l1.trans l2) (B1.trans B2)⟩⟩
theorem cg_tupN {es : List Expr} {k : Nat} {is : List Nat} {u : List D → PE' → Option PE'} (hc : X.calm = true) (h : CGs X xa es is u) (hn : (assignEach es X.env).length = es.length := by rfl) (hst : (assignEach es X.env).findIdx? (·.1) = none := by rfl) : CG X xa (.Tuple es k pos) is (tgA u) := ⟨fun d ρ ρ' hM => by
  unfold tgA at hM
  split at hM
  · rename_i ds
    have hl := h.len _ _ _ hM
    rw [rv_tup]
    exact (pg_tup hc (h.run _ _ _ hM) hn hst).imp fun v σ H Q ⟨w, e1, R1, ⟨t, vs, e2, h1, al⟩, q⟩ => by
      subst e1
      exact ⟨t, vs, e2, Ex.t R1.ok.sub h1, al.len.trans hl, w, rfl, R1, al, q⟩
  · cases hM⟩
end
end BC

/-! Lists of lists that grow. -/
namespace BC
open PySem PySem.Spec PyProof.Rows L2
variable [TabL]
def fillN (H : Hp) (ads : List Addr) : Hp := fun b => if b ∈ ads then some (.lst []) else H b
/-- empty lists in a list -/
def tL2 (K : PySem.W.Frag) (env env' : List Slot) (n : Nat) : TE := fun σ H Q => ∃ w : Wd, w.H = H ∧ Rep K env σ w ∧ ∀ p ads w', Rep K env' σ w' → Le w w' → w'.H p = none → ads.length = n → ads.Nodup → p ∉ ads → (∀ b ∈ ads, w'.H b = none) → Q (.ref p) (upd (fillN w'.H ads) p (.lst (ads.map V.ref)))
/-- the new things stand beside -/
def Wd.lay (w : Wd) (ads : List Addr) (D : Addr) : Wd := { w with H := upd (fillN w.H ads) D (.lst (ads.map V.ref)) }
def Wd.hide (w : Wd) (ads : List Addr) (D : Addr) : Wd := { w with H := fun b => if b = D ∨ b ∈ ads then none else w.H b }
section
variable {K : PySem.W.Frag} {env : List Slot} {σ : L2.St} {w : Wd} {ads : List Addr} {D : Addr}
theorem lay_at {b : Addr} (h : ¬ (b = D ∨ b ∈ ads)) : (w.lay ads D).H b = w.H b := by
  show upd (fillN w.H ads) D _ b = _
  rw [upd_ne fun z => h (.inl z)]
  exact if_neg fun z => h (.inr z)
theorem lay_ok (ok : w.Ok) (hD : w.H D = none) (ha : ∀ b ∈ ads, w.H b = none) : (w.lay ads D).Ok := by
  have nn : ∀ b, w.H b ≠ none → ¬ (b = D ∨ b ∈ ads) := fun b hb z => hb (z.elim (fun e => by rw [e]; exact hD) (ha b))
  refine ⟨fun b u hb => ?_, fun b j hb => ⟨(ok.ho b j hb).1, ?_⟩, fun b j hb => ?_, tabs_mv ok ok.tb.1 fun b u hb _ => (lay_at (nn b (by rw [hb]; simp))).trans hb⟩
  · have := ok.sub b u hb
    rw [lay_at (nn b (by rw [this]; simp))]
    exact this
  · rw [lay_at (nn b (ok.ho b j hb).2)]
    exact (ok.ho b j hb).2
  · rw [lay_at (nn b (ok.ho b j hb).2)]
    exact ok.pl b j hb
theorem lay_rep (R : Rep K env σ w) (hD : w.H D = none) (ha : ∀ b ∈ ads, w.H b = none) : Rep K env σ (w.lay ads D) :=
  R.to (lay_ok R.ok hD ha) (Ex.refl _) (fun c j hc => ⟨hc, lay_at fun z => (R.ok.ho c j hc).2 (z.elim (fun e => by rw [e]; exact hD) (ha c))⟩) rfl
theorem lay_le (hD : w.H D = none) (ha : ∀ b ∈ ads, w.H b = none) : Le w (w.lay ads D) := by
  have nn : ∀ b, w.H b ≠ none → ¬ (b = D ∨ b ∈ ads) := fun b hb z => hb (z.elim (fun e => by rw [e]; exact hD) (ha b))
  refine ⟨Ex.refl _, fun b u hb hk _ => ⟨?_, hk, rfl⟩, fun b hb => ?_, rfl, fun b u hb n => ⟨u, (lay_at (nn b (by rw [hb]; simp))).trans hb, n⟩⟩
  · rw [lay_at (nn b (by rw [hb]; simp))]
    exact hb
  · rw [lay_at (nn b hb)]
    exact hb
end
section
variable {X : Cx} {We : WX} {env env1 envo : List Slot} {elt tg iter : Expr} {scope : Scope} {own' : List (Str × Nat)} {pos spos : Pos} {xs : List VP}
def cEL (X : Cx) (scope : Scope) (elt : Expr) : TE := fun σ H Q => ∃ env env', (∀ s H C cl fp, HL (blkX X scope s H C cl fp) elt env env' ([] : List BC.D)) ∧ ∃ w : Wd, w.H = H ∧ Rep X.K env σ w ∧ ∀ p vs w', Rep X.K env' σ w' → Le w w' → w'.H p = none → Al BC.D X.K w'.Hi [] vs → Q (.ref p) (upd w'.H p (.lst vs))
theorem to_lc2 {vs : List Nat} (hz : xs.length ≤ 100000) (hg : ∀ P ∈ xs, ∃ env2, (∀ s H C cl fp, HG (blkX X scope s H C cl fp) tg P (wipeE env1 vs) env2 vs) ∧ wipeE env2 vs = wipeE env1 vs) (he : ∀ env s H C cl fp, HL (blkX X scope s H C cl fp) elt env env ([] : List BC.D)) (ho : LcEnv vs env1 (wipeE env1 vs) envo) :
    ∀ σ H Q, tL2 X.K env envo xs.length σ H Q → tLc (tI X.K env env1 xs) (cG X scope tg vs) (cT X scope []) (cEL X scope elt) vs σ H Q := by
  rintro σ H Q ⟨w, e1, R1, q⟩
  refine ⟨w, e1, R1, fun J w1 R2 l1 wk D hD => ?_⟩
  obtain ⟨hDi, hDo⟩ := R2.ok.fresh hD
  let Wn : Nat → Nat → Hp → Prop := fun i m H => m = xs.length - i ∧ i ≤ xs.length ∧ ∃ (w2 : Wd) (ads : List Addr), H = (w2.lay ads D).H ∧ w2.H D = none ∧ (∀ b ∈ ads, w2.H b = none) ∧ D ∉ ads ∧ ads.Nodup ∧ ads.length = i ∧ Rep X.K (wipeE env1 vs) (wipe σ vs) w2 ∧ Le w1 w2
  refine ⟨Wn, ⟨xs.length, rfl, Nat.zero_le _, w1, [], ?_, hD, fun b hb => by simp at hb, by simp, List.nodup_nil, rfl, R2.wiped (wipe_but σ vs), Le.refl _⟩, ?_⟩
  · funext b
    by_cases z : b = D
    · subst z
      rw [upd_same]
      exact upd_same.symm
    · rw [upd_ne z, lay_at (by simp [z])]
  rintro i m H2 ⟨rfl, hi, w2, ads, rfl, hD2, ha2, nD, nd, hlen, R3, l2⟩
  have R3' := lay_rep R3 hD2 ha2
  have l2' := l2.trans (lay_le hD2 ha2)
  by_cases hlt : i < xs.length
  · refine .inr ⟨wk.go i _ l2' R3'.ok hlt, fun H' => ∃ m', m' < xs.length - i ∧ Wn (i + 1) m' H', fun H' h => h, fun x H3 y => ?_⟩
    have hx : xs[i]? = some xs[i] := by simp [hlt]
    obtain ⟨w3, rfl, l3, p3, k3⟩ := wk.yld i _ x H3 _ l2' R3'.ok hx y
    have R4 := k3 _ _ R3'
    obtain ⟨env2, hg2, hw2⟩ := hg xs[i] (List.getElem_mem hlt)
    refine ⟨_, _, _, hg2, w3, rfl, R4, p3, fun σ5 w5 R5 l5 B5 => ⟨wipe_eq B5, _, _, true, fun s H C cl fp => hts_nil, w5, rfl, R5, fun w6 R6 l6 => iteT ⟨_, _, he env2, w6, rfl, R6, fun p vs' w7 R7 l7 hp al => ?_⟩⟩⟩
    have al : vs' = [] := al
    subst al
    have lt := ((l3.trans l5).trans l6).trans l7
    -- what was laid is as it was
    have kept : ∀ b, (b = D ∨ b ∈ ads) → w7.H b = (w2.lay ads D).H b ∧ w7.O b = none ∧ w7.Hi b = none ∧ w7.H b ≠ none := fun b hb => by
      have h2 : w2.H b = none := hb.elim (fun e => by rw [e]; exact hD2) (ha2 b)
      obtain ⟨f1, f2⟩ := R3.ok.fresh h2
      have hs : ∃ vs, (w2.lay ads D).H b = some (.lst vs) := by
        by_cases z : b = D
        · subst z
          exact ⟨_, upd_same⟩
        · exact ⟨_, (upd_ne z).trans (if_pos (hb.resolve_left z))⟩
      obtain ⟨vs, ho2⟩ := hs
      obtain ⟨g1, g2, g3⟩ := lt.kp b _ ho2 f2 nt_lst
      exact ⟨g1.trans ho2.symm, g2, g3.trans f1, by rw [g1]; simp⟩
    have hDH : (w2.lay ads D).H D = some (.lst (ads.map V.ref)) := upd_same
    have pD : p ≠ D := fun z => by
      have := (kept D (.inl rfl)).2.2.2
      rw [← z] at this
      exact this hp
    have pA : p ∉ ads := fun z => (kept p (.inr z)).2.2.2 hp
    refine ⟨ads.map V.ref, ?_, by rw [List.length_map, hlen]; exact Nat.lt_of_lt_of_le (Nat.lt_of_lt_of_le hlt hz) (by decide), xs.length - (i + 1), by omega, rfl, hlt, w7.hide ads D, ads ++ [p], ?_, if_pos (.inl rfl), fun b hb => ?_, ?_, ?_, ?_, ?_, ?_⟩
    · rw [upd_ne pD.symm, (kept D (.inl rfl)).1]
      exact hDH
    · funext b
      by_cases z : b = D
      · subst z
        rw [upd_same]
        show _ = upd _ _ _ _
        rw [upd_same, List.map_append]
        rfl
      · rw [upd_ne z]
        show _ = upd _ _ _ _
        rw [upd_ne z]
        unfold fillN
        by_cases zp : b = p
        · subst zp
          rw [upd_same, if_pos (by simp)]
        · rw [upd_ne zp]
          by_cases za : b ∈ ads
          · rw [if_pos (by simp [za]), (kept b (.inr za)).1]
            exact (upd_ne z).trans (if_pos za)
          · rw [if_neg (by simp [za, zp])]
            exact (if_neg (by simp [z, za])).symm
    · rcases List.mem_append.mp hb with hb | hb
      · exact if_pos (.inr hb)
      · rw [List.mem_singleton] at hb
        subst hb
        show (if b = D ∨ b ∈ ads then none else w7.H b) = none
        split
        · rfl
        · exact hp
    · simp [nD, pD.symm]
    · rw [List.nodup_append]
      refine ⟨nd, by simp, fun a ha b hb => ?_⟩
      rw [List.mem_singleton] at hb
      subst hb
      exact fun z => pA (by rw [← z]; exact ha)
    · rw [List.length_append, hlen]; rfl
    · have R8 : Rep X.K (wipeE env2 vs) (wipe σ vs) w7 := R7.wiped ⟨B5.1.symm, fun j hj => (B5.2 j hj).symm⟩
      rw [hw2] at R8
      have klst : ∀ b, (b = D ∨ b ∈ ads) → ∃ vs, w7.H b = some (.lst vs) := fun b hb => by
        rw [(kept b hb).1]
        by_cases z : b = D
        · subst z
          exact ⟨_, upd_same⟩
        · exact ⟨_, (upd_ne z).trans (if_pos (hb.resolve_left z))⟩
      have nO : ∀ b j, w7.O b = some j → ¬ (b = D ∨ b ∈ ads) := fun b j hb z => by
        rw [(kept b z).2.1] at hb
        cases hb
      refine R8.to ⟨fun b u hb => ?_, fun b j hb => ⟨(R8.ok.ho b j hb).1, ?_⟩, fun b j hb => ?_, tabs_mv R8.ok R8.ok.tb.1 fun b u hb hu => (if_neg fun z => by
          obtain ⟨vs, e⟩ := klst b z
          rw [e] at hb
          cases hb
          rcases hu with ⟨ps, e⟩ | ⟨f, e⟩ <;> cases e).trans hb⟩ (Ex.refl _) (fun c j hc => ⟨hc, ?_⟩) rfl
      rotate_left 2
      · show (∀ ps, (if b = D ∨ b ∈ ads then none else w7.H b) ≠ some (.tbl ps)) ∧ ∀ f, (if b = D ∨ b ∈ ads then none else w7.H b) ≠ some (.ext f)
        rw [if_neg (nO b j hb)]
        exact R8.ok.pl b j hb
      rotate_left 1
      · have : ¬ (b = D ∨ b ∈ ads) := fun z => by
          have h := (kept b z).2.2.1
          have hb : w7.Hi b = some u := hb
          rw [h] at hb
          cases hb
        exact (if_neg this).trans (R8.ok.sub b u hb)
      · have : ¬ (b = D ∨ b ∈ ads) := fun z => by
          have h := (kept b z).2.1
          have hb : w7.O b = some j := hb
          rw [h] at hb
          cases hb
        show (if b = D ∨ b ∈ ads then none else w7.H b) ≠ none
        rw [if_neg this]
        exact (R8.ok.ho b j hb).2
      · have : ¬ (c = D ∨ c ∈ ads) := fun z => by
          have h := (kept c z).2.1
          rw [h] at hc
          cases hc
        exact if_neg this
    · have l8 := l2'.trans lt
      have nn : ∀ b, w1.H b ≠ none → ¬ (b = D ∨ b ∈ ads) := fun b hb z => by
        have := l2.dm b hb
        exact this (z.elim (fun e => by rw [e]; exact hD2) (ha2 b))
      refine ⟨l8.hi, fun b u hb hk nt => ?_, fun b hb => ?_, l8.pa, fun b u hb n => by
        obtain ⟨o1, h1', n1⟩ := l8.tx b u hb n
        exact ⟨o1, (if_neg (nn b (by rw [hb]; simp))).trans h1', n1⟩⟩
      · obtain ⟨g1, g2, g3⟩ := l8.kp b u hb hk nt
        exact ⟨(if_neg (nn b (by rw [hb]; simp))).trans g1, g2, g3⟩
      · show (if b = D ∨ b ∈ ads then none else w7.H b) ≠ none
        rw [if_neg (nn b hb)]
        exact l8.dm b hb
  · have hi' : i = xs.length := Nat.le_antisymm hi (Nat.le_of_not_lt hlt)
    refine .inl ⟨wk.stop i _ l2' R3'.ok hi', ?_⟩
    refine q D ads w2 ?_ (l1.trans l2) hD2 (hlen.trans hi') nd nD ha2
    refine ⟨R3.ok, by rw [ho.len, ← R3.len, wipe_length], fun j s hs => ?_⟩
    rcases ho.out j s hs with ⟨h1, h2⟩ | ⟨h1, h2 | ⟨P', h2, h3⟩⟩
    · obtain ⟨x, h3, h4⟩ := R3.sl j s h2
      exact ⟨x, ((wipe_but σ vs).2 j h1).symm.trans h3, h4⟩
    · have hl : j < σ.length := by
        rw [← wipe_length σ vs, R3.len, ← ho.len]
        exact (List.getElem?_eq_some_iff.mp hs).1
      exact ⟨σ[j], List.getElem?_eq_getElem hl, by rw [h2]; trivial⟩
    · obtain ⟨x, h4, v, h5, h6⟩ := R2.sl j _ h3
      exact ⟨x, h4, by rw [h2]; exact ⟨v, h5, P'.mono l2.hi h6⟩⟩
end
/-- the new lists are slot i's -/
def Wd.give (w : Wd) (i : Nat) (ads : List Addr) (D : Addr) : Wd := { w.lay ads D with O := fun b => if b = D ∨ b ∈ ads then some i else w.O b }
theorem give_al {K : PySem.W.Frag} {i : Nat} {w : Wd} {D : Addr} {all : List Addr} (nD : D ∉ all) : ∀ (ads : List Addr), (∀ b ∈ ads, b ∈ all) → Al2 K i (w.give i all D) ads (List.replicate ads.length [])
  | [], _ => trivial
  | b :: bs, h => by
    have hb := h b List.mem_cons_self
    have n : b ≠ D := fun z => nD (by rw [← z]; exact hb)
    refine ⟨if_pos (.inr hb), ⟨[], (upd_ne n).trans (if_pos hb), rfl⟩, give_al nD bs fun c hc => h c (List.mem_cons_of_mem _ hc)⟩
theorem give_rep {K : PySem.W.Frag} {env : List Slot} {σ : L2.St} {w : Wd} {i : Nat} {ads : List Addr} {D : Addr} (R : Rep K env σ w) (hD : w.H D = none) (nd : ads.Nodup) (nD : D ∉ ads) (ha : ∀ b ∈ ads, w.H b = none) : Rep K (env.set i (own2 (List.replicate ads.length []))) (σ.set i (some (.ref D))) (w.give i ads D) ∧ Le w (w.give i ads D) := by
  have R1 := lay_rep R hD ha
  have nn : ∀ b, w.H b ≠ none → ¬ (b = D ∨ b ∈ ads) := fun b hb z => hb (z.elim (fun e => by rw [e]; exact hD) (ha b))
  have inH : ∀ b, (b = D ∨ b ∈ ads) → (w.lay ads D).H b ≠ none := fun b hb => by
    by_cases z : b = D
    · subst z
      show upd _ _ _ b ≠ none
      rw [upd_same]; simp
    · show upd _ _ _ b ≠ none
      rw [upd_ne z]
      unfold fillN
      rw [if_pos (hb.resolve_left z)]; simp
  have fr : ∀ b, (b = D ∨ b ∈ ads) → w.Hi b = none := fun b hb => (R.ok.fresh (hb.elim (fun e => by rw [e]; exact hD) (ha b))).1
  have ilst : ∀ b, (b = D ∨ b ∈ ads) → ∃ vs, (w.lay ads D).H b = some (.lst vs) := fun b hb => by
    by_cases z : b = D
    · subst z
      exact ⟨_, upd_same⟩
    · exact ⟨_, (upd_ne z).trans (if_pos (hb.resolve_left z))⟩
  have ok : (w.give i ads D).Ok := by
    refine ⟨R1.ok.sub, fun b j hb => ?_, fun b j hb => ?_, R1.ok.tb⟩
    rotate_left
    · by_cases z : b = D ∨ b ∈ ads
      · obtain ⟨vs, e⟩ := ilst b z
        exact lst_pl e
      · have h2 : (if b = D ∨ b ∈ ads then some i else w.O b) = some j := hb
        rw [if_neg z] at h2
        exact R1.ok.pl b j h2
    by_cases z : b = D ∨ b ∈ ads
    · exact ⟨fr b z, inH b z⟩
    · have h2 : (if b = D ∨ b ∈ ads then some i else w.O b) = some j := hb
      rw [if_neg z] at h2
      exact R1.ok.ho b j h2
  have R2 : Rep K env σ (w.give i ads D) := R1.to ok (Ex.refl _) (fun c j hc => ⟨(if_neg (nn c (R.ok.ho c j hc).2)).trans hc, rfl⟩) rfl
  refine ⟨R2.set ⟨D, ads, rfl, if_pos (.inl rfl), upd_same, nD, nd, give_al nD ads fun b hb => hb⟩, ?_⟩
  have l := lay_le hD ha
  refine ⟨Ex.refl _, fun b u hb hk nt => ⟨(l.kp b u hb hk nt).1, (if_neg (nn b (by rw [hb]; simp))).trans hk, rfl⟩, l.dm, rfl, l.tx⟩
section
variable {X : Cx} {We : WX} {xa : Xa} {tg iter : Expr} {I : Cp (List BC.D)} {scope : Scope} {pos spos apos : Pos}
/-- so many empty lists -/
def emC (I : Cp (List BC.D)) (v : Nat) : Cp Nat := fun ρ => match I ρ with
  | some (.ok xs ρ1) => if xs.length ≤ 100000 then some (.ok xs.length (reS ρ1 [v] (wipS ρ1 [v]))) else none
  | _ => none
theorem emC_ok {v : Nat} {ρ ρ1 : PE'} {xs : List BC.D} (h : I ρ = some (.ok xs ρ1)) (hz : xs.length ≤ 100000) : emC I v ρ = some (.ok xs.length (reS ρ1 [v] (wipS ρ1 [v]))) := by
  unfold emC
  rw [h]
  exact if_pos hz
def set2 (i : Nat) (M : Cp Nat) : Cs := fun ρ => match M ρ with
  | some (.ok n ρ1) => some (.nx (ρ1.set i (.own2 (List.replicate n []))))
  | _ => none
@[simp] theorem set2_ {i : Nat} {M : Cp Nat} {ρ : PE'} : set2 i M ρ = match M ρ with
  | some (.ok n ρ1) => some (.nx (ρ1.set i (.own2 (List.replicate n []))))
  | _ => none := rfl
theorem ixN_lt {n k : Nat} {j : Int} (h : ixN n j = some k) : k < n := (ixN_seq h).2.1
theorem rvs_mem {xs : List BC.D} {P : VP} (h : P ∈ rvs xs) : ∃ d : BC.D, P = rv d := by
  unfold rvs at h
  obtain ⟨d, _, e⟩ := List.mem_map.mp h
  exact ⟨d, e.symm⟩
/-- name = [[] for v in ..] on one line -/
theorem cs_own2Lc (i v : Nat) {y nm : Str} {py p2 : Pos} {own' : List (Str × Nat)} (hc : X.calm = true) (hN : X.N.Nodup) (hi : CI X xa (.Name nm p2) iter I) (ok : BlkOk X.N X.env.scope scope own') (hvs : own'.map (·.2) = [v]) (hg : ∀ s H C cl fp, CG (blkX X scope s H C cl fp) xa (.Name nm p2) [v] (tgN v))
    {p3 : Pos} (hy : X.N[i]? = some y := by rfl) (hyl : X.env.scope.names.lookup y = some .local := by rfl) (hsw : swapsWith (.ListComp (.List [] p3) [⟨.Name nm p2, iter, [], 0⟩] scope pos) (some (.Name y py)) spos.line X.env = pure true := by rfl) (hs : ∀ x, foldedSetIterable iter X.env x = pure x := by intro _; rfl) :
    CS X We xa (.Assign [.Name y py] (.ListComp (.List [] p3) [⟨.Name nm p2, iter, [], 0⟩] scope pos) spos) (set2 i (emC I v)) := ⟨fun ρ o hM => by
  unfold set2 emC at hM
  split at hM
  · rename_i n ρ1 h1
    cases hM
    split at h1
    · rename_i xs ρ2 h2
      split at h1
      · rename_i hz
        cases h1
        show HS X We _ _ (.nx (S xa _))
        rw [← S_set]
        refine (ps_setLc (g := cG X scope (.Name nm p2) (own'.map (·.2))) (tt := cT X scope []) (te := cEL X scope (.List [] p3)) hc hN hy hyl hsw (hi.run _ _ _ h2) ok (fun _ _ _ _ _ => ⟨fun pins s σ H v u Q I r ⟨_, _, _, h, q⟩ => (h _ _ _ _ _).run pins s σ H v u Q I r q⟩) (fun _ _ _ _ _ => ⟨fun pins s σ H Q I ⟨_, _, _, h, q⟩ => (h _ _ _ _ _).run pins s σ H Q I q⟩)
          (fun _ _ _ _ _ => ⟨fun pins s σ H Q I ⟨_, _, h, q⟩ => (h _ _ _ _ _).run pins s σ H Q I q⟩) hs).imp fun D σ H ⟨w, e1, R1, q⟩ => ?_
        refine to_lc2 (envo := S xa (reS ρ2 [v] (wipS ρ2 [v]))) (by rw [rvs_len]; exact hz) (fun P hP => ?_) (fun env s H C cl fp => hl_lst ha_nil) (by rw [hvs, ← S_wip]; exact lcEnv_re) σ H _ ⟨w, e1, R1, fun p ads w' R' l hp hlen nd nD hA => ?_⟩
        · obtain ⟨d, rfl⟩ := rvs_mem hP
          rw [hvs, ← S_wip]
          refine ⟨S xa ((wipS ρ2 [v]).set v (.im d)), fun s H C cl fp => (hg s H C cl fp).run d _ _ rfl, ?_⟩
          rw [← S_wip]
          show S xa (((ρ2.set v .un).set v (.im d)).set v .un) = S xa (ρ2.set v .un)
          rw [List.set_set, List.set_set]
        · obtain ⟨R2, l2⟩ := give_rep (i := i) R' hp nd nD hA
          rw [hlen, rvs_len] at R2
          exact q _ (w'.give i ads p) R2 (l.trans l2)
      · cases h1
    · cases h1
  · cases hM⟩
/-- xs[j].append(y), all names -/
def apiN (i j k : Nat) : Cs := fun ρ => match ρ[i]?, ρ[j]?, ρ[k]? with
  | some (.own2 xss), some (.im (.int n)), some (.im d) => match ixN xss.length n with
    | some m => if (xss.getD m []).length ≤ 100000 then some (.nx (ρ.set i (.own2 (xss.set m (xss.getD m [] ++ [d]))))) else none
    | none => none
  | _, _, _ => none
theorem cs_appN (i j k : Nat) {x y z : Str} {q q2 q3 q4 : Pos} (hN : X.N[i]? = some x := by rfl) (hN2 : X.N[j]? = some y := by rfl) (hN3 : X.N[k]? = some z := by rfl)
    (hv : Vis X.env.scope x := by first | exact Or.inl rfl | exact Or.inr (Or.inl rfl) | exact Or.inr (Or.inr rfl)) (hd : (x == ("__debug__" : Str)) = false := by decide) (hcd : (x == ("__classdict__" : Str)) = false := by decide)
    (hv2 : Vis X.env.scope y := by first | exact Or.inl rfl | exact Or.inr (Or.inl rfl) | exact Or.inr (Or.inr rfl)) (hd2 : (y == ("__debug__" : Str)) = false := by decide) (hcd2 : (y == ("__classdict__" : Str)) = false := by decide)
    (hv3 : Vis X.env.scope z := by first | exact Or.inl rfl | exact Or.inr (Or.inl rfl) | exact Or.inr (Or.inr rfl)) (hd3 : (z == ("__debug__" : Str)) = false := by decide) (hcd3 : (z == ("__classdict__" : Str)) = false := by decide)
    (hs : swapsWith (.Call (.Attribute (.Subscript (.Name x q) (.Name y q2) q3) "append" apos) [.Name z q4] [] pos) none pos.line X.env = pure false := by rfl)
    (hbase : attributeBase (.Subscript (.Name x q) (.Name y q2) q3) "append" X.env (eval (.Subscript (.Name x q) (.Name y q2) q3) X.env) = eval (.Subscript (.Name x q) (.Name y q2) q3) X.env := by rfl)
    (hfew : ((backTo pos (starEach [.Name z q4] X.env)).all (fun x => !x.1) && (backToKw pos (keywordEach [] X.env)).all (fun x => x.1.isSome)
      && decide (([.Name z q4] : List Expr).length + ([] : List Keyword).length + (if ([] : List Keyword).isEmpty then 0 else 1) < 30)) = true := by rfl)
    (hline : (apos.endLine == pos.line) = true := by rfl) (hst : starEach [.Name z q4] X.env = (false, eval (.Name z q4) X.env) :: starEach [] X.env := by rfl) (hplain : (backTo pos (starEach [] X.env)).any (·.1) = false := by rfl) (hix : PlainIx (.Name y q2) := by intro _ _; rfl) :
    CS X We xa (.Expr (.Call (.Attribute (.Subscript (.Name x q) (.Name y q2) q3) "append" apos) [.Name z q4] [] pos) pos) (apiN i j k) := ⟨fun ρ o hM => by
  unfold apiN at hM
  split at hM
  · rename_i xss n d h1 h2 h3
    split at hM
    · rename_i m hm
      split at hM
      · rename_i hz
        cases hM
        show HS X We _ _ (.nx (S xa _))
        rw [← S_set]
        refine (ps_expr (pe_bm PySem.F.plainAttrs_list PySem.F.slot_list_append PySem.F.type_list_append mt_append (pe_ix ix_list (pe_var hN hv hd hcd) (pe_var hN2 hv2 hd2 hcd2) hix) (pa_cons (pe_var hN3 hv3 hd3 hcd3) pa_nil hst) hbase hfew hline hst hplain) hs).imp fun D σ H ⟨w, e1, R1, q⟩ => ?_
        subst e1
        obtain ⟨xa', hx, a, ads, ex, hO, hH, nA, nd, al⟩ := R1.sl i _ (S_get h1)
        subst ex
        obtain ⟨xb, hy, yv, eyv, py⟩ := R1.sl j _ (S_get h2)
        subst eyv
        have py : yv = .int n := py
        subst py
        obtain ⟨xc, hzv, zv, ezv, pz⟩ := R1.sl k _ (S_get h3)
        subst ezv
        have hml : m < xss.length := ixN_lt hm
        have hxs : xss[m]? = some (xss.getD m []) := by rw [List.getD_eq_getElem?_getD, List.getElem?_eq_getElem hml]; rfl
        obtain ⟨b, vs, hb, hbO, hbH, alb⟩ := al.get hxs
        have hat : atI (ads.map V.ref) n = some (.ref b) := by
          unfold atI
          rw [List.length_map, al.len, hm]
          show (ads.map V.ref)[m]? = _
          rw [List.getElem?_map, hb]
          rfl
        refine ⟨.ref a, hx, .int n, hy, a, ads.map V.ref, n, .ref b, rfl, rfl, SqL.of hH, hat, ?_⟩
        refine ⟨.inl ⟨rfl, vs, SqL.of hbH⟩, zv, hzv, b, vs, zv, rfl, rfl, hbH, by rw [alb.len]; exact Nat.lt_of_le_of_lt hz (by decide), ?_⟩
        have hcb : a ≠ b := fun e => nA (by rw [e]; exact List.mem_of_getElem? hb)
        have al' := Al2.wr hbO (Al.app alb (Al.cons pz Al.nil)) al nd hb
        obtain ⟨R2, l2⟩ := wr_rep (s := own2 (xss.set m (xss.getD m [] ++ [d]))) (vs := vs ++ [zv]) R1 hbO hx ⟨a, ads, rfl, hO, (upd_ne hcb).trans hH, nA, nd, al'⟩
        exact q σ _ R2 l2
      · cases hM
    · cases hM
  · cases hM⟩
structure CL2 (X : Cx) (xa : Xa) (e : Expr) (M : Cp Nat) : Prop where
  run : ∀ ρ n ρ', M ρ = some (.ok n ρ') → PE X e (tL2 X.K (S xa ρ) (S xa ρ') n)
theorem cl2_lc (v : Nat) {nm : Str} {p2 : Pos} {own' : List (Str × Nat)} (hc : X.calm = true) (hN : X.N.Nodup) (hi : CI X xa (.Name nm p2) iter I) (ok : BlkOk X.N X.env.scope scope own') (hvs : own'.map (·.2) = [v]) (hg : ∀ s H C cl fp, CG (blkX X scope s H C cl fp) xa (.Name nm p2) [v] (tgN v))
    {p3 : Pos} (hs : ∀ x, foldedSetIterable iter X.env x = pure x := by intro _; rfl) : CL2 X xa (.ListComp (.List [] p3) [⟨.Name nm p2, iter, [], 0⟩] scope pos) (emC I v) := ⟨fun ρ n ρ' h1 => by
  unfold emC at h1
  split at h1
  · rename_i xs ρ2 h2
    split at h1
    · rename_i hz
      cases h1
      refine (pe_lc (g := cG X scope (.Name nm p2) (own'.map (·.2))) (tt := cT X scope []) (te := cEL X scope (.List [] p3)) hc hN (hi.run _ _ _ h2) ok (fun _ _ _ _ _ => ⟨fun pins s σ H v u Q I r ⟨_, _, _, h, q⟩ => (h _ _ _ _ _).run pins s σ H v u Q I r q⟩) (fun _ _ _ _ _ => ⟨fun pins s σ H Q I ⟨_, _, _, h, q⟩ => (h _ _ _ _ _).run pins s σ H Q I q⟩)
        (fun _ _ _ _ _ => ⟨fun pins s σ H Q I ⟨_, _, h, q⟩ => (h _ _ _ _ _).run pins s σ H Q I q⟩) hs).imp fun σ H Q q => ?_
      have e : xs.length = (rvs xs).length := (rvs_len xs).symm
      rw [e] at q
      refine to_lc2 (envo := S xa (reS ρ2 [v] (wipS ρ2 [v]))) (by rw [rvs_len]; exact hz) (fun P hP => ?_) (fun env s H C cl fp => hl_lst ha_nil) (by rw [hvs, ← S_wip]; exact lcEnv_re) σ H _ q
      obtain ⟨d, rfl⟩ := rvs_mem hP
      rw [hvs, ← S_wip]
      refine ⟨S xa ((wipS ρ2 [v]).set v (.im d)), fun s H C cl fp => (hg s H C cl fp).run d _ _ rfl, ?_⟩
      rw [← S_wip]
      show S xa (((ρ2.set v .un).set v (.im d)).set v .un) = S xa (ρ2.set v .un)
      rw [List.set_set, List.set_set]
    · cases h1
  · cases h1⟩
def Wd.ado2 (w : Wd) (ads : List Addr) (p : Addr) (i : Nat) : Wd := { w with O := fun b => if b = p ∨ b ∈ ads then some i else w.O b }
theorem ado2_al {K : PySem.W.Frag} {i : Nat} {w : Wd} {p : Addr} {all : List Addr} (hH : ∀ b ∈ all, w.H b = some (.lst [])) : ∀ (ads : List Addr), (∀ b ∈ ads, b ∈ all) → Al2 K i (w.ado2 all p i) ads (List.replicate ads.length [])
  | [], _ => trivial
  | b :: bs, h => ⟨if_pos (.inr (h b List.mem_cons_self)), ⟨[], hH b (h b List.mem_cons_self), rfl⟩, ado2_al hH bs fun c hc => h c (List.mem_cons_of_mem _ hc)⟩
theorem ado2_rep {K : PySem.W.Frag} {env : List Slot} {σ : L2.St} {w w0 : Wd} {p : Addr} {ads : List Addr} {i : Nat} (R : Rep K env σ w) (l : Le (w0.lay ads p) w) (ok0 : w0.Ok) (h0 : w0.H p = none) (hA : ∀ b ∈ ads, w0.H b = none) (nd : ads.Nodup) (nD : p ∉ ads) :
    Rep K env σ (w.ado2 ads p i) ∧ Le w0 (w.ado2 ads p i) ∧ (own2 (List.replicate ads.length [])).p K i (some (.ref p)) (w.ado2 ads p i) := by
  have at_ : ∀ b vs, (b = p ∨ b ∈ ads) → (w0.lay ads p).H b = some (.lst vs) → w.H b = some (.lst vs) ∧ w.O b = none ∧ w.Hi b = none := fun b vs hb ho => by
    obtain ⟨f1, f2⟩ := ok0.fresh (hb.elim (fun e => by rw [e]; exact h0) (hA b))
    obtain ⟨g1, g2, g3⟩ := l.kp b _ ho f2 nt_lst
    exact ⟨g1, g2, g3.trans f1⟩
  have hp := at_ p _ (.inl rfl) upd_same
  have ha : ∀ b ∈ ads, w.H b = some (.lst []) ∧ w.O b = none ∧ w.Hi b = none := fun b hb => at_ b _ (.inr hb) ((upd_ne fun z => nD (by rw [← z]; exact hb)).trans (if_pos hb))
  have hall : ∀ b, (b = p ∨ b ∈ ads) → w.H b ≠ none ∧ w.O b = none ∧ w.Hi b = none := fun b hb => by
    rcases hb with z | z
    · subst z
      exact ⟨by rw [hp.1]; simp, hp.2⟩
    · exact ⟨by rw [(ha b z).1]; simp, (ha b z).2⟩
  have nn : ∀ b, w0.H b ≠ none → ¬ (b = p ∨ b ∈ ads) := fun b hb z => hb (z.elim (fun e => by rw [e]; exact h0) (hA b))
  have l2 := (lay_le h0 hA).trans l
  refine ⟨R.to ⟨R.ok.sub, fun b j hb => ?_, fun b j hb => ?_, R.ok.tb⟩ (Ex.refl _) (fun b j hb => ⟨?_, rfl⟩) rfl, ⟨l2.hi, fun b o hb hk nt => ?_, l2.dm, l2.pa, l2.tx⟩, p, ads, rfl, if_pos (.inl rfl), hp.1, nD, nd, ado2_al (fun b hb => (ha b hb).1) ads fun b hb => hb⟩
  · by_cases z : b = p ∨ b ∈ ads
    · exact ⟨(hall b z).2.2, (hall b z).1⟩
    · have : (if b = p ∨ b ∈ ads then some i else w.O b) = some j := hb
      rw [if_neg z] at this
      exact R.ok.ho b j this
  · by_cases z : b = p ∨ b ∈ ads
    · rcases z with z | z
      · subst z
        exact lst_pl hp.1
      · exact lst_pl (ha b z).1
    · have : (if b = p ∨ b ∈ ads then some i else w.O b) = some j := hb
      rw [if_neg z] at this
      exact R.ok.pl b j this
  · show (if b = p ∨ b ∈ ads then some i else w.O b) = some j
    rw [if_neg fun z => by rw [(hall b z).2.1] at hb; cases hb]
    exact hb
  · obtain ⟨g1, g2, g3⟩ := l2.kp b o hb hk nt
    exact ⟨g1, (if_neg (nn b (by rw [hb]; simp))).trans g2, g3⟩
def par2E (i j : Nat) (A : Cp Nat) (B : Cp BC.D) : Cs := fun ρ => match A ρ with
  | some (.ok n ρ1) => bs (B ρ1) fun d2 ρ2 => some (.nx ((ρ2.set i (.own2 (List.replicate n []))).set j (.im d2)))
  | _ => none
@[simp] theorem par2E_ {i j : Nat} {A : Cp Nat} {B : Cp BC.D} {ρ : PE'} : par2E i j A B ρ = match A ρ with
  | some (.ok n ρ1) => bs (B ρ1) fun d2 ρ2 => some (.nx ((ρ2.set i (.own2 (List.replicate n []))).set j (.im d2)))
  | _ => none := rfl
theorem cs_par2E (i j : Nat) {a b : Expr} {A : Cp Nat} {B : Cp BC.D} {x y : Str} {px py pt pt2 : Pos} {kt k2} (hc : X.calm = true) (hN : X.N.Nodup) (ha : CL2 X xa a A) (hb : CE X We xa b B) (hij : i ≠ j := by decide) (hi : X.N[i]? = some x := by rfl) (hj : X.N[j]? = some y := by rfl)
    (hx : X.env.scope.names.lookup x = some .local := by rfl) (hy : X.env.scope.names.lookup y = some .local := by rfl)
    (hw : swappedStores [.Tuple [.Name x px, .Name y py] kt pt] (.Tuple [a, b] k2 pt2) X.env = pure (some [x, y]) := by rfl)
    (hs : swapsWithSole [.Tuple [.Name x px, .Name y py] kt pt] (.Tuple [a, b] k2 pt2) pos.line X.env = pure false := by rfl)
    (hs1 : starEach [a, b] X.env = (false, eval a X.env) :: starEach [b] X.env := by rfl) (hs2 : starEach [b] X.env = (false, eval b X.env) :: starEach [] X.env := by rfl) : CS X We xa (.Assign [.Tuple [.Name x px, .Name y py] kt pt] (.Tuple [a, b] k2 pt2) pos) (par2E i j A B) := ⟨fun ρ o hM => by
  unfold par2E at hM
  split at hM
  · rename_i n ρ1 h3
    rcases bs_some hM with ⟨d2, ρ2, h5, h6⟩ | ⟨c, d2, ρ2, h5, rfl⟩
    · cases h6
      refine (ps_par hc hN hi hj hij hx hy (pa_cons (ha.run _ _ _ h3) (pa_cons (hb.run _ _ h5) pa_nil hs2) hs1) hw hs).imp fun D' σ H ⟨w, e1, R1, q⟩ => ⟨w, e1, R1, fun pp ads w' R' l hp hlen nd nD hA => ⟨w'.lay ads pp, rfl, lay_rep R' hp hA, fun u w2 R2 l2 p2 => ⟨.ref pp, u, rfl, ?_⟩⟩⟩
      obtain ⟨a1, a2, a3⟩ := ado2_rep (i := i) R2 l2 R'.ok hp hA nd nD
      refine q _ (w2.ado2 ads pp i) ?_ (l.trans a2)
      rw [hlen] at a3
      have R4 := a1.set (i := i) a3
      have R5 := R4.set (i := j) (s := im (rv d2)) ⟨u, rfl, p2⟩
      have e : (S xa ρ2).set i (BC.own2 (List.replicate n [])) = S xa (ρ2.set i (.own2 (List.replicate n []))) := S_set (s := .own2 (List.replicate n []))
      rw [e, S_im] at R5
      exact R5
    · exact (ps_par hc hN hi hj hij hx hy (pa_cons (ha.run _ _ _ h3) (pa_cons (hb.run _ _ h5) pa_nil hs2) hs1) hw hs).imp fun D σ H ⟨w, e1, R1, q⟩ => ⟨w, e1, R1, fun pp ads w' R' l hp hlen nd nD hA => ⟨w'.lay ads pp, rfl, lay_rep R' hp hA, fun w2 d u R2 l2 n => q σ w2 d u R2 ((l.trans (lay_le hp hA)).trans l2) ((l.trans (lay_le hp hA)).none n)⟩⟩
  · cases hM⟩
end
end BC

/-! A lambda without parameters, handed to a def that calls it. -/
namespace BC
open PySem PySem.Spec PyProof.Rows L2
variable [TabL]
def SV.dec : (a b : SV) → Decidable (a = b)
  | .un, .un => isTrue rfl
  | .fn, .fn => isTrue rfl
  | .im d, .im e => if h : d = e then isTrue (by rw [h]) else isFalse fun z => h (by cases z; rfl)
  | .own d, .own e => if h : d = e then isTrue (by rw [h]) else isFalse fun z => h (by cases z; rfl)
  | .own2 d, .own2 e => if h : d = e then isTrue (by rw [h]) else isFalse fun z => h (by cases z; rfl)
  | .par d, .par e => if h : d = e then isTrue (by rw [h]) else isFalse fun z => h (by cases z; rfl)
  | .exc c d, .exc c' e => if h : c = c' ∧ d = e then isTrue (by rw [h.1, h.2]) else isFalse fun z => h (by cases z; exact ⟨rfl, rfl⟩)
  | .un, .fn => isFalse fun z => by cases z
  | .un, .im _ => isFalse fun z => by cases z
  | .un, .own _ => isFalse fun z => by cases z
  | .un, .own2 _ => isFalse fun z => by cases z
  | .un, .par _ => isFalse fun z => by cases z
  | .un, .exc _ _ => isFalse fun z => by cases z
  | .fn, .un => isFalse fun z => by cases z
  | .fn, .im _ => isFalse fun z => by cases z
  | .fn, .own _ => isFalse fun z => by cases z
  | .fn, .own2 _ => isFalse fun z => by cases z
  | .fn, .par _ => isFalse fun z => by cases z
  | .fn, .exc _ _ => isFalse fun z => by cases z
  | .im _, .un => isFalse fun z => by cases z
  | .im _, .fn => isFalse fun z => by cases z
  | .im _, .own _ => isFalse fun z => by cases z
  | .im _, .own2 _ => isFalse fun z => by cases z
  | .im _, .par _ => isFalse fun z => by cases z
  | .im _, .exc _ _ => isFalse fun z => by cases z
  | .own _, .un => isFalse fun z => by cases z
  | .own _, .fn => isFalse fun z => by cases z
  | .own _, .im _ => isFalse fun z => by cases z
  | .own _, .own2 _ => isFalse fun z => by cases z
  | .own _, .par _ => isFalse fun z => by cases z
  | .own _, .exc _ _ => isFalse fun z => by cases z
  | .own2 _, .un => isFalse fun z => by cases z
  | .own2 _, .fn => isFalse fun z => by cases z
  | .own2 _, .im _ => isFalse fun z => by cases z
  | .own2 _, .own _ => isFalse fun z => by cases z
  | .own2 _, .par _ => isFalse fun z => by cases z
  | .own2 _, .exc _ _ => isFalse fun z => by cases z
  | .par _, .un => isFalse fun z => by cases z
  | .par _, .fn => isFalse fun z => by cases z
  | .par _, .im _ => isFalse fun z => by cases z
  | .par _, .own _ => isFalse fun z => by cases z
  | .par _, .own2 _ => isFalse fun z => by cases z
  | .par _, .exc _ _ => isFalse fun z => by cases z
  | .exc _ _, .un => isFalse fun z => by cases z
  | .exc _ _, .fn => isFalse fun z => by cases z
  | .exc _ _, .im _ => isFalse fun z => by cases z
  | .exc _ _, .own _ => isFalse fun z => by cases z
  | .exc _ _, .own2 _ => isFalse fun z => by cases z
  | .exc _ _, .par _ => isFalse fun z => by cases z
instance : DecidableEq SV := SV.dec
/-- what a lambda has come to -/
inductive Dd where
  | ok (d : D)
  | er (c : Str) (d : D)
/-- deed(), deed the first parameter -/
def deedC (dd : Dd) : Cp D := fun ρ => match ρ[0]? with
  | some SV.fn => (match dd with
    | .ok d => some (.ok d ρ)
    | .er c d => some (.er c d ρ))
  | _ => none
@[simp] theorem deedC_ok {d : D} {ρ : PE'} : deedC (.ok d) (.fn :: ρ) = some (.ok d (.fn :: ρ)) := rfl
@[simp] theorem deedC_er {c : Str} {d : D} {ρ : PE'} : deedC (.er c d) (.fn :: ρ) = some (.er c d (.fn :: ρ)) := rfl
/-- the slot of a function that was handed in, and with it what its maker holds -/
def cloS (f c' : Addr) (q : Str) (envc : List Slot) (σc : L2.St) (pac : Nat → Option Addr) : Slot := ⟨fun K i s w => s = some (.ref f) ∧ w.Hi c' = some (LamX.CodeO c' q) ∧ ∃ Oc : Addr → Option Nat, (∀ b j, Oc b = some j → w.O b = some i) ∧ ∀ (j : Nat) (t : Slot), envc[j]? = some t → ∃ x, σc[j]? = some x ∧ t.p K j x ⟨w.Hi, w.H, Oc, pac⟩, by
  rintro K i s w w' ⟨e, h1, Oc, h2, h3⟩ x k _
  refine ⟨e, x _ _ h1, Oc, fun b j hb => (k b (h2 b j hb)).1, fun j t ht => ?_⟩
  obtain ⟨y, h4, h5⟩ := h3 j t ht
  exact ⟨y, h4, t.mono h5 x (fun a ha => ⟨ha, (k a (h2 a j ha)).2⟩) rfl⟩⟩
/-- x(), in the def that got the lambda -/
theorem pe_actE {X : Cx} {pins : List (Addr × Obj)} {σ : L2.St} {H : Hp} {s : Shared} {Eg : XK} {Ng : List Str} {qg : Str} {sg : Scope} {g f c' : Addr} {cdg pm ctv : Value} {params : Arguments} {body : Expr} {scope : Scope} {k i : Nat} {a : Str} {pn : List (Addr × Obj)} {xe : Value → Shared → Prop} {W : WX} {tb : XK → TE} {p1 p2 : Pos}
    (I : Inv X pins σ H s) (L : LamX.LamS X.env.scope scope) (hf : s.heap.get? f = some (PySem.W.kla_obj "<lambda>" (X.env.qual ++ "<lambda>") params body scope (cloFrom X.env.cells scope.names []) pm c' ctv)) (hfn : H f = none) (hfr : f ∉ frs X.stack)
    (hbind : bindArgs (PySem.W.kla_fn "<lambda>" (X.env.qual ++ "<lambda>") params body scope (cloFrom X.env.cells scope.names []) pm (.ref c') ctv) ⟨[], []⟩ = pure [])
    (tk : Takes ((cxOf (L2.CX X.prog X.w) X.prog X.w X.K X.mg X.base Ng qg sg g cdg X.A X.stack s H Eg).tr pn xe) W) (hr : Rm (k + 1) (X.A.deeper (envOfC qg sg s.heap.objs.size g cdg)))
    (hbody : ∀ (A : Around) (outer : List Env) (s : Shared) (H : Hp) (E : XK), Rm k (A.deeper (LamX.lamEnv X scope s.heap.objs.size f c')) → PE (LamX.lamCx X A outer s H E scope f c') body (tb E))
    (hN : Ng[i]? = some a) (hv : Vis sg a) (hd : (a == ("__debug__" : Str)) = false) (hcd : (a == ("__classdict__" : Str)) = false) :
    PE ((cxOf (L2.CX X.prog X.w) X.prog X.w X.K X.mg X.base Ng qg sg g cdg X.A X.stack s H Eg).tr pn xe) (.Call (.Name a p1) [] [] p2)
      (fun σZ HZ Q => σZ[i]? = some (some (.ref f)) ∧ HZ c' = some (LamX.CodeO c' (X.env.qual ++ "<lambda>")) ∧ tb (WE W σZ) σ HZ Q) := by
  refine ⟨fun pinsZ sZ σZ HZ Q IZ ⟨hs, hc, ht⟩ => ?_⟩
  refine wpAny_Call_Name_kw (thn ((pe_var (pos := p1) (i := i) hN hv hd hcd).run pinsZ sZ σZ HZ (fun v H1 => v = .ref f ∧ H1 = HZ) IZ ⟨.ref f, hs, rfl, rfl⟩) fun u s1 ⟨v, H1, I1, r1, ev, eH⟩ => ?_)
  subst ev eH
  have r1 : u = Value.ref f := r1
  subst r1
  have of1 : s1.heap.get? f = some (PySem.W.kla_obj "<lambda>" (X.env.qual ++ "<lambda>") params body scope (cloFrom X.env.cells scope.names []) pm c' ctv) := I1.base.keep f _ hf hfn hfr (fun z => nomatch (show f ∈ ([] : List Addr) from z))
  refine PySem.W.callWith_F0 ⟨_, _, _, _, of1⟩ ?_
  have un : Un (frs X.stack) [] H H1 s.heap s1.heap := I1.base
  obtain ⟨⟨oc, vs, t, hoc, hdc, hvc⟩, _, _⟩ := I1.hok c' _ hc
  have rc : codeAny (model X.prog X.w) (X.A.deeper (envOfC qg sg s.heap.objs.size g cdg)) (.call (.ref f) ⟨[], []⟩) (CR (L2.CX X.prog X.w) (envOfC qg sg s.heap.objs.size g cdg :: X.stack) X.prog X.w H1 s1 Q (WE W σZ)) s1 := by
    refine PySem.W.kla_callFunE hr.room.depth of1 rfl L.co L.gen rfl ⟨c', oc, vs, t, rfl, hoc, hdc, hvc⟩ ?_
    rw [hbind]
    refine wpAny_pure (wpAny_newFunctionEnv (fun y hy => (L.own y hy).2) (fun y hy => absurd hy (by simp)) (fun h₁ hns hsb => ⟨I1.nolimit.fresh _ hsb, ?_⟩) L.kind)
    show codeAny _ _ (.expr body (LamX.lamEnv X scope s1.heap.objs.size f c')) _ _
    have kp : ∀ b o, s1.heap.get? b = some o → h₁.get? b = some o := fun b o e => hsb.extBut b o (Nat.ne_of_lt (Heap.lt_size e)) (Heap.get?_push_of_some _ e)
    have J : Inv (LamX.lamCx X (X.A.deeper (envOfC qg sg s.heap.objs.size g cdg)) (envOfC qg sg s.heap.objs.size g cdg :: X.stack) s1 H1 (WE W σZ) scope f c') [] σ H1 { s1 with heap := h₁, toks := s1.toks + ([] : List (Str × Value)).length } :=
      LamX.lam_start2 I L I1.env0 hr.room.hd un hns kp
    refine PySem.W.kla_codeExpr (wpAny_mono ((hbody _ _ s1 H1 _ ⟨hr.room.deeper _, hr.gd⟩).run [] _ _ H1 Q J ht) (fun v s' hq => ?_) fun e s' hq => hq)
    obtain ⟨w', H', J', rv, q⟩ := hq
    exact ⟨w', H', J'.os, J'.bare, J'.base, J'.hok, rv, q⟩
  have hx := passAt tk σZ
  refine wpAny_call (codeAny_mono rc fun r s' hq => ?_)
  cases r with
  | error e => exact hx pinsZ H1 s1 e s' I1 hq
  | ok fl =>
    cases fl with
    | ret u => exact I1.after hq
    | next => exact False.elim hq
    | brk => exact False.elim hq
    | cont => exact False.elim hq
/-- the context of a def that got a lambda -/
abbrev gCx (P : Program) (w : World) (K : PySem.W.Frag) (mg : Str → Option Value) (base : Heap) (Ng : List Str) (x : Str) (sg : Scope) (g : Addr) (cdg : Value) (A : Around) (outer : List Env) (s : Shared) (H : Hp) : Cx := cxOf (L2.CX P w) P w K mg base Ng x sg g cdg A outer s H E0
/-- a def that calls what it got -/
structure TDef (P : Program) (w : World) (K : PySem.W.Frag) (mg : Str → Option Value) (base : Heap) (x : Str) (k n : Nat) (a : Str) (M : Dd → Cs) : Prop where
  ex : ∃ (g : Addr) (fd : FuncData) (st : Stmt) (Ng : List Str), Fun K x x st g fd ∧ mg x = some (.ref g) ∧ PySem.W.keepIn K (.ref g) = true ∧ Binds K fd [a] [] ∧ FnScope Ng [a] (defScope st) ∧ Ng[0]? = some a ∧ Vis (defScope st) a ∧ (a == ("__debug__" : Str)) = false ∧ (a == ("__classdict__" : Str)) = false ∧ Ng.length = n + 1 ∧
    ∀ (cdg : Value) (A : Around) (outer : List Env) (s : Shared) (H : Hp) (fs : Slot) (dd : Dd), Rm k (A.deeper (envOfC x (defScope st) s.heap.objs.size g cdg)) →
      (∀ (W : WX) (pn : List (Addr × Obj)) (xe : Value → Shared → Prop) (p1 p2 : Pos) (xa : Xa), xa.fs = fs → Takes ((gCx P w K mg base Ng x (defScope st) g cdg A outer s H).tr pn xe) W → CE ((gCx P w K mg base Ng x (defScope st) g cdg A outer s H).tr pn xe) W xa (.Call (.Name a p1) [] [] p2) (deedC dd)) →
      CSs (gCx P w K mg base Ng x (defScope st) g cdg A outer s H) (WeE E0) ⟨0, 0, "", fs⟩ (defBody st) (M dd)
def toldR (o : Option Out) (ρ : PE') : Option (Rs D) := match o with
  | some (.rt d ρt) => if ρt[0]? = some SV.fn then some (.ok d ρ) else none
  | some (.nx ρt) => if ρt[0]? = some SV.fn then some (.ok .non ρ) else none
  | _ => none
def lamC (M : Dd → Cs) (n : Nat) (B : Cp D) : Cp D := fun ρ => match B ρ with
  | some (.ok d ρ') => if ρ' = ρ then toldR (M (.ok d) (.fn :: List.replicate n .un)) ρ else none
  | some (.er c d ρ') => if ρ' = ρ then toldR (M (.er c d) (.fn :: List.replicate n .un)) ρ else none
  | none => none
theorem lamC_ok {M : Dd → Cs} {n : Nat} {B : Cp D} {ρ : PE'} {d : D} (h : B ρ = some (.ok d ρ)) : lamC M n B ρ = toldR (M (.ok d) (.fn :: List.replicate n .un)) ρ := by
  unfold lamC
  rw [h]
  exact if_pos rfl
theorem lamC_er {M : Dd → Cs} {n : Nat} {B : Cp D} {ρ : PE'} {c : Str} {d : D} (h : B ρ = some (.er c d ρ)) : lamC M n B ρ = toldR (M (.er c d) (.fn :: List.replicate n .un)) ρ := by
  unfold lamC
  rw [h]
  exact if_pos rfl
/-- the world in which the def that got the lambda begins -/
def Wd.ent (w : Wd) (H1 : Hp) (c' : Addr) (q : Str) : Wd := ⟨fun b => if b = c' then some (LamX.CodeO c' q) else w.Hi b, H1, fun b => if (w.O b).isSome then some 0 else none, fun _ => none⟩
section
variable {K : PySem.W.Frag} {env : List Slot} {σ : L2.St} {w : Wd} {H1 : Hp} {c' f : Addr} {q : Str}
theorem ent_own (R : Rep K env σ w) (eN : LamX.ExtN w.H H1) {b : Addr} {j : Nat} (hb : w.O b = some j) : ∃ o, w.H b = some o ∧ H1 b = some o ∧ NT o := by
  cases z : w.H b with
  | none => exact absurd z (R.ok.ho b j hb).2
  | some o =>
    have nt := own_nt R.ok hb z
    exact ⟨o, rfl, eN b o z nt.1, nt⟩
theorem ent_ne (R : Rep K env σ w) (eN : LamX.ExtN w.H H1) (hco : H1 c' = some (LamX.CodeO c' q)) {b : Addr} {j : Nat} (hb : w.O b = some j) : b ≠ c' := fun z => by
  subst z
  obtain ⟨o, _, h2, nt⟩ := ent_own R eN hb
  rw [hco] at h2
  cases h2
  exact nt.2 _ rfl
theorem ent_hi (R : Rep K env σ w) (eN : LamX.ExtN w.H H1) (hco : H1 c' = some (LamX.CodeO c' q)) : Ex w.Hi (w.ent H1 c' q).Hi := fun b u hb => by
  by_cases z : b = c'
  · subst z
    have h := eN b u (R.ok.sub b u hb) fun ps e => R.ok.tb.1 b ps (by rw [hb, e])
    rw [hco] at h
    exact (if_pos rfl).trans h
  · exact (if_neg z).trans hb
theorem ent_rep (R : Rep K env σ w) (eN : LamX.ExtN w.H H1) (hT : LamX.Tabs TabL.T H1) (hco : H1 c' = some (LamX.CodeO c' q)) (n : Nat) : Rep K (cloS f c' q env σ w.pa :: List.replicate n un) (some (.ref f) :: List.replicate n none) (w.ent H1 c' q) := by
  have own_ : ∀ b i, (w.ent H1 c' q).O b = some i → i = 0 ∧ ∃ j, w.O b = some j := fun b i hb => by
    have hb : (if (w.O b).isSome then some 0 else none) = some i := hb
    split at hb
    · rename_i h
      cases hb
      exact ⟨rfl, Option.isSome_iff_exists.mp h⟩
    · cases hb
  refine ⟨⟨fun b u hb => ?_, fun b i hb => ?_, fun b i hb => ?_, fun b ps hb => ?_, hT⟩, by simp, fun i s hs => ?_⟩
  · by_cases z : b = c'
    · subst z
      have hb : (if b = b then some (LamX.CodeO b q) else w.Hi b) = some u := hb
      rw [if_pos rfl] at hb
      exact hco.trans hb
    · have hb : (if b = c' then some (LamX.CodeO c' q) else w.Hi b) = some u := hb
      rw [if_neg z] at hb
      exact eN b u (R.ok.sub b u hb) fun ps e => R.ok.tb.1 b ps (by rw [hb, e])
  · obtain ⟨_, j, hj⟩ := own_ b i hb
    obtain ⟨o, _, h2, _⟩ := ent_own R eN hj
    exact ⟨(if_neg (ent_ne R eN hco hj)).trans (R.ok.ho b j hj).1, by show H1 b ≠ none; rw [h2]; simp⟩
  · obtain ⟨_, j, hj⟩ := own_ b i hb
    obtain ⟨o, _, h2, nt⟩ := ent_own R eN hj
    show (∀ ps, H1 b ≠ some (.tbl ps)) ∧ ∀ f, H1 b ≠ some (.ext f)
    rw [h2]
    exact ⟨fun ps z => nt.1 ps (Option.some.inj z), fun f z => nt.2 f (Option.some.inj z)⟩
  · by_cases z : b = c'
    · subst z
      have hb : (if b = b then some (LamX.CodeO b q) else w.Hi b) = some (.tbl ps) := hb
      rw [if_pos rfl] at hb
      exact absurd (Option.some.inj hb) (LamX.codeO_ne ps)
    · have hb : (if b = c' then some (LamX.CodeO c' q) else w.Hi b) = some (.tbl ps) := hb
      rw [if_neg z] at hb
      exact R.ok.tb.1 b ps hb
  · cases i with
    | zero =>
      simp at hs
      subst hs
      refine ⟨_, rfl, rfl, if_pos rfl, w.O, fun b j hb => by show (if (w.O b).isSome then some 0 else none) = some 0; rw [hb]; rfl, fun j t ht => ?_⟩
      obtain ⟨y, h1, h2⟩ := R.sl j t ht
      refine ⟨y, h1, t.mono h2 (ent_hi R eN hco) (fun a ha => ⟨ha, ?_⟩) rfl⟩
      obtain ⟨o, g1, g2, _⟩ := ent_own R eN ha
      exact g2.trans g1.symm
    | succ i =>
      rw [List.getElem?_cons_succ, List.getElem?_replicate] at hs
      split at hs
      · rename_i hi
        cases hs
        refine ⟨none, ?_, trivial⟩
        rw [List.getElem?_cons_succ, List.getElem?_replicate, if_pos hi]
      · cases hs
/-- what stood stands, tables as tables -/
def DmT (H H1 : Hp) : Prop := (∀ b, H b ≠ none → H1 b ≠ none) ∧ ∀ b ps, H b = some (.tbl ps) → ∃ ps', H1 b = some (.tbl ps')
/-- back from it: what the maker holds -/
theorem ent_back (R : Rep K env σ w) (eN : LamX.ExtN w.H H1) (hco : H1 c' = some (LamX.CodeO c' q)) {w2 : Wd} (ok2 : w2.Ok) (l : Le (w.ent H1 c' q) w2) {y : Option V} (hdm : DmT w.H H1) (hf : (cloS f c' q env σ w.pa).p K 0 y w2) (hl : σ.length = env.length) :
    ∃ w3 : Wd, w3.H = w2.H ∧ w3.Hi = w2.Hi ∧ (∀ b, w2.O b = none → w3.O b = none) ∧ Rep K env σ w3 ∧ Le w w3 := by
  obtain ⟨_, _, Oc, h2, h3⟩ := hf
  have nO : ∀ b, w2.O b = none → Oc b = none := fun b hb => by
    cases z : Oc b with
    | none => rfl
    | some j =>
      have := h2 b j z
      rw [hb] at this
      cases this
  refine ⟨⟨w2.Hi, w2.H, Oc, w.pa⟩, rfl, rfl, nO, ⟨⟨ok2.sub, fun b j hb => ok2.ho b 0 (h2 b j hb), fun b j hb => ok2.pl b 0 (h2 b j hb), ok2.tb⟩, hl, h3⟩, (ent_hi R eN hco).trans l.hi, fun b o hb hk nt => ?_, fun b hb => ?_, rfl, fun b o hb n => ?_⟩
  rotate_left
  rotate_left
  · rcases nnt n with ⟨ps, rfl⟩ | ⟨f, rfl⟩
    · obtain ⟨ps', e⟩ := hdm.2 b ps hb
      exact l.tx b _ e fun z => z.1 _ rfl
    · exact l.tx b _ (eN b _ hb fun _ z => by cases z) n
  · have e1 := eN b o hb nt.1
    have e2 : (w.ent H1 c' q).O b = none := by show (if (w.O b).isSome then some 0 else none) = none; rw [hk]; rfl
    obtain ⟨g1, g2, g3⟩ := l.kp b o e1 e2 nt
    have nc : b ≠ c' := fun z => by
      subst z
      rw [hco] at e1
      cases e1
      exact nt.2 _ rfl
    exact ⟨g1, nO b g2, g3.trans (if_neg nc)⟩
  · exact l.dm b (hdm.1 b hb)
end
/-- a lambda is made: all that stood stands -/
theorem lam_make3 {X : Cx} {pins : List (Addr × Obj)} {σ : L2.St} {H : Hp} {s : Shared} {T : List (Addr × Str)} {c P : Addr} {params : Arguments} {body : Expr} {scope : Scope} {pos : Pos} {E : Value → Shared → Prop} {Q : Value → Shared → Prop} (I : Inv X pins σ H s) (TB : LamX.TabB X.base X.mg c P) (hcode : X.env.code = .ref c)
    (hm : (P, X.env.qual ++ "<lambda>") ∈ T) (hu : ∀ p ∈ T, p.1 = P → p.2 = X.env.qual ++ "<lambda>") (hT : LamX.Tabs T H) (hdef : defaultsOf params X.env = ([], [])) (hfree : ∀ y ∈ scope.names, y.2 = .free → ∃ c, X.env.cells.lookup y.1 = some c)
    (h : ∀ (f c' : Addr) (pm ctv : Value) (H1 : Hp) (s' : Shared), Inv X pins σ H1 s' → LamX.ExtN H H1 → DmT H H1 → LamX.Tabs T H1 →
      s'.heap.get? f = some (PySem.W.kla_obj "<lambda>" (X.env.qual ++ "<lambda>") params body scope (cloFrom X.env.cells scope.names []) pm c' ctv) → H1 f = none → f ∉ frs X.stack → H1 c' = some (LamX.CodeO c' (X.env.qual ++ "<lambda>")) → Q (.ref f) s') :
    wpAny (model X.prog X.w) X.A (eval (.Lambda params body scope pos) X.env) Q E s := by
  obtain ⟨ps, hP, tri, known⟩ := hT _ hm
  have onHeap : s.heap.get? P = some { cls := .none, data := .fields ps } := I.hok P _ hP
  have off : ∀ f, s.heap.objs.size ≤ f → f ∉ frs X.stack := fun f hf z => by
    rcases List.mem_cons.mp (I.stkSub _ z) with e | e
    · exact Nat.lt_irrefl _ (Nat.lt_of_lt_of_le (by have := I.lt; rwa [← e] at this) hf)
    · exact I.nofs hf e
  refine PySem.W.kla_eval hdef ?_
  cases hc : codeAmong pos ps.toList with
  | some cv =>
    obtain ⟨c', rfl, hco⟩ := known pos cv hc
    refine PySem.W.kla_makeFunctionHit (mg := X.mg) (c := c) (P := P) (ps := ps) (closure_ok hfree) I.ok.glob (I.mod.glob.keeps I.bk) hcode (TB.code.keeps I.bk) onHeap tri hc (TB.bm.keeps I.bk) fun ctv h' tk hx hsz => ?_
    exact h h'.objs.size c' ((X.mg "__name__").getD .none) ctv H _ (I.kept fun b o e => Heap.get?_push_of_some _ (hx b o e)) (LamX.ExtN.refl H) ⟨fun _ h => h, fun _ ps h => ⟨ps, h⟩⟩ hT (Heap.get?_push_size _ rfl) (I.hok.fresh hsz) (off _ hsz) hco
  | none =>
    refine PySem.W.kla_makeFunction (mg := X.mg) (c := c) (P := P) (ps := ps) (closure_ok hfree) I.ok.glob (I.mod.glob.keeps I.bk) hcode (TB.code.keeps I.bk) onHeap tri hc TB.gP (TB.bm.keeps I.bk) fun c' ctv h' tk hx hge hlt hrec htb => ?_
    obtain ⟨c2, oc, vs, tt, e2, hoc, hd, hv⟩ := hrec
    cases e2
    have nC : H c' = none := I.hok.fresh hge
    have nP : P ≠ c' := ne_of_none hP nC
    have I1 := LamX.inv_table (t' := tk) (more := #[rawInt pos.line, rawInt pos.col, .ref c']) (h' := h'.push (PySem.W.kla_obj "<lambda>" (X.env.qual ++ "<lambda>") params body scope (cloFrom X.env.cells scope.names []) ((X.mg "__name__").getD .none) c' ctv)) I hP
      (fun b o hb e => Heap.get?_push_of_some _ (hx b o hb e)) (Heap.get?_push_of_some _ htb) hge ⟨oc, vs, tt, Heap.get?_push_of_some _ hoc, hd, hv⟩
    have kept : LamX.ExtN H (upd (upd H P (.tbl (ps ++ #[rawInt pos.line, rawInt pos.col, .ref c']))) c' (LamX.CodeO c' (X.env.qual ++ "<lambda>"))) := fun b o e n => by
      have b1 : b ≠ c' := ne_of_none e nC
      have b2 : b ≠ P := fun z => by
        subst z
        rw [hP] at e
        exact n ps (Option.some.inj e).symm
      rw [upd_ne b1, upd_ne b2]
      exact e
    have flat : (ps ++ #[rawInt pos.line, rawInt pos.col, .ref c']).toList = ps.toList ++ [rawInt pos.line, rawInt pos.col, .ref c'] := by simp
    have hsz : s.heap.objs.size ≤ h'.objs.size := Nat.le_trans hge (Nat.le_of_lt hlt)
    refine h h'.objs.size c' ((X.mg "__name__").getD .none) ctv _ _ I1 kept ⟨fun b hb => upd_dom (upd_dom hb), fun b qs hb => by
      by_cases e : b = P
      · subst e
        exact ⟨_, (upd_ne nP).trans upd_same⟩
      · exact ⟨qs, (upd_ne (ne_of_none hb nC)).trans ((upd_ne e).trans hb)⟩⟩ (fun p hp => ?_) (Heap.get?_push_size _ rfl) ?_ (off _ hsz) upd_same
    · by_cases hb : p.1 = P
      · rw [hu p hp hb, hb]
        refine ⟨_, by rw [upd_ne nP, upd_same], by rw [flat]; exact PySem.TriplesOk_snoc _ _ _ _ tri, fun p' cv hcv => ?_⟩
        rw [flat] at hcv
        rcases LamX.among_app _ tri hcv with z | z
        · obtain ⟨c0, e1, e2⟩ := known p' cv z
          exact ⟨c0, e1, kept _ _ e2 LamX.codeO_ne⟩
        · exact ⟨c', z, upd_same⟩
      · obtain ⟨ps', a1, a2, a3⟩ := hT p hp
        refine ⟨ps', by rw [upd_ne (ne_of_none a1 nC), upd_ne hb]; exact a1, a2, fun p' cv hcv => ?_⟩
        obtain ⟨c0, e1, e2⟩ := a3 p' cv hcv
        exact ⟨c0, e1, kept _ _ e2 LamX.codeO_ne⟩
    · have hn : H h'.objs.size = none := I.hok.fresh hsz
      rw [upd_ne (Nat.ne_of_gt hlt), upd_ne fun z => by rw [z, hP] at hn; cases hn]
      exact hn
/-- from the callee's world to the maker's, and back -/
theorem clo_world {K : PySem.W.Frag} {env : List Slot} {σZ : L2.St} {wZ : Wd} {f c' : Addr} {q : Str} {envc : List Slot} {σc : L2.St} {pac : Nat → Option Addr} (R : Rep K env σZ wZ) (h0 : env[0]? = some (cloS f c' q envc σc pac)) (hl : σc.length = envc.length) :
    σZ[0]? = some (some (.ref f)) ∧ wZ.H c' = some (LamX.CodeO c' q) ∧ ∃ wc : Wd, wc.H = wZ.H ∧ Rep K envc σc wc ∧ ∀ w', Rep K envc σc w' → Le wc w' → ∃ wn : Wd, wn.H = w'.H ∧ wn.Hi = w'.Hi ∧ (∀ b, wZ.H b = none → w'.O b = none → wn.O b = none) ∧ Rep K env σZ wn ∧ Le wZ wn := by
  obtain ⟨y, hy, ey, hc, Oc, h2, h3⟩ := R.sl 0 _ h0
  subst ey
  refine ⟨hy, R.ok.sub _ _ hc, ⟨wZ.Hi, wZ.H, Oc, pac⟩, rfl, ⟨⟨R.ok.sub, fun b j hb => R.ok.ho b 0 (h2 b j hb), fun b j hb => R.ok.pl b 0 (h2 b j hb), R.ok.tb⟩, hl, h3⟩, fun w' R' l => ?_⟩
  -- what is another slot's is kept
  have kept : ∀ b j, wZ.O b = some j → j ≠ 0 → w'.H b = wZ.H b ∧ w'.O b = none ∧ w'.Hi b = wZ.Hi b := fun b j hb hj => by
    have hn : Oc b = none := by
      cases z : Oc b with
      | none => rfl
      | some i =>
        have := h2 b i z
        rw [hb] at this
        exact absurd (Option.some.inj this) hj
    cases z : wZ.H b with
    | none => exact absurd z (R.ok.ho b j hb).2
    | some o => exact l.kp b o z hn (own_nt R.ok hb z)
  let wn : Wd := ⟨w'.Hi, w'.H, fun b => if (w'.O b).isSome then some 0 else if wZ.O b = some 0 then none else wZ.O b, wZ.pa⟩
  have cases_ : ∀ b j, wn.O b = some j → (∃ i, w'.O b = some i ∧ j = 0) ∨ (w'.O b = none ∧ wZ.O b = some j ∧ j ≠ 0) := fun b j hb => by
    have hb : (if (w'.O b).isSome then some 0 else if wZ.O b = some 0 then none else wZ.O b) = some j := hb
    cases z : w'.O b with
    | some i =>
      rw [z] at hb
      exact .inl ⟨i, rfl, (Option.some.inj hb).symm⟩
    | none =>
      rw [z] at hb
      have hb : (if wZ.O b = some 0 then none else wZ.O b) = some j := hb
      split at hb
      · cases hb
      · rename_i hne
        exact .inr ⟨rfl, hb, fun e => hne (by rw [hb, e])⟩
  have ok : wn.Ok := by
    refine ⟨R'.ok.sub, fun b j hb => ?_, fun b j hb => ?_, R'.ok.tb⟩
    · rcases cases_ b j hb with ⟨i, hi, _⟩ | ⟨h4, h5, h6⟩
      · exact R'.ok.ho b i hi
      · obtain ⟨g1, g2, g3⟩ := kept b j h5 h6
        exact ⟨g3.trans (R.ok.ho b j h5).1, by show w'.H b ≠ none; rw [g1]; exact (R.ok.ho b j h5).2⟩
    · rcases cases_ b j hb with ⟨i, hi, _⟩ | ⟨h4, h5, h6⟩
      · exact R'.ok.pl b i hi
      · obtain ⟨g1, g2, g3⟩ := kept b j h5 h6
        show (∀ ps, w'.H b ≠ some (.tbl ps)) ∧ ∀ f, w'.H b ≠ some (.ext f)
        rw [g1]
        exact R.ok.pl b j h5
  have hpa : (⟨w'.Hi, w'.H, w'.O, pac⟩ : Wd) = w' := by
    have : w'.pa = pac := l.pa
    rw [← this]
  refine ⟨wn, rfl, rfl, fun b hb ho => ?_, ⟨ok, R.len, fun j s hs => ?_⟩, l.hi, fun b o hb hk nt => ?_, l.dm, rfl, l.tx⟩
  · show (if (w'.O b).isSome then some 0 else if wZ.O b = some 0 then none else wZ.O b) = none
    rw [ho]
    have := (R.ok.fresh hb).2
    rw [this]
    rfl
  · by_cases z : j = 0
    · subst z
      rw [h0] at hs
      cases hs
      refine ⟨_, hy, rfl, l.hi _ _ hc, w'.O, fun b i hb => ?_, fun i t ht => ?_⟩
      · show (if (w'.O b).isSome then some 0 else if wZ.O b = some 0 then none else wZ.O b) = some 0
        rw [hb]
        rfl
      · obtain ⟨x, g1, g2⟩ := R'.sl i t ht
        refine ⟨x, g1, ?_⟩
        show t.p K i x ⟨w'.Hi, w'.H, w'.O, pac⟩
        rw [hpa]
        exact g2
    · obtain ⟨x, g1, g2⟩ := R.sl j s hs
      refine ⟨x, g1, s.mono g2 l.hi (fun a ha => ?_) rfl⟩
      obtain ⟨k1, k2, _⟩ := kept a j ha z
      refine ⟨?_, k1⟩
      show (if (w'.O a).isSome then some 0 else if wZ.O a = some 0 then none else wZ.O a) = some j
      rw [k2, ha]
      show (if (some j : Option Nat) = some 0 then none else some j) = some j
      rw [if_neg fun e => z (Option.some.inj e)]
  · have hn : Oc b = none := by
      cases z : Oc b with
      | none => rfl
      | some i =>
        have := h2 b i z
        rw [hk] at this
        cases this
    obtain ⟨g1, g2, g3⟩ := l.kp b o hb hn nt
    refine ⟨g1, ?_, g3⟩
    show (if (w'.O b).isSome then some 0 else if wZ.O b = some 0 then none else wZ.O b) = none
    rw [g2, hk]
    rfl
section
variable {X : Cx} {We : WX} {xa : Xa} {B : Cp D} {M : Dd → Cs} {body : Expr} {params : Arguments} {scope : Scope} {p lpos pos : Pos} {x a : Str} {k j kk n : Nat} {c P : Addr}
/-- x(lambda: body) -/
theorem ce_lam (Dt : TDef X.prog X.w X.K X.mg X.base x k n a M) (TB : LamX.TabB X.base X.mg c P) (hcode : X.env.code = .ref c) (hmT : (P, X.env.qual ++ "<lambda>") ∈ TabL.T) (hu : ∀ p ∈ TabL.T, p.1 = P → p.2 = X.env.qual ++ "<lambda>") (hr : Rm kk X.A) (hk1 : k + 1 ≤ kk) (hj1 : j + 2 ≤ kk)
    (L : LamX.LamS X.env.scope scope) (hbody : ∀ (A : Around) (outer : List Env) (s : Shared) (H : Hp) (E : XK) (f c' : Addr), Rm j (A.deeper (LamX.lamEnv X scope s.heap.objs.size f c')) → CE (LamX.lamCx X A outer s H E scope f c') (WeE E) xa body B)
    (hg : Gl X x := by rfl) (hdef : defaultsOf params X.env = ([], []) := by rfl)
    (hbind : ∀ (q : Str) (cl : List (Str × Addr)) (pm cv ctv : Value), bindArgs (PySem.W.kla_fn "<lambda>" q params body scope cl pm cv ctv) ⟨[], []⟩ = pure [] := by intro _ _ _ _ _; rfl)
    (hdb : (x == ("__debug__" : Str)) = false := by decide) :
    CE X We xa (.Call (.Name x p) [.Lambda params body scope lpos] [] pos) (lamC M n B) := by
  have core : ∀ (dd : Dd) (ρ : PE') (rr : Rs D) (r : Rs D), B ρ = some rr → rr = (match dd with | .ok d => .ok d ρ | .er c d => .er c d ρ) → toldR (M dd (.fn :: List.replicate n .un)) ρ = some r → PE X (.Call (.Name x p) [.Lambda params body scope lpos] [] pos) (tR X We xa (S xa ρ) r) := by
    intro dd ρ rr r hB hrr hM
    -- how the def ends
    have hend : ∃ (oc : Out) (d : D) (ρt : PE'), M dd (.fn :: List.replicate n .un) = some oc ∧ ρt[0]? = some SV.fn ∧ r = .ok d ρ ∧ (oc = .rt d ρt ∨ (oc = .nx ρt ∧ d = .non)) := by
      unfold toldR at hM
      split at hM
      · rename_i d ρt h1
        split at hM
        · rename_i h2
          cases hM
          exact ⟨_, d, ρt, h1, h2, rfl, .inl rfl⟩
        · cases hM
      · rename_i ρt h1
        split at hM
        · rename_i h2
          cases hM
          exact ⟨_, .non, ρt, h1, h2, rfl, .inr ⟨rfl, rfl⟩⟩
        · cases hM
      · cases hM
    obtain ⟨oc, d, ρt, hMo, hfn0, rfl, hoc⟩ := hend
    refine ⟨fun pins s σ H Q I ⟨w, e1, R1, q⟩ => ?_⟩
    subst e1
    obtain ⟨g, fd, st, Ng, F, hm, hk, hb, Sg, hNg, hva, hd, hcd, hnl, hT⟩ := Dt.ex
    obtain ⟨oc', od, kV, doc, pm, an, cdv, ct, osl, rfl, lk, hcg⟩ := F.ex
    refine wpAny_Call_Name_kw (ld_glob I hg hm ?_ hdb)
    refine PySem.W.callWith_K (h₀ := X.base) I.ok.mod.kin hk ?_ (by rfl) (by rfl)
    show wpAny _ _ (spliced ((false, eval (.Lambda params body scope lpos) X.env) :: backTo pos (starEach [] X.env))) _ _ s
    refine Calls.spliced_cons (lam_make3 I TB hcode hmT hu R1.ok.tb.2 hdef (L.has I.ok) fun f c' pm' ctv H1 s' I1 eN hdm T1 hf hfn hfr hco => ?_)
    refine Calls.spliced_nil ⟨I1.kIn, ?_⟩
    have RG := ent_rep (f := f) R1 eN T1 hco n
    have rc : codeAny (model X.prog X.w) X.A (.call (.ref g) ⟨[.ref f], []⟩) (CR (L2.CX X.prog X.w) X.stack X.prog X.w H1 s' Q E0) s' := by
      refine LamX.run_ofS (CX := L2.CX X.prog X.w) (N := Ng) (ps := [a]) (us := [.ref f]) (vs := [.ref f]) lk hcg Sg (hr.room.mono hk1) I1.env0 (hb s' [.ref f] I1.kIn rfl) (.cons rfl .nil) rfl fun hr' => ?_
      have gr : ∀ k', k' + 1 ≤ kk → Rm k' (X.A.deeper (envOfC x (defScope st) s'.heap.objs.size g cdv)) := fun k' hk' => ⟨(hr.room.mono hk').deeper _, hr.gd⟩
      have hs := (hT cdv X.A X.stack s' H1 (cloS f c' (X.env.qual ++ "<lambda>") (S xa ρ) σ w.pa) dd (gr k hk1) fun W pn xe p1 p2 xb hxb tk => ⟨fun ρg r2 hdc => ?_⟩).run _ _ hMo
      · refine ⟨_, hs, w.ent H1 c' (X.env.qual ++ "<lambda>"), rfl, ?_, ?_⟩
        · have e2 : (L2.start Ng [V.ref f]) = some (.ref f) :: List.replicate n none := by
            unfold L2.start
            rw [hnl]
            rfl
          have e3 : S (⟨0, 0, "", cloS f c' (X.env.qual ++ "<lambda>") (S xa ρ) σ w.pa⟩ : Xa) (.fn :: List.replicate n .un) = cloS f c' (X.env.qual ++ "<lambda>") (S xa ρ) σ w.pa :: List.replicate n un := by
            show _ :: S _ (List.replicate n .un) = _
            rw [S_rep]
            rfl
          rw [e2, e3]
          exact RG
        · have fin : ∀ (σ' : L2.St) (v : V) (w' : Wd), Rep X.K (S (⟨0, 0, "", cloS f c' (X.env.qual ++ "<lambda>") (S xa ρ) σ w.pa⟩ : Xa) ρt) σ' w' → Le (w.ent H1 c' (X.env.qual ++ "<lambda>")) w' → (rv d).p X.K v w'.Hi → Q v w'.H := fun σ' v w' R' l pv => by
            obtain ⟨y, _, hy⟩ := R'.sl 0 _ (S_get hfn0)
            obtain ⟨w3, e1, e2, _, R3, l3⟩ := ent_back R1 eN hco R'.ok l hdm hy R1.len
            rw [← e1]
            exact q v w3 R3 l3 (by rw [e2]; exact pv)
          rcases hoc with rfl | ⟨rfl, rfl⟩
          · exact fin
          · exact fun σ' w' R' l => fin σ' .non w' R' l rfl
      · -- the lambda's own reading
        have h0 : ρg[0]? = some SV.fn := by
          unfold deedC at hdc
          split at hdc
          · rename_i h; exact h
          · cases hdc
        have hpe := pe_actE (p1 := p1) (p2 := p2) (i := 0) (tb := fun E => tR X (WeE E) xa (S xa ρ) rr) I1 L hf hfn hfr (hbind _ _ _ _ _) tk (gr (j + 1) hj1) (fun A outer s H E hr2 => (hbody A outer s H E f c' hr2).run ρ rr hB) hNg hva hd hcd
        have slot0 : (S xb ρg)[0]? = some (cloS f c' (X.env.qual ++ "<lambda>") (S xa ρ) σ w.pa) := by
          rw [S_get h0]
          show some xb.fs = _
          rw [hxb]
        cases dd with
        | ok dv =>
          have er : r2 = .ok dv ρg := by
            unfold deedC at hdc
            rw [h0] at hdc
            exact (Option.some.inj hdc).symm
          subst er
          have hrr : rr = .ok dv ρ := hrr
          subst hrr
          refine hpe.imp fun σZ HZ QZ ⟨wZ, e1, RZ, qZ⟩ => ?_
          subst e1
          obtain ⟨h1, h2, wc, h3, Rc, back⟩ := clo_world RZ slot0 R1.len
          refine ⟨h1, h2, wc, h3, Rc, fun v w' R' l pv => ?_⟩
          obtain ⟨wn, b1, b2, _, b4, b5⟩ := back w' R' l
          rw [← b1]
          exact qZ v wn b4 b5 (by rw [b2]; exact pv)
        | er cc dv =>
          have er : r2 = .er cc dv ρg := by
            unfold deedC at hdc
            rw [h0] at hdc
            exact (Option.some.inj hdc).symm
          subst er
          have hrr : rr = .er cc dv ρ := hrr
          subst hrr
          refine hpe.imp fun σZ HZ QZ ⟨wZ, e1, RZ, qZ⟩ => ?_
          subst e1
          obtain ⟨h1, h2, wc, h3, Rc, back⟩ := clo_world RZ slot0 R1.len
          refine ⟨h1, h2, wc, h3, Rc, fun w' dx v R' l n1 n2 n3 n4 pv => ?_⟩
          obtain ⟨wn, b1, b2, b3, b4, b5⟩ := back w' R' l
          have n1' : wZ.H dx = none := by rw [← h3]; exact n1
          have := qZ wn dx v b4 b5 n1' (by rw [b1]; exact n2) (b3 dx n1' n3) (by rw [b2]; exact n4) (by rw [b2]; exact pv)
          rw [b1] at this
          exact this
    refine wpAny_call (codeAny_mono rc fun r s2 hq => ?_)
    cases r with
    | error e => exact passN pins H1 s' e s2 I1 hq
    | ok fl =>
      cases fl with
      | ret u => exact I1.after hq
      | next => exact False.elim hq
      | brk => exact False.elim hq
      | cont => exact False.elim hq
  refine ⟨fun ρ r hM => ?_⟩
  unfold lamC at hM
  split at hM
  · rename_i d ρ' h1
    split at hM
    · rename_i e
      subst e
      exact core (.ok d) _ _ r h1 rfl hM
    · cases hM
  · rename_i cc d ρ' h1
    split at hM
    · rename_i e
      subst e
      exact core (.er cc d) _ _ r h1 rfl hM
    · cases hM
  · cases hM
end
end BC

/-! The end of a law whose defs make lambdas: their tables are empty at first. -/
namespace BC
open PySem PySem.Spec PyProof.Rows L2
abbrev tabE : Obj := { cls := .none, data := .fields #[] }
structure TabIn (K : PySem.W.Frag) (h : Heap) (cs : List (Addr × Addr)) : Prop where
  at_ : ∀ p ∈ cs, h.get? p.2 = some tabE
  out : ∀ p ∈ cs, K.lookup p.2 = none
  hd : ∀ p ∈ cs, PySem.W.CodeHd h p.1 p.2
theorem end_coreT {P : Program} {w : World} {K : PySem.W.Frag} {mg mb : Str → Option Value} {k : Nat} {fa a : Addr} {fd : FuncData} {x : Str} {sp : Sp} {s : Shared} {vs : List Value} {H : Hp} {cs : List (Addr × Addr)}
    (KX : K.In s.heap) (gl : s.heap.Ns mainGlobals mg) (hb : s.heap.Ns builtinsNs mb) (hbb : ∀ x : Str, x ≠ "__name__" → mb x = bootBuiltins x) (lim : s.heap.NoLimit) (hg : s.gens = #[]) (TI : TabIn K s.heap cs)
    (hbm : ∃ (bm : Addr) (ob : Obj), mg "__builtins__" = some (.ref bm) ∧ bm ≠ builtinsNs ∧ s.heap.get? bm = some ob ∧ ob.cls = .type "module" ∧ ob.dict = some builtinsNs ∧ ob.data = .plain)
    (ha : s.heap.get? a = some { cls := .type "list", data := .seq vs.toArray }) (hr : Room k callerA) (F : ∀ base : Heap, K.In base → base.Ns mainGlobals mg → (∀ p ∈ cs, LamX.TabB base mg p.1 p.2) → FnG P w K mg base k fa fd [x] sp) (bt : ∀ (s : Shared) (u : Value), BindsTo s fd ⟨[u], []⟩ [(x, u)])
    (hT : ∀ p ∈ cs, H p.2 = some (.tbl #[])) (hO : ∀ b u, H b = some u → b ∉ cs.map (·.2) → ∃ ob xs, u = .frz ob (.lst xs)) (ok : HOk P w H s.heap) (only : ∀ b, H b ≠ none → b = a ∨ b ∈ cs.map (·.2)) (kn : H a ≠ none → K.lookup a = none) (hsp : sp [.ref a] H (fun v _ => v = .bl true) fun _ _ _ => False) :
    codeAny (model P w) callerA (.call (.ref fa) ⟨[.ref a], []⟩) (fun r s' => r = .ok (.ret (.bool true)) ∧ OldK s.heap s'.heap ∧ s'.os = s.os ∧ AllBare s'.gens) s := by
  have isT : ∀ b, b ∈ cs.map (·.2) → s.heap.get? b = some tabE ∧ K.lookup b = none := fun b hb => by
    obtain ⟨p, hp, rfl⟩ := List.mem_map.mp hb
    exact ⟨TI.at_ p hp, TI.out p hp⟩
  -- what is neither a row nor an empty table is not tracked
  have free : ∀ {b : Addr} {o : Obj}, s.heap.get? b = some o → (∀ xs n, o.data ≠ .seq xs n) → o.data ≠ .fields #[] → H b = none := fun {b o} e h1 h2 => Classical.byContradiction fun z => by
    rcases only b z with e' | e'
    · subst e'
      rw [ha] at e
      cases e
      exact h1 _ _ rfl
    · rw [(isT b e').1] at e
      cases e
      exact h2 rfl
  have base_ : ∀ {b : Addr} {o : Obj}, s.heap.get? b = some o → (∀ xs n, o.data ≠ .seq xs n) → o.data ≠ .fields #[] → (hidT s.heap H).get? b = some o := fun e h1 h2 => hidT_get e (free e h1 h2)
  have nsK : ∀ {b : Addr} {m : Str → Option Value}, s.heap.Ns b m → (hidT s.heap H).Ns b m := fun {b m} ⟨o, es, ep, e, d, r⟩ => ⟨o, es, ep, base_ e (fun xs n z => by rw [d] at z; cases z) (fun z => by rw [d] at z; cases z), d, r⟩
  have hK : K.In (hidT s.heap H) := fun b o e => hidT_get (KX b o e) (Classical.byContradiction fun z => by
    rcases only b z with e' | e'
    · subst e'
      rw [kn z] at e
      cases e
    · rw [(isT b e').2] at e
      cases e)
  have TB : ∀ p ∈ cs, LamX.TabB (hidT s.heap H) mg p.1 p.2 := fun p hp => by
    have hTp := TI.at_ p hp
    have nG : mainGlobals ≠ p.2 := fun z => by
      obtain ⟨o, es, ep, e, hd, _⟩ := gl
      rw [z, hTp] at e
      cases e
      cases hd
    refine ⟨?_, ?_, nG⟩
    · obtain ⟨o, us, file, tf, flags, tg, inF, text, tt, e1, r1, r2, r3, r4, r5, r6, r7, r8, hne⟩ := TI.hd p hp
      refine ⟨o, us, file, tf, flags, tg, inF, text, tt, base_ e1 (fun xs n z => ?_) (fun z => ?_), r1, r2, r3, r4, r5, r6, r7, r8, hne⟩
      · rw [r2] at z
        cases z
      · rw [r2] at z
        cases z
        simp at r3
    · obtain ⟨bm, ob, b1, b2, b3, b4, b5, b6⟩ := hbm
      refine ⟨bm, ob, b1, b2, fun z => ?_, fun z => ?_, base_ b3 (fun xs n z => by rw [b6] at z; cases z) (fun z => by rw [b6] at z; cases z), b4, b5, b6⟩
      · obtain ⟨o, es, ep, e, hd, _⟩ := gl
        rw [z, e] at b3
        cases b3
        rw [hd] at b6
        cases b6
      · rw [z, hTp] at b3
        cases b3
        cases b6
  have e0 : Env0 P w K mg (hidT s.heap H) callerA [] s H :=
    { frames := rfl, mod := ⟨hK, nsK gl, ⟨mb, nsK hb, hbb⟩, let ⟨mc, h1, h2⟩ := lim; ⟨mc, nsK h1, h2⟩⟩, bs := fun b o e => of_hidT e, bsz := Nat.le_of_eq (hidT_size _ _), funs := trivial,
      frf := fun b hb => absurd hb List.not_mem_nil, hok := ok, bare := .of_eq hg }
  refine codeAny_mono ((F _ hK (nsK gl) TB).run callerA [] s H _ [.ref a] [.ref a] _ _ ⟨hr, rfl⟩ e0 (bt s (.ref a)) (.cons rfl .nil) hsp) fun r s' h => ?_
  cases r with
  | error e =>
    obtain ⟨_, _, _, _, _, _, _, _, _, _, _, _, z⟩ := h
    exact z.elim
  | ok fl =>
    cases fl with
    | ret u =>
      obtain ⟨v, H', os, bare, U, ok', rr, q⟩ := h
      have q : v = .bl true := q
      subst q
      obtain rfl : u = Value.bool true := rr
      have stays : ∀ b o, b ∉ cs.map (·.2) → s.heap.get? b = some o → s'.heap.get? b = some o := fun b o nb e => by
        cases q : H b with
        | none => exact U.keep b o e q List.not_mem_nil List.not_mem_nil
        | some u =>
          obtain ⟨ob, xs, rfl⟩ := hO b u q nb
          have e1 := (ok b _ q).1
          have e2 := (ok' b _ (U.frzs b ob _ q)).1
          rw [e] at e1
          cases e1
          exact e2
      have grown : ∀ p ∈ cs, ∃ more : Array Value, s'.heap.get? p.2 = some { cls := .none, data := .fields (#[] ++ more) } := fun p hp => by
        obtain ⟨more, z⟩ := U.tbls p.2 #[] (hT p hp)
        exact ⟨_, ok' p.2 _ z⟩
      refine ⟨rfl, ⟨fun b o e => ?_, fun b o e => ?_⟩, os, bare⟩
      · by_cases hb : b ∈ cs.map (·.2)
        · obtain ⟨p, hp, rfl⟩ := List.mem_map.mp hb
          obtain ⟨more, hm⟩ := grown p hp
          rw [TI.at_ p hp] at e
          cases e
          exact .inr (.inl ⟨((TI.hd p hp).tab (TI.at_ p hp)).isCodeTable, rfl, #[], _, rfl, hm⟩)
        · exact .inl (stays b o hb e)
      · by_cases hb : b ∈ cs.map (·.2)
        · obtain ⟨p, hp, rfl⟩ := List.mem_map.mp hb
          obtain ⟨more, hm⟩ := grown p hp
          exact ⟨_, hm⟩
        · exact ⟨o, stays b o hb e⟩
    | next => exact h.elim
    | brk => exact h.elim
    | cont => exact h.elim
theorem end_callT {P : Program} {w : World} {K : PySem.W.Frag} {mg mb : Str → Option Value} {k : Nat} {fa a : Addr} {fd : FuncData} {x : Str} {sp : Sp} {s : Shared} {vs : List Value} {ns : List Int} {cs : List (Addr × Addr)}
    (KX : K.In s.heap) (gl : s.heap.Ns mainGlobals mg) (hb : s.heap.Ns builtinsNs mb) (hbb : ∀ x : Str, x ≠ "__name__" → mb x = bootBuiltins x) (lim : s.heap.NoLimit) (hg : s.gens = #[]) (TI : TabIn K s.heap cs)
    (hbm : ∃ (bm : Addr) (ob : Obj), mg "__builtins__" = some (.ref bm) ∧ bm ≠ builtinsNs ∧ s.heap.get? bm = some ob ∧ ob.cls = .type "module" ∧ ob.dict = some builtinsNs ∧ ob.data = .plain)
    (ha : s.heap.get? a = some { cls := .type "list", data := .seq vs.toArray }) (hi : IntsAre vs ns) (hl : ns.length ≤ sizeLine) (hr : Room k callerA) (F : ∀ base : Heap, K.In base → base.Ns mainGlobals mg → (∀ p ∈ cs, LamX.TabB base mg p.1 p.2) → FnG P w K mg base k fa fd [x] sp) (bt : ∀ (s : Shared) (u : Value), BindsTo s fd ⟨[u], []⟩ [(x, u)])
    (hsp : ∀ H : Hp, (∀ p ∈ cs, H p.2 = some (.tbl #[])) → SqL K H a (ns.map V.int) → sp [.ref a] H (fun v _ => v = .bl true) fun _ _ _ => False) :
    codeAny (model P w) callerA (.call (.ref fa) ⟨[.ref a], []⟩) (fun r s' => r = .ok (.ret (.bool true)) ∧ OldK s.heap s'.heap ∧ s'.os = s.os ∧ AllBare s'.gens) s := by
  have rv := vals_ints hi
  have mem : ∀ p ∈ cs, p.2 ∈ cs.map (·.2) := fun p hp => List.mem_map.mpr ⟨p, hp, rfl⟩
  have atT : ∀ b, b ∈ cs.map (·.2) → s.heap.get? b = some tabE := fun b hb => by
    obtain ⟨p, hp, rfl⟩ := List.mem_map.mp hb
    exact TI.at_ p hp
  have aT : a ∉ cs.map (·.2) := fun z => by
    have q := atT a z
    rw [ha] at q
    cases q
  let ob : Obj := { cls := .type "list", data := .seq vs.toArray }
  cases hk : K.lookup a with
  | some o =>
    have e := KX a o hk
    rw [ha] at e
    cases e
    let H : Hp := fun b => if b ∈ cs.map (·.2) then some (.tbl #[]) else none
    have hT : ∀ p ∈ cs, H p.2 = some (.tbl #[]) := fun p hp => if_pos (mem p hp)
    refine end_coreT KX gl hb hbb lim hg TI hbm ha hr F bt (H := H) hT (fun b u z nb => ?_) (fun b u z => ?_) (fun b z => .inr (Classical.byContradiction fun y => z (if_neg y))) (fun z => absurd (show H a = none from if_neg aT) z) (hsp H hT (.inr ⟨_, vs.toArray, _, hk, rfl, rfl, rfl, by rw [List.size_toArray, hi.length]; exact hl, by simpa using rv⟩))
    · rw [show H b = none from if_neg nb] at z
      cases z
    · by_cases y : b ∈ cs.map (·.2)
      · rw [show H b = some (.tbl #[]) from if_pos y] at z
        cases z
        exact atT b y
      · rw [show H b = none from if_neg y] at z
        cases z
  | none =>
    let H : Hp := fun b => if b = a then some (.frz ob (.lst (ns.map V.int))) else if b ∈ cs.map (·.2) then some (.tbl #[]) else none
    have at' : H a = some (.frz ob (.lst (ns.map V.int))) := if_pos rfl
    have ne : ∀ b, b ∈ cs.map (·.2) → b ≠ a := fun b hb z => aT (by rw [← z]; exact hb)
    have inT : ∀ b, b ∈ cs.map (·.2) → H b = some (.tbl #[]) := fun b hb => (if_neg (ne b hb)).trans (if_pos hb)
    have off : ∀ b, b ≠ a → b ∉ cs.map (·.2) → H b = none := fun b y z => (if_neg y).trans (if_neg z)
    have hT : ∀ p ∈ cs, H p.2 = some (.tbl #[]) := fun p hp => inT _ (mem p hp)
    refine end_coreT KX gl hb hbb lim hg TI hbm ha hr F bt (H := H) hT (fun b u z nb => ?_) (fun b u z => ?_) (fun b z => ?_) (fun _ => hk) (hsp H hT (.inl (.inr ⟨ob, at'⟩)))
    · by_cases y : b = a
      · subst y
        rw [at'] at z
        cases z
        exact ⟨_, _, rfl⟩
      · rw [off b y nb] at z
        cases z
    · by_cases y : b = a
      · subst y
        rw [at'] at z
        cases z
        exact ⟨ha, by rw [List.length_map]; exact hl, vs, _, rv, ha⟩
      · by_cases y2 : b ∈ cs.map (·.2)
        · rw [inT b y2] at z
          cases z
          exact atT b y2
        · rw [off b y y2] at z
          cases z
    · exact Classical.byContradiction fun y => z (off b (fun e => y (.inl e)) fun e => y (.inr e))
/-- what is known of the law's promise at the heap h -/
def LawT (l : PySem.W.OpenLaw) (w : World) (K : PySem.W.Frag) (k : Nat) (x : Str) (mg : Str → Option Value) (fa : Addr) (h : Heap) : Prop :=
  ∃ (T : TabL) (fd : FuncData) (cs : List (Addr × Addr)), TabIn K h cs ∧ (∀ q ∈ T.T, ∃ p ∈ cs, p.2 = q.1) ∧ (∀ (s : Shared) (u : Value), BindsTo s fd ⟨[u], []⟩ [(x, u)]) ∧
    ∀ base : Heap, K.In base → base.Ns mainGlobals mg → (∀ p ∈ cs, LamX.TabB base mg p.1 p.2) → FnG l.prog w K mg base k fa fd [x] (spLaw K)
theorem walkGT {l : PySem.W.OpenLaw} {k : Nat} {q : Program} {loose : List Str} {XP : (Str → Option Value) → Heap → Prop} {YP : World → Heap → Prop} {d : DefRec} {K : Params → PySem.W.Frag} {x : Str}
    (hn : l.most = some 63) (hdf : d.params.defaults = []) (hr : Room k callerA) (hY : ∀ (w : World) (h : Heap), YP w h → (K w.params).In h)
    (F : ∀ (w : World) (mg : Str → Option Value) (fa : Addr) (h : Heap), YP w h → (K w.params).In h → h.Ns mainGlobals mg → mg d.name = some (.ref fa) → LawT l w (K w.params) k x mg fa h) :
    PySem.W.WalkO q loose XP YP l.row.toRowW d [] (fun f vs => PySem.call f vs) := by
  refine Att.attach_call hn hdf fun w s₀ s₁ mg mb fa o pm cd doc a vs ns G Y ho hd hcd hmg hobj hints hlen hg => ?_
  obtain ⟨T, fd, cs, TI, hTc, hb, hF⟩ := F w mg fa _ Y (hY w _ Y) G.T.g hmg
  refine end_callT (hY w _ Y) G.T.g G.T.b G.T.builtins G.T.nolimit hg TI G.T.bmain hobj hints (Nat.le_trans hlen (by decide)) hr hF hb fun H hT hS => ⟨a, ns, rfl, hS, hlen, fun p hp => ?_, fun _ => rfl⟩
  obtain ⟨c, hc, e⟩ := hTc p hp
  rw [← e]
  exact LamX.TabS.nil (hT c hc)
end BC

/-! a, b, c = x, y, z where some are fresh lists. -/
namespace BC
open PySem PySem.Spec PyProof.Rows L2
variable [TabL]
inductive PV where
  | v (d : D)
  | l (xs : List D)
def PV.sv : PV → SV
  | .v d => .im d
  | .l xs => .own xs
/-- p is none of the lists -/
def Nl (p : Addr) : List PV → List V → Prop
  | .l _ :: r, vs => ∃ q t, vs = .ref q :: t ∧ q ≠ p ∧ Nl p r t
  | .v _ :: r, vs => ∃ x t, vs = x :: t ∧ Nl p r t
  | [], _ => True
def PvAl (K : PySem.W.Frag) (w w' : Wd) : List PV → List V → Prop
  | [], vs => vs = []
  | .v d :: r, vs => ∃ x t, vs = x :: t ∧ (rv d).p K x w'.Hi ∧ PvAl K w w' r t
  | .l xs :: r, vs => ∃ p us t, vs = .ref p :: t ∧ w.H p = none ∧ w'.H p = some (.lst us) ∧ w'.O p = none ∧ w'.Hi p = none ∧ Al D K w'.Hi xs us ∧ Nl p r t ∧ PvAl K w w' r t
theorem PvAl.base {K : PySem.W.Frag} {w0 w w' : Wd} (l : Le w0 w) : ∀ {r : List PV} {vs : List V}, PvAl K w w' r vs → PvAl K w0 w' r vs
  | [], _, h => h
  | .v d :: r, _, ⟨x, t, e, h1, h2⟩ => ⟨x, t, e, h1, PvAl.base l h2⟩
  | .l xs :: r, _, ⟨p, us, t, e, h1, h2, h3, h4, h5, h6, h7⟩ => ⟨p, us, t, e, l.none h1, h2, h3, h4, h5, h6, PvAl.base l h7⟩
theorem PvAl.nl {K : PySem.W.Frag} {w w' : Wd} {p : Addr} (hp : w.H p ≠ none) : ∀ {r : List PV} {vs : List V}, PvAl K w w' r vs → Nl p r vs
  | [], _, h => trivial
  | .v d :: r, _, ⟨x, t, e, h1, h2⟩ => ⟨x, t, e, PvAl.nl hp h2⟩
  | .l xs :: r, _, ⟨q, us, t, e, h1, h2, h3, h4, h5, h6, h7⟩ => ⟨q, t, e, fun z => hp (by rw [← z]; exact h1), PvAl.nl hp h7⟩
theorem PvAl.ado {K : PySem.W.Frag} {w w' : Wd} {p : Addr} {i : Nat} : ∀ {r : List PV} {vs : List V}, Nl p r vs → PvAl K w w' r vs → PvAl K w (w'.ado p i) r vs
  | [], _, _, h => h
  | .v d :: r, _, ⟨_, _, e0, n⟩, ⟨x, t, e, h1, h2⟩ => by
    subst e
    cases e0
    exact ⟨_, _, rfl, h1, PvAl.ado n h2⟩
  | .l xs :: r, _, ⟨_, _, e0, n1, n⟩, ⟨q, us, t, e, h1, h2, h3, h4, h5, h6, h7⟩ => by
    subst e
    cases e0
    exact ⟨_, us, _, rfl, h1, h2, (if_neg n1).trans h3, h4, h5, h6, PvAl.ado n h7⟩
def setP : PE' → List Nat → List PV → PE'
  | ρ, i :: is, p :: ps => setP (ρ.set i p.sv) is ps
  | ρ, _, _ => ρ
@[simp] theorem setP_cons {ρ : PE'} {i : Nat} {is : List Nat} {p : PV} {ps : List PV} : setP ρ (i :: is) (p :: ps) = setP (ρ.set i p.sv) is ps := rfl
@[simp] theorem setP_nil {ρ : PE'} : setP ρ [] [] = ρ := rfl
@[simp] theorem sv_v {d : D} : (PV.v d).sv = .im d := rfl
@[simp] theorem sv_l {d : List D} : (PV.l d).sv = .own d := rfl
def setV : L2.St → List Nat → List V → L2.St
  | σ, i :: is, v :: vs => setV (σ.set i (some v)) is vs
  | σ, _, _ => σ
/-- all lists adopted, all names bound -/
theorem adopt_all {K : PySem.W.Frag} {xa : Xa} {w : Wd} : ∀ (is : List Nat) (ps : List PV) (ρ : PE') (σ : L2.St) (w' : Wd) (vs : List V), Rep K (S xa ρ) σ w' → Le w w' → PvAl K w w' ps vs → is.length = ps.length →
    ∃ w2 : Wd, w2.H = w'.H ∧ w2.Hi = w'.Hi ∧ Rep K (S xa (setP ρ is ps)) (setV σ is vs) w2 ∧ Le w w2
  | [], [], ρ, σ, w', vs, R, l, h, _ => by
    rw [show vs = [] from h]
    exact ⟨w', rfl, rfl, R, l⟩
  | i :: is, .v d :: ps, ρ, σ, w', vs, R, l, ⟨x, t, e, h1, h2⟩, hl => by
    subst e
    have R2 := R.set (i := i) (s := im (rv d)) (x := some x) ⟨x, rfl, h1⟩
    rw [S_im] at R2
    exact adopt_all is ps _ _ w' t R2 l h2 (by simpa using hl)
  | i :: is, .l xs :: ps, ρ, σ, w', vs, R, l, ⟨p, us, t, e, h1, h2, h3, h4, h5, h6, h7⟩, hl => by
    subst e
    obtain ⟨a1, a2, a3⟩ := ado_rep (i := i) R l h1 h2 h3 h4 h5
    have R2 := a1.set (i := i) (s := own xs) a3
    rw [S_own] at R2
    obtain ⟨w2, e1, e2, R3, l3⟩ := adopt_all is ps _ _ (w'.ado p i) t R2 a2 (PvAl.ado h6 h7) (by simpa using hl)
    exact ⟨w2, e1, e2, R3, l3⟩
  | [], _ :: _, _, _, _, _, _, _, _, hl => by simp at hl
  | _ :: _, [], _, _, _, _, _, _, _, hl => by simp at hl
section
variable {X : Cx} {We : WX} {xa : Xa} {a b c e : Expr} {es : List Expr} {A : Cp D} {L : Cp (List D)} {M : Cp (List PV)} {pos : Pos}
def tPv (K : PySem.W.Frag) (env env' : List Slot) (ps : List PV) : TA := fun σ H Q => ∃ w : Wd, w.H = H ∧ Rep K env σ w ∧ ∀ vs w', Rep K env' σ w' → Le w w' → PvAl K w w' ps vs → Q vs w'.H
def tRPv (X : Cx) (We : WX) (xa : Xa) (env : List Slot) : Rs (List PV) → TA
  | .ok d ρ => tPv X.K env (S xa ρ) d
  | .er c d ρ => tXX X.K We env (S xa ρ) (cK X.K c) (rv d)
structure CPv (X : Cx) (We : WX) (xa : Xa) (es : List Expr) (M : Cp (List PV)) : Prop where
  run : ∀ ρ r, M ρ = some r → PA X es (tRPv X We xa (S xa ρ) r)
def pvN : Cp (List PV) := fun ρ => some (.ok [] ρ)
def pvE (A : Cp D) (M : Cp (List PV)) : Cp (List PV) := fun ρ => bd (A ρ) fun x ρ1 => bd (M ρ1) fun xs ρ2 => some (.ok (.v x :: xs) ρ2)
def pvL (L : Cp (List D)) (M : Cp (List PV)) : Cp (List PV) := fun ρ => bd (L ρ) fun x ρ1 => bd (M ρ1) fun xs ρ2 => some (.ok (.l x :: xs) ρ2)
@[simp] theorem pvN_ {ρ : PE'} : pvN ρ = some (.ok [] ρ) := rfl
@[simp] theorem pvE_ {ρ : PE'} : pvE A M ρ = bd (A ρ) fun x ρ1 => bd (M ρ1) fun xs ρ2 => some (.ok (.v x :: xs) ρ2) := rfl
@[simp] theorem pvL_ {ρ : PE'} : pvL L M ρ = bd (L ρ) fun x ρ1 => bd (M ρ1) fun xs ρ2 => some (.ok (.l x :: xs) ρ2) := rfl
theorem cpv_nil : CPv X We xa [] pvN := ⟨fun ρ r h => by
  cases h
  exact pa_nil.imp fun σ H Q ⟨w, e1, R1, q⟩ => by
    subst e1
    exact q [] w R1 (Le.refl w) rfl⟩
theorem cpv_E (h : CE X We xa e A) (t : CPv X We xa es M) (hs : starEach (e :: es) X.env = (false, eval e X.env) :: starEach es X.env := by rfl) : CPv X We xa (e :: es) (pvE A M) := ⟨fun ρ r hM => by
  rcases bd_some hM with ⟨x, ρ1, h1, h2⟩ | ⟨c, d, ρ1, h1, rfl⟩
  · rcases bd_some h2 with ⟨y, ρ2, h3, h4⟩ | ⟨c', d', ρ2, h3, rfl⟩
    · cases h4
      exact (pa_cons (h.run _ _ h1) (t.run _ _ h3) hs).imp fun σ H Q ⟨w, e1, R1, q⟩ => ⟨w, e1, R1, fun v w1 R2 l1 pv => ⟨w1, rfl, R2, fun vs w2 R3 l2 al => q (v :: vs) w2 R3 (l1.trans l2) ⟨v, vs, rfl, (rv x).mono l2.hi pv, al.base l1⟩⟩⟩
    · exact (pa_cons (h.run _ _ h1) (t.run _ _ h3) hs).imp fun σ H Q ⟨w, e1, R1, q⟩ => ⟨w, e1, R1, fun v w' R' l _ => ⟨w', rfl, R', fun w2 d u R2 l2 n => q w2 d u R2 (l.trans l2) (l.none n)⟩⟩
  · exact (pa_cons (h.run _ _ h1) (t := fun _ _ _ => False) ⟨fun _ _ _ _ _ _ _ h => h.elim⟩ hs).imp fun σ H Q q => q⟩
theorem cpv_L (h : CL X We xa e L) (t : CPv X We xa es M) (hs : starEach (e :: es) X.env = (false, eval e X.env) :: starEach es X.env := by rfl) : CPv X We xa (e :: es) (pvL L M) := ⟨fun ρ r hM => by
  rcases bd_some hM with ⟨x, ρ1, h1, h2⟩ | ⟨c, d, ρ1, h1, rfl⟩
  · rcases bd_some h2 with ⟨y, ρ2, h3, h4⟩ | ⟨c', d', ρ2, h3, rfl⟩
    · cases h4
      exact (pa_cons (h.run _ _ h1) (t.run _ _ h3) hs).imp fun σ H Q ⟨w, e1, R1, q⟩ => ⟨w, e1, R1, fun p us w1 R2 l1 hp al => ⟨w1.put p (.lst us), rfl, R2.put hp, fun vs w2 R3 l2 al2 => by
        have l3 := l1.trans (put_le R2.ok hp (o := .lst us))
        obtain ⟨f1, f2⟩ := R2.ok.fresh hp
        obtain ⟨g1, g2, g3⟩ := l2.kp p (.lst us) upd_same f2 nt_lst
        exact q (.ref p :: vs) w2 R3 (l3.trans l2) ⟨p, us, vs, rfl, l1.none hp, g1, g2, g3.trans f1, al.mono l2.hi, al2.nl (by show upd w1.H p _ p ≠ none; rw [upd_same]; simp), al2.base l3⟩⟩⟩
    · exact (pa_cons (h.run _ _ h1) (t.run _ _ h3) hs).imp fun σ H Q ⟨w, e1, R1, q⟩ => ⟨w, e1, R1, fun pp vs w' R' l hp al => ⟨w'.put pp (.lst vs), rfl, R'.put hp, fun w2 d u R2 l2 n => q w2 d u R2 ((l.trans (put_le R'.ok hp)).trans l2) ((l.trans (put_le R'.ok hp)).none n)⟩⟩
  · exact (pa_cons (h.run _ _ h1) (t := fun _ _ _ => False) ⟨fun _ _ _ _ _ _ _ h => h.elim⟩ hs).imp fun σ H Q q => q⟩
/-- names bound at once -/
def parN (is : List Nat) (M : Cp (List PV)) : Cs := fun ρ => match M ρ with
  | some (.ok ps ρ1) => if ps.length = is.length then some (.nx (setP ρ1 is ps)) else none
  | some (.er c d ρ1) => some (.er c d ρ1)
  | none => none
@[simp] theorem parN_ {is : List Nat} {ρ : PE'} : parN is M ρ = match M ρ with
  | some (.ok ps ρ1) => if ps.length = is.length then some (.nx (setP ρ1 is ps)) else none
  | some (.er c d ρ1) => some (.er c d ρ1)
  | none => none := rfl
theorem PvAl.len {K : PySem.W.Frag} {w w' : Wd} : ∀ {r : List PV} {vs : List V}, PvAl K w w' r vs → vs.length = r.length
  | [], _, h => by rw [show _ = ([] : List V) from h]; rfl
  | .v d :: r, _, ⟨x, t, e, h1, h2⟩ => by rw [e, List.length_cons, List.length_cons, PvAl.len h2]
  | .l xs :: r, _, ⟨p, us, t, e, h1, h2, h3, h4, h5, h6, h7⟩ => by rw [e, List.length_cons, List.length_cons, PvAl.len h7]
theorem cs_par3 (i j l : Nat) {x y z : Str} {px py pz pt pt2 : Pos} {kt k2} (hc : X.calm = true) (hN : X.N.Nodup) (ha : CPv X We xa [a, b, c] M) (hij : i ≠ j := by decide) (hil : i ≠ l := by decide) (hjl : j ≠ l := by decide) (hi : X.N[i]? = some x := by rfl) (hj : X.N[j]? = some y := by rfl) (hl : X.N[l]? = some z := by rfl)
    (hx : X.env.scope.names.lookup x = some .local := by rfl) (hy : X.env.scope.names.lookup y = some .local := by rfl) (hz : X.env.scope.names.lookup z = some .local := by rfl)
    (hw : swappedStores [.Tuple [.Name x px, .Name y py, .Name z pz] kt pt] (.Tuple [a, b, c] k2 pt2) X.env = pure (some [x, y, z]) := by rfl)
    (hs : swapsWithSole [.Tuple [.Name x px, .Name y py, .Name z pz] kt pt] (.Tuple [a, b, c] k2 pt2) pos.line X.env = pure false := by rfl) : CS X We xa (.Assign [.Tuple [.Name x px, .Name y py, .Name z pz] kt pt] (.Tuple [a, b, c] k2 pt2) pos) (parN [i, j, l] M) := ⟨fun ρ o hM => by
  unfold parN at hM
  split at hM
  · rename_i ps ρ1 h1
    split at hM
    · rename_i hlen
      cases hM
      refine (ps_par3 hc hN hi hj hl hij hil hjl hx hy hz (ha.run _ _ h1) hw hs).imp fun D' σ H ⟨w, e1, R1, q⟩ => ⟨w, e1, R1, fun vs w' R' l al => ?_⟩
      obtain ⟨w2, e1, e2, R2, l2⟩ := adopt_all [i, j, _] ps ρ1 σ w' vs R' l al hlen.symm
      have hv := al.len
      rw [hlen] at hv
      match vs, hv with
      | [u, v, t], _ =>
        refine ⟨u, v, t, rfl, ?_⟩
        rw [← e1]
        exact q _ w2 R2 l2
    · cases hM
  · rename_i c d ρ1 h1
    cases hM
    exact (ps_par3 hc hN hi hj hl hij hil hjl hx hy hz (ha.run _ _ h1) hw hs).imp fun D' σ H ⟨w, e1, R1, q⟩ => ⟨w, e1, R1, fun w' d v R' l n => q σ w' d v R' l n⟩
  · cases hM⟩
theorem cs_par2 (i j : Nat) {x y : Str} {px py pt pt2 : Pos} {kt k2} (hc : X.calm = true) (hN : X.N.Nodup) (ha : CPv X We xa [a, b] M) (hij : i ≠ j := by decide) (hi : X.N[i]? = some x := by rfl) (hj : X.N[j]? = some y := by rfl)
    (hx : X.env.scope.names.lookup x = some .local := by rfl) (hy : X.env.scope.names.lookup y = some .local := by rfl)
    (hw : swappedStores [.Tuple [.Name x px, .Name y py] kt pt] (.Tuple [a, b] k2 pt2) X.env = pure (some [x, y]) := by rfl)
    (hs : swapsWithSole [.Tuple [.Name x px, .Name y py] kt pt] (.Tuple [a, b] k2 pt2) pos.line X.env = pure false := by rfl) : CS X We xa (.Assign [.Tuple [.Name x px, .Name y py] kt pt] (.Tuple [a, b] k2 pt2) pos) (parN [i, j] M) := ⟨fun ρ o hM => by
  unfold parN at hM
  split at hM
  · rename_i ps ρ1 h1
    split at hM
    · rename_i hlen
      cases hM
      refine (ps_par hc hN hi hj hij hx hy (ha.run _ _ h1) hw hs).imp fun D' σ H ⟨w, e1, R1, q⟩ => ⟨w, e1, R1, fun vs w' R' l al => ?_⟩
      obtain ⟨w2, e1, e2, R2, l2⟩ := adopt_all [i, j] ps ρ1 σ w' vs R' l al hlen.symm
      have hv := al.len
      rw [hlen] at hv
      match vs, hv with
      | [u, v], _ =>
        refine ⟨u, v, rfl, ?_⟩
        rw [← e1]
        exact q _ w2 R2 l2
    · cases hM
  · rename_i c d ρ1 h1
    cases hM
    exact (ps_par hc hN hi hj hij hx hy (ha.run _ _ h1) hw hs).imp fun D' σ H ⟨w, e1, R1, q⟩ => ⟨w, e1, R1, fun w' d v R' l n => q σ w' d v R' l n⟩
  · cases hM⟩
/-! names that are bound by taking a tuple apart -/
def gNames : List Nat → TGs
  | [] => gNil
  | i :: is => gCons (gName i) (gNames is)
theorem gNames_run {Q : L2.St → Hp → Prop} {H : Hp} : ∀ {is : List Nat} {vs : List V} {σ : L2.St}, vs.length = is.length → Q (setV σ is vs) H → gNames is vs σ H Q
  | [], [], σ, _, h => ⟨rfl, h⟩
  | i :: is, v :: vs, σ, hl, h => ⟨v, vs, rfl, gNames_run (by simpa using hl) h⟩
  | [], _ :: _, _, hl, _ => by simp at hl
  | _ :: _, [], _, hl, _ => by simp at hl
structure CNm (X : Cx) (es : List Expr) (is : List Nat) : Prop where
  run : PGs X es (gNames is)
theorem cnm_nil : CNm X [] [] := ⟨pgs_nil⟩
theorem cnm_cons (i : Nat) {x : Str} {is : List Nat} {px : Pos} (hN : X.N.Nodup) (t : CNm X es is) (hi : X.N[i]? = some x := by rfl) (hx : Loc X.env.scope x := by first | exact Or.inl rfl | exact Or.inr rfl) (hf : X.fn x = true ∨ X.env.scope.names.lookup x = some .local := by first | exact .inl rfl | exact .inr rfl | assumption)
    (hs : (assignEach (.Name x px :: es) X.env).map (·.2) = assign (.Name x px) X.env :: (assignEach es X.env).map (·.2) := by rfl) : CNm X (.Name x px :: es) (i :: is) := ⟨pgs_cons (pg_name hN hi hx hf) t.run hs⟩
theorem PvAl.put {K : PySem.W.Frag} {w w' : Wd} {p : Addr} {o : HO} (hp : w'.H p = none) : ∀ {r : List PV} {vs : List V}, PvAl K w w' r vs → PvAl K w (w'.put p o) r vs
  | [], _, h => h
  | .v d :: r, _, ⟨x, t, e, h1, h2⟩ => ⟨x, t, e, h1, PvAl.put hp h2⟩
  | .l xs :: r, _, ⟨q, us, t, e, h1, h2, h3, h4, h5, h6, h7⟩ => ⟨q, us, t, e, h1, (upd_ne (ne_of_none h2 hp)).trans h2, h3, h4, h5, h6, PvAl.put hp h7⟩
theorem cs_asgP {tgs : List Expr} {is : List Nat} {pt pt2 : Pos} {kt k2} (hc : X.calm = true) (ha : CPv X We xa es M) (hT : CNm X tgs is) (h0 : is.length ≤ 1000 := by decide) (hn : (assignEach tgs X.env).length = is.length := by rfl) (hst : (assignEach tgs X.env).findIdx? (·.1) = none := by rfl)
    (hs : swapsWithSole [.Tuple tgs kt pt] (.Tuple es k2 pt2) pos.line X.env = pure false := by rfl) (hw : swappedStores [.Tuple tgs kt pt] (.Tuple es k2 pt2) X.env = pure none := by rfl)
    (h1 : (assignEach [.Tuple tgs kt pt] X.env).map (·.2) = [assign (.Tuple tgs kt pt) X.env] := by rfl) : CS X We xa (.Assign [.Tuple tgs kt pt] (.Tuple es k2 pt2) pos) (parN is M) := ⟨fun ρ o hM => by
  unfold parN at hM
  split at hM
  · rename_i ps ρ1 h2
    split at hM
    · rename_i hlen
      cases hM
      refine (ps_asg (pe_tup (ha.run _ _ h2)) (pg_tup hc hT.run hn hst) hs hw h1).imp fun D' σ H ⟨w, e1, R1, q⟩ => ⟨w, e1, R1, fun vs w' R' l al => ?_⟩
      have hv := al.len
      rw [hlen] at hv
      refine ⟨by rw [hv]; exact Nat.le_trans h0 (by decide), fun p hp => ⟨p, vs, rfl, SqT.of upd_same, hv, ?_⟩⟩
      obtain ⟨w2, e1, e2, R2, l2⟩ := adopt_all is ps ρ1 σ (w'.put p (.tup vs)) vs (R'.put hp) (l.trans (put_le R'.ok hp)) (al.put hp) hlen.symm
      refine gNames_run hv ?_
      have e3 : upd w'.H p (.tup vs) = w2.H := e1.symm
      rw [e3]
      exact q _ w2 R2 l2
    · cases hM
  · rename_i c d ρ1 h2
    cases hM
    exact (ps_asg (pe_tup (ha.run _ _ h2)) (pg_tup hc hT.run hn hst) hs hw h1).imp fun D' σ H ⟨w, e1, R1, q⟩ => ⟨w, e1, R1, fun w' d v R' l n => q σ w' d v R' l n⟩
  · cases hM⟩
end
end BC

/-! s.count(x), of numbers and of truths. -/
namespace BC
open PySem PySem.Spec PyProof.Rows L2
variable [TabL]
def rCntL (K : PySem.W.Frag) : V → List V → Hp → VK → Prop := fun x xs H Q => ∃ (a : Addr) (y : V) (ds : List PyData) (d : PyData) (n : Nat), x = .ref a ∧ xs = [y] ∧ Dp K H (.ref a) (.list ds) ∧ Dp K H y d ∧ PyData.plainAll ds = true ∧ d.plain = true ∧ d.depth = 0 ∧ (ds.countP fun z => PyData.eqv z d) = n ∧ Q (.int (n : Int)) H
theorem mt_cntL {X : Cx} (hu : X.A.units + 1 < cLine) : MtR X "list.count" (rCntL X.K) := by
  intro pins s σ H x xs v us Q I rx rxs h
  obtain ⟨a, y, ds, d, n, rfl, rfl, hl, hy, h1, h2, h3, h4, q⟩ := h
  cases rx
  obtain ⟨u, rfl, ru⟩ := rxs.one
  obtain ⟨bs, r1⟩ := Dp.reads I d y u hy ru
  cases hl with
  | lst hs ha =>
    obtain ⟨its, rv, p, hz⟩ := I.list hs
    obtain ⟨as, r2⟩ := Dp.readsAll I ds _ its ha rv
    refine SeqAt.count_list_data (vs := its.toArray) p.isList (by simpa using r2) r1 h1 h2 (by rw [h3]; simpa using hu) ⟨.int (n : Int), H, I.tok _, ⟨s.toks, ?_⟩, q⟩
    rw [h4]
theorem cnt_ints (k : Int) : ∀ is : List Int, (D.daL (is.map D.int)).countP (fun z => PyData.eqv z (.int k)) = is.count k ∧ PyData.plainAll (D.daL (is.map D.int)) = true
  | [] => ⟨rfl, rfl⟩
  | i :: is => by
    obtain ⟨h1, h2⟩ := cnt_ints k is
    refine ⟨?_, by simp [D.daL, D.da, PyData.plainAll, PyData.plain, h2]⟩
    simp only [List.map_cons, D.daL, D.da, List.countP_cons, List.count_cons, h1]
    simp [PyData.eqv]
theorem cnt_bls (k : Bool) : ∀ is : List Bool, (D.daL (is.map D.bl)).countP (fun z => PyData.eqv z (.bool k)) = is.count k ∧ PyData.plainAll (D.daL (is.map D.bl)) = true
  | [] => ⟨rfl, rfl⟩
  | i :: is => by
    obtain ⟨h1, h2⟩ := cnt_bls k is
    refine ⟨?_, by simp [D.daL, D.da, PyData.plainAll, PyData.plain, h2]⟩
    simp only [List.map_cons, D.daL, D.da, List.countP_cons, List.count_cons, h1]
    cases i <;> cases k <;> simp [PyData.eqv]
def cntN : List D → D → Option Nat
  | xs, .int k => (ints? xs).map fun is => is.count k
  | xs, .bl b => (bls? xs).map fun bs => bs.count b
  | _, _ => none
def cntD : D → D → Option D
  | .lst xs, y => Option.map (fun (k : Nat) => D.int (k : Int)) (cntN xs y)
  | _, _ => none
@[simp] theorem cntD_lst {xs : List D} {y : D} : cntD (.lst xs) y = Option.map (fun (k : Nat) => D.int (k : Int)) (cntN xs y) := rfl
def cntC (A B : Cp D) : Cp D := fun ρ => match A ρ with
  | some (.ok x ρ1) => (match B ρ1 with
    | some (.ok y ρ2) => lf (cntD x y) ρ2
    | _ => none)
  | _ => none
@[simp] theorem cntC_ {A B : Cp D} {ρ : PE'} : cntC A B ρ = match A ρ with
  | some (.ok x ρ1) => (match B ρ1 with
    | some (.ok y ρ2) => lf (cntD x y) ρ2
    | _ => none)
  | _ => none := rfl
@[simp] theorem cntN_int {xs : List D} {k : Int} : cntN xs (.int k) = (ints? xs).map fun is => is.count k := rfl
@[simp] theorem cntN_bl {xs : List D} {k : Bool} : cntN xs (.bl k) = (bls? xs).map fun is => is.count k := rfl
theorem cntN_da {xs : List D} {y : D} {n : Nat} (h : cntN xs y = some n) : PyData.plainAll (D.daL xs) = true ∧ y.da.plain = true ∧ y.da.depth = 0 ∧ ((D.daL xs).countP fun z => PyData.eqv z y.da) = n ∧ xs.all (D.wfb 19) = true ∧ D.wfb 20 y = true := by
  unfold cntN at h
  split at h
  · rename_i k
    cases q : ints? xs with
    | none => rw [q] at h; cases h
    | some is =>
      rw [q] at h
      cases h
      have e := ints_eq q
      subst e
      obtain ⟨h1, h2⟩ := cnt_ints k is
      refine ⟨h2, rfl, rfl, h1, ?_, wfb_int⟩
      rw [List.all_eq_true]
      intro x hx
      obtain ⟨i, _, rfl⟩ := List.mem_map.mp hx
      exact wfb_int
  · rename_i k
    cases q : bls? xs with
    | none => rw [q] at h; cases h
    | some is =>
      rw [q] at h
      cases h
      have e := bls_eq q
      subst e
      obtain ⟨h1, h2⟩ := cnt_bls k is
      refine ⟨h2, rfl, rfl, h1, ?_, wfb_bl⟩
      rw [List.all_eq_true]
      intro x hx
      obtain ⟨i, _, rfl⟩ := List.mem_map.mp hx
      exact wfb_bl
  · cases h
section
variable {X : Cx} {We : WX} {xa : Xa} {o e : Expr} {A B : Cp D} {apos pos : Pos} {k : Nat}
theorem ce_count (hr : Rm k X.A) (ha : CE X We xa o A) (hb : CE X We xa e B) (hbase : attributeBase o "count" X.env (eval o X.env) = eval o X.env := by rfl)
    (hfew : ((backTo pos (starEach [e] X.env)).all (fun x => !x.1) && (backToKw pos (keywordEach [] X.env)).all (fun x => x.1.isSome)
      && decide (([e] : List Expr).length + ([] : List Keyword).length + (if ([] : List Keyword).isEmpty then 0 else 1) < 30)) = true := by rfl)
    (hline : (apos.endLine == pos.line) = true := by rfl) (hs : starEach [e] X.env = (false, eval e X.env) :: starEach [] X.env := by rfl) (hplain : (backTo pos (starEach [] X.env)).any (·.1) = false := by rfl) :
    CE X We xa (.Call (.Attribute o "count" apos) [e] [] pos) (cntC A B) := ⟨fun ρ r hM => by
  have hu : X.A.units + 1 < cLine := Nat.lt_of_le_of_lt (Nat.add_le_add_left (by decide) _) hr.un
  unfold cntC at hM
  split at hM
  · rename_i x ρ1 h1
    split at hM
    · rename_i y ρ2 h3
      obtain ⟨z, h5, rfl⟩ := lf_ok hM
      unfold cntD at h5
      split at h5
      · rename_i xs
        cases q : cntN xs y with
        | none => rw [q] at h5; cases h5
        | some n =>
          rw [q] at h5
          cases h5
          obtain ⟨g1, g2, g3, g4, g5, g6⟩ := cntN_da q
          refine (pe_bm PySem.F.plainAttrs_list PySem.F.slot_list_count PySem.F.type_list_count (mt_cntL hu) (ha.run _ _ h1) (pa_cons (hb.run _ _ h3) pa_nil hs) hbase hfew hline hs hplain).imp fun σ H Q ⟨w, e1, R1, q⟩ => ⟨w, e1, R1, fun v w' R' l pv => ?_⟩
          obtain ⟨a, vs, ev, hq, al⟩ := id pv
          subst ev
          refine ⟨.inl ⟨rfl, vs, SqL.of (R'.ok.sub _ _ hq)⟩, w', rfl, R', fun u w2 R2 l2 pu => ⟨a, u, D.daL xs, y.da, n, rfl, rfl, ?_, ?_, g1, g2, g3, g4, q _ w2 R2 (l.trans l2) rfl⟩⟩
          · exact dp_mono R2.ok.sub (dp_dab 20 (x := .lst xs) g5 (D.mono l2.hi pv))
          · exact dp_mono R2.ok.sub (dp_dab 20 g6 pu)
      · cases h5
    · cases hM
  · cases hM⟩
end
end BC

/-! xs.pop(e). -/
namespace BC
open PySem PySem.Spec PyProof.Rows L2
variable [TabL]
def popA (i : Nat) (B : Cp D) : Cp D := fun ρ => match lsAt ρ i with
  | some (b, _) => (match B ρ with
    | some (.ok (.int j) ρ1) => (match lsAt ρ1 i with
      | some (b', xs) => if b' = b ∧ xs.length ≤ 100000 then (match ixN xs.length j with
        | some k => (match xs[k]? with
          | some y => some (.ok y (ρ1.set i (mkS b (xs.eraseIdx k))))
          | none => none)
        | none => none) else none
      | none => none)
    | _ => none)
  | none => none
theorem Al.erase {K : PySem.W.Frag} {H : Hp} {xs : List D} {vs : List V} (h : Al D K H xs vs) (k : Nat) : Al D K H (xs.eraseIdx k) (vs.eraseIdx k) := by
  rw [List.eraseIdx_eq_take_drop_succ, List.eraseIdx_eq_take_drop_succ]
  exact Al.app (h.take k) (h.drop (k + 1))
section
variable {X : Cx} {We : WX} {xa : Xa} {e : Expr} {B : Cp D} {apos pos q : Pos} {x : Str}
theorem ce_popA (i : Nat) (he : CE X We xa e B) (hN : X.N[i]? = some x := by rfl)
    (hv : Vis X.env.scope x := by first | exact Or.inl rfl | exact Or.inr (Or.inl rfl) | exact Or.inr (Or.inr rfl)) (hd : (x == ("__debug__" : Str)) = false := by decide) (hcd : (x == ("__classdict__" : Str)) = false := by decide)
    (hbase : attributeBase (.Name x q) "pop" X.env (eval (.Name x q) X.env) = eval (.Name x q) X.env := by rfl)
    (hfew : ((backTo pos (starEach [e] X.env)).all (fun x => !x.1) && (backToKw pos (keywordEach [] X.env)).all (fun x => x.1.isSome)
      && decide (([e] : List Expr).length + ([] : List Keyword).length + (if ([] : List Keyword).isEmpty then 0 else 1) < 30)) = true := by rfl)
    (hline : (apos.endLine == pos.line) = true := by rfl) (hst : starEach [e] X.env = (false, eval e X.env) :: starEach [] X.env := by rfl) (hplain : (backTo pos (starEach [] X.env)).any (·.1) = false := by rfl) :
    CE X We xa (.Call (.Attribute (.Name x q) "pop" apos) [e] [] pos) (popA i B) := ⟨fun ρ r hM => by
  unfold popA at hM
  split at hM
  · rename_i b zs h1
    split at hM
    · rename_i j ρ1 h2
      split at hM
      · rename_i b' xs h3
        split at hM
        · rename_i hc
          obtain ⟨rfl, hz⟩ := hc
          split at hM
          · rename_i k hk
            split at hM
            · rename_i y hy
              cases hM
              have O := mkL_own b'
              refine (pe_bm PySem.F.plainAttrs_list PySem.F.slot_list_pop PySem.F.type_list_pop mt_popAt (pe_own O i (lsAt_S (xa := xa) h1) hN hv hd hcd) (pa_cons (he.run _ _ h2) pa_nil hst) hbase hfew hline hst hplain).imp fun σ H Q ⟨w, e1, R1, qq⟩ => ⟨w, e1, R1, fun a ha => ?_⟩
              obtain ⟨vs, g3, g4, g5, g6⟩ := R1.own O (lsAt_S (xa := xa) h1) ha
              refine ⟨.inl ⟨rfl, vs, SqL.of g5⟩, w, rfl, R1, fun v w' R' l pv => ?_⟩
              have pv : v = .int j := pv
              subst pv
              obtain ⟨us, k3, k4, k5, k6⟩ := R'.own O (lsAt_S (xa := xa) h3) ha
              obtain ⟨s1, s2, s3, s4⟩ := ixN_seq hk
              obtain ⟨z, hzv, hp⟩ := k6.get hy
              have hl := k6.len
              refine ⟨a, us, j, k, z, rfl, rfl, k5, by omega, by omega, by rw [hl]; exact s1, hzv, ?_⟩
              have al := k6.erase k
              obtain ⟨R2, l2⟩ := wr_rep (s := mkL b' (xs.eraseIdx k)) (vs := us.eraseIdx k) R' k4 ha (O.put k3 rfl k4 upd_same al rfl)
              refine qq _ _ ?_ (l.trans l2) (Rp.mono l2.hi hp)
              rw [← S_set, mkS_sl]
              exact R2
            · cases hM
          · cases hM
        · cases hM
      · cases hM
    · cases hM
  · cases hM⟩
end
end BC

/-! xs.index(y), y among them; numbers or truths. -/
namespace BC
open PySem PySem.Spec PyProof.Rows L2
variable [TabL]
theorem Rm.un65 {k : Nat} {A : Around} (hr : Rm k A) : A.units + 65 < cLine := by
  have := hr.room.un
  omega
def fst? {α : Type} [DecidableEq α] : List α → α → Option Nat
  | [], _ => none
  | i :: is, k => if i = k then some 0 else (fst? is k).map (· + 1)
theorem fst_spec {α : Type} [DecidableEq α] {k : α} : ∀ {is : List α} {j : Nat}, fst? is k = some j → is[j]? = some k ∧ ∀ m z, m < j → is[m]? = some z → z ≠ k
  | [], _, h => by cases h
  | i :: is, j, h => by
    unfold fst? at h
    split at h
    · rename_i e
      cases h
      exact ⟨by rw [e]; rfl, fun m z hm => absurd hm (Nat.not_lt_zero _)⟩
    · rename_i ne
      cases q : fst? is k with
      | none => rw [q] at h; cases h
      | some j' =>
        rw [q] at h
        have h : some (j' + 1) = some j := h
        cases h
        obtain ⟨h1, h2⟩ := fst_spec q
        refine ⟨by simpa using h1, fun m z hm hz => ?_⟩
        cases m with
        | zero =>
          simp at hz
          rw [← hz]
          exact ne
        | succ m => exact h2 m z (by omega) (by simpa using hz)
theorem daL_at {α : Type} (f : α → D) : ∀ (is : List α) (j : Nat), (D.daL (is.map f))[j]? = is[j]?.map fun x => (f x).da
  | [], j => by simp [D.daL]
  | i :: is, 0 => by simp [D.daL]
  | i :: is, j + 1 => by
    simp only [List.map_cons, D.daL, List.getElem?_cons_succ]
    exact daL_at f is j
theorem shp_flat {α : Type} (f : α → D) (hf : ∀ x, (f x).da.canLay0 = true ∧ (f x).da.depth = 0) : ∀ is : List α, PyData.canLayAll0 (D.daL (is.map f)) = true ∧ PyData.depthAll (D.daL (is.map f)) = 0
  | [] => ⟨rfl, rfl⟩
  | i :: is => by
    obtain ⟨h1, h2⟩ := shp_flat f hf is
    obtain ⟨g1, g2⟩ := hf i
    exact ⟨by simp [D.daL, PyData.canLayAll0, h1, g1], by simp [D.daL, PyData.depthAll, h2, g2]⟩
def idxN : List D → D → Option Nat
  | xs, .int k => (ints? xs).bind fun is => fst? is k
  | xs, .bl b => (bls? xs).bind fun bs => fst? bs b
  | _, _ => none
@[simp] theorem idxN_int {xs : List D} {k : Int} : idxN xs (.int k) = (ints? xs).bind fun is => fst? is k := rfl
@[simp] theorem idxN_bl {xs : List D} {k : Bool} : idxN xs (.bl k) = (bls? xs).bind fun is => fst? is k := rfl
theorem idx_gen {α : Type} [DecidableEq α] (f : α → D) (hf : ∀ x, (f x).da.canLay0 = true ∧ (f x).da.depth = 0) (hq : ∀ x y, PyData.eqv (f x).da (f y).da = decide (x = y)) {is : List α} {k : α} {j : Nat} (h : fst? is k = some j) :
    SeqAt.shaped (.list (D.daL (is.map f))) = true ∧ SeqAt.shaped (f k).da = true ∧ (D.daL (is.map f))[j]? = some (f k).da ∧ PyData.eqv (f k).da (f k).da = true ∧ ∀ (m : Nat) (z : PyData), m < j → (D.daL (is.map f))[m]? = some z → PyData.eqv z (f k).da = false := by
  obtain ⟨h1, h2⟩ := fst_spec h
  obtain ⟨g1, g2⟩ := shp_flat f hf is
  obtain ⟨k1, k2⟩ := hf k
  refine ⟨by simp [SeqAt.shaped, PyData.canLay0, PyData.depth, g1, g2], by simp [SeqAt.shaped, k1, k2], by rw [daL_at, h1]; rfl, by rw [hq]; simp, fun m z hm hz => ?_⟩
  rw [daL_at] at hz
  cases q : is[m]? with
  | none => rw [q] at hz; cases hz
  | some y =>
    rw [q] at hz
    cases hz
    rw [hq]
    exact decide_eq_false (h2 m y hm q)
def idxD : D → D → Option D
  | .lst xs, y => Option.map (fun (k : Nat) => D.int (k : Int)) (idxN xs y)
  | _, _ => none
@[simp] theorem idxD_lst {xs : List D} {y : D} : idxD (.lst xs) y = Option.map (fun (k : Nat) => D.int (k : Int)) (idxN xs y) := rfl
theorem idxN_da {xs : List D} {y : D} {j : Nat} (h : idxN xs y = some j) : (SeqAt.shaped (.list (D.daL xs)) = true ∧ SeqAt.shaped y.da = true ∧ (D.daL xs)[j]? = some y.da ∧ PyData.eqv y.da y.da = true ∧ ∀ (m : Nat) (z : PyData), m < j → (D.daL xs)[m]? = some z → PyData.eqv z y.da = false) ∧ xs.all (D.wfb 19) = true ∧ D.wfb 20 y = true := by
  unfold idxN at h
  split at h
  · rename_i k
    cases q : ints? xs with
    | none => rw [q] at h; cases h
    | some is =>
      rw [q] at h
      have e := ints_eq q
      subst e
      refine ⟨idx_gen D.int (fun x => ⟨rfl, rfl⟩) (fun x y => by simp only [D.da, PyData.eqv]; by_cases e : x = y <;> simp [e]) h, ?_, wfb_int⟩
      rw [List.all_eq_true]
      intro x hx
      obtain ⟨i, _, rfl⟩ := List.mem_map.mp hx
      exact wfb_int
  · rename_i k
    cases q : bls? xs with
    | none => rw [q] at h; cases h
    | some is =>
      rw [q] at h
      have e := bls_eq q
      subst e
      refine ⟨idx_gen D.bl (fun x => ⟨rfl, rfl⟩) (fun x y => by cases x <;> cases y <;> rfl) h, ?_, wfb_bl⟩
      rw [List.all_eq_true]
      intro x hx
      obtain ⟨i, _, rfl⟩ := List.mem_map.mp hx
      exact wfb_bl
  · cases h
def idxC (A B : Cp D) : Cp D := fun ρ => match A ρ with
  | some (.ok x ρ1) => (match B ρ1 with
    | some (.ok y ρ2) => lf (idxD x y) ρ2
    | _ => none)
  | _ => none
@[simp] theorem idxC_ {A B : Cp D} {ρ : PE'} : idxC A B ρ = match A ρ with
  | some (.ok x ρ1) => (match B ρ1 with
    | some (.ok y ρ2) => lf (idxD x y) ρ2
    | _ => none)
  | _ => none := rfl
section
variable {X : Cx} {We : WX} {xa : Xa} {o e : Expr} {A B : Cp D} {apos pos : Pos} {k : Nat}
theorem ce_index (hr : Rm k X.A) (ha : CE X We xa o A) (hb : CE X We xa e B) (hbase : attributeBase o "index" X.env (eval o X.env) = eval o X.env := by rfl)
    (hfew : ((backTo pos (starEach [e] X.env)).all (fun x => !x.1) && (backToKw pos (keywordEach [] X.env)).all (fun x => x.1.isSome)
      && decide (([e] : List Expr).length + ([] : List Keyword).length + (if ([] : List Keyword).isEmpty then 0 else 1) < 30)) = true := by rfl)
    (hline : (apos.endLine == pos.line) = true := by rfl) (hs : starEach [e] X.env = (false, eval e X.env) :: starEach [] X.env := by rfl) (hplain : (backTo pos (starEach [] X.env)).any (·.1) = false := by rfl) :
    CE X We xa (.Call (.Attribute o "index" apos) [e] [] pos) (idxC A B) := ⟨fun ρ r hM => by
  unfold idxC at hM
  split at hM
  · rename_i x ρ1 h1
    split at hM
    · rename_i y ρ2 h3
      obtain ⟨z, h5, rfl⟩ := lf_ok hM
      unfold idxD at h5
      split at h5
      · rename_i xs
        cases q : idxN xs y with
        | none => rw [q] at h5; cases h5
        | some n =>
          rw [q] at h5
          cases h5
          obtain ⟨⟨g1, g2, g3, g4, g5⟩, g6, g7⟩ := idxN_da q
          refine (pe_bm PySem.F.plainAttrs_list PySem.F.slot_list_index PySem.F.type_list_index (mt_indexD hr.un65) (ha.run _ _ h1) (pa_cons (hb.run _ _ h3) pa_nil hs) hbase hfew hline hs hplain).imp fun σ H Q ⟨w, e1, R1, q⟩ => ⟨w, e1, R1, fun v w' R' l pv => ?_⟩
          obtain ⟨a, vs, ev, hq, al⟩ := id pv
          subst ev
          refine ⟨.inl ⟨rfl, vs, SqL.of (R'.ok.sub _ _ hq)⟩, w', rfl, R', fun u w2 R2 l2 pu => ⟨a, u, y.da, D.daL xs, n, y.da, rfl, rfl, ?_, ?_, g1, g2, g3, g4, g5, q _ w2 R2 (l.trans l2) rfl⟩⟩
          · exact dp_mono R2.ok.sub (dp_dab 20 (x := .lst xs) g6 (D.mono l2.hi pv))
          · exact dp_mono R2.ok.sub (dp_dab 20 g7 pu)
      · cases h5
    · cases hM
  · cases hM⟩
end
end BC

/-! isinstance(e, ValueError), e what is handled. -/
namespace BC
open PySem PySem.Spec PyProof.Rows L2
variable [TabL]
def isiV (ns : List Str) (c : Str) : Option Bool := if c ∈ ns then some true else none
section
variable {X : Cx} {We : WX} {p pos p2 np : Pos} {n : Str} {xa : Xa} {D' fI : Addr} {oe : Obj} {pn : List (Addr × Obj)} {ns : List Str}
theorem ce_isiV (i : Nat) (Tc : PySem.RefX.ClsTxt X.K D' fI (cK X.K xa.c)) (It : IsTxt X.K (cK X.K xa.c)) (hz : Zc (.ref (cK X.K xa.c)) (some xa.d) oe) (hf : ∃ vs, oe.data = .fields vs) (KV : ∀ c ∈ ns, PySem.W.kitOne X.K (.ref (cK X.K c)) (.type "ValueError") = some true) (hm2 : X.mg "ValueError" = none) (hm : X.mg "isinstance" = none) (hN : X.N[i]? = some n := by rfl) (hv : Vis X.env.scope n := by first | exact Or.inl rfl | exact Or.inr (Or.inl rfl) | exact Or.inr (Or.inr rfl))
    (hd : (n == ("__debug__" : Str)) = false := by decide) (hcd : (n == ("__classdict__" : Str)) = false := by decide) (hg : Gl X "isinstance" := by rfl) (hgT : Gl X "ValueError" := by rfl)
    (hs : starEach [.Name n np, .Name "ValueError" p2] X.env = (false, eval (.Name n np) X.env) :: starEach [.Name "ValueError" p2] X.env := by rfl) (hs2 : starEach [.Name "ValueError" p2] X.env = (false, eval (.Name "ValueError" p2) X.env) :: starEach [] X.env := by rfl) (hpl : (backTo pos (starEach [.Name "ValueError" p2] X.env)).any (·.1) = false := by rfl) :
    CE (X.suite xa.a ((xa.a, oe) :: pn)) We xa (.Call (.Name "isinstance" p) [.Name n np, .Name "ValueError" p2] [] pos) (vB (isiC i (isiV ns))) := by
  refine ce_isiE i Tc It hz hf (pe_bltn (X := X.suite xa.a ((xa.a, oe) :: pn)) (v := .ty "ValueError") hgT hm2 (by decide +kernel) rfl (by decide) (by decide)) (.ty "ValueError") (fun b hb => ?_) hm hN hv hd hcd hg hs hs2 hpl
  unfold isiV at hb
  split at hb
  · rename_i hc
    cases hb
    exact KV _ hc
  · cases hb
end
end BC

/-! list(range(n)), tuple(range(n)). -/
namespace BC
open PySem PySem.Spec PyProof.Rows L2
variable [TabL]
def rgD : D → Option (List D)
  | .int n => if -100000 ≤ n ∧ n ≤ 100000 then some ((rng 0 n.toNat).map D.int) else none
  | _ => none
@[simp] theorem rgD_int {n : Int} : rgD (.int n) = if -100000 ≤ n ∧ n ≤ 100000 then some ((rng 0 n.toNat).map D.int) else none := rfl
def rgT (d : D) : Option D := (rgD d).map D.tup
@[simp] theorem rgT_ {d : D} : rgT d = (rgD d).map D.tup := rfl
theorem rgV_eq (n : Int) : rgV 0 n = (rng 0 n.toNat).map V.int := by
  unfold rgV rng
  rw [List.map_map, Int.sub_zero]
  rfl
section
variable {X : Cx} {We : WX} {xa : Xa} {e : Expr} {A : Cp D} {p p2 pos pos2 : Pos}
theorem cl_listRg (hc : X.calm = true) (h : CE X We xa e A) (hm : X.mg "list" = none) (hm2 : X.mg "range" = none) (hg : Gl X "list" := by rfl) (hg2 : Gl X "range" := by rfl) (na : starEach [e] X.env = (false, eval e X.env) :: starEach [] X.env := by rfl)
    (na2 : starEach [.Call (.Name "range" p2) [e] [] pos2] X.env = (false, eval (.Call (.Name "range" p2) [e] [] pos2) X.env) :: starEach [] X.env := by rfl) : CL X We xa (.Call (.Name "list" p) [.Call (.Name "range" p2) [e] [] pos2] [] pos) (mapC rgD A) := ⟨fun ρ r hM => by
  rcases bd_some hM with ⟨x, ρ1, h1, h2⟩ | ⟨c, d, ρ1, h1, rfl⟩
  · obtain ⟨z, h3, rfl⟩ := lf_ok h2
    unfold rgD at h3
    split at h3
    · rename_i n
      split at h3
      · rename_i hn
        cases h3
        refine (pe_listRg hc hg hm (prg_1 hg2 hm2 (h.run _ _ h1) na) na2).imp fun σ H Q ⟨w, e1, R1, q⟩ => ⟨w, e1, R1, fun v w' R' l pv => ⟨n, pv, ⟨by omega, by omega, by omega, by omega, by omega⟩, fun a ha => ?_⟩⟩
        rw [rgV_eq]
        exact q a _ w' R' l ha (al_ofints _)
      · cases h3
    · cases h3
  · exact (pe_listRg hc hg hm (prg_1 hg2 hm2 (h.run _ _ h1) na) na2).imp fun σ H Q q => q⟩
theorem ce_tupRg (hc : X.calm = true) (h : CE X We xa e A) (hm : X.mg "tuple" = none) (hm2 : X.mg "range" = none) (hg : Gl X "tuple" := by rfl) (hg2 : Gl X "range" := by rfl) (na : starEach [e] X.env = (false, eval e X.env) :: starEach [] X.env := by rfl)
    (na2 : starEach [.Call (.Name "range" p2) [e] [] pos2] X.env = (false, eval (.Call (.Name "range" p2) [e] [] pos2) X.env) :: starEach [] X.env := by rfl) : CE X We xa (.Call (.Name "tuple" p) [.Call (.Name "range" p2) [e] [] pos2] [] pos) (mapC rgT A) := ⟨fun ρ r hM => by
  rcases bd_some hM with ⟨x, ρ1, h1, h2⟩ | ⟨c, d, ρ1, h1, rfl⟩
  · obtain ⟨z, h3, rfl⟩ := lf_ok h2
    unfold rgT rgD at h3
    split at h3
    · rename_i n
      split at h3
      · rename_i hn
        cases h3
        refine (pe_tupRg hc hg hm (prg_1 hg2 hm2 (h.run _ _ h1) na) na2).imp fun σ H Q ⟨w, e1, R1, q⟩ => ⟨w, e1, R1, fun v w' R' l pv => ⟨n, pv, ⟨by omega, by omega, by omega, by omega, by omega⟩, fun a ha => ?_⟩⟩
        rw [rgV_eq]
        have hn2 := (R'.ok.fresh ha).1
        exact q (.ref a) (w'.add a (.tup _)) (R'.add ha) (l.trans (add_le R'.ok ha)) ⟨a, _, rfl, SqT.of upd_same, rpL_al.mpr (al_ofints _)⟩
      · cases h3
    · cases h3
  · exact (pe_tupRg hc hg hm (prg_1 hg2 hm2 (h.run _ _ h1) na) na2).imp fun σ H Q q => q⟩
end
end BC

/-! t * k, a tuple and a whole number. -/
namespace L2
open PySem PySem.Spec PyProof.Rows
theorem tuple_mulWs (l : Addr) (items : Array Value) (n : Nat) (dd : Option Addr) (sl : Array (Option Value)) (x : Int) (u : Tok) (c0 : (decide (x < -(2 ^ 63)) || decide (x ≥ 2 ^ 63)) = false) (c1 : (items.isEmpty || x == 1) = true) :
    Meets (Builtin.«tuple.__mul__» ⟨[.ref l, .int x u], []⟩) (fun _ R s => s.heap.get? l = some { cls := .type "tuple", dict := dd, data := .seq items n, slots := sl } ∧ R (.ok (.ret (Value.ref l))) s) :=
  .of_wp fun prog w A R s h => by
    obtain ⟨hp, g, d, tk, os⟩ := s
    obtain ⟨hl, h⟩ := h
    have f1 := AutoSeq1.idx_int
    wp_walk using wpAny_loadPart' hl
    repeat (first
      | (refine wpAny_ite_false (decide_eq_false (by rw [c0]; exact Bool.false_ne_true)) ?_; wp_walk using wpAny_loadPart' hl)
      | (refine wpAny_ite_true (decide_eq_true (by rw [c1])) ?_; wp_walk using wpAny_loadPart' hl))
    exact ⟨_, rfl, h⟩
theorem tuple_mulWn (l : Addr) (items : Array Value) (n : Nat) (dd : Option Addr) (sl : Array (Option Value)) (x : Int) (u : Tok) (c0 : (decide (x < -(2 ^ 63)) || decide (x ≥ 2 ^ 63)) = false) (c1 : (items.isEmpty || x == 1) = false) (c2 : (decide (x ≤ 0) || items.isEmpty) = true) :
    Meets (Builtin.«tuple.__mul__» ⟨[.ref l, .int x u], []⟩) (fun _ R s => s.heap.get? l = some { cls := .type "tuple", dict := dd, data := .seq items n, slots := sl } ∧ R (.ok (.ret (Value.ref s.heap.objs.size))) { s with heap := s.heap.push { cls := Value.type "tuple", data := Data.seq #[] }, toks := s.toks }) :=
  .of_wp fun prog w A R s h => by
    obtain ⟨hp, g, d, tk, os⟩ := s
    obtain ⟨hl, h⟩ := h
    have f1 := AutoSeq1.idx_int
    wp_walk using wpAny_loadPart' hl
    repeat (first
      | (refine wpAny_ite_false (decide_eq_false (by rw [c0]; exact Bool.false_ne_true)) ?_; wp_walk using wpAny_loadPart' hl)
      | (refine wpAny_ite_false (decide_eq_false (by rw [c1]; exact Bool.false_ne_true)) ?_; wp_walk using wpAny_loadPart' hl)
      | (refine wpAny_ite_true (decide_eq_true (by rw [c2])) ?_; wp_walk using wpAny_loadPart' hl))
    exact ⟨_, rfl, h⟩
def rRepA (K : PySem.W.Frag) : R2 := fun x y H Q => ∃ l k xs, x = .ref l ∧ y = .int k ∧ SqT K H l xs ∧ xs ≠ [] ∧ -(2 ^ 62) ≤ k ∧ k ≤ 1000 ∧ xs.length ≤ 1000 ∧ (k = 1 → Q (.ref l) H) ∧ (k ≠ 1 → ∀ p, H p = none → Q (.ref p) (upd H p (.tup (List.replicate k.toNat xs).flatten)))
section
variable {X : Cx}
theorem op_repA : OpR X (binaryOp .Mult) (rRepA X.K) := by
  intro pins s σ H x y v u Q I rx ry h
  obtain ⟨l, k, xs, rfl, rfl, hT, hne, h1, h2, hz, q1, q2⟩ := h
  by_cases k1 : k = 1 ∨ k ≤ 0
  · cases rx
    obtain ⟨t, rfl⟩ := ry
    obtain ⟨its, r, ⟨⟨cls, dd, data, sl⟩, ho, hc, n, hd⟩, hs⟩ := I.tuple hT
    simp only at hc hd
    subst hc hd
    have hle : its.length = xs.length := r.length.symm
    have hn : its ≠ [] := fun e => hne (by
      rw [e] at hle
      exact List.eq_nil_of_length_eq_zero hle.symm)
    have hi : its.toArray.isEmpty = false := by
      cases its with
      | nil => exact absurd rfl hn
      | cons a b => rfl
    have c0 : (decide (k < -(2 ^ 63)) || decide (k ≥ 2 ^ 63)) = false := by
      rw [decide_eq_false (by omega), decide_eq_false (by omega)] <;> rfl
    rcases k1 with k1 | k0
    · have c1 : (its.toArray.isEmpty || k == 1) = true := by
        rw [k1]
        simp
      refine wpAny_binaryOp_repeat_ref (T := "tuple") (U := "int") (by decide) ⟨_, ho, rfl⟩ (fun s' => typeIs_int s' k t) noFill_tuple_mul F.fills_int_mul F.slot_int_rmul repeat_tuple F.slot_int_index.lookup
        (call_meets F.slot_int_rmul (typeIs_int s k t) F.entry_int_rmul (F.args_int_rmul_2 _ _) (int_rmul_tuple k t l its.toArray n dd sl)
          ⟨ho, rfl, ⟨_, ho, rfl⟩, call_meets F.slot_tuple_mul ⟨_, ho, rfl⟩ F.entry_tuple_mul (F.args_tuple_mul_2 _ _) (tuple_mulWs l its.toArray n dd sl k t c0 c1) ⟨ho, ?_⟩⟩)
      exact ⟨.ref l, H, I, rfl, q1 k1⟩
    · have c1 : (its.toArray.isEmpty || k == 1) = false := by
        rw [hi, Bool.false_or]
        exact beq_eq_false_iff_ne.mpr (by omega)
      have c2 : (decide (k ≤ 0) || its.toArray.isEmpty) = true := by
        rw [decide_eq_true k0]
        rfl
      refine wpAny_binaryOp_repeat_ref (T := "tuple") (U := "int") (by decide) ⟨_, ho, rfl⟩ (fun s' => typeIs_int s' k t) noFill_tuple_mul F.fills_int_mul F.slot_int_rmul repeat_tuple F.slot_int_index.lookup
        (call_meets F.slot_int_rmul (typeIs_int s k t) F.entry_int_rmul (F.args_int_rmul_2 _ _) (int_rmul_tuple k t l its.toArray n dd sl)
          ⟨ho, rfl, ⟨_, ho, rfl⟩, call_meets F.slot_tuple_mul ⟨_, ho, rfl⟩ F.entry_tuple_mul (F.args_tuple_mul_2 _ _) (tuple_mulWn l its.toArray n dd sl k t c0 c1 c2) ⟨ho, ?_⟩⟩)
      have q2 := q2 (by omega)
      rw [show k.toNat = 0 by omega] at q2
      refine ⟨.ref s.heap.objs.size, _, I.laid (t' := s.toks) (o := .tup (List.replicate 0 xs).flatten) (fun b ob q => Heap.get?_push_of_some _ q) (Nat.le_refl _) ?_, rfl, q2 _ (I.hok.fresh (Nat.le_refl _))⟩
      exact ⟨Nat.zero_le _, [], .nil, IsTup.new _ _⟩
  · exact op_repT pins s σ H _ _ v u Q I rx ry ⟨l, k, xs, rfl, rfl, hT, hne, by omega, h2, hz, q2 (by omega)⟩
end
end L2
namespace BC
open PySem PySem.Spec PyProof.Rows L2
variable [TabL]
section
variable {X : Cx} {We : WX} {xa : Xa} {a b e : Expr} {A B : Cp D} {pos : Pos}
theorem ov_repT {xs : List D} {k : Int} (h0 : xs ≠ []) (h1 : -4611686018427387904 ≤ k) (h2 : k ≤ 1000) (h3 : xs.length ≤ 1000) : OpV X (rRepA X.K) (rv (D.tup xs)) (rv (D.int k)) (rv (D.tup (List.replicate k.toNat xs).flatten)) := by
  rw [rv_tup, rv_tup]
  intro env σ x y w R1 hx hy Q q
  obtain ⟨t, vs, e1, p1, p2⟩ := hx
  refine ⟨t, k, vs, e1, hy, Ex.t R1.ok.sub p1, fun z => h0 (List.eq_nil_of_length_eq_zero (by rw [← p2.len, z]; rfl)), by omega, h2, by rw [p2.len]; exact h3, fun k1 => ?_, fun _ p hp => ?_⟩
  · subst k1
    refine q _ w R1 (Le.refl w) ?_
    rw [show (List.replicate (1 : Int).toNat xs).flatten = xs by simp]
    exact ⟨t, vs, rfl, p1, p2⟩
  · have h5 := (R1.ok.fresh hp).1
    exact q _ (w.add p (.tup (List.replicate k.toNat vs).flatten)) (R1.add hp) (add_le R1.ok hp) ⟨p, _, rfl, SqT.of upd_same, (al_rep p2 _).mono (Ex.new h5)⟩
/-- products with tuples among them -/
def mulT : D → D → Option D
  | .tup xs, .int k => if xs ≠ [] ∧ -4611686018427387904 ≤ k ∧ k ≤ 1000 ∧ xs.length ≤ 1000 then some (.tup (List.replicate k.toNat xs).flatten) else none
  | x, y => mulE x y
@[simp] theorem mulT_int {i j : Int} : mulT (.int i) (.int j) = mulD (.int i) (.int j) := rfl
@[simp] theorem mulT_lst {xs : List D} {k : Int} : mulT (.lst xs) (.int k) = mulE (.lst xs) (.int k) := rfl
@[simp] theorem mulT_tup {xs : List D} {k : Int} : mulT (.tup xs) (.int k) = if xs ≠ [] ∧ -4611686018427387904 ≤ k ∧ k ≤ 1000 ∧ xs.length ≤ 1000 then some (.tup (List.replicate k.toNat xs).flatten) else none := rfl
theorem ce_mulT (ha : CE X We xa a A) (hb : CE X We xa b B) : CE X We xa (.BinOp a .Mult b pos) (binC mulT A B) := ce_op (fun x y z h => by
  unfold mulT at h
  split at h
  · split at h
    · rename_i hz
      cases h
      exact ⟨_, op_repA, ov_repT hz.1 hz.2.1 hz.2.2.1 hz.2.2.2⟩
    · cases h
  · unfold mulE at h
    split at h
    · split at h
      · rename_i hz
        cases h
        exact ⟨_, op_rep, ov_repL hz.1 hz.2⟩
      · cases h
    · unfold mulD at h
      split at h
      · split at h
        · rename_i hc
          cases h; exact ⟨_, op_mul, ov_C hc fun _ _ => rfl⟩
        · cases h
      · cases h) ha hb
end
end BC

/-! sorted over pairs of numbers; tuples of numbers compared. -/
namespace L2
open PySem PySem.Spec PyProof.Rows
/-- before or alike -/
def leP (p q : Int × Int) : Bool := decide (p.1 < q.1 ∨ (p.1 = q.1 ∧ p.2 ≤ q.2))
theorem leP_iff {p q : Int × Int} : leP p q = true ↔ (p.1 < q.1 ∨ (p.1 = q.1 ∧ p.2 ≤ q.2)) := decide_eq_true_iff
theorem leP_total (p q : Int × Int) : leP p q = true ∨ leP q p = true := by
  rw [leP_iff, leP_iff]
  omega
theorem leP_trans {p q r : Int × Int} (h1 : leP p q = true) (h2 : leP q r = true) : leP p r = true := by
  rw [leP_iff] at *
  omega
theorem leP_anti {p q : Int × Int} (h1 : leP p q = true) (h2 : leP q p = true) : p = q := by
  rw [leP_iff] at *
  exact Prod.ext (by omega) (by omega)
def insP (x : Int × Int) : List (Int × Int) → List (Int × Int)
  | [] => [x]
  | y :: ys => if leP x y = true then x :: y :: ys else y :: insP x ys
def srtP : List (Int × Int) → List (Int × Int)
  | [] => []
  | x :: xs => insP x (srtP xs)
theorem insP_perm (x : Int × Int) : ∀ ys, (insP x ys).Perm (x :: ys)
  | [] => .refl _
  | y :: ys => by
    unfold insP
    split
    · exact .refl _
    · exact ((insP_perm x ys).cons y).trans (.swap x y ys)
theorem srtP_perm : ∀ xs, (srtP xs).Perm xs
  | [] => .refl _
  | x :: xs => (insP_perm x _).trans ((srtP_perm xs).cons x)
theorem insP_sorted (x : Int × Int) : ∀ {ys}, ys.Pairwise (fun p q => leP p q = true) → (insP x ys).Pairwise (fun p q => leP p q = true)
  | [], _ => List.pairwise_singleton _ _
  | y :: ys, h => by
    have h' := List.pairwise_cons.mp h
    unfold insP
    split
    · rename_i hx
      refine List.pairwise_cons.mpr ⟨fun z hz => ?_, h⟩
      rcases List.mem_cons.mp hz with q | q
      · rw [q]; exact hx
      · exact leP_trans hx (h'.1 z q)
    · rename_i hx
      refine List.pairwise_cons.mpr ⟨fun z hz => ?_, insP_sorted x h'.2⟩
      rcases List.mem_cons.mp ((insP_perm x ys).mem_iff.mp hz) with q | q
      · rw [q]
        rcases leP_total x y with w | w
        · exact absurd w hx
        · exact w
      · exact h'.1 z q
theorem srtP_sorted : ∀ xs, (srtP xs).Pairwise (fun p q => leP p q = true)
  | [] => .nil
  | x :: xs => insP_sorted x (srtP_sorted xs)
theorem sortedP_unique : ∀ {xs ys : List (Int × Int)}, xs.Perm ys → xs.Pairwise (fun p q => leP p q = true) → ys.Pairwise (fun p q => leP p q = true) → xs = ys
  | [], ys, hp, _, _ => hp.nil_eq
  | x :: xs, [], hp, _, _ => absurd hp.length_eq (by simp)
  | x :: xs, y :: ys, hp, hx, hy => by
    have hx' := List.pairwise_cons.mp hx
    have hy' := List.pairwise_cons.mp hy
    have e : x = y := by
      have a : leP y x = true := by
        rcases List.mem_cons.mp (hp.mem_iff.mp (List.mem_cons_self (a := x))) with q | q
        · rw [q]; exact leP_iff.mpr (.inr ⟨rfl, Int.le_refl _⟩)
        · exact hy'.1 x q
      have b : leP x y = true := by
        rcases List.mem_cons.mp (hp.mem_iff.mpr (List.mem_cons_self (a := y))) with q | q
        · rw [q]; exact leP_iff.mpr (.inr ⟨rfl, Int.le_refl _⟩)
        · exact hx'.1 y q
      exact leP_anti b a
    subst e
    rw [sortedP_unique hp.cons_inv hx'.2 hy'.2]
theorem srtP_id {xs : List (Int × Int)} (h : xs.Pairwise (fun p q => leP p q = true)) : srtP xs = xs := sortedP_unique (srtP_perm xs) (srtP_sorted xs) h
/-- a pair of numbers -/
def PrRel (K : PySem.W.Frag) (H : Hp) (x : V) (p : Int × Int) : Prop := ∃ t, x = .ref t ∧ SqT K H t [.int p.1, .int p.2]
def PrAl (K : PySem.W.Frag) (H : Hp) : List V → List (Int × Int) → Prop
  | [], ps => ps = []
  | x :: xs, ps => ∃ p r, ps = p :: r ∧ PrRel K H x p ∧ PrAl K H xs r
theorem PrAl.map {K : PySem.W.Frag} {H : Hp} {k : V → Int × Int} (hk : ∀ x p, PrRel K H x p → k x = p) : ∀ {xs : List V} {ps : List (Int × Int)}, PrAl K H xs ps → ps = xs.map k ∧ ∀ x ∈ xs, PrRel K H x (k x)
  | [], _, h => ⟨h, fun x hx => by cases hx⟩
  | x :: xs, _, ⟨p, r, e, h1, h2⟩ => by
    obtain ⟨i1, i2⟩ := PrAl.map hk h2
    have e1 := hk x p h1
    refine ⟨by rw [e, i1, List.map_cons, e1], fun y hy => ?_⟩
    rcases List.mem_cons.mp hy with q | q
    · rw [q, e1]; exact h1
    · exact i2 y q
theorem PrAl.of {K : PySem.W.Frag} {H : Hp} {k : V → Int × Int} : ∀ {xs : List V}, (∀ x ∈ xs, PrRel K H x (k x)) → PrAl K H xs (xs.map k)
  | [], _ => rfl
  | x :: xs, h => ⟨k x, xs.map k, rfl, h x List.mem_cons_self, PrAl.of fun y hy => h y (List.mem_cons_of_mem _ hy)⟩
theorem PrAl.each {K : PySem.W.Frag} {H : Hp} {k : V → Int × Int} : ∀ {xs : List V}, PrAl K H xs (xs.map k) → ∀ x ∈ xs, PrRel K H x (k x)
  | [], _, _, hx => by cases hx
  | x :: xs, ⟨p, r, e, h1, h2⟩, y, hy => by
    rw [List.map_cons] at e
    injection e with e1 e2
    subst e1
    subst e2
    rcases List.mem_cons.mp hy with q | q
    · rw [q]; exact h1
    · exact PrAl.each h2 y q
def rSortedPT (K : PySem.W.Frag) : List V → Hp → VK → Prop := fun vs H Q => ∃ (a : Addr) (xs : List V) (ps : List (Int × Int)), vs = [V.ref a] ∧ SqL K H a xs ∧ PrAl K H xs ps ∧
  ∀ (k : V → Int × Int) ys p, xs.map k = ps → ys.map k = srtP ps → (∀ y ∈ ys, y ∈ xs) → H p = none → Q (.ref p) (upd H p (.lst ys))
section
variable {X : Cx}
theorem cr_sortedPT : CallR X (.builtin "sorted") (rSortedPT X.K) := by
  intro pins s σ H vs us Q I r h
  obtain ⟨a, xs, ps, rfl, hs, hx, q⟩ := h
  obtain ⟨k, hk⟩ : ∃ k : V → Int × Int, ∀ x p, PrRel X.K H x p → k x = p := by
    classical
    refine ⟨fun x => if h : ∃ p, PrRel X.K H x p then Classical.choose h else (0, 0), fun x p hp => ?_⟩
    have hex : ∃ p, PrRel X.K H x p := ⟨p, hp⟩
    show (if h : ∃ p, PrRel X.K H x p then Classical.choose h else (0, 0)) = p
    rw [dif_pos hex]
    obtain ⟨t, e1, h1⟩ := Classical.choose_spec hex
    obtain ⟨t2, e2, h2⟩ := hp
    rw [e1] at e2
    cases e2
    have := I.tuple_inj h1 h2
    simp at this
    exact Prod.ext this.1 this.2
  obtain ⟨ep, hx⟩ := hx.map hk
  obtain ⟨its, rv, hl, hz⟩ := I.list hs
  obtain ⟨u, rfl, ru⟩ := vals1 r
  obtain rfl : u = Value.ref a := ru
  obtain ⟨e1, e2⟩ := refs_back rv fun x m => by
    obtain ⟨t, e, _⟩ := hx x m
    exact ⟨t, e⟩
  refine SrtO.sorted_pairsO (k := fun u => k (backV u)) hl.isList (by rw [← rv.length]; exact hz) (fun v hv => ?_) fun h' d out h1 h2 kp hd hn => ?_
  · obtain ⟨t, rfl⟩ := e2 v hv
    have hm : V.ref t ∈ xs := by rw [e1]; exact List.mem_map.mpr ⟨_, hv, rfl⟩
    obtain ⟨t', e, ht⟩ := hx _ hm
    cases e
    obtain ⟨its2, r2, ⟨o, ho, hc, n, hd⟩, _⟩ := I.tuple ht
    obtain ⟨u1, u2, rfl, ri, rj⟩ := vals2 r2
    obtain ⟨t1, rfl⟩ := ri
    obtain ⟨t2, rfl⟩ := rj
    exact ⟨t, o, t1, t2, n, rfl, ho, hc, hd⟩
  · have h3 : ∀ u ∈ out, ∃ a, u = Value.ref a := fun u hu => e2 u (h2.perm.mem_iff.mp hu)
    obtain ⟨n, hn⟩ := hn
    have hb : SrtO.Stb (ltP k) (out.map backV) xs := by
      rw [e1]
      exact SrtO.Stb.map (ltP_swo k) backV h2
    have hs2 : SrtO.Srtd (ltP k) (out.map backV) := SrtO.srtd_map h1
    refine ⟨.ref d, upd H d (.lst (out.map backV)), I.laid (t' := s.toks) kp hd ⟨?_, out, n, vals_back h3, hn⟩, rfl, q k _ d ep.symm ?_ (fun y hy => hb.perm.mem_iff.mp hy) (I.hok.fresh hd)⟩
    · rw [hb.len]
      exact hz
    · show (out.map backV).map k = srtP ps
      · refine sortedP_unique ?_ ?_ (srtP_sorted ps)
        · rw [ep]
          exact (hb.perm.map k).trans (srtP_perm _).symm
        · refine List.pairwise_map.mpr (hs2.imp fun {x y} hxy => ?_)
          have := SrtO.lexB_no.mp hxy
          rw [leP_iff]
          omega
end
end L2
namespace BC
open PySem PySem.Spec PyProof.Rows L2
variable [TabL]
def prD (p : Int × Int) : D := .tup [.int p.1, .int p.2]
def pr1? : D → Option (Int × Int)
  | .tup [.int i, .int j] => some (i, j)
  | _ => none
def prs? : List D → Option (List (Int × Int))
  | [] => some []
  | d :: ds => match pr1? d, prs? ds with
    | some p, some r => some (p :: r)
    | _, _ => none
@[simp] theorem pr1_prD {p : Int × Int} : pr1? (prD p) = some p := rfl
@[simp] theorem prs_map {ps : List (Int × Int)} : prs? (ps.map prD) = some ps := by
  induction ps with
  | nil => rfl
  | cons p ps ih =>
    rw [List.map_cons]
    unfold prs?
    rw [pr1_prD, ih]
theorem pr1_eq {d : D} {p : Int × Int} (h : pr1? d = some p) : d = prD p := by
  unfold pr1? at h
  split at h
  · cases h; rfl
  · cases h
theorem prs_eq : ∀ {ds : List D} {ps : List (Int × Int)}, prs? ds = some ps → ds = ps.map prD
  | [], _, h => by cases h; rfl
  | d :: ds, ps, h => by
    unfold prs? at h
    split at h
    · rename_i p r h1 h2
      cases h
      rw [pr1_eq h1, prs_eq h2]
      rfl
    · cases h
def srtA : D → Option (List D)
  | .lst xs => match ints? xs with
    | some is => some ((srtI is).map D.int)
    | none => match prs? xs with
      | some ps => some ((srtP ps).map prD)
      | none => none
  | _ => none
@[simp] theorem srtA_ints {xs : List Int} : srtA (.lst (xs.map D.int)) = some ((srtI xs).map D.int) := by unfold srtA; simp
@[simp] theorem srtA_prs {ps : List (Int × Int)} : srtA (.lst (ps.map prD)) = some ((srtP ps).map prD) := by
  unfold srtA
  cases ps with
  | nil => rfl
  | cons p ps =>
    have : ints? ((p :: ps).map prD) = none := rfl
    dsimp only
    rw [this, prs_map]
theorem prAl_of {K : PySem.W.Frag} {H : Hp} : ∀ {ps : List (Int × Int)} {vs : List V}, Al D K H (ps.map prD) vs → PrAl K H vs ps
  | [], _, h => by rw [show _ = [] from h]; rfl
  | p :: ps, _, ⟨v, r, e, h1, h2⟩ => by
    rw [e]
    obtain ⟨a, ws, e1, h3, u, t, e2, h4, u2, t2, e3, h5, h6⟩ := h1
    refine ⟨p, ps, rfl, ⟨a, e1, ?_⟩, prAl_of h2⟩
    rw [e2, e3, show t2 = [] from h6, show u = .int p.1 from h4, show u2 = .int p.2 from h5] at h3
    exact h3
theorem al_prAl {K : PySem.W.Frag} {H : Hp} : ∀ {ps : List (Int × Int)} {vs : List V}, PrAl K H vs ps → Al D K H (ps.map prD) vs
  | [], [], h => rfl
  | [], _ :: _, ⟨_, _, e, _⟩ => by cases e
  | p :: ps, [], h => by cases h
  | p :: ps, v :: vs, ⟨_, _, e, ⟨t, e1, h1⟩, h2⟩ => by
    cases e
    exact ⟨v, vs, rfl, ⟨t, [.int p.1, .int p.2], e1, h1, .int p.1, [.int p.2], rfl, rfl, .int p.2, [], rfl, rfl, rfl⟩, al_prAl h2⟩
theorem PrAl.mono {K : PySem.W.Frag} {H H' : Hp} (x : Ex H H') : ∀ {vs : List V} {ps : List (Int × Int)}, PrAl K H vs ps → PrAl K H' vs ps
  | [], _, h => h
  | _ :: _, _, ⟨p, r, e, ⟨t, e1, h1⟩, h2⟩ => ⟨p, r, e, ⟨t, e1, Ex.t x h1⟩, PrAl.mono x h2⟩
section
variable {env env1 env2 : List Slot} {X : Cx} {We : WX} {xa : Xa} {a b c e : Expr} {A B C E : Cp D} {p pos : Pos}
theorem cl_sortedA (h : CE X We xa e A) (hm : X.mg "sorted" = none) (hg : Gl X "sorted" := by rfl) (hs : starEach [e] X.env = (false, eval e X.env) :: starEach [] X.env := by rfl) (hpl : (backTo pos (starEach [] X.env)).any (·.1) = false := by rfl) :
    CL X We xa (.Call (.Name "sorted" p) [e] [] pos) (mapC srtA A) := ⟨fun ρ r hM => by
  rcases bd_some hM with ⟨x, ρ1, h1, h2⟩ | ⟨c, d, ρ1, h1, rfl⟩
  · obtain ⟨z, h3, rfl⟩ := lf_ok h2
    have h := h.run _ _ h1
    unfold srtA at h3
    split at h3
    · rename_i xs
      split at h3
      · rename_i bs q
        cases h3
        have e := ints_eq q
        subst e
        have h : HE X _ _ _ (rv (D.lst (bs.map D.int))) := h
        rw [rv_lst] at h
        exact (pe_callB cr_sortedI hg hm (by decide +kernel) (pa_cons h pa_nil hs) (he := hs) (hpl := hpl)).imp fun σ H Q ⟨w, e1, R1, q⟩ => ⟨w, e1, R1, fun v w' R' l ⟨t, vs, e2, h1, h2⟩ =>
          ⟨t, bs, by rw [e2], SqL.of (R'.ok.sub _ _ (by rw [← al_int (rpL_al.mpr h2)]; exact h1)), fun ns' p hp hs' hn => by
            have e3 : ns' = srtI bs := sorted_unique (hp.trans (srtI_perm bs).symm) hs' (srtI_sorted bs)
            subst e3
            exact q p _ w' R' l hn (al_ofints _)⟩⟩
      · split at h3
        · rename_i ps q
          cases h3
          have e := prs_eq q
          subst e
          have h : HE X _ _ _ (rv (D.lst (ps.map prD))) := h
          rw [rv_lst] at h
          refine (pe_callB cr_sortedPT hg hm (by decide +kernel) (pa_cons h pa_nil hs) (he := hs) (hpl := hpl)).imp fun σ H Q ⟨w, e1, R1, q⟩ => ⟨w, e1, R1, fun v w' R' l ⟨t, vs, e2, h1, h2⟩ =>
            ⟨t, vs, ps, by rw [e2], SqL.of (R'.ok.sub _ _ h1), PrAl.mono R'.ok.sub (prAl_of h2), fun k ys p k1 k2 k3 hn => ?_⟩⟩
          have h4 := prAl_of h2
          rw [← k1] at h4
          have h5 := h4.each
          refine q p _ w' R' l hn (al_prAl ?_)
          rw [← k2]
          exact PrAl.of fun y hy => h5 y (k3 y hy)
        · cases h3
    · cases h3
  · exact (pe_callB cr_sortedI hg hm (by decide +kernel) (pa_cons (h.run _ _ h1) pa_nil hs) (he := hs) (hpl := hpl)).imp fun σ H Q q => q⟩
end
/-! tuples of numbers compared -/
def lexLe : List Int → List Int → Bool
  | [], _ => true
  | _ :: _, [] => false
  | x :: xs, y :: ys => if x = y then lexLe xs ys else decide (x ≤ y)
theorem lexAt_shift {e r : Nat → Bool} {z : Bool} : ∀ (n i : Nat), Ob.lexAt e r z (i + 1) n = Ob.lexAt (fun j => e (j + 1)) (fun j => r (j + 1)) z i n
  | 0, i => rfl
  | n + 1, i => by
    rw [Ob.lexAt_succ, Ob.lexAt_succ, lexAt_shift n (i + 1)]
theorem lexLe_at : ∀ (ns ms : List Int), Ob.lexAt (fun j => decide (ns.getD j 0 = ms.getD j 0)) (fun j => decide (ns.getD j 0 ≤ ms.getD j 0)) (decide (ns.length ≤ ms.length)) 0 (min ns.length ms.length) = lexLe ns ms
  | [], ms => by simp [Ob.lexAt_zero, lexLe]
  | n :: ns, [] => by simp [Ob.lexAt_zero, lexLe]
  | n :: ns, m :: ms => by
    have ih := lexLe_at ns ms
    rw [List.length_cons, List.length_cons, show min (ns.length + 1) (ms.length + 1) = min ns.length ms.length + 1 by omega, Ob.lexAt_succ, lexAt_shift]
    unfold lexLe
    by_cases c : n = m
    · rw [if_pos (by simpa using c), if_pos c, ← ih]
      simp
    · rw [if_neg (by simpa using c), if_neg c]
      simp
def leE (x y : D) : Option Bool := match x, y with
  | .tup xs, .tup ys => match ints? xs, ints? ys with
    | some is, some js => some (lexLe is js)
    | _, _ => none
  | x, y => leD x y
@[simp] theorem leE_int {i j : Int} : leE (.int i) (.int j) = some (decide (i ≤ j)) := rfl
@[simp] theorem leE_tup {xs ys : List D} : leE (.tup xs) (.tup ys) = match ints? xs, ints? ys with
    | some is, some js => some (lexLe is js)
    | _, _ => none := rfl
theorem leE_ok {X : Cx} {k : Nat} (hr : Rm k X.A) : ∀ x y z, leE x y = some z → ∃ r, OpR X (compareOp .LtE) r ∧ OpV X r (rv x) (rv y) (rv z) := fun x y z h => by
  unfold leE at h
  split at h
  · rename_i xs ys
    split at h
    · rename_i is js h1 h2
      cases h
      have e1 := ints_eq h1
      have e2 := ints_eq h2
      subst e1
      subst e2
      have hu : X.A.units < cLine := by have := hr.room.un; omega
      refine ⟨_, op_leT hu, fun env σ u v w R1 hx hy Q q => ?_⟩
      rw [rv_tup] at hx hy
      obtain ⟨a, vs, e3, h3, h4⟩ := hx
      obtain ⟨b, ws, e4, h5, h6⟩ := hy
      have z1 := al_int (rpL_al.mpr h4)
      have z2 := al_int (rpL_al.mpr h6)
      subst z1
      subst z2
      refine ⟨a, b, is, js, e3, e4, Ex.t R1.ok.sub h3, Ex.t R1.ok.sub h5, ?_⟩
      rw [lexLe_at]
      exact q _ w R1 (Le.refl w) rfl
    · cases h
  · exact le_ok _ _ _ h
end BC

/-! A list of one's own returned: the caller's own from then on. -/
namespace BC
open PySem PySem.Spec PyProof.Rows L2
variable [TabL]
def Wd.gone (w : Wd) (b : Addr) : Wd := { w with H := fun c => if c = b then none else w.H c, O := fun c => if c = b then none else w.O c }
def retO (i : Nat) : Cs := fun ρ => match ρ[i]? with
  | some (.own xs) => some (.rl xs (ρ.set i .un))
  | _ => none
def retN' (ρ : PE') (i : Nat) (o : Option SV) : Option Out := match o with
  | some (.own xs) => some (.rl xs (ρ.set i .un))
  | _ => none
@[simp] theorem retO_ {i : Nat} {ρ : PE'} : retO i ρ = retN' ρ i ρ[i]? := rfl
@[simp] theorem retN'_own {i : Nat} {ρ : PE'} {xs : List D} : retN' ρ i (some (.own xs)) = some (.rl xs (ρ.set i .un)) := rfl
section
variable {X : Cx} {We : WX} {xa : Xa} {p pos : Pos} {x : Str}
theorem cs_retO (i : Nat) {q : Pos} (hN : X.N[i]? = some x := by rfl)
    (hv : Vis X.env.scope x := by first | exact Or.inl rfl | exact Or.inr (Or.inl rfl) | exact Or.inr (Or.inr rfl)) (hd : (x == ("__debug__" : Str)) = false := by decide) (hcd : (x == ("__classdict__" : Str)) = false := by decide) :
    CS X We xa (.Return (some (.Name x q)) pos) (retO i) := ⟨fun ρ o hM => by
  unfold retO at hM
  split at hM
  · rename_i xs h1
    cases hM
    have hl : lsAt ρ i = some (true, xs) := by
      unfold lsAt
      rw [h1]
    have O := mkL_own true
    refine (ps_ret (pe_own O i (lsAt_S hl) hN hv hd hcd)).imp fun D σ H ⟨w, e1, R1, q⟩ => ⟨w, e1, R1, fun b hb => ?_⟩
    subst e1
    obtain ⟨us, h3, h4, h5, h6⟩ := R1.own O (lsAt_S hl) hb
    have hn := (R1.ok.ho b i h4).1
    have nb : ∀ c u, w.Hi c = some u → c ≠ b := fun c u hc z => by rw [z, hn] at hc; cases hc
    have ok : (w.gone b).Ok := ⟨fun c u hc => (if_neg (nb c u hc)).trans (R1.ok.sub c u hc), fun c j hc => by
      by_cases z : c = b
      · have : (if c = b then none else w.O c) = some j := hc
        rw [if_pos z] at this
        cases this
      · have : (if c = b then none else w.O c) = some j := hc
        rw [if_neg z] at this
        exact ⟨(R1.ok.ho c j this).1, by show (if c = b then none else w.H c) ≠ none; rw [if_neg z]; exact (R1.ok.ho c j this).2⟩, fun c j hc => by
      by_cases z : c = b
      · have : (if c = b then none else w.O c) = some j := hc
        rw [if_pos z] at this
        cases this
      · have : (if c = b then none else w.O c) = some j := hc
        rw [if_neg z] at this
        show (∀ ps, (if c = b then none else w.H c) ≠ some (.tbl ps)) ∧ ∀ f, (if c = b then none else w.H c) ≠ some (.ext f)
        rw [if_neg z]
        exact R1.ok.pl c j this, tabs_mv R1.ok R1.ok.tb.1 fun c u hc hu => (if_neg (pl_ne R1.ok h4 hc hu)).trans hc⟩
    have R2 : Rep X.K (S xa (ρ.set i .un)) σ (w.gone b) := by
      refine ⟨ok, by rw [S_len, List.length_set, ← S_len (xa := xa)]; exact R1.len, fun j s hs => ?_⟩
      rw [← S_set] at hs
      by_cases z : i = j
      · subst z
        have hlt : i < (S xa ρ).length := by
          have := (List.getElem?_eq_some_iff.mp (lsAt_S (xa := xa) hl)).1
          exact this
        rw [List.getElem?_set_self hlt] at hs
        cases hs
        exact ⟨_, hb, trivial⟩
      · rw [List.getElem?_set_ne z] at hs
        obtain ⟨y, hy, hp⟩ := R1.sl j s hs
        refine ⟨y, hy, s.mono hp (Ex.refl _) (fun c hc => ?_) rfl⟩
        have nc : c ≠ b := fun zz => by
          rw [zz, h4] at hc
          cases hc
          exact z rfl
        exact ⟨(if_neg nc).trans hc, if_neg nc⟩
    have lx : LeX b w (w.gone b) := ⟨Ex.refl _, fun c u hc hk nt => by
      have nc : c ≠ b := fun zz => by
        rw [zz, h4] at hk
        cases hk
      exact ⟨(if_neg nc).trans hc, (if_neg nc).trans hk, rfl⟩, fun c nc hc => by
      show (if c = b then none else w.H c) ≠ none
      rw [if_neg nc]
      exact hc, rfl, fun c u nc hc n => ⟨u, (if_neg nc).trans hc, n⟩, if_pos rfl, fun u hu => by
      rw [h5] at hu
      cases hu
      exact ⟨nt_lst, by rw [h4]; simp⟩⟩
    have e : upd (w.gone b).H b (.lst us) = w.H := funext fun c => by
      by_cases z : c = b
      · subst z
        rw [upd_same, h5]
      · rw [upd_ne z]
        exact if_neg z
    have := q σ b us (w.gone b) R2 lx (al_alP h6)
    rw [e] at this
    exact this
  · cases hM⟩
end
end BC

/-! Defs whose last parameters have defaults, called without them. -/
namespace BC
open PySem PySem.Spec PyProof.Rows L2
variable [TabL]
structure DefD (P : Program) (w : World) (K : PySem.W.Frag) (mg : Str → Option Value) (base : Heap) (x : Str) (k : Nat) (ps : List Str) (sp : Sp) (dvs : List V) : Prop where
  d : Def P w K mg base x k ps sp
  ex : ∃ f fd ds, FnG P w K mg base k f fd ps sp ∧ mg x = some (.ref f) ∧ PySem.W.keepIn K (.ref f) = true ∧ Vals dvs ds ∧ Binds K fd ps ds
def tCallD (sp : Sp) (E : L2.St → XK) (dvs : List V) (t : TA) : TE := fun σ H Q => t σ H fun vs H1 => sp (vs ++ dvs) H1 Q (E σ)
theorem vls_app : ∀ {vs ws : List V} {us ts : List Value}, Vals vs us → Vals ws ts → Vals (vs ++ ws) (us ++ ts)
  | _, _, _, _, .nil, h => h
  | _, _, _, _, .cons r t, h => .cons r (vls_app t h)
theorem pe_callD {X : Cx} {k : Nat} {f : Addr} {fd : FuncData} {ps : List Str} {sp : Sp} {E : L2.St → XK} {x : Str} {p pos : Pos} {e : Expr} {es : List Expr} {t : TA} {dvs : List V} {ds : List Value} (F : FnG X.prog X.w X.K X.mg X.base k f fd ps sp) (hr : Rm k X.A) (hg : Gl X x) (hm : X.mg x = some (.ref f)) (hk : PySem.W.keepIn X.K (.ref f) = true)
    (hv : Vals dvs ds) (hb : Binds X.K fd ps ds) (hx : ∀ σ, PassesAt (L2.CX X.prog X.w) X σ (E σ)) (ha : PA X (e :: es) t) (hdb : (x == ("__debug__" : Str)) = false := by decide) (he : starEach (e :: es) X.env = (false, eval e X.env) :: starEach es X.env := by rfl) (hpl : (backTo pos (starEach es X.env)).any (·.1) = false := by rfl) :
    PE X (.Call (.Name x p) (e :: es) [] pos) (tCallD sp E dvs t) := ⟨fun pins s σ H Q I h => by
  refine wpAny_Call_Name_kw (ld_glob I hg hm (PySem.W.callWith_K (h₀ := X.base) I.ok.mod.kin hk (thn (ha.run pos pins s σ H _ I h) fun us s1 ⟨vs, H1, I1, r, q⟩ => ⟨I1.kIn, ?_⟩) he hpl) hdb)
  have hl : (us ++ ds).length = ps.length := by rw [← (vls_app r hv).length]; exact F.len _ _ _ _ q
  refine wpAny_call (codeAny_mono (runG F hr (us := us ++ ds) (hb s1 us I1.kIn hl) (hx σ) I1 (vls_app r hv) q) fun r s' hq => ?_)
  cases r with
  | error e => exact hq
  | ok fl => cases fl <;> first | exact hq | exact hq.elim⟩
/-- written data -/
def dtA (dl : List D) : Cp (List D) := fun ρ => some (.ok dl ρ)
@[simp] theorem dtA_ {dl : List D} {ρ : PE'} : dtA dl ρ = some (.ok dl ρ) := rfl
section
variable {env env1 env2 : List Slot} {X : Cx} {We : WX} {xa : Xa} {a b c e : Expr} {p pos : Pos} {es : List Expr} {As : Cp (List D)} {x : Str} {k np : Nat} {ps : List Str} {m : Fn}
theorem ce_callD {dl : List D} {dvs : List V} (D' : DefD X.prog X.w X.K X.mg X.base x k ps (spC X.K np m) dvs) (hlen : ∀ as o, m as = some o → as.length = np) (hr : Rm k X.A) (tk : Takes X We) (hdl : ∀ H, AlP X.K H (rvs dl) dvs) (ha : CA X We xa (e :: es) As) (hg : Gl X x := by rfl) (hdb : (x == ("__debug__" : Str)) = false := by decide)
    (hst : starEach (e :: es) X.env = (false, eval e X.env) :: starEach es X.env := by rfl) (hpl : (backTo pos (starEach es X.env)).any (·.1) = false := by rfl) : CE X We xa (.Call (.Name x p) (e :: es) [] pos) (callC m (appA As (dtA dl))) := ⟨fun ρ r hM => by
  obtain ⟨f, fd, ds, F, hm, hk, hv, hb⟩ := D'.ex
  rcases bd_some hM with ⟨xs, ρ1, h1, h2⟩ | ⟨c, d, ρ1, h1, rfl⟩
  · rcases bd_some h1 with ⟨ys, ρ2, h3, h4⟩ | ⟨c', d', ρ2, h3, h4⟩
    · cases h4
      have ha := ha.run _ _ h3
      have ap : ∀ {H : Hp} {vs : List V}, AlP X.K H (rvs ys) vs → AlP X.K H (rvs (ys ++ dl)) (vs ++ dvs) := fun al => by
        unfold rvs at *
        rw [List.map_append]
        exact al.append (hdl _)
      unfold callR at h2
      split at h2
      · rename_i d ho
        cases h2
        exact (pe_callD F hr hg hm hk hv hb (fun _ => passN) ha hdb hst hpl).imp fun σ H Q ⟨w, e1, R1, q⟩ => ⟨w, e1, R1, fun vs w' R' l al => sp_rt (hlen _ _ ho) ho R' (ap al) fun v w2 R2 l2 => q v w2 R2 (l.trans l2)⟩
      · rename_i c d ho
        cases h2
        exact (pe_callD (E := WE We) F hr hg hm hk hv hb (fun σ => passAt tk σ) ha hdb hst hpl).imp fun σ H Q ⟨w, e1, R1, q⟩ => ⟨w, e1, R1, fun vs w' R' l al => sp_er (hlen _ _ ho) ho R' (ap al) fun w2 d' v R2 l2 n => q w2 d' v R2 (l.trans l2) (l.none n)⟩
      · cases h2
    · cases h4
  · rcases bd_some h1 with ⟨ys, ρ2, h3, h4⟩ | ⟨c', d', ρ2, h3, h4⟩
    · cases h4
    · cases h4
      exact (pe_callD F hr hg hm hk hv hb (fun _ => passN) (ha.run _ _ h3) hdb hst hpl).imp fun σ H Q ⟨w, e1, R1, q⟩ => ⟨w, e1, R1, q⟩⟩
end
/-- from what is known of a def with defaults: every parameter given, and the last ones left out -/
theorem binds_full {K : PySem.W.Frag} {x qual : Str} {params : Arguments} {body : List Stmt} {scope : Scope} {dvs : List V} {f : Addr} {fd : FuncData} {ps : List Str} (F : FunD K x qual params body scope dvs [] f fd) (hd : dvs ≠ [])
    (h : ∀ (T : Addr) (kV doc pm : Value) (an : Option Addr) (cdv ct : Value) (us its : List Value), us.length = ps.length → its.length = dvs.length →
      ∃ k, bindArgs (PySem.W.fnOf x qual params body scope (.ref T) kV doc pm an cdv ct) ⟨us, []⟩ = seqItems? (.ref T) >>= k ∧ k (some its.toArray) = pure (ps.zip us)) : Binds K fd ps [] := by
  obtain ⟨ds, h1, h2⟩ := F.binds1 (ps := ps) ps.length dvs.length hd (by omega) fun T kV doc pm an cdv ct us its l1 l2 => by
    obtain ⟨k, e1, e2⟩ := h T kV doc pm an cdv ct us its l1 l2
    refine ⟨k, e1, ?_⟩
    rw [e2, ← l2, List.drop_length, List.append_nil]
  rw [List.drop_length] at h1
  cases h1
  exact h2
end BC

namespace BC
open PySem PySem.Spec PyProof.Rows L2
variable [TabL]
/-! ### reckoning -/
abbrev il (xs : List Int) : List D := xs.map D.int
abbrev ti (xs : List Int) : D := .tup (xs.map D.int)
@[simp] theorem il_get {xs : List Int} {i : Nat} : (xs.map D.int)[i]? = xs[i]?.map D.int := List.getElem?_map ..
@[simp] theorem defM_ {np nn : Nat} {M : Cs} {as : List SV} : defM np nn M as = if as.length = np then (match M (as ++ List.replicate (nn - np) .un) with
  | some o => o.fin as
  | none => none) else none := rfl
section
variable {i : Nat} {ρ : PE'} {d : D} {xs ys : List D} {B A : Cp D} {b : Bool} {c : Str}
def varO (ρ : PE') (i : Nat) (o : Option SV) : Option (Rs D) := match o with
  | some (.im d) => some (.ok d ρ)
  | some (.own xs) => some (.ok (.lst xs) (ρ.set i (.im (.lst xs))))
  | some (.own2 xss) => some (.ok (.lst (xss.map D.lst)) (ρ.set i (.im (.lst (xss.map D.lst)))))
  | _ => none
@[simp] theorem varO_own2 {xss : List (List D)} : varO ρ i (some (.own2 xss)) = some (.ok (.lst (xss.map D.lst)) (ρ.set i (.im (.lst (xss.map D.lst))))) := rfl
@[simp] theorem varC_ : varC i ρ = varO ρ i ρ[i]? := rfl
@[simp] theorem varO_im : varO ρ i (some (.im d)) = some (.ok d ρ) := rfl
@[simp] theorem varO_own : varO ρ i (some (.own xs)) = some (.ok (.lst xs) (ρ.set i (.im (.lst xs)))) := rfl
def sqO (o : Option SV) : Option (List D) := match o with
  | some (.own xs) => some xs
  | some (.par xs) => some xs
  | some (.im d) => d.seq?
  | _ => none
@[simp] theorem sqO_own : sqO (some (.own xs)) = some xs := rfl
@[simp] theorem sqO_par : sqO (some (.par xs)) = some xs := rfl
@[simp] theorem sqO_im : sqO (some (.im d)) = d.seq? := rfl
@[simp] theorem seq_tup : (D.tup xs).seq? = some xs := rfl
@[simp] theorem seq_lst : (D.lst xs).seq? = some xs := rfl
@[simp] theorem seq_lsr : (D.lsr xs).seq? = some xs := rfl
def lenO (ρ : PE') (o : Option (List D)) : Option (Rs D) := match o with
  | some xs => some (.ok (.int xs.length) ρ)
  | none => none
@[simp] theorem lenV_ : lenV i ρ = lenO ρ (sqO ρ[i]?) := rfl
@[simp] theorem lenO_some : lenO ρ (some xs) = some (.ok (.int xs.length) ρ) := rfl
def tupO (ρ : PE') (o : Option (List D)) : Option (Rs D) := match o with
  | some xs => some (.ok (.tup xs) ρ)
  | none => none
@[simp] theorem tupV_ : tupV i ρ = tupO ρ (sqO ρ[i]?) := rfl
@[simp] theorem tupO_some : tupO ρ (some xs) = some (.ok (.tup xs) ρ) := rfl
def lsO (o : Option SV) : Option (Bool × List D) := match o with
  | some (.own xs) => some (true, xs)
  | some (.par xs) => some (false, xs)
  | _ => none
@[simp] theorem lsAt_ : lsAt ρ i = lsO ρ[i]? := rfl
@[simp] theorem lsO_own : lsO (some (.own xs)) = some (true, xs) := rfl
@[simp] theorem lsO_par : lsO (some (.par xs)) = some (false, xs) := rfl
/-- the item of an own list -/
def ixN' (y : D) (ρ1 : PE') (b : Bool) (o : Option (Bool × List D)) : Option (Rs D) := match o with
  | some (b', xs) => if b' = b then lf (ixL xs y) ρ1 else none
  | none => none
@[simp] theorem ixN'_some {y : D} {b' : Bool} : ixN' y ρ b (some (b', xs)) = if b' = b then lf (ixL xs y) ρ else none := rfl
def ixO (B : Cp D) (ρ : PE') (i : Nat) (o : Option SV) : Option (Rs D) := match o with
  | some (.im d) => bd (B ρ) fun y ρ1 => lf (ixD d y) ρ1
  | some (.own _) => bd (B ρ) fun y ρ1 => ixN' y ρ1 true (lsO ρ1[i]?)
  | some (.par _) => bd (B ρ) fun y ρ1 => ixN' y ρ1 false (lsO ρ1[i]?)
  | _ => none
@[simp] theorem ixV_ : ixV i B ρ = ixO B ρ i ρ[i]? := by
  have key : ∀ (b : Bool) (y : D) (ρ1 : PE'), ixN' y ρ1 b (lsO ρ1[i]?) = match b, ρ1[i]? with
      | true, some (.own xs) => lf (ixL xs y) ρ1
      | false, some (.par xs) => lf (ixL xs y) ρ1
      | _, _ => none := fun b y ρ1 => by
    unfold ixN' lsO
    cases ρ1[i]? with
    | none => cases b <;> rfl
    | some s => cases s <;> cases b <;> rfl
  unfold ixV ixO
  cases ρ[i]? with
  | none => rfl
  | some s => cases s <;> first
    | rfl
    | (dsimp only; congr 1; funext y ρ1; refine Eq.trans ?_ (key _ y ρ1).symm; first
      | rfl
      | (cases ρ1[i]? with
        | none => rfl
        | some s => cases s <;> rfl))
@[simp] theorem ixO_im : ixO B ρ i (some (.im d)) = bd (B ρ) fun y ρ1 => lf (ixD d y) ρ1 := rfl
@[simp] theorem ixO_own : ixO B ρ i (some (.own xs)) = bd (B ρ) fun y ρ1 => ixN' y ρ1 true (lsO ρ1[i]?) := rfl
@[simp] theorem ixO_par : ixO B ρ i (some (.par xs)) = bd (B ρ) fun y ρ1 => ixN' y ρ1 false (lsO ρ1[i]?) := rfl
def appN (b : Bool) (i : Nat) (d : D) (ρ1 : PE') (o : Option (Bool × List D)) : Option Out := match o with
  | some (b', xs) => if b' = b ∧ xs.length ≤ 100000 then some (.nx (ρ1.set i (mkS b (xs ++ [d])))) else none
  | none => none
@[simp] theorem appN_some {b' : Bool} : appN b i d ρ (some (b', xs)) = if b' = b ∧ xs.length ≤ 100000 then some (.nx (ρ.set i (mkS b (xs ++ [d])))) else none := rfl
def appO (A : Cp D) (ρ : PE') (i : Nat) (o : Option (Bool × List D)) : Option Out := match o with
  | some (b, _) => bs (A ρ) fun d ρ1 => appN b i d ρ1 (lsO ρ1[i]?)
  | none => none
@[simp] theorem appC_ : appC i A ρ = appO A ρ i (lsO ρ[i]?) := rfl
@[simp] theorem appO_some : appO A ρ i (some (b, xs)) = bs (A ρ) fun d ρ1 => appN b i d ρ1 (lsO ρ1[i]?) := rfl
def popO (ρ : PE') (i : Nat) (o : Option (Bool × List D)) : Option Out := match o with
  | some (b, xs) => if xs = [] then none else some (.nx (ρ.set i (mkS b xs.dropLast)))
  | none => none
@[simp] theorem popC_ : popC i ρ = popO ρ i (lsO ρ[i]?) := rfl
@[simp] theorem popO_some : popO ρ i (some (b, xs)) = if xs = [] then none else some (.nx (ρ.set i (mkS b xs.dropLast))) := rfl
def popVO (ρ : PE') (i : Nat) (o : Option (Bool × List D)) : Option (Rs D) := match o with
  | some (b, xs) => match xs.getLast? with
    | some y => some (.ok y (ρ.set i (mkS b xs.dropLast)))
    | none => none
  | none => none
@[simp] theorem popV_ : popV i ρ = popVO ρ i (lsO ρ[i]?) := rfl
@[simp] theorem popVO_some {y : D} : popVO ρ i (some (b, xs ++ [y])) = some (.ok y (ρ.set i (mkS b xs))) := by unfold popVO; simp
/-- a list handed on -/
def c1N (m : Fn) (i : Nat) (b : Bool) (xs : List D) (ρ1 : PE') (o : Option (Bool × List D)) : Option (Rs D) := match o with
  | some (b', ys) => if b' = b then call1R (m (.par ys :: imS xs)) i b ρ1 else none
  | none => none
@[simp] theorem c1N_some {m : Fn} {b' : Bool} : c1N m i b xs ρ (some (b', ys)) = if b' = b then call1R (m (.par ys :: imS xs)) i b ρ else none := rfl
def c1O (m : Fn) (As : Cp (List D)) (ρ : PE') (i : Nat) (o : Option (Bool × List D)) : Option (Rs D) := match o with
  | some (b, _) => bd (As ρ) fun xs ρ1 => c1N m i b xs ρ1 (lsO ρ1[i]?)
  | none => none
@[simp] theorem c1C_ {m : Fn} {As : Cp (List D)} : c1C m i As ρ = c1O m As ρ i (lsO ρ[i]?) := rfl
@[simp] theorem c1O_some {m : Fn} {As : Cp (List D)} : c1O m As ρ i (some (b, xs)) = bd (As ρ) fun xs ρ1 => c1N m i b xs ρ1 (lsO ρ1[i]?) := rfl
def c1LN (m : Fn) (i : Nat) (b : Bool) (xs : List D) (ρ1 : PE') (o : Option (Bool × List D)) : Option (Rs (List D)) := match o with
  | some (b', ys) => if b' = b then call1L (m (.par ys :: imS xs)) i b ρ1 else none
  | none => none
@[simp] theorem c1LN_some {m : Fn} {b' : Bool} : c1LN m i b xs ρ (some (b', ys)) = if b' = b then call1L (m (.par ys :: imS xs)) i b ρ else none := rfl
def c1LO (m : Fn) (As : Cp (List D)) (ρ : PE') (i : Nat) (o : Option (Bool × List D)) : Option (Rs (List D)) := match o with
  | some (b, _) => bd (As ρ) fun xs ρ1 => c1LN m i b xs ρ1 (lsO ρ1[i]?)
  | none => none
@[simp] theorem c1L_ {m : Fn} {As : Cp (List D)} : c1L m i As ρ = c1LO m As ρ i (lsO ρ[i]?) := rfl
@[simp] theorem c1LO_some {m : Fn} {As : Cp (List D)} : c1LO m As ρ i (some (b, xs)) = bd (As ρ) fun xs ρ1 => c1LN m i b xs ρ1 (lsO ρ1[i]?) := rfl
/-- an item stored -/
def stN (d : D) (i : Nat) (b : Bool) (j : Int) (ρ2 : PE') (o : Option (Bool × List D)) : Option Out := match o with
  | some (b', xs) => if b' = b then (match ixN xs.length j with
    | some k => some (.nx (ρ2.set i (mkS b (xs.set k d))))
    | none => none) else none
  | none => none
def stM (d : D) (i : Nat) (b : Bool) (o : Option (Rs D)) : Option Out := match o with
  | some (.ok (.int j) ρ2) => stN d i b j ρ2 (lsO ρ2[i]?)
  | _ => none
@[simp] theorem stM_ok {j : Int} : stM d i b (some (.ok (.int j) ρ)) = stN d i b j ρ (lsO ρ[i]?) := rfl
@[simp] theorem stN_some {j : Int} {b' : Bool} : stN d i b j ρ (some (b', xs)) = if b' = b then (match ixN xs.length j with
    | some k => some (.nx (ρ.set i (mkS b (xs.set k d))))
    | none => none) else none := rfl
def stO (d : D) (i : Nat) (B : Cp D) (ρ1 : PE') (o : Option (Bool × List D)) : Option Out := match o with
  | some (b, _) => stM d i b (B ρ1)
  | none => none
@[simp] theorem stO_some : stO d i B ρ (some (b, xs)) = stM d i b (B ρ) := rfl
@[simp] theorem setI_ : setI i B A ρ = bs (A ρ) fun d ρ1 => stO d i B ρ1 (lsO ρ1[i]?) := rfl
def augO (f : D → D → Option D) (A : Cp D) (ρ : PE') (i : Nat) (o : Option SV) : Option Out := match o with
  | some (.im d) => bs (A ρ) fun y ρ1 => match f d y with
    | some z => some (.nx (ρ1.set i (.im z)))
    | none => none
  | _ => none
@[simp] theorem augC_ {f : D → D → Option D} : augC f i A ρ = augO f A ρ i ρ[i]? := rfl
@[simp] theorem augO_im {f : D → D → Option D} : augO f A ρ i (some (.im d)) = bs (A ρ) fun y ρ1 => match f d y with
    | some z => some (.nx (ρ1.set i (.im z)))
    | none => none := rfl
def whatO (ρ : PE') (o : Option SV) : Option (Rs D) := match o with
  | some (.exc _ d) => some (.ok d ρ)
  | _ => none
@[simp] theorem whatC_ : whatC i ρ = whatO ρ ρ[i]? := rfl
@[simp] theorem whatO_exc : whatO ρ (some (.exc c d)) = some (.ok d ρ) := rfl
def isiO (f : Str → Option Bool) (ρ : PE') (o : Option SV) : Option (Rs Bool) := match o with
  | some (.exc c _) => lf (f c) ρ
  | _ => none
@[simp] theorem isiC_ {f : Str → Option Bool} : isiC i f ρ = isiO f ρ ρ[i]? := rfl
@[simp] theorem isiO_exc {f : Str → Option Bool} : isiO f ρ (some (.exc c d)) = lf (f c) ρ := rfl
end
theorem ix_pos {xs : List Int} {j : Int} (h0 : 0 ≤ j) (h : j < xs.length) : atI (xs.map D.int) j = some (.int (xs.getD j.toNat 0)) := by
  rw [atI_pos h0 (by rw [List.length_map]; exact h) .non]
  rw [List.getD_eq_getElem?_getD, List.getD_eq_getElem?_getD, List.getElem?_map]
  have : j.toNat < xs.length := by omega
  rw [List.getElem?_eq_getElem this]
  rfl
theorem ix_neg {xs : List Int} {i : Nat} (h0 : 0 < i) (h : i ≤ xs.length) : atI (xs.map D.int) (-(i : Int)) = some (.int (xs.getD (xs.length - i) 0)) := by
  rw [atI_neg h0 (by rw [List.length_map]; exact h) .non]
  rw [List.getD_eq_getElem?_getD, List.getD_eq_getElem?_getD, List.getElem?_map, List.length_map]
  have : xs.length - i < xs.length := by omega
  rw [List.getElem?_eq_getElem this]
  rfl
theorem sel_pos {xs : List D} {j : Int} (h0 : 0 ≤ j) (h : j < xs.length) : atI xs j = some (xs.getD j.toNat .non) := atI_pos h0 h .non
section
variable {i : Nat} {ρ : PE'} {d : D} {xs ys : List D} {B A : Cp D} {b neg : Bool} {c : Str}
/-- a list of one's own compared -/
def eqX (neg : Bool) (y : D) (ρ1 : PE') (o : Option (Bool × List D)) : Option (Rs Bool) := match o with
  | some (true, xs) => if D.wf 20 (.lst xs) = true ∧ D.wf 20 y = true then some (.ok (if neg then !decide (D.lst xs = y) else decide (D.lst xs = y)) ρ1) else none
  | _ => none
@[simp] theorem eqX_some {y : D} : eqX neg y ρ (some (true, xs)) = if D.wf 20 (.lst xs) = true ∧ D.wf 20 y = true then some (.ok (if neg then !decide (D.lst xs = y) else decide (D.lst xs = y)) ρ) else none := rfl
def eqO (neg : Bool) (B : Cp D) (ρ : PE') (i : Nat) (o : Option SV) : Option (Rs Bool) := match o with
  | some (.im d) => bd (B ρ) fun y ρ1 => lf (eqN neg d y) ρ1
  | some (.own _) => bd (B ρ) fun y ρ1 => eqX neg y ρ1 (lsO ρ1[i]?)
  | _ => none
@[simp] theorem eqO_im : eqO neg B ρ i (some (.im d)) = bd (B ρ) fun y ρ1 => lf (eqN neg d y) ρ1 := rfl
@[simp] theorem eqO_own : eqO neg B ρ i (some (.own xs)) = bd (B ρ) fun y ρ1 => eqX neg y ρ1 (lsO ρ1[i]?) := rfl
@[simp] theorem eqV_ : eqV neg i B ρ = eqO neg B ρ i ρ[i]? := by
  have key : ∀ (y : D) (ρ1 : PE'), eqX neg y ρ1 (lsO ρ1[i]?) = match ρ1[i]? with
      | some (.own xs) => if D.wf 20 (.lst xs) = true ∧ D.wf 20 y = true then some (.ok (if neg then !decide (D.lst xs = y) else decide (D.lst xs = y)) ρ1) else none
      | _ => none := fun y ρ1 => by
    unfold eqX lsO
    cases ρ1[i]? with
    | none => rfl
    | some s => cases s <;> rfl
  unfold eqV eqO
  cases ρ[i]? with
  | none => rfl
  | some s => cases s <;> first
    | rfl
    | (dsimp only; congr 1; funext y ρ1; refine Eq.trans ?_ (key y ρ1).symm; first
      | rfl
      | (cases ρ1[i]? with
        | none => rfl
        | some s => cases s <;> rfl))
def inO (neg : Bool) (x : D) (ρ1 : PE') (o : Option SV) : Option (Rs Bool) := match o with
  | some (.im d) => lf (inN neg x d) ρ1
  | some (.own xs) => lf (inN neg x (.lst xs)) ρ1
  | _ => none
@[simp] theorem inO_im {x : D} : inO neg x ρ (some (.im d)) = lf (inN neg x d) ρ := rfl
@[simp] theorem inO_own {x : D} : inO neg x ρ (some (.own xs)) = lf (inN neg x (.lst xs)) ρ := rfl
@[simp] theorem inV_ : inV neg A i ρ = bd (A ρ) fun x ρ1 => inO neg x ρ1 ρ1[i]? := rfl
end
/-! ### loops -/
@[simp] theorem forC_ {I : Cp (List D)} {t : D → PE' → Option PE'} {P : Cs} {ρ : PE'} : forC I t P ρ = (match I ρ with
  | some (.ok xs ρ1) => forL t P xs ρ1
  | _ => none) := rfl
@[simp] theorem forL_0 {t : D → PE' → Option PE'} {P : Cs} {ρ : PE'} : forL t P [] ρ = some (.nx ρ) := rfl
/-- a walk whose turns all go on; J: slots that do not matter -/
theorem for_fold {α S J : Type} {t : D → PE' → Option PE'} {P : Cs} (enc : α → D) (en : S → J → PE') (f : S → α → S) (I : Nat → S → Prop) : ∀ (xs : List α) (k : Nat) (s : S) (j : J), I k s → (∀ (i : Nat) x s j, xs[i]? = some x → I (k + i) s → ∃ ρ1 j', t (enc x) (en s j) = some ρ1 ∧ (P ρ1 = some (.nx (en (f s x) j')) ∨ P ρ1 = some (.ct (en (f s x) j'))) ∧ I (k + i + 1) (f s x)) →
    ∃ j', forL t P (xs.map enc) (en s j) = some (.nx (en (xs.foldl f s) j')) ∧ I (k + xs.length) (xs.foldl f s)
  | [], k, s, j, h, _ => ⟨j, rfl, h⟩
  | x :: xs, k, s, j, h, hb => by
    obtain ⟨ρ1, j1, h1, h2, h3⟩ := hb 0 x s j rfl h
    obtain ⟨j2, e1, e2⟩ := for_fold (P := P) enc en f I xs (k + 1) (f s x) j1 h3 fun i y z j hy hz => by
      have := hb (i + 1) y z j (by simpa using hy) (by rw [← Nat.add_assoc, Nat.add_right_comm]; exact hz)
      rw [show k + 1 + i = k + (i + 1) by omega]
      exact this
    refine ⟨j2, ?_⟩
    rw [List.map_cons, forL_cons h1, List.foldl_cons, List.length_cons]
    refine ⟨?_, by rw [show k + (xs.length + 1) = k + 1 + xs.length by omega]; exact e2⟩
    rcases h2 with h2 | h2 <;> (rw [h2]; exact e1)
/-- a walk by an invariant: each turn goes on, or the walk is left -/
theorem for_inv {α S : Type} {t : D → PE' → Option PE'} {P : Cs} (enc : α → D) (en : S → PE') (I : Nat → S → Prop) (R : Out → Prop) : ∀ (xs : List α) (k : Nat) (s : S), I k s → (∀ (i : Nat) x s, xs[i]? = some x → I (k + i) s → ∃ ρ1 o, t (enc x) (en s) = some ρ1 ∧ P ρ1 = some o ∧ ((∃ s', (o = .nx (en s') ∨ o = .ct (en s')) ∧ I (k + i + 1) s') ∨ ((∀ ρ, o ≠ .nx ρ ∧ o ≠ .ct ρ ∧ o ≠ .bk ρ) ∧ R o) ∨ ∃ ρ, o = .bk ρ ∧ R (.nx ρ))) →
    ∃ o, forL t P (xs.map enc) (en s) = some o ∧ ((∃ s', o = .nx (en s') ∧ I (k + xs.length) s') ∨ R o)
  | [], k, s, h, _ => ⟨_, rfl, .inl ⟨s, rfl, h⟩⟩
  | x :: xs, k, s, h, hb => by
    obtain ⟨ρ1, o, h1, h2, h3⟩ := hb 0 x s rfl h
    rw [List.map_cons, forL_cons h1, List.length_cons, h2]
    rcases h3 with ⟨s', h4, h5⟩ | ⟨h4, h5⟩ | ⟨ρ, h4, h5⟩
    · have ih := for_inv (P := P) enc en I R xs (k + 1) s' h5 fun i y z hy hz => by
        have := hb (i + 1) y z (by simpa using hy) (by rw [← Nat.add_assoc, Nat.add_right_comm]; exact hz)
        rw [show k + 1 + i = k + (i + 1) by omega]
        exact this
      rw [show k + (xs.length + 1) = k + 1 + xs.length by omega]
      rcases h4 with h4 | h4 <;> (rw [h4]; exact ih)
    · refine ⟨o, ?_, .inr h5⟩
      cases o with
      | nx ρ => exact absurd rfl (h4 ρ).1
      | ct ρ => exact absurd rfl (h4 ρ).2.1
      | bk ρ => exact absurd rfl (h4 ρ).2.2
      | rt d ρ => rfl
      | rl d ρ => rfl
      | er c d ρ => rfl
    · subst h4
      exact ⟨_, rfl, .inr h5⟩
/-- a while by an invariant and a number that falls -/
theorem wh_inv {S : Type} {M : Cp Bool} {P : Cs} (en : S → PE') (I : S → Prop) (μ : S → Nat) (R : Out → Prop) (hb : ∀ s, I s → ∃ b ρ1, M (en s) = some (.ok b ρ1) ∧ ((b = false ∧ R (.nx ρ1)) ∨ (b = true ∧ ∃ o, P ρ1 = some o ∧ ((∃ s', (o = .nx (en s') ∨ o = .ct (en s')) ∧ I s' ∧ μ s' < μ s) ∨ ((∀ ρ, o ≠ .nx ρ ∧ o ≠ .ct ρ ∧ o ≠ .bk ρ) ∧ R o) ∨ ∃ ρ, o = .bk ρ ∧ R (.nx ρ))))) :
    ∀ (n : Nat) (s : S), μ s < n → I s → ∃ o, whN M P n (en s) = some o ∧ R o
  | 0, s, h, _ => absurd h (Nat.not_lt_zero _)
  | n + 1, s, hn, h => by
    obtain ⟨b, ρ1, h1, h2⟩ := hb s h
    unfold whN
    rw [h1]
    rcases h2 with ⟨rfl, h3⟩ | ⟨rfl, o, h3, h4⟩
    · exact ⟨_, rfl, h3⟩
    · dsimp only
      rw [h3]
      rcases h4 with ⟨s', h5, h6, h7⟩ | ⟨h5, h6⟩ | ⟨ρ, h5, h6⟩
      · have ih := wh_inv (M := M) (P := P) en I μ R hb n s' (by omega) h6
        rcases h5 with h5 | h5 <;> (rw [h5]; exact ih)
      · refine ⟨o, ?_, h6⟩
        cases o with
        | nx ρ => exact absurd rfl (h5 ρ).1
        | ct ρ => exact absurd rfl (h5 ρ).2.1
        | bk ρ => exact absurd rfl (h5 ρ).2.2
        | rt d ρ => rfl
        | rl d ρ => rfl
        | er c d ρ => rfl
      · subst h5
        exact ⟨_, rfl, h6⟩
theorem whC_inv {S : Type} {M : Cp Bool} {P : Cs} (en : S → PE') (I : S → Prop) (μ : S → Nat) (R : Out → Prop) (s : S) (hm : μ s < 1000000) (h : I s) (hb : ∀ s, I s → ∃ b ρ1, M (en s) = some (.ok b ρ1) ∧ ((b = false ∧ R (.nx ρ1)) ∨ (b = true ∧ ∃ o, P ρ1 = some o ∧ ((∃ s', (o = .nx (en s') ∨ o = .ct (en s')) ∧ I s' ∧ μ s' < μ s) ∨ ((∀ ρ, o ≠ .nx ρ ∧ o ≠ .ct ρ ∧ o ≠ .bk ρ) ∧ R o) ∨ ∃ ρ, o = .bk ρ ∧ R (.nx ρ))))) :
    ∃ o, whC M P (en s) = some o ∧ R o := wh_inv en I μ R hb wfuel s hm h
@[simp] theorem fst_mkS {xs : List D} : mkS true xs = .own xs := rfl
end BC

/-! How long a thing is as repr shows it. -/
namespace BC
open PySem PySem.Spec PyProof.Rows L2
variable [TabL]
/-! ### places of written rows -/
@[simp] theorem at_0 {a : D} {xs : List D} : atI (a :: xs) 0 = some a := sel_pos (j := 0) (by decide) (by simp only [List.length_cons]; omega)
@[simp] theorem at_1 {a b : D} {xs : List D} : atI (a :: b :: xs) 1 = some b := sel_pos (j := 1) (by decide) (by simp only [List.length_cons]; omega)
@[simp] theorem at_2 {a b c : D} {xs : List D} : atI (a :: b :: c :: xs) 2 = some c := sel_pos (j := 2) (by decide) (by simp only [List.length_cons]; omega)
@[simp] theorem at_3 {a b c d : D} {xs : List D} : atI (a :: b :: c :: d :: xs) 3 = some d := sel_pos (j := 3) (by decide) (by simp only [List.length_cons]; omega)
@[simp] theorem at_4 {a b c d e : D} {xs : List D} : atI (a :: b :: c :: d :: e :: xs) 4 = some e := sel_pos (j := 4) (by decide) (by simp only [List.length_cons]; omega)
mutual
def D.siz : D → Nat
  | .int i => i.natAbs.log2 + 2
  | .bl _ => 5
  | .non => 4
  | .str s => (reprText s).length
  | .tup xs => 3 + D.sizL xs
  | .lst xs => 2 + D.sizL xs
  | .lsr xs => 2 + D.sizL xs
  | .ob _ _ _ => 4
def D.sizL : List D → Nat
  | [] => 0
  | x :: xs => D.siz x + 2 + D.sizL xs
end
theorem from_len : ∀ (ts : List Str) (k : Nat) (acc : Str), (textFrom k acc ts).length ≤ acc.length + piled ts
  | [], k, acc => Nat.le_add_right _ _
  | t :: r, k, acc => by
    have h := from_len r (k + 1) (acc ++ (if k > 0 then ", " else "" : String) ++ t)
    have e : (acc ++ (if k > 0 then ", " else "" : String) ++ t).length ≤ acc.length + 2 + t.length := by
      rw [strLen_append, strLen_append]
      split
      · exact Nat.le_refl _
      · have : (("" : String) : Str).length = 0 := rfl
        omega
    have e2 : piled (t :: r) = t.length + 2 + piled r := by simp [piled]
    rw [e2]
    show (textFrom (k + 1) (acc ++ (if k > 0 then ", " else "" : String) ++ t) r).length ≤ _
    omega
mutual
theorem shown_siz : ∀ d : D, d.da.shown.length ≤ d.siz
  | .int i => by
    simp only [D.da, PyData.shown, D.siz]
    rw [PySem.ofString_length]
    exact int_text_length_le (Nat.succ_pos _) (Nat.lt_succ_self _)
  | .bl true => by decide
  | .bl false => by decide
  | .non => by decide
  | .str s => by simp only [D.da, PyData.shown, D.siz]; exact Nat.le_refl _
  | .tup xs => by
    have h := shown_sizL xs
    simp only [D.da, PyData.shown, D.siz]
    unfold tupleText
    rw [strLen_append, strLen_append]
    have e1 : (("(" : String) : Str).length = 1 := rfl
    by_cases hn : PyData.shownAll (D.daL xs) = []
    · rw [hn]
      have : (Str.join ", " []).length = 0 := rfl
      have e2 : ((if ([] : List Str).length == 1 then ",)" else ")" : String) : Str).length = 1 := rfl
      omega
    · have := join_length_add _ hn
      have e2 : ((if (PyData.shownAll (D.daL xs)).length == 1 then ",)" else ")" : String) : Str).length ≤ 2 := by split <;> decide
      omega
  | .lst xs => by
    have h := shown_sizL xs
    simp only [D.da, PyData.shown, D.siz]
    unfold listText
    rw [strLen_append]
    have h2 := from_len (PyData.shownAll (D.daL xs)) 0 "["
    have e1 : (("[" : String) : Str).length = 1 := rfl
    have e2 : (("]" : String) : Str).length = 1 := rfl
    omega
  | .lsr xs => by
    have h := shown_sizL xs
    simp only [D.da, PyData.shown, D.siz]
    unfold listText
    rw [strLen_append]
    have h2 := from_len (PyData.shownAll (D.daL xs)) 0 "["
    have e1 : (("[" : String) : Str).length = 1 := rfl
    have e2 : (("]" : String) : Str).length = 1 := rfl
    omega
  | .ob a b c => show (PyData.shown .none).length ≤ 4 by decide
theorem shown_sizL : ∀ xs : List D, piled (PyData.shownAll (D.daL xs)) ≤ D.sizL xs
  | [] => by simp [D.daL, PyData.shownAll, piled, D.sizL]
  | x :: xs => by
    have h1 := shown_siz x
    have h2 := shown_sizL xs
    simp only [D.daL, PyData.shownAll, D.sizL]
    have e2 : piled ((D.da x).shown :: PyData.shownAll (D.daL xs)) = (D.da x).shown.length + 2 + piled (PyData.shownAll (D.daL xs)) := by simp [piled]
    omega
end
theorem rep_ok {d : D} (h1 : D.wfb 20 d = true) (h2 : d.da.showable = true) (h3 : d.siz ≤ 16777216) : repD d = some (.str d.da.shown) := by
  unfold repD
  rw [if_pos ⟨h1, h2, Nat.le_trans (shown_siz d) h3⟩]
/-- a row of numbers below a bound -/
theorem sizL_ints {k : Nat} : ∀ {l : List Int}, (∀ x ∈ l, x.natAbs < 2 ^ k) → D.sizL (l.map D.int) ≤ l.length * (k + 4)
  | [], _ => by simp [D.sizL]
  | x :: l, h => by
    have h1 := h x List.mem_cons_self
    have ih := sizL_ints (k := k) (l := l) fun y hy => h y (List.mem_cons_of_mem _ hy)
    have hx : x.natAbs.log2 ≤ k := by
      by_cases z : x.natAbs = 0
      · rw [z]; simp
      · exact Nat.le_of_lt ((Nat.log2_lt z).mpr h1)
    simp only [List.map_cons, D.sizL, D.siz, List.length_cons]
    have : (l.length + 1) * (k + 4) = l.length * (k + 4) + (k + 4) := Nat.succ_mul _ _
    omega
theorem show_ints : ∀ {l : List Int}, (∀ x ∈ l, x.natAbs < 2 ^ 1000) → PyData.showableAll (D.daL (l.map D.int)) = true
  | [], _ => rfl
  | x :: l, h => by
    have h1 := h x List.mem_cons_self
    have ih := show_ints (l := l) fun y hy => h y (List.mem_cons_of_mem _ hy)
    have hx : x.natAbs.log2 < 1920 := by
      by_cases z : x.natAbs = 0
      · rw [z]; simp
      · exact Nat.lt_trans ((Nat.log2_lt z).mpr h1) (by decide)
    simp [D.daL, D.da, PyData.showableAll, PyData.showable, hx, ih]
theorem wfb_ints {n : Nat} {l : List Int} : (l.map D.int).all (D.wfb n) = true := by
  rw [List.all_eq_true]
  intro x hx
  obtain ⟨i, _, rfl⟩ := List.mem_map.mp hx
  exact wfb_int
theorem rep_lst {l : List Int} (h : ∀ x ∈ l, x.natAbs < 2 ^ 1000) (hl : l.length ≤ 10000) : repD (.lst (l.map D.int)) = some (.str (D.lst (l.map D.int)).da.shown) := by
  refine rep_ok wfb_ints (show_ints h) ?_
  have := sizL_ints h
  have h2 : l.length * (1000 + 4) ≤ 10000 * 1004 := Nat.mul_le_mul_right _ hl
  show 2 + D.sizL _ ≤ _
  omega
theorem rep_tup {l : List Int} (h : ∀ x ∈ l, x.natAbs < 2 ^ 1000) (hl : l.length ≤ 10000) : repD (.tup (l.map D.int)) = some (.str (D.tup (l.map D.int)).da.shown) := by
  refine rep_ok wfb_ints (show_ints h) ?_
  have := sizL_ints h
  have h2 : l.length * (1000 + 4) ≤ 10000 * 1004 := Nat.mul_le_mul_right _ hl
  show 3 + D.sizL _ ≤ _
  omega
theorem rep_int {x : Int} (h : x.natAbs < 2 ^ 1000) : repD (.int x) = some (.str (D.int x).da.shown) := by
  have hx : x.natAbs.log2 < 1000 ∨ x.natAbs.log2 = 0 := by
    by_cases z : x.natAbs = 0
    · right; rw [z]; simp
    · left; exact (Nat.log2_lt z).mpr h
  refine rep_ok wfb_int ?_ ?_
  · simp [D.da, PyData.showable]; omega
  · show x.natAbs.log2 + 2 ≤ _; omega
end BC

namespace BC
variable [TabL]
/-! ### rows struck: the plain part -/
def stk (k : List Int) (c : Int) : List Int := if k.length > 1 ∧ (k.getD (k.length - 2) 0) = c then k.dropLast else k ++ [c]
def struckM (row : List Int) : List Int := row.foldl stk []
def turnsM (row : List Int) : List Int := (List.filter (fun (at' : Int) => decide (row.getD (at' - 1).toNat 0 = row.getD (at' + 1).toNat 0)) (rng 1 ((row.length : Int) - 1 - 1).toNat)).map id
def RowOk (row : List Int) : Prop := 1 ≤ row.length ∧ row.length ≤ 200 ∧ ∀ c ∈ row, 0 ≤ c ∧ c < 8
/-- no two like a place apart -/
def Rd (l : List Int) : Prop := ∀ i, i + 2 < l.length → l.getD i 0 ≠ l.getD (i + 2) 0
inductive Sks : Nat → List Int → List Int → Prop
  | refl (l : List Int) : Sks 0 l l
  | step {n : Nat} (p : List Int) (a b : Int) (q : List Int) {r : List Int} : Sks n (p ++ a :: q) r → Sks (n + 1) (p ++ a :: b :: a :: q) r
theorem Sks.trans {n m : Nat} {a b c : List Int} (h : Sks n a b) (k : Sks m b c) : Sks (n + m) a c := by
  induction h with
  | refl l => rw [Nat.zero_add]; exact k
  | step p a b q h ih => rw [show ∀ n : Nat, n + 1 + m = n + m + 1 by intro n; omega]; exact .step p a b q (ih k)
theorem Sks.one (p : List Int) (a b : Int) (q : List Int) : Sks 1 (p ++ a :: b :: a :: q) (p ++ a :: q) := .step p a b q (.refl _)
theorem Sks.len {n : Nat} {a b : List Int} (h : Sks n a b) : a.length = b.length + 2 * n := by
  induction h with
  | refl l => rfl
  | step p a b q h ih => simp at ih ⊢; omega
theorem Sks.mem {n : Nat} {a b : List Int} (h : Sks n a b) : ∀ x ∈ b, x ∈ a := by
  induction h with
  | refl l => exact fun _ h => h
  | step p a b q h ih =>
    intro x hx
    have := ih x hx
    simp at this ⊢
    rcases this with h | h | h <;> simp [h]
theorem Sks.ne {n : Nat} {a b : List Int} (h : Sks n a b) (ha : a ≠ []) : b ≠ [] := by
  induction h with
  | refl l => exact ha
  | step p a b q h ih => exact ih (by simp)
theorem Sks.rev {n : Nat} {a b : List Int} (h : Sks n a b) : Sks n a.reverse b.reverse := by
  induction h with
  | refl l => exact .refl _
  | step p a b q h ih =>
    rw [show (p ++ a :: b :: a :: q).reverse = q.reverse ++ a :: b :: a :: p.reverse by simp]
    rw [show (p ++ a :: q).reverse = q.reverse ++ a :: p.reverse by simp] at ih
    exact .step _ _ _ _ ih
theorem Sks.app {n : Nat} {a b : List Int} (h : Sks n a b) (x y : List Int) : Sks n (x ++ a ++ y) (x ++ b ++ y) := by
  induction h with
  | refl l => exact .refl _
  | step p a b q h ih =>
    rw [show x ++ (p ++ a :: b :: a :: q) ++ y = (x ++ p) ++ a :: b :: a :: (q ++ y) by simp]
    rw [show x ++ (p ++ a :: q) ++ y = (x ++ p) ++ a :: (q ++ y) by simp] at ih
    exact .step _ _ _ _ ih
theorem Sks.head {n : Nat} {a b : List Int} (h : Sks n a b) : a.getD 0 0 = b.getD 0 0 := by
  induction h with
  | refl l => rfl
  | step p a b q h ih => rw [← ih]; cases p <;> simp
theorem Sks.last {n : Nat} {a b : List Int} (h : Sks n a b) : a.getD (a.length - 1) 0 = b.getD (b.length - 1) 0 := by
  have h2 := h.rev.head
  have key : ∀ l : List Int, l.reverse.getD 0 0 = l.getD (l.length - 1) 0 := by
    intro l
    cases l with
    | nil => rfl
    | cons x xs =>
      rw [List.getD_eq_getElem?_getD, List.getD_eq_getElem?_getD, List.getElem?_reverse (by simp)]
      simp
  rw [key, key] at h2
  exact h2
/-! the stack -/
theorem last_two (k : List Int) (h : k.length > 1) : ∃ m a b, k = m ++ [a, b] ∧ k.getD (k.length - 2) 0 = a := by
  refine ⟨k.take (k.length - 2), k.getD (k.length - 2) 0, k.getD (k.length - 1) 0, ?_, rfl⟩
  refine List.ext_getElem? fun i => ?_
  by_cases h1 : i < k.length - 2
  · rw [List.getElem?_append_left (by rw [List.length_take]; omega), List.getElem?_take_of_lt h1]
  · rw [List.getElem?_append_right (by rw [List.length_take]; omega), List.length_take, show min (k.length - 2) k.length = k.length - 2 by omega]
    by_cases h2 : i = k.length - 2
    · subst h2
      simp [List.getD_eq_getElem?_getD, List.getElem?_eq_getElem (show k.length - 2 < k.length by omega)]
    · by_cases h3 : i = k.length - 1
      · subst h3
        rw [show k.length - 1 - (k.length - 2) = 1 by omega]
        simp [List.getD_eq_getElem?_getD, List.getElem?_eq_getElem (show k.length - 1 < k.length by omega)]
      · rw [List.getElem?_eq_none (by omega), List.getElem?_eq_none (by simp; omega)]
theorem stk_pop (m : List Int) (a b : Int) : stk (m ++ [a, b]) a = m ++ [a] := by
  unfold stk
  have h : (m ++ [a, b]).getD ((m ++ [a, b]).length - 2) 0 = a := by
    rw [List.getD_eq_getElem?_getD, List.getElem?_append_right (by simp)]
    simp
  rw [if_pos ⟨by simp, h⟩, show m ++ [a, b] = (m ++ [a]) ++ [b] by simp, List.dropLast_concat]
theorem stk_cases (k : List Int) (c : Int) : (∃ m b, k = m ++ [c, b] ∧ stk k c = m ++ [c]) ∨ (stk k c = k ++ [c] ∧ ¬ (k.length > 1 ∧ k.getD (k.length - 2) 0 = c)) := by
  by_cases h : k.length > 1 ∧ k.getD (k.length - 2) 0 = c
  · obtain ⟨m, a, b, h1, h2⟩ := last_two k h.1
    rw [h.2] at h2
    subst h2
    exact .inl ⟨m, b, h1, by rw [h1]; exact stk_pop m c b⟩
  · exact .inr ⟨by unfold stk; rw [if_neg h], h⟩
theorem stk_last (k : List Int) (c : Int) : ∃ m, stk k c = m ++ [c] := by
  rcases stk_cases k c with ⟨m, b, _, h⟩ | ⟨h, _⟩
  · exact ⟨m, h⟩
  · exact ⟨k, h⟩
theorem getD_app_l {p q : List Int} {i : Nat} (h : i < p.length) : (p ++ q).getD i 0 = p.getD i 0 := by
  rw [List.getD_eq_getElem?_getD, List.getD_eq_getElem?_getD, List.getElem?_append_left h]
theorem getD_app_r {p q : List Int} {i : Nat} (h : p.length ≤ i) : (p ++ q).getD i 0 = q.getD (i - p.length) 0 := by
  rw [List.getD_eq_getElem?_getD, List.getD_eq_getElem?_getD, List.getElem?_append_right h]
theorem Rd.pre {p q : List Int} (h : Rd (p ++ q)) : Rd p := fun i hi => by
  have := h i (by simp; omega)
  rwa [getD_app_l (by omega), getD_app_l hi] at this
theorem Rd.suf {p q : List Int} (h : Rd (p ++ q)) : Rd q := fun i hi => by
  have := h (p.length + i) (by simp; omega)
  rwa [getD_app_r (by omega), getD_app_r (by omega), show p.length + i - p.length = i by omega, show p.length + i + 2 - p.length = i + 2 by omega] at this
theorem Rd.no {p q : List Int} {a b : Int} (h : Rd (p ++ a :: b :: a :: q)) : False := by
  have := h p.length (by simp)
  rw [getD_app_r (by omega), getD_app_r (by omega)] at this
  simp at this
theorem Rd.push {k : List Int} {c : Int} (h : Rd k) (hn : ¬ (k.length > 1 ∧ k.getD (k.length - 2) 0 = c)) : Rd (k ++ [c]) := fun i hi => by
  rw [List.length_append] at hi
  simp at hi
  by_cases h1 : i + 2 < k.length
  · rw [getD_app_l (by omega), getD_app_l h1]
    exact h i h1
  · have e : i = k.length - 2 := by omega
    rw [getD_app_l (by omega), getD_app_r (by omega), e, show k.length - 2 + 2 - k.length = 0 by omega]
    exact fun z => hn ⟨by omega, z⟩
theorem Rd.stk {k : List Int} (h : Rd k) (c : Int) : Rd (stk k c) := by
  rcases stk_cases k c with ⟨m, b, h1, h2⟩ | ⟨h1, h2⟩
  · rw [h2]
    rw [h1, show m ++ [c, b] = (m ++ [c]) ++ [b] by simp] at h
    exact h.pre
  · rw [h1]
    exact h.push h2
theorem rd_fold (xs : List Int) : ∀ k, Rd k → Rd (xs.foldl BC.stk k) := by
  induction xs with
  | nil => exact fun k h => h
  | cons x xs ih => exact fun k h => ih _ (h.stk x)
theorem rd_nil : Rd [] := fun i h => by simp at h
theorem rd_struck (row : List Int) : Rd (struckM row) := rd_fold row [] rd_nil
theorem fold_rd (xs : List Int) : ∀ k, Rd (k ++ xs) → xs.foldl stk k = k ++ xs := by
  induction xs with
  | nil => intro k _; simp
  | cons x xs ih =>
    intro k h
    rcases stk_cases k x with ⟨m, b, h1, h2⟩ | ⟨h1, h2⟩
    · exfalso
      rw [h1, show m ++ [x, b] ++ x :: xs = m ++ x :: b :: x :: xs by simp] at h
      exact h.no
    · rw [List.foldl_cons, h1, ih _ (by simpa using h)]
      simp
theorem struck_rd {row : List Int} (h : Rd row) : struckM row = row := by
  have := fold_rd row [] (by simpa using h)
  simpa [struckM] using this
theorem fold_aba (k : List Int) (hk : Rd k) (a b : Int) : stk (stk (stk k a) b) a = stk k a := by
  obtain ⟨m, hm⟩ := stk_last k a
  have hr : Rd (stk k a) := hk.stk a
  rw [hm] at hr ⊢
  rcases stk_cases (m ++ [a]) b with ⟨m2, b2, h1, h2⟩ | ⟨h1, h2⟩
  · rw [h2]
    have e : m = m2 ++ [b] ∧ b2 = a := by
      have h3 : m ++ [a] = (m2 ++ [b]) ++ [b2] := by simpa using h1
      have := List.append_inj' h3 rfl
      exact ⟨this.1, by simpa using this.2.symm⟩
    obtain ⟨e1, e2⟩ := e
    subst e1
    rcases stk_cases (m2 ++ [b]) a with ⟨m3, b3, h4, h5⟩ | ⟨h4, h5⟩
    · exfalso
      have h6 : m2 ++ [b] = (m3 ++ [a]) ++ [b3] := by simpa using h4
      have := List.append_inj' h6 rfl
      obtain ⟨e3, e4⟩ := this
      subst e3
      rw [show m3 ++ [a] ++ [b] ++ [a] = m3 ++ a :: b :: a :: [] by simp] at hr
      exact hr.no
    · exact h4
  · rw [h1, show m ++ [a] ++ [b] = m ++ [a, b] by simp, stk_pop]
theorem struck_step (p : List Int) (a b : Int) (q : List Int) : struckM (p ++ a :: b :: a :: q) = struckM (p ++ a :: q) := by
  unfold struckM
  rw [List.foldl_append, List.foldl_append]
  simp only [List.foldl_cons]
  rw [fold_aba _ (rd_fold p [] rd_nil)]
theorem Sks.struck {n : Nat} {a b : List Int} (h : Sks n a b) : struckM a = struckM b := by
  induction h with
  | refl l => rfl
  | step p a b q h ih => rw [struck_step]; exact ih
theorem fold_sks (xs : List Int) : ∀ k, ∃ n, Sks n (k ++ xs) (xs.foldl stk k) := by
  induction xs with
  | nil => intro k; exact ⟨0, by simpa using Sks.refl k⟩
  | cons x xs ih =>
    intro k
    rcases stk_cases k x with ⟨m, b, h1, h2⟩ | ⟨h1, h2⟩
    · obtain ⟨n, hn⟩ := ih (m ++ [x])
      rw [List.foldl_cons, h2, h1]
      refine ⟨n + 1, ?_⟩
      rw [show m ++ [x, b] ++ x :: xs = m ++ x :: b :: x :: xs by simp]
      exact .step m x b xs (by simpa using hn)
    · obtain ⟨n, hn⟩ := ih (k ++ [x])
      rw [List.foldl_cons, h1]
      exact ⟨n, by simpa using hn⟩
theorem sks_struck (row : List Int) : ∃ n, Sks n row (struckM row) := by simpa [struckM] using fold_sks row []
theorem struck_rev (row : List Int) : struckM row.reverse = (struckM row).reverse := by
  obtain ⟨n, h⟩ := sks_struck row
  rw [h.rev.struck]
  refine struck_rd fun i hi => ?_
  rw [List.length_reverse] at hi
  have := rd_struck row ((struckM row).length - 1 - (i + 2)) (by omega)
  rw [List.getD_eq_getElem?_getD, List.getD_eq_getElem?_getD, List.getElem?_reverse (by omega), List.getElem?_reverse (by omega), ← List.getD_eq_getElem?_getD, ← List.getD_eq_getElem?_getD]
  rw [show (struckM row).length - 1 - (i + 2) + 2 = (struckM row).length - 1 - i by omega] at this
  exact this.symm
theorem struck_struck (row : List Int) : struckM (struckM row) = struckM row := struck_rd (rd_struck row)
theorem struck_ok {row : List Int} (h : RowOk row) : RowOk (struckM row) := by
  obtain ⟨n, hs⟩ := sks_struck row
  have h1 := hs.len
  have h2 := hs.ne (fun z => by rw [z] at h; exact absurd h.1 (by simp))
  have h3 : (struckM row).length ≠ 0 := fun z => h2 (List.eq_nil_of_length_eq_zero z)
  exact ⟨by omega, by have := h.2.1; omega, fun c hc => h.2.2 c (hs.mem c hc)⟩
theorem rev_ok {row : List Int} (h : RowOk row) : RowOk row.reverse := ⟨by rw [List.length_reverse]; exact h.1, by rw [List.length_reverse]; exact h.2.1, fun c hc => h.2.2 c (by simpa using hc)⟩
/-! turns -/
theorem mem_rng {lo x : Int} {n : Nat} : x ∈ rng lo n ↔ lo ≤ x ∧ x < lo + n := by
  unfold rng
  rw [List.mem_map]
  constructor
  · rintro ⟨i, h1, rfl⟩
    rw [List.mem_range] at h1
    omega
  · intro h
    exact ⟨(x - lo).toNat, by rw [List.mem_range]; omega, by omega⟩
theorem mem_turns {row : List Int} {x : Int} : x ∈ turnsM row ↔ 1 ≤ x ∧ x < (row.length : Int) - 1 ∧ row.getD (x - 1).toNat 0 = row.getD (x + 1).toNat 0 := by
  unfold turnsM
  rw [List.map_id, List.mem_filter, mem_rng, decide_eq_true_eq]
  constructor
  · rintro ⟨⟨h1, h2⟩, h3⟩
    exact ⟨h1, by omega, h3⟩
  · rintro ⟨h1, h2, h3⟩
    exact ⟨⟨h1, by omega⟩, h3⟩
theorem turns_nil {row : List Int} : turnsM row = [] ↔ Rd row := by
  constructor
  · intro h i hi e
    have : ((i : Int) + 1) ∈ turnsM row := mem_turns.mpr ⟨by omega, by omega, by
      rw [show ((i : Int) + 1 - 1).toNat = i by omega, show ((i : Int) + 1 + 1).toNat = i + 2 by omega]
      exact e⟩
    rw [h] at this
    simp at this
  · intro h
    refine List.eq_nil_iff_forall_not_mem.mpr fun x hx => ?_
    obtain ⟨h1, h2, h3⟩ := mem_turns.mp hx
    refine h (x - 1).toNat (by omega) ?_
    rw [h3]
    congr 1
    omega
theorem cut_lo {α : Type} (xs : List α) (i : Int) (h0 : 0 ≤ i) (h : i ≤ xs.length) : cut xs none (some i) = xs.take i.toNat := by
  unfold cut
  rw [show HT.sIx xs.length 0 none = 0 from rfl, show HT.sIx xs.length xs.length (some i) = min i.toNat xs.length from if_neg (by omega)]
  rw [List.drop_zero, Nat.sub_zero, show min i.toNat xs.length = i.toNat by omega]
theorem cut_hi {α : Type} (xs : List α) (i : Int) (h0 : 0 ≤ i) : cut xs (some i) none = xs.drop i.toNat := by
  unfold cut
  rw [show HT.sIx xs.length xs.length none = xs.length from rfl, show HT.sIx xs.length 0 (some i) = min i.toNat xs.length from if_neg (by omega)]
  by_cases h : i.toNat ≤ xs.length
  · rw [show min i.toNat xs.length = i.toNat by omega, List.take_of_length_le (by rw [List.length_drop]; exact Nat.le_refl _)]
  · rw [show min i.toNat xs.length = xs.length by omega, List.drop_length, List.drop_eq_nil_of_le (by omega)]
    simp
theorem split3 {row : List Int} {i : Nat} (h : i + 2 < row.length) : row = row.take i ++ row.getD i 0 :: row.getD (i + 1) 0 :: row.getD (i + 2) 0 :: row.drop (i + 3) := by
  have e : ∀ j, j < row.length → row.drop j = row.getD j 0 :: row.drop (j + 1) := fun j hj => by
    rw [List.drop_eq_getElem_cons hj, List.getD_eq_getElem?_getD, List.getElem?_eq_getElem hj]
    rfl
  rw [← e (i + 2) h, ← e (i + 1) (by omega), ← e i (by omega), List.take_append_drop]
theorem strike_sks {row : List Int} {x : Int} (h : x ∈ turnsM row) : Sks 1 row (cut row none (some x) ++ cut row (some (x + 2)) none) := by
  obtain ⟨h1, h2, h3⟩ := mem_turns.mp h
  have hl : (x - 1).toNat + 2 < row.length := by omega
  have e := split3 hl
  rw [show (x - 1).toNat + 2 = (x + 1).toNat by omega, ← h3] at e
  have k := Sks.one (row.take (x - 1).toNat) (row.getD (x - 1).toNat 0) (row.getD ((x - 1).toNat + 1) 0) (row.drop ((x - 1).toNat + 3))
  rw [← e] at k
  rw [cut_lo row x (by omega) (by omega), cut_hi row (x + 2) (by omega)]
  have e2 : row.take x.toNat = row.take (x - 1).toNat ++ [row.getD (x - 1).toNat 0] := by
    rw [show x.toNat = (x - 1).toNat + 1 by omega, List.take_succ_eq_append_getElem (by omega), List.getD_eq_getElem?_getD, List.getElem?_eq_getElem (by omega)]
    rfl
  rw [e2, show (x + 2).toNat = (x - 1).toNat + 3 by omega, List.append_assoc]
  exact k
theorem stk_len (k : List Int) (c : Int) : (stk k c).length ≤ k.length + 1 := by
  unfold stk
  split
  · rw [List.length_dropLast]; omega
  · rw [List.length_append]; exact Nat.le_refl _
theorem lst_nil (xs : List Int) : decide (Lst.mk xs = Lst.mk []) = decide (xs = []) := by
  by_cases h : xs = []
  · subst h
    rfl
  · rw [decide_eq_false h, decide_eq_false fun z => h (by injection z)]
end BC

namespace BC
open PySem PySem.Spec PyProof.Rows L2
variable [TabL]
def m__law_pool : Fn := defM 2 5 (
  (seqS (setC 2 (cC (.int 0)))
  (seqS (ifS (cmpC ltD (varC 1) (lenV 0)) (setC 2 (ixV 0 (varC 1))) (ifS (mapC truD (varC 0)) (setC 2 (ixV 0 (cC (.int 0)))) nilS))
  (seqS (setC 3 (binC maxD (mapC toInt (varC 2)) (mapC toInt (binC subD (mapC negD (cC (.int 1))) (varC 2)))))
  (seqS (setC 4 (binC modD (mapC toInt (binC mulT (binC addE (binC addE (binC addE (binC modD (mapC toInt (varC 3)) (cC (.int 2147483629))) (binC mulT (binC mulT (cC (.int 7919)) (varC 1)) (varC 1))) (binC mulT (cC (.int 31)) (varC 1))) (cC (.int 17))) (cC (.int 48271)))) (cC (.int 2147483647))))
  (retL (lstC (consA (binC mulT (varC 3) (mapC toInt (vB (cmpC geD (varC 3) (binC powD (cC (.int 10)) (cC (.int 18))))))) (consA (varC 4) nilA)))))))))
theorem l__law_pool : ∀ as o, m__law_pool as = some o → as.length = 2 := fun _ _ h => defM_len h

def m__law_take : Fn := defM 2 3 (
  (seqS (ifS (cmpC gtD (ixV 0 (cC (.int 0))) (cC (.int 0))) (seqS (setC 2 (binC modD (mapC toInt (ixV 0 (cC (.int 0)))) (varC 1)))
  (seqS (setI 0 (cC (.int 0)) (binC fdivD (ixV 0 (cC (.int 0))) (varC 1)))
  (retC (varC 2)))) nilS)
  (seqS (setI 0 (cC (.int 1)) (binC modD (mapC toInt (binC addE (binC mulT (ixV 0 (cC (.int 1))) (cC (.int 39373))) (cC (.int 7)))) (cC (.int 2147483647))))
  (retC (binC modD (mapC toInt (binC fdivD (binC modD (mapC toInt (binC mulT (ixV 0 (cC (.int 1))) (ixV 0 (cC (.int 1))))) (cC (.int 2147483629))) (cC (.int 32)))) (varC 1))))))
theorem l__law_take : ∀ as o, m__law_take as = some o → as.length = 2 := fun _ _ h => defM_len h

def m__law_one : Fn := defM 2 2 (
  (retC (ixV 1 (c1C m__law_take 0 (consA (lenV 1) nilA)))))
theorem l__law_one : ∀ as o, m__law_one as = some o → as.length = 2 := fun _ _ h => defM_len h

/-! ### the law's source -/
def Val (s : List Int) : Prop := s.length = 2 ∧ 0 ≤ s.getD 1 0 ∧ s.getD 1 0 < 2147483647
def tk (s : List Int) (t : Int) : Int × List Int :=
  if 0 < s.getD 0 0 then (s.getD 0 0 % t, s.set 0 (s.getD 0 0 / t))
  else (((s.set 1 ((s.getD 1 0 * 39373 + 7) % 2147483647)).getD 1 0 * (s.set 1 ((s.getD 1 0 * 39373 + 7) % 2147483647)).getD 1 0 % 2147483629 / 32) % t, s.set 1 ((s.getD 1 0 * 39373 + 7) % 2147483647))
theorem tk_lt {s : List Int} {t : Int} (h : 0 < t) : 0 ≤ (tk s t).1 ∧ (tk s t).1 < t := by
  unfold tk
  split
  · exact ⟨Int.emod_nonneg _ (by omega), Int.emod_lt_of_pos _ h⟩
  · exact ⟨Int.emod_nonneg _ (by omega), Int.emod_lt_of_pos _ h⟩
theorem tk_val {s : List Int} {t : Int} (h : Val s) : Val (tk s t).2 := by
  obtain ⟨h1, h2, h3⟩ := h
  have e : ∀ y, (s.set 0 y).getD 1 0 = s.getD 1 0 := fun y => by
    rw [List.getD_eq_getElem?_getD, List.getD_eq_getElem?_getD, List.getElem?_set_ne (by decide)]
  have e2 : ∀ y, (s.set 1 y).getD 1 0 = y := fun y => by
    rw [List.getD_eq_getElem?_getD, List.getElem?_set_self (by omega)]
    rfl
  unfold tk
  split
  · refine ⟨by rw [List.length_set]; exact h1, ?_⟩
    show 0 ≤ (s.set 0 _).getD 1 0 ∧ (s.set 0 _).getD 1 0 < _
    rw [e]
    exact ⟨h2, h3⟩
  · refine ⟨by rw [List.length_set]; exact h1, ?_⟩
    show 0 ≤ (s.set 1 _).getD 1 0 ∧ (s.set 1 _).getD 1 0 < _
    rw [e2]
    exact ⟨Int.emod_nonneg _ (by decide), Int.emod_lt_of_pos _ (by decide)⟩
theorem tkp {s : List Int} (t : Int) (h : Val s) (h0 : 0 < t) (h1 : t < 1073741824) : Val (s, t).1 ∧ 0 < (s, t).2 ∧ (s, t).2 < 1073741824 := ⟨h, h0, h1⟩
theorem onp {s : List Int} (t : List Int) (h : Val s) (h0 : 0 < t.length) (h1 : t.length ≤ 100000) : Val (s, Lst.mk t).1 ∧ 0 < (s, Lst.mk t).2.l.length ∧ (s, Lst.mk t).2.l.length ≤ 100000 := ⟨h, h0, h1⟩
def cell (l : List Int) (k : Int) : Int := if k < (l.length : Int) then l.getD k.toNat 0 else if l ≠ [] then l.getD 0 0 else 0
def bigM (l : List Int) (k : Int) : Int := max (cell l k) (-1 - cell l k)
def poolM (l : List Int) (k : Int) : List Int := [bigM l k * (if decide (10 ^ (18 : Int).toNat ≤ bigM l k) = true then (1 : Int) else 0), (bigM l k % 2147483629 + 7919 * k * k + 31 * k + 17) * 48271 % 2147483647]
theorem pool_val (l : List Int) (k : Int) : Val (poolM l k) := ⟨rfl, Int.emod_nonneg _ (by decide), Int.emod_lt_of_pos _ (by decide)⟩
theorem cmul_l {i j : Int} (h : -18446744073709551616 < i ∧ i < 18446744073709551616) : L2.CMul i j := .inl h
theorem cmul_r {i j : Int} (h : -18446744073709551616 < j ∧ j < 18446744073709551616) : L2.CMul i j := .inr h
theorem take_ok {s : List Int} {t : Int} (hv : Val s) (h0 : 0 < t) (h1 : t < 1073741824) : m__law_take [.par (s.map D.int), .im (.int t)] = some (.rt (.int (tk s t).1) [(0, .par ((tk s t).2.map D.int))]) := by
  obtain ⟨hl, hb0, hb1⟩ := hv
  match s, hl with
  | [a, b], _ =>
    have hb0 : 0 ≤ b := hb0
    have hb1 : b < 2147483647 := hb1
    have m0 := Int.emod_nonneg (b * 39373 + 7) (b := 2147483647) (by decide)
    have m1 := Int.emod_lt_of_pos (b * 39373 + 7) (b := 2147483647) (by decide)
    have hm : ∀ y : Int, 0 ≤ y → y < 2147483647 → (-18446744073709551616 < y ∧ y < 18446744073709551616) := fun y h1 h2 => by omega
    unfold m__law_take
    by_cases ha : 0 < a
    · simp [atI, ixN, ha, h0, h1, tk, Option.bind]
    · simp [atI, ixN, ha, h0, h1, tk, Option.bind, hm _ hb0 hb1, hm _ m0 m1]
theorem pool_ok {l : List Int} {k : Int} (hl : l.length ≤ 63) (hk0 : 0 ≤ k) (hk1 : k ≤ 1000) : m__law_pool [.im (.lsr (l.map D.int)), .im (.int k)] = some (.fr ((poolM l k).map D.int) []) := by
  have b1 : 0 ≤ bigM l k % 2147483629 := Int.emod_nonneg _ (by decide)
  have b2 : bigM l k % 2147483629 < 2147483629 := Int.emod_lt_of_pos _ (by decide)
  have b3 : 0 ≤ 7919 * k * k := Int.mul_nonneg (by omega) hk0
  have b4 : 7919 * k * k ≤ 7919 * 1000 * 1000 := Int.mul_le_mul (by omega) hk1 hk0 (by decide)
  have hc : sq (ifS (cmpC ltD (varC 1) (lenV 0)) (setC 2 (ixV 0 (varC 1))) (ifS (mapC truD (varC 0)) (setC 2 (ixV 0 (cC (.int 0)))) nilS) [.im (.lsr (l.map D.int)), .im (.int k), .im (.int 0), .un, .un]) = sq (some (.nx [.im (.lsr (l.map D.int)), .im (.int k), .im (.int (cell l k)), .un, .un])) := by
    congr 1
    by_cases h : k < (l.length : Int)
    · simp [h, ix_pos hk0 h, cell]
    · cases l with
      | nil => simp at h; simp [show ¬ k < 0 by omega, cell]
      | cons x xs =>
        have h' : ¬ k < (xs.length : Int) + 1 := h
        simp [h', atI, ixN, cell]
  have hp : (poolM l k) = [bigM l k * (if (10 : Int) ^ 18 ≤ bigM l k then 1 else 0), (bigM l k % 2147483629 + 7919 * k * k + 31 * k + 17) * 48271 % 2147483647] := by unfold poolM; simp
  have hb : max (cell l k) (-1 - cell l k) = bigM l k := rfl
  have c1 : (-18446744073709551616 < k ∧ k < 18446744073709551616) := by omega
  have c2 : (-18446744073709551616 < 7919 * k ∧ 7919 * k < 18446744073709551616) := by omega
  unfold m__law_pool
  rw [defM_]
  simp only [List.length_cons, List.length_nil, if_pos, seqS_, setC_, cC_, bs_ok, sq_nx, List.append_eq, List.cons_append, List.nil_append, List.replicate, List.set]
  rw [hc, hp]
  by_cases h10 : (1000000000000000000 : Int) ≤ bigM l k
  · simp [hb, c1, c2, h10]
  · simp [hb, c1, c2, h10]
theorem one_ok {s : List Int} {xs : List D} (hv : Val s) (h0 : 0 < xs.length) (h1 : xs.length ≤ 100000) : m__law_one [.par (s.map D.int), .im (.lst xs)] = some (.rt (xs.getD (tk s xs.length).1.toNat .non) [(0, .par ((tk s xs.length).2.map D.int))]) := by
  have hb := tk_lt (s := s) (t := (xs.length : Int)) (by omega)
  unfold m__law_one
  simp [take_ok hv (show (0:Int) < xs.length by omega) (show (xs.length : Int) < 1073741824 by omega), sel_pos hb.1 hb.2]
end BC

namespace BC
variable [TabL]
/-! ### rows end to end: the plain part -/
theorem cut_1 {α : Type} (xs : List α) : cut xs (some 1) none = xs.drop 1 := cut_hi xs 1 (by decide)
theorem cons_of {a : List Int} (h : 1 ≤ a.length) : ∃ x t, a = x :: t := by
  cases a with
  | nil => simp at h
  | cons x t => exact ⟨x, t, rfl⟩
theorem snoc_of {a : List Int} (h : 1 ≤ a.length) : ∃ t x, a = t ++ [x] ∧ a.getD (a.length - 1) 0 = x := by
  have hn : a ≠ [] := fun z => by rw [z] at h; simp at h
  refine ⟨a.dropLast, a.getLast hn, (List.dropLast_concat_getLast hn).symm, ?_⟩
  rw [List.getD_eq_getElem?_getD, List.getLast_eq_getElem, List.getElem?_eq_getElem (by omega)]
  rfl
theorem jn_sks {a a' b b' : List Int} {n m : Nat} (ha : Sks n a a') (hb : Sks m b b') (la : 1 ≤ a.length) (lb : 1 ≤ b.length) (e : a.getD (a.length - 1) 0 = b.getD 0 0) : Sks (m + n) (a ++ b.drop 1) (a' ++ b'.drop 1) := by
  have lb' : 1 ≤ b'.length := by
    have := hb.ne (fun z => by rw [z] at lb; simp at lb)
    exact List.length_pos_iff.mpr this
  obtain ⟨t, x, e1, e2⟩ := snoc_of la
  obtain ⟨y, u, e3⟩ := cons_of lb
  obtain ⟨y', u', e4⟩ := cons_of lb'
  have h1 := hb.head
  have exy : x = y := by rw [← e2, e, e3]; rfl
  have eyy : y = y' := by rw [e3, e4] at h1; simpa using h1
  have s1 : Sks m (a ++ b.drop 1) (a ++ b'.drop 1) := by
    have := hb.app t []
    rw [List.append_nil, List.append_nil] at this
    rw [e1, e3, e4]
    rw [e3, e4] at this
    subst exy eyy
    simpa using this
  have s2 := ha.app [] (b'.drop 1)
  rw [List.nil_append, List.nil_append] at s2
  exact s1.trans s2
theorem jn_struck {a a' b b' : List Int} {n m : Nat} (ha : Sks n a a') (hb : Sks m b b') (la : 1 ≤ a.length) (lb : 1 ≤ b.length) (e : a.getD (a.length - 1) 0 = b.getD 0 0) : struckM (a ++ b.drop 1) = struckM (a' ++ b'.drop 1) := (jn_sks ha hb la lb e).struck
theorem pal_sks : ∀ a : List Int, 1 ≤ a.length → ∃ n, Sks n (a.reverse ++ a.drop 1) [a.getD (a.length - 1) 0]
  | [], h => by simp at h
  | [x], _ => ⟨0, .refl _⟩
  | x :: y :: t, _ => by
    obtain ⟨n, hn⟩ := pal_sks (y :: t) (by simp)
    refine ⟨n + 1, ?_⟩
    have e : (x :: y :: t).reverse ++ (x :: y :: t).drop 1 = t.reverse ++ y :: x :: y :: t := by simp
    have e2 : (y :: t).reverse ++ (y :: t).drop 1 = t.reverse ++ y :: t := by simp
    rw [e]
    rw [e2] at hn
    have e3 : (x :: y :: t).getD ((x :: y :: t).length - 1) 0 = (y :: t).getD ((y :: t).length - 1) 0 := by simp
    rw [e3]
    exact .step _ _ _ _ hn
theorem struck_one (x : Int) : struckM [x] = [x] := by
  refine struck_rd fun i h => ?_
  simp at h
theorem pal_struck {a : List Int} (h : 1 ≤ a.length) : struckM (a.reverse ++ a.drop 1) = [a.getD (a.length - 1) 0] := by
  obtain ⟨n, hn⟩ := pal_sks a h
  rw [hn.struck, struck_one]
theorem last_rev (l : List Int) : l.reverse.getD (l.length - 1) 0 = l.getD 0 0 := by
  cases l with
  | nil => rfl
  | cons x xs =>
    rw [List.getD_eq_getElem?_getD, List.getD_eq_getElem?_getD, List.getElem?_reverse (by simp)]
    simp
theorem head_rev (l : List Int) : l.reverse.getD 0 0 = l.getD (l.length - 1) 0 := by
  have := last_rev l.reverse
  rw [List.reverse_reverse, List.length_reverse] at this
  exact this.symm
theorem head_app {a : List Int} (b : List Int) (h : 1 ≤ a.length) : (a ++ b).getD 0 0 = a.getD 0 0 := getD_app_l (by omega)
theorem last_app {a b : List Int} (h : 1 ≤ b.length) : (a ++ b).getD ((a ++ b).length - 1) 0 = b.getD (b.length - 1) 0 := by
  rw [List.length_append, getD_app_r (by omega), show a.length + b.length - 1 - a.length = b.length - 1 by omega]
theorem struck_head (a : List Int) : (struckM a).getD 0 0 = a.getD 0 0 := let ⟨_, h⟩ := sks_struck a; h.head.symm
theorem struck_last (a : List Int) : (struckM a).getD ((struckM a).length - 1) 0 = a.getD (a.length - 1) 0 := let ⟨_, h⟩ := sks_struck a; h.last.symm
theorem struck_len (a : List Int) : (struckM a).length ≤ a.length := let ⟨_, h⟩ := sks_struck a; by have := h.len; omega
theorem struck_pos {a : List Int} (h : 1 ≤ a.length) : 1 ≤ (struckM a).length := by
  obtain ⟨n, hn⟩ := sks_struck a
  exact List.length_pos_iff.mpr (hn.ne fun z => by rw [z] at h; simp at h)
theorem last_jn {a b : List Int} (hb : 1 ≤ b.length) (ha : 1 ≤ a.length) (e : a.getD (a.length - 1) 0 = b.getD 0 0) : (a ++ b.drop 1).getD ((a ++ b.drop 1).length - 1) 0 = b.getD (b.length - 1) 0 := by
  by_cases h : b.length = 1
  · obtain ⟨y, u, e3⟩ := cons_of hb
    subst e3
    have hu : u = [] := by
      cases u with
      | nil => rfl
      | cons _ _ => simp at h
    subst hu
    simpa using e
  · rw [last_app (by rw [List.length_drop]; omega), List.length_drop, List.getD_eq_getElem?_getD, List.getD_eq_getElem?_getD, List.getElem?_drop]
    congr 2
    omega
theorem drop_app {a b : List Int} (h : 1 ≤ a.length) : (a ++ b).drop 1 = a.drop 1 ++ b := by
  obtain ⟨x, t, e⟩ := cons_of h
  subst e
  rfl
/-! the common beginning -/
def com : List Int → List Int → Nat
  | x :: xs, y :: ys => if x = y then com xs ys + 1 else 0
  | _, _ => 0
theorem com_le : ∀ a b, com a b ≤ a.length ∧ com a b ≤ b.length
  | [], _ => by simp [com]
  | _ :: _, [] => by simp [com]
  | x :: xs, y :: ys => by
    unfold com
    split
    · have := com_le xs ys
      simp only [List.length_cons]
      omega
    · simp
theorem com_eq : ∀ (a b : List Int) (i : Nat), i < com a b → a.getD i 0 = b.getD i 0
  | [], _, i, h => by simp [com] at h
  | _ :: _, [], i, h => by simp [com] at h
  | x :: xs, y :: ys, i, h => by
    unfold com at h
    split at h
    · rename_i e
      cases i with
      | zero => simpa using e
      | succ i =>
        have := com_eq xs ys i (by omega)
        simpa using this
    · omega
theorem com_stop : ∀ a b : List Int, com a b < a.length → com a b < b.length → a.getD (com a b) 0 ≠ b.getD (com a b) 0
  | [], _, h, _ => by simp [com] at h
  | _ :: _, [], _, h => by simp [com] at h
  | x :: xs, y :: ys, h1, h2 => by
    unfold com at h1 h2 ⊢
    split
    · rename_i e
      rw [if_pos e] at h1 h2
      have := com_stop xs ys (by simpa using h1) (by simpa using h2)
      simpa using this
    · rename_i e
      simpa using e
theorem com_split : ∀ a b : List Int, ∃ p s t, a = p ++ s ∧ b = p ++ t ∧ p.length = com a b ∧ (s = [] ∨ t = [] ∨ s.getD 0 0 ≠ t.getD 0 0)
  | [], b => ⟨[], [], b, rfl, rfl, by simp [com], .inl rfl⟩
  | x :: xs, [] => ⟨[], x :: xs, [], rfl, rfl, by simp [com], .inr (.inl rfl)⟩
  | x :: xs, y :: ys => by
    by_cases e : x = y
    · obtain ⟨p, s, t, h1, h2, h3, h4⟩ := com_split xs ys
      exact ⟨x :: p, s, t, by rw [h1]; rfl, by rw [h2, e]; rfl, by unfold com; rw [if_pos e, List.length_cons, h3], h4⟩
    · exact ⟨[], x :: xs, y :: ys, rfl, rfl, by unfold com; rw [if_neg e]; rfl, .inr (.inr (by simpa using e))⟩
theorem rd_rev {l : List Int} (h : Rd l) : Rd l.reverse := fun i hi => by
  rw [List.length_reverse] at hi
  have := h (l.length - 1 - (i + 2)) (by omega)
  rw [List.getD_eq_getElem?_getD, List.getD_eq_getElem?_getD, List.getElem?_reverse (by omega), List.getElem?_reverse (by omega), ← List.getD_eq_getElem?_getD, ← List.getD_eq_getElem?_getD]
  rw [show l.length - 1 - (i + 2) + 2 = l.length - 1 - i by omega] at this
  exact this.symm
theorem rd_mid {x y : List Int} {c : Int} (hx : Rd (x ++ [c])) (hy : Rd (c :: y)) (h : x = [] ∨ y = [] ∨ x.getD (x.length - 1) 0 ≠ y.getD 0 0) : Rd (x ++ c :: y) := fun i hi => by
  rw [List.length_append, List.length_cons] at hi
  by_cases h1 : i + 2 < x.length + 1
  · have := hx i (by rw [List.length_append]; show i + 2 < x.length + 1; omega)
    rw [show x ++ c :: y = (x ++ [c]) ++ y by simp, getD_app_l (p := x ++ [c]) (by rw [List.length_append]; show i < x.length + 1; omega), getD_app_l (p := x ++ [c]) (by rw [List.length_append]; show i + 2 < x.length + 1; omega)]
    exact this
  · by_cases h2 : x.length ≤ i
    · have := hy (i - x.length) (by simp; omega)
      rw [getD_app_r h2, getD_app_r (by omega), show i + 2 - x.length = i - x.length + 2 by omega]
      exact this
    · have e : i = x.length - 1 := by omega
      rw [getD_app_l (by omega), getD_app_r (by omega), show i + 2 - x.length = 1 by omega, e]
      have hy1 : (c :: y).getD 1 0 = y.getD 0 0 := by cases y <;> rfl
      rw [hy1]
      rcases h with h | h | h
      · rw [h] at h2; simp at h2
      · rw [h] at hi; simp at hi; omega
      · exact h
/-- the steps between two straight rows from one place -/
theorem gap_com {a b : List Int} (ha : Rd a) (hb : Rd b) (la : 1 ≤ a.length) (lb : 1 ≤ b.length) (e : a.getD 0 0 = b.getD 0 0) : ((struckM (a.reverse ++ b.drop 1)).length : Int) - 1 = (a.length : Int) + (b.length : Int) - 2 * (com a b : Int) := by
  obtain ⟨p, s, t, h1, h2, h3, h4⟩ := com_split a b
  have hp : 1 ≤ p.length := by
    rw [h3]
    obtain ⟨x, u, e1⟩ := cons_of la
    obtain ⟨y, v, e2⟩ := cons_of lb
    subst e1 e2
    unfold com
    rw [if_pos (by simpa using e)]
    omega
  obtain ⟨q, c, h5, h6⟩ := snoc_of hp
  obtain ⟨n, hn⟩ := pal_sks p hp
  rw [h6] at hn
  have e1 : a.reverse ++ b.drop 1 = s.reverse ++ (p.reverse ++ p.drop 1) ++ t := by
    rw [h1, h2, drop_app hp]
    simp
  have e2 : struckM (a.reverse ++ b.drop 1) = s.reverse ++ c :: t := by
    rw [e1, (hn.app s.reverse t).struck, show s.reverse ++ [c] ++ t = s.reverse ++ c :: t by simp]
    refine struck_rd (rd_mid ?_ ?_ ?_)
    · have : Rd (c :: s) := by
        rw [h1, h5, List.append_assoc] at ha
        exact ha.suf
      have := rd_rev this
      simpa using this
    · rw [h2, h5, List.append_assoc] at hb
      exact hb.suf
    · rcases h4 with h4 | h4 | h4
      · exact .inl (by rw [h4]; rfl)
      · exact .inr (.inl h4)
      · refine .inr (.inr ?_)
        rw [List.length_reverse, last_rev]
        exact h4
  rw [e2]
  have l1 : a.length = p.length + s.length := by rw [h1, List.length_append]
  have l2 : b.length = p.length + t.length := by rw [h2, List.length_append]
  have l3 : (s.reverse ++ c :: t).length = s.length + t.length + 1 := by simp; omega
  omega
theorem gap_sym {a b : List Int} (la : 1 ≤ a.length) (lb : 1 ≤ b.length) (e : a.getD 0 0 = b.getD 0 0) : (struckM (b.reverse ++ a.drop 1)).length = (struckM (a.reverse ++ b.drop 1)).length := by
  obtain ⟨x, u, e1⟩ := cons_of la
  obtain ⟨y, v, e2⟩ := cons_of lb
  subst e1 e2
  have e : x = y := by simpa using e
  subst e
  have : ((x :: v).reverse ++ (x :: u).drop 1) = ((x :: u).reverse ++ (x :: v).drop 1).reverse := by simp
  rw [this, struck_rev, List.length_reverse]
theorem cut_neg1 (xs : List Int) (h : 1 ≤ xs.length) : cut xs (some (-1)) none = xs.drop (xs.length - 1) := by
  unfold cut
  have e2 : HT.sIx xs.length 0 (some (-1)) = xs.length - 1 := by
    show (if (-1 : Int) < 0 then ((-1 : Int) + (xs.length : Int)).toNat else min (-1 : Int).toNat xs.length) = _
    rw [if_pos (by decide)]
    omega
  rw [HT.sIx_none, e2, List.take_of_length_le (by rw [List.length_drop]; omega)]
theorem cut_top (xs : List Int) (n : Nat) : cut xs none (some (n : Int)) = xs.take n := by
  unfold cut
  rw [HT.sIx_none, HT.sIx_nat, List.drop_zero, Nat.sub_zero]
  by_cases h : n ≤ xs.length
  · rw [show min n xs.length = n by omega]
  · rw [show min n xs.length = xs.length by omega, List.take_length, List.take_of_length_le (by omega)]
theorem fold_eq (a : List Int) : List.foldl stk [] a = struckM a := rfl
end BC

/-! Small things that every law wants. -/
namespace BC
open PySem PySem.Spec PyProof.Rows L2
variable [TabL]
theorem enr_map {α : Type} (g : α → D) : ∀ (k : Nat) (xs : List α), (enr k (xs.map g)).map (fun y => D.tup [.int y.1, y.2]) = (enr k xs).map fun y => D.tup [.int y.1, g y.2]
  | _, [] => rfl
  | k, x :: xs => by simp [enr, enr_map g (k + 1) xs]
theorem rng_val {lo : Int} {n i : Nat} {j : Int} (h : (rng lo n)[i]? = some j) : j = lo + (i : Int) ∧ i < n := by
  have hi : i < n := by
    have := (List.getElem?_eq_some_iff.mp h).1
    rwa [rng_len] at this
  rw [rng_get hi] at h
  exact ⟨by have := Option.some.inj h; omega, hi⟩
theorem enr_val {α : Type} {xs : List α} {i : Nat} {y : Int × α} (h : (enr 0 xs)[i]? = some y) : ∃ x, xs[i]? = some x ∧ y = ((i : Int), x) ∧ i < xs.length := by
  rw [enr_get] at h
  cases q : xs[i]? with
  | none => rw [q] at h; cases h
  | some x =>
    rw [q] at h
    have h := Option.some.inj h
    exact ⟨x, rfl, by rw [← h]; simp, (List.getElem?_eq_some_iff.mp q).1⟩
/-- a row's item by a number -/
def gI (xs : List Int) (j : Int) : Int := xs.getD j.toNat 0
theorem at_int {xs : List Int} {j : Int} (h0 : 0 ≤ j) (h : j < xs.length) : atI (xs.map D.int) j = some (.int (xs.getD j.toNat 0)) := ix_pos h0 h
theorem at_m1 {xs : List Int} (h : 1 ≤ xs.length) : atI (xs.map D.int) (-1) = some (.int (xs.getD (xs.length - 1) 0)) := ix_neg (i := 1) (by decide) h
theorem at_m2 {xs : List Int} (h : 2 ≤ xs.length) : atI (xs.map D.int) (-2) = some (.int (xs.getD (xs.length - 2) 0)) := ix_neg (i := 2) (by decide) h
theorem at_map {α : Type} (g : α → D) {xs : List α} {j : Int} {d : α} (h0 : 0 ≤ j) (h : j < xs.length) : atI (xs.map g) j = some (g (xs.getD j.toNat d)) := by
  rw [sel_pos h0 (by rw [List.length_map]; exact h), List.getD_eq_getElem?_getD, List.getD_eq_getElem?_getD, List.getElem?_map]
  have : j.toNat < xs.length := by omega
  rw [List.getElem?_eq_getElem this]
  rfl
theorem gD_mem {α : Type} {xs : List α} {i : Nat} {d : α} (h : i < xs.length) : xs.getD i d ∈ xs := by
  rw [List.getD_eq_getElem?_getD, List.getElem?_eq_getElem h]
  exact List.getElem_mem h
theorem get_getD {α : Type} {xs : List α} {i : Nat} {x d : α} (h : xs[i]? = some x) : xs.getD i d = x := by
  rw [List.getD_eq_getElem?_getD, h]
  rfl
theorem getD_ov {α : Type} {xs : List α} {i : Nat} {d : α} (h : xs.length ≤ i) : xs.getD i d = d := by
  rw [List.getD_eq_getElem?_getD, List.getElem?_eq_none h]
  rfl
theorem getD_set {α : Type} {xs : List α} {i j : Nat} {x d : α} (h : i < xs.length) : (xs.set i x).getD j d = if i = j then x else xs.getD j d := by
  rw [List.getD_eq_getElem?_getD, List.getD_eq_getElem?_getD, List.getElem?_set]
  by_cases e : i = j
  · subst e; simp [h]
  · simp [e]
theorem sx_app_l {α : Type} {p q : List α} {i : Nat} {d : α} (h : i < p.length) : (p ++ q).getD i d = p.getD i d := by
  rw [List.getD_eq_getElem?_getD, List.getD_eq_getElem?_getD, List.getElem?_append_left h]
theorem sx_app_r {α : Type} {p q : List α} {i : Nat} {d : α} (h : p.length ≤ i) : (p ++ q).getD i d = q.getD (i - p.length) d := by
  rw [List.getD_eq_getElem?_getD, List.getD_eq_getElem?_getD, List.getElem?_append_right h]
/-- one of written things -/
theorem one_mem {s : List Int} {xs : List D} (hv : Val s) (h0 : 0 < xs.length) (h1 : xs.length ≤ 100000) : ∃ x ∈ xs, m__law_one [.par (s.map D.int), .im (.lst xs)] = some (.rt x [(0, .par ((tk s xs.length).2.map D.int))]) := by
  have hb := tk_lt (s := s) (t := (xs.length : Int)) (by omega)
  refine ⟨_, ?_, one_ok hv h0 h1⟩
  exact gD_mem (by omega)
theorem one_ok' {s : List Int} {d : D} {xs : List D} (hd : d.seq? = some xs) (hv : Val s) (h0 : 0 < xs.length) (h1 : xs.length ≤ 100000) : m__law_one [.par (s.map D.int), .im d] = some (.rt (xs.getD (tk s xs.length).1.toNat .non) [(0, .par ((tk s xs.length).2.map D.int))]) := by
  have hb := tk_lt (s := s) (t := (xs.length : Int)) (by omega)
  unfold m__law_one
  cases d with
  | lst ys => cases hd; simp [take_ok hv (show (0:Int) < xs.length by omega) (show (xs.length : Int) < 1073741824 by omega), sel_pos hb.1 hb.2]
  | tup ys => cases hd; simp [take_ok hv (show (0:Int) < xs.length by omega) (show (xs.length : Int) < 1073741824 by omega), sel_pos hb.1 hb.2]
  | lsr ys => cases hd; simp [take_ok hv (show (0:Int) < xs.length by omega) (show (xs.length : Int) < 1073741824 by omega), sel_pos hb.1 hb.2]
  | _ => cases hd
/-- one of a row of numbers -/
theorem one_int {s : List Int} {xs : List Int} (hv : Val s) (h0 : 0 < xs.length) (h1 : xs.length ≤ 100000) : ∃ x ∈ xs, m__law_one [.par (s.map D.int), .im (.tup (xs.map D.int))] = some (.rt (.int x) [(0, .par ((tk s xs.length).2.map D.int))]) := by
  have hb := tk_lt (s := s) (t := (xs.length : Int)) (by omega)
  have hl : (tk s xs.length).1.toNat < xs.length := by omega
  refine ⟨xs.getD (tk s xs.length).1.toNat 0, gD_mem hl, ?_⟩
  have := one_ok' (s := s) (d := .tup (xs.map D.int)) rfl hv (by rw [List.length_map]; exact h0) (by rw [List.length_map]; exact h1)
  rw [this, List.length_map]
  congr 2
  rw [List.getD_eq_getElem?_getD, List.getElem?_map, List.getElem?_eq_getElem hl, List.getD_eq_getElem?_getD, List.getElem?_eq_getElem hl]
  rfl
@[simp] theorem ints_nil' : ints? ([] : List D) = some [] := rfl
theorem rng1_len {n : Nat} (h : n ≤ 1000000) : rng1D (.int (n : Int)) = some ((rng 0 n).map D.int) := by
  rw [rng1D_int, if_pos ⟨by omega, by omega⟩, Int.toNat_natCast]
end BC

/-! Rows of rows. -/
namespace BC
open PySem PySem.Spec PyProof.Rows L2
variable [TabL]
def tbD (rows : List (List Int)) : D := .tup (rows.map fun r => .tup (r.map D.int))
def bsd (rows : List (List Int)) (x : Int) : List Int := rows.getD x.toNat []
@[simp] theorem tbD_seq {rows : List (List Int)} : (tbD rows).seq? = some (rows.map fun r => D.tup (r.map D.int)) := rfl
@[simp] theorem tbD_ix {rows : List (List Int)} {y : D} : ixD (tbD rows) y = ixL (rows.map fun r => D.tup (r.map D.int)) y := rfl
@[simp] theorem tbD_enu {rows : List (List Int)} : enuD (tbD rows) = some ((enr 0 rows).map fun y => D.tup [.int y.1, .tup (y.2.map D.int)]) := by
  unfold tbD
  rw [enuD_tup, enr_map (fun r : List Int => D.tup (r.map D.int))]
def AscB (n : Int) (r : List Int) : Prop := r.Pairwise (· < ·) ∧ ∀ x ∈ r, 0 ≤ x ∧ x < n
theorem asc_len : ∀ {l : List Int} {lo : Int} {n : Nat}, l.Pairwise (· < ·) → (∀ x ∈ l, lo ≤ x ∧ x < lo + n) → l.length ≤ n
  | [], _, _, _, _ => Nat.zero_le _
  | x :: l, lo, n, hp, hb => by
    have hx := hb x List.mem_cons_self
    have h2 := List.pairwise_cons.mp hp
    have ih := asc_len (l := l) (lo := x + 1) (n := n - 1) h2.2 fun y hy => by
      have := h2.1 y hy
      have := hb y (List.mem_cons_of_mem _ hy)
      omega
    rw [List.length_cons]
    omega
instance {n : Int} {r : List Int} : Decidable (AscB n r) := by unfold AscB; exact inferInstance
theorem ascB_snoc {n : Int} {r : List Int} {x : Int} (h : AscB n r) : AscB n (r ++ [x]) ↔ (0 ≤ x ∧ x < n) ∧ (r = [] ∨ r.getD (r.length - 1) 0 < x) := by
  unfold AscB
  rw [List.pairwise_append]
  constructor
  · rintro ⟨⟨_, _, h2⟩, h3⟩
    refine ⟨h3 x (by simp), ?_⟩
    by_cases z : r = []
    · exact .inl z
    · refine .inr (h2 _ (gD_mem ?_) x (by simp))
      have : r.length ≠ 0 := fun y => z (List.eq_nil_of_length_eq_zero y)
      omega
  · rintro ⟨h2, h3⟩
    refine ⟨⟨h.1, by simp, fun a ha b hb => ?_⟩, fun y hy => ?_⟩
    · have hb : b = x := by simpa using hb
      subst hb
      rcases h3 with z | h3
      · rw [z] at ha; cases ha
      · obtain ⟨i, hi, rfl⟩ := List.getElem_of_mem ha
        by_cases e : i = r.length - 1
        · subst e
          rw [List.getD_eq_getElem?_getD, List.getElem?_eq_getElem hi] at h3
          exact h3
        · have := List.pairwise_iff_getElem.mp h.1 i (r.length - 1) hi (by omega) (by omega)
          rw [List.getD_eq_getElem?_getD, List.getElem?_eq_getElem (by omega)] at h3
          simp at h3
          omega
    · rcases List.mem_append.mp hy with q | q
      · exact h.2 y q
      · rw [show y = x by simpa using q]; exact h2
theorem AscB.pre {n : Int} {p q : List Int} (h : AscB n (p ++ q)) : AscB n p := ⟨(List.pairwise_append.mp h.1).1, fun x hx => h.2 x (List.mem_append_left _ hx)⟩
theorem take_snoc {α : Type} {xs : List α} {i : Nat} {x : α} (h : xs[i]? = some x) : xs.take (i + 1) = xs.take i ++ [x] := by
  rw [List.take_add_one, h]
  rfl
theorem tb_get {rows : List (List Int)} {x : Int} (h0 : 0 ≤ x) (h1 : x < rows.length) : atI (rows.map fun r => D.tup (r.map D.int)) x = some (.tup ((bsd rows x).map D.int)) := at_map (fun r => D.tup (r.map D.int)) h0 h1
theorem bsd_mem {rows : List (List Int)} {x : Int} (h0 : 0 ≤ x) (h1 : x < rows.length) : bsd rows x ∈ rows := gD_mem (by omega)
abbrev o2 (rows : List (List Int)) : SV := .own2 (rows.map fun r => r.map D.int)
theorem bsd_set {rows : List (List Int)} {p x : Int} {r : List Int} (h0 : 0 ≤ p) (h1 : p < rows.length) (h2 : 0 ≤ x) : bsd (rows.set p.toNat r) x = if p = x then r else bsd rows x := by
  unfold bsd
  rw [getD_set (by omega)]
  by_cases e : p = x
  · subst e; simp
  · rw [if_neg (by omega), if_neg e]
theorem apiN_ok {ρ : PE'} {i j k : Nat} {rows : List (List Int)} {p x : Int} (h2 : ρ[i]? = some (o2 rows)) (hj : ρ[j]? = some (.im (.int p))) (hk : ρ[k]? = some (.im (.int x))) (p0 : 0 ≤ p) (p1 : p < rows.length) (hl : (bsd rows p).length ≤ 100000) :
    apiN i j k ρ = some (.nx (ρ.set i (o2 (rows.set p.toNat (bsd rows p ++ [x]))))) := by
  unfold apiN
  rw [h2, hj, hk]
  have e1 : ixN (rows.map fun r => r.map D.int).length p = some p.toNat := by
    unfold ixN
    rw [List.length_map]
    rw [if_pos p0, if_pos (by omega)]
  have e2 : (rows.map fun r => r.map D.int).getD p.toNat [] = (bsd rows p).map D.int := by
    unfold bsd
    rw [List.getD_eq_getElem?_getD, List.getElem?_map, List.getD_eq_getElem?_getD, List.getElem?_eq_getElem (by omega)]
    rfl
  dsimp only
  rw [e1]
  dsimp only
  rw [e2, List.length_map, if_pos hl]
  have e3 : (rows.map fun r => r.map D.int).set p.toNat ((bsd rows p).map D.int ++ [D.int x]) = (rows.set p.toNat (bsd rows p ++ [x])).map fun r => r.map D.int := by
    rw [List.map_set, List.map_append]
    rfl
  rw [e3]
def addP (p s : Int) (rows : List (List Int)) : List (List Int) :=
  if s = p then rows.set p.toNat (bsd rows p ++ [s]) else (rows.set p.toNat (bsd rows p ++ [s])).set s.toNat (bsd (rows.set p.toNat (bsd rows p ++ [s])) s ++ [p])
theorem addP_len {p s : Int} {rows : List (List Int)} : (addP p s rows).length = rows.length := by
  unfold addP
  split <;> simp
theorem addP_bsd {p s x : Int} {rows : List (List Int)} (p0 : 0 ≤ p) (p1 : p < rows.length) (s0 : 0 ≤ s) (s1 : s < rows.length) (x0 : 0 ≤ x) : bsd (addP p s rows) x = if x = p then bsd rows p ++ [s] else if x = s then bsd rows s ++ [p] else bsd rows x := by
  unfold addP
  by_cases e : s = p
  · subst e
    rw [if_pos rfl, bsd_set p0 p1 x0]
    by_cases z : x = s
    · rw [if_pos z.symm, if_pos z]
    · rw [if_neg fun q => z q.symm, if_neg z, if_neg z]
  · rw [if_neg e, bsd_set s0 (by rw [List.length_set]; exact s1) x0, bsd_set p0 p1 x0, bsd_set p0 p1 s0]
    rw [if_neg fun q : p = s => e q.symm]
    by_cases z : x = p
    · rw [if_pos z, if_neg (by omega), if_pos z.symm]
    · rw [if_neg z]
      by_cases y : x = s
      · rw [if_pos y, if_pos y.symm]
      · rw [if_neg y, if_neg fun q => y q.symm, if_neg fun q => z q.symm]
theorem addP_mem {p s x y : Int} {rows : List (List Int)} (p0 : 0 ≤ p) (p1 : p < rows.length) (s0 : 0 ≤ s) (s1 : s < rows.length) (x0 : 0 ≤ x) : y ∈ bsd (addP p s rows) x ↔ y ∈ bsd rows x ∨ (x = p ∧ y = s) ∨ (x = s ∧ y = p) := by
  rw [addP_bsd p0 p1 s0 s1 x0]
  by_cases z : x = p
  · subst z
    rw [if_pos rfl]
    simp only [List.mem_append, List.mem_singleton, true_and]
    constructor
    · rintro (h | h)
      · exact .inl h
      · exact .inr (.inl h)
    · rintro (h | h | ⟨h1, h2⟩)
      · exact .inl h
      · exact .inr h
      · exact .inr (by omega)
  · rw [if_neg z]
    by_cases w : x = s
    · subst w
      rw [if_pos rfl]
      simp only [List.mem_append, List.mem_singleton, true_and]
      constructor
      · rintro (h | h)
        · exact .inl h
        · exact .inr (.inr h)
      · rintro (h | ⟨h1, h2⟩ | h)
        · exact .inl h
        · exact absurd h1 z
        · exact .inr h
    · rw [if_neg w]
      constructor
      · exact fun h => .inl h
      · rintro (h | ⟨h1, h2⟩ | ⟨h1, h2⟩)
        · exact h
        · exact absurd h1 z
        · exact absurd h1 w
/-- sorted, without doubles: ascending -/
theorem srt_asc {l : List Int} (h : l.Nodup) : (srtI l).Pairwise (· < ·) := by
  have h1 := srtI_sorted l
  have h2 : (srtI l).Nodup := (srtI_perm l).nodup_iff.mpr h
  have h3 := List.pairwise_and_iff.mpr ⟨h1, h2⟩
  exact h3.imp fun ⟨a, b⟩ => by omega
theorem nd_len {l : List Int} {n : Nat} (h : l.Nodup) (hb : ∀ x ∈ l, 0 ≤ x ∧ x < n) : l.length ≤ n := by
  rw [← (srtI_perm l).length_eq]
  refine asc_len (lo := 0) (srt_asc h) fun x hx => ?_
  have := hb x ((srtI_perm l).mem_iff.mp hx)
  omega
theorem bsd_map {rows : List (List Int)} {f : List Int → List Int} (hf : f [] = []) (x : Int) : bsd (rows.map f) x = f (bsd rows x) := by
  unfold bsd
  rw [List.getD_eq_getElem?_getD, List.getElem?_map, List.getD_eq_getElem?_getD]
  cases rows[x.toNat]? with
  | none => exact hf.symm
  | some r => rfl
theorem one_ints {s : List Int} {xs : List Int} (hv : Val s) (h0 : 0 < xs.length) (h1 : xs.length ≤ 100000) : ∃ x ∈ xs, ∃ s', Val s' ∧ m__law_one [.par (s.map D.int), .im (.lst (xs.map D.int))] = some (.rt (.int x) [(0, .par (s'.map D.int))]) := by
  obtain ⟨x, hx, e⟩ := one_mem (s := s) (xs := xs.map D.int) hv (by rw [List.length_map]; exact h0) (by rw [List.length_map]; exact h1)
  obtain ⟨y, hy, rfl⟩ := List.mem_map.mp hx
  exact ⟨y, hy, _, tk_val hv, e⟩
theorem eq_self {d : D} (h : D.wf 20 d = true) : eqD d d = some true := by
  unfold eqD
  cases d <;> simp_all
theorem wf_ints {l : List Int} {n : Nat} : (l.map D.int).all (D.wf n) = true := by
  rw [List.all_eq_true]
  intro d hd
  obtain ⟨y, _, rfl⟩ := List.mem_map.mp hd
  exact wf_int
theorem cut_sub {α : Type} {xs : List α} {lo hi : Option Int} {x : α} (h : x ∈ cut xs lo hi) : x ∈ xs := List.mem_of_mem_drop (List.mem_of_mem_take h)
theorem cut_len {α : Type} {xs : List α} {lo hi : Option Int} : (cut xs lo hi).length ≤ xs.length := by
  unfold cut
  rw [List.length_take, List.length_drop]
  omega
theorem cut_map {α β : Type} (f : α → β) (xs : List α) (lo hi : Option Int) : cut (xs.map f) lo hi = (cut xs lo hi).map f := by
  unfold cut
  rw [List.length_map, List.map_take, List.map_drop]
/-- a comprehension that draws -/
theorem lcL_st {α S : Type} {t : D → PE' → Option PE'} {E : Cp D} {vs : List Nat} (enc : α → D) (en : S → PE') (I : S → Prop) (P : Int → Prop) : ∀ (xs : List α) (s : S), I s → (∀ x ∈ xs, ∀ s, I s → ∃ ρ1 i ρ3 s', t (enc x) (en s) = some ρ1 ∧ E ρ1 = some (.ok (.int i) ρ3) ∧ wipS ρ3 vs = en s' ∧ I s' ∧ P i) →
    ∃ (is : List Int) (s' : S), lcL t tyes E vs (xs.map enc) (en s) = some (is.map D.int, en s') ∧ I s' ∧ is.length = xs.length ∧ ∀ i ∈ is, P i
  | [], s, h, _ => ⟨[], s, rfl, h, rfl, fun i hi => by cases hi⟩
  | x :: xs, s, h, hb => by
    obtain ⟨ρ1, i, ρ3, s1, h1, h2, h3, h4, h5⟩ := hb x List.mem_cons_self s h
    obtain ⟨is, s', e1, e2, e3, e4⟩ := lcL_st enc en I P xs s1 h4 fun y hy => hb y (List.mem_cons_of_mem _ hy)
    refine ⟨i :: is, s', ?_, e2, by rw [List.length_cons, List.length_cons, e3], fun j hj => ?_⟩
    · rw [List.map_cons]
      unfold lcL
      rw [h1]
      dsimp only
      rw [tyes_]
      dsimp only
      rw [h2]
      dsimp only
      rw [h3, e1]
      rfl
    · rcases List.mem_cons.mp hj with q | q
      · rw [q]; exact h5
      · exact e4 j q
end BC

namespace BC
open PySem PySem.Spec PyProof.Rows L2
variable [TabL]
def m_is_number : Fn := defM 1 1 (
  (retC (vB (andC (mapC (isiD "int") (varC 0)) (notC (mapC (isiD "bool") (varC 0)))))))
theorem l_is_number : ∀ as o, m_is_number as = some o → as.length = 1 := fun _ _ h => defM_len h

def m_is_within : Fn := defM 2 2 (
  (retC (vB (andC (mapC bD (callC m_is_number (consA (varC 0) nilA))) (chC leE ltD (cC (.int 0)) (varC 0) (varC 1))))))
theorem l_is_within : ∀ as o, m_is_within as = some o → as.length = 2 := fun _ _ h => defM_len h

def b_is_rising_1 : Cs :=
  (ifS (orC (notC (mapC truD (callC m_is_within (consA (varC 3) (consA (varC 1) nilA))))) (andC (cmpC gtD (varC 2) (cC (.int 0))) (cmpC leE (varC 3) (ixV 0 (binC subD (varC 2) (cC (.int 1))))))) (retC (cC (.bl false))) nilS)
def m_is_rising : Fn := defM 2 4 (
  (seqS (forC (mapC enuD (varC 0)) (tgP (tgN 2) (tgN 3)) b_is_rising_1)
  (retC (cC (.bl true)))))
theorem l_is_rising : ∀ as o, m_is_rising as = some o → as.length = 2 := fun _ _ h => defM_len h

def m_is_thread : Fn := defM 2 2 (
  (retC (vB (andC (mapC (isiD "tuple") (varC 0)) (andC (cmpC eqD (lenV 0) (cC (.int 2))) (mapC bD (callC m_is_rising (consA (varC 0) (consA (varC 1) nilA)))))))))
theorem l_is_thread : ∀ as o, m_is_thread as = some o → as.length = 2 := fun _ _ h => defM_len h

def e_near_of_1 : Cp D :=
  (mapC tupD (frzC (mapC srtA (varC 6))))
def q_near_of_1 : Cp (List D) :=
  (lcC (seqI (varC 2)) (tgN 6) tyes e_near_of_1 [6])
def b_near_of_1 : Cs :=
  (seqS (apiN 2 4 5)
  (apiN 2 5 4))
def m_near_of : Fn := defM 2 7 (
  (seqS (set2 2 (emC (mapC rng1D (varC 0)) 3))
  (seqS (forC (seqI (varC 1)) (tgP (tgN 4) (tgN 5)) b_near_of_1)
  (retC (mapC tupD (frzC q_near_of_1))))))
theorem l_near_of : ∀ as o, m_near_of as = some o → as.length = 2 := fun _ _ h => defM_len h

def b_met_from_1 : Cs :=
  (ifS (inV true (varC 4) 2) (appC 2 (varC 4)) nilS)
def c_met_from_1 : Cp Bool :=
  (cmpC ltD (varC 3) (lenV 2))
def b_met_from_2 : Cs :=
  (seqS (forC (seqI (ixV 0 (ixV 2 (varC 3)))) (tgN 4) b_met_from_1)
  (setC 3 (binC addE (varC 3) (cC (.int 1)))))
def m_met_from : Fn := defM 2 5 (
  (seqS (parLE 2 3 (lstC (consA (varC 1) nilA)) (cC (.int 0)))
  (seqS (whC c_met_from_1 b_met_from_2)
  (retC (varC 2)))))
theorem l_met_from : ∀ as o, m_met_from as = some o → as.length = 2 := fun _ _ h => defM_len h

def b_made_net_1 : Cs :=
  (ifS (inV true (varC 6) 5) (raiC "Parted" (varC 6)) nilS)
def b_made_net_2 : Cs :=
  (ifS (orC (notC (mapC truD (callC m_is_thread (consA (varC 3) (consA (varC 0) nilA))))) (andC (cmpC gtD (varC 2) (cC (.int 0))) (cmpC leE (varC 3) (ixV 1 (binC subD (varC 2) (cC (.int 1))))))) (raiC "BadNet" (varC 2)) nilS)
def m_made_net : Fn := defM 2 7 (
  (seqS (ifS (notC (chC leE leE (cC (.int 1)) (varC 0) (cC (.int 24)))) (raiC "BadSize" (varC 0)) nilS)
  (seqS (ifS (cmpC gtD (lenV 1) (cC (.int 60))) (raiC "BadSize" (lenV 1)) nilS)
  (seqS (forC (mapC enuD (varC 1)) (tgP (tgN 2) (tgN 3)) b_made_net_2)
  (seqS (setC 4 (callC m_near_of (consA (varC 0) (consA (varC 1) nilA))))
  (seqS (setC 5 (callC m_met_from (consA (varC 4) (consA (cC (.int 0)) nilA))))
  (seqS (forC (mapC rng1D (varC 0)) (tgN 6) b_made_net_1)
  (retC (newC "Net" ["many", "threads", "near"] (consA (varC 0) (consA (tupV 1) (consA (varC 4) nilA))))))))))))
theorem l_made_net : ∀ as o, m_made_net as = some o → as.length = 2 := fun _ _ h => defM_len h

def m_want_count : Fn := defM 2 2 (
  (ifS (notC (chC leE leE (varC 1) (varC 0) (cC (.int 24)))) (raiC "BadCount" (varC 0)) nilS))
theorem l_want_count : ∀ as o, m_want_count as = some o → as.length = 2 := fun _ _ h => defM_len h

def e_line_net_1 : Cp D :=
  (tupC (consA (varC 1) (consA (binC addE (varC 1) (cC (.int 1))) nilA)))
def q_line_net_1 : Cp (List D) :=
  (lcC (mapC rng1D (binC subD (varC 0) (cC (.int 1)))) (tgN 1) tyes e_line_net_1 [1])
def m_line_net : Fn := defM 1 2 (
  (seqS (exprC (callC m_want_count (appA (consA (varC 0) nilA) (dtA [.int 1]))))
  (retC (callC m_made_net (consA (varC 0) (consA (mapC tupD (frzC q_line_net_1)) nilA))))))
theorem l_line_net : ∀ as o, m_line_net as = some o → as.length = 1 := fun _ _ h => defM_len h

def e_ring_net_1 : Cp D :=
  (tupC (consA (varC 1) (consA (binC addE (varC 1) (cC (.int 1))) nilA)))
def q_ring_net_1 : Cp (List D) :=
  (lcC (mapC rng1D (binC subD (varC 0) (cC (.int 1)))) (tgN 1) tyes e_ring_net_1 [1])
def m_ring_net : Fn := defM 1 2 (
  (seqS (exprC (callC m_want_count (consA (varC 0) (consA (cC (.int 3)) nilA))))
  (retC (callC m_made_net (consA (varC 0) (consA (mapC tupD (frzC (mapC srtA (binC addE (frzC q_ring_net_1) (frzC (lstC (consA (tupC (consA (cC (.int 0)) (consA (binC subD (varC 0) (cC (.int 1))) nilA))) nilA))))))) nilA))))))
theorem l_ring_net : ∀ as o, m_ring_net as = some o → as.length = 1 := fun _ _ h => defM_len h

def e_star_net_1 : Cp D :=
  (tupC (consA (cC (.int 0)) (consA (varC 1) nilA)))
def q_star_net_1 : Cp (List D) :=
  (lcC (binL rng2D (cC (.int 1)) (varC 0)) (tgN 1) tyes e_star_net_1 [1])
def m_star_net : Fn := defM 1 2 (
  (seqS (exprC (callC m_want_count (appA (consA (varC 0) nilA) (dtA [.int 1]))))
  (retC (callC m_made_net (consA (varC 0) (consA (mapC tupD (frzC q_star_net_1)) nilA))))))
theorem l_star_net : ∀ as o, m_star_net as = some o → as.length = 1 := fun _ _ h => defM_len h

def b_grid_net_1 : Cs :=
  (seqS (ifS (cmpC ltD (binC modD (varC 3) (varC 0)) (binC subD (varC 0) (cC (.int 1)))) (appC 2 (tupC (consA (varC 3) (consA (binC addE (varC 3) (cC (.int 1))) nilA)))) nilS)
  (ifS (cmpC ltD (binC addE (varC 3) (varC 0)) (binC mulT (varC 0) (varC 1))) (appC 2 (tupC (consA (varC 3) (consA (binC addE (varC 3) (varC 0)) nilA)))) nilS))
def m_grid_net : Fn := defM 2 4 (
  (seqS (exprC (callC m_want_count (appA (consA (varC 0) nilA) (dtA [.int 1]))))
  (seqS (exprC (callC m_want_count (appA (consA (varC 1) nilA) (dtA [.int 1]))))
  (seqS (ifS (cmpC gtD (binC mulT (varC 0) (varC 1)) (cC (.int 24))) (raiC "BadSize" (binC mulT (varC 0) (varC 1))) nilS)
  (seqS (setL 2 (lstC nilA))
  (seqS (forC (mapC rng1D (binC mulT (varC 0) (varC 1))) (tgN 3) b_grid_net_1)
  (retC (callC m_made_net (consA (binC mulT (varC 0) (varC 1)) (consA (tupV 2) nilA))))))))))
theorem l_grid_net : ∀ as o, m_grid_net as = some o → as.length = 2 := fun _ _ h => defM_len h

def b__law_threads_1 : Cs :=
  (seqS (setC 6 (vB (andC (eqV false 5 (binC addE (varC 4) (cC (.int 1)))) (orC (eqV true 1 (cC (.int 3))) (cmpC eqD (binC fdivD (varC 5) (varC 2)) (binC fdivD (varC 4) (varC 2)))))))
  (ifS (orC (andC (eqV false 1 (cC (.int 1))) (eqV false 4 (cC (.int 0)))) (orC (andC (eqV true 1 (cC (.int 1))) (mapC truD (varC 6))) (orC (andC (eqV false 1 (cC (.int 2))) (andC (eqV false 4 (cC (.int 0))) (eqV false 5 (binC subD (varC 0) (cC (.int 1)))))) (andC (eqV false 1 (cC (.int 3))) (eqV false 5 (binC addE (varC 4) (varC 2))))))) (appC 3 (tupC (consA (varC 4) (consA (varC 5) nilA)))) nilS))
def b__law_threads_2 : Cs :=
  (forC (binL rng2D (binC addE (varC 4) (cC (.int 1))) (varC 0)) (tgN 5) b__law_threads_1)
def m__law_threads : Fn := defM 3 7 (
  (seqS (setL 3 (lstC nilA))
  (seqS (forC (mapC rng1D (varC 0)) (tgN 4) b__law_threads_2)
  (retC (tupV 3)))))
theorem l__law_threads : ∀ as o, m__law_threads as = some o → as.length = 3 := fun _ _ h => defM_len h

def ns__law_told : List Str := ["BadSize", "BadCount", "BadNet", "Parted"]
def m__law_told (dd : Dd) : Cs :=
  (seqS (tryC ns__law_told 2 (setC 1 (deedC dd)) (seqS (ifS (isiC 2 (isiF ns__law_told "BadCount")) (retC (tupC (consA (ifC (isiC 2 (isiF ns__law_told "BadSize")) (cC (.str "other")) (cC (.str "count"))) (consA (whatC 2) nilA)))) nilS)
  (retC (tupC (consA (ifC (isiC 2 (isiF ns__law_told "BadSize")) (cC (.str "size")) (cC (.str "other"))) (consA (whatC 2) nilA))))))
  (retC (tupC (consA (mapC (fldD "many") (varC 1)) (consA (mapC (fldD "threads") (varC 1)) nilA)))))

def m__law_single : Fn := defM 2 2 (
  (seqS (ifS (eqV false 0 (cC (.int 0))) (retC (callK m_line_net 1 [0] (consA (varC 1) nilA))) nilS)
  (retC (ifC (eqV false 0 (cC (.int 1))) (callK m_star_net 1 [0] (consA (varC 1) nilA)) (callK m_ring_net 1 [0] (consA (varC 1) nilA))))))
theorem l__law_single : ∀ as o, m__law_single as = some o → as.length = 2 := fun _ _ h => defM_len h

def b__law_grid_due_1 : Cs :=
  (ifS (notC (chC leE leE (cC (.int 1)) (varC 2) (cC (.int 24)))) (retC (tupC (consA (cC (.str "count")) (consA (varC 2) nilA)))) nilS)
def m__law_grid_due : Fn := defM 2 3 (
  (seqS (forC (seqI (frzC (lstC (consA (varC 0) (consA (varC 1) nilA))))) (tgN 2) b__law_grid_due_1)
  (retC (ifC (cmpC gtD (binC mulT (varC 0) (varC 1)) (cC (.int 24))) (tupC (consA (cC (.str "size")) (consA (binC mulT (varC 0) (varC 1)) nilA))) (tupC (consA (binC mulT (varC 0) (varC 1)) (consA (callC m__law_threads (consA (binC mulT (varC 0) (varC 1)) (consA (cC (.int 3)) (consA (varC 0) nilA)))) nilA)))))))
theorem l__law_grid_due : ∀ as o, m__law_grid_due as = some o → as.length = 2 := fun _ _ h => defM_len h

def b_law_1 : Cs :=
  (seqS (setC 7 (c1C m__law_one 1 (consA (frzC (lstC (consA (cC (.int 1)) (consA (cC (.int 2)) (consA (cC (.int 3)) (consA (cC (.int 4)) (consA (cC (.int 5)) (consA (cC (.int 6)) (consA (cC (.int 8)) (consA (cC (.int 12)) (consA (cC (.int 24)) (consA (cC (.int 25)) (consA (cC (.int 0)) (consA (mapC negD (cC (.int 1))) (consA (binC addE (cC (.int 1)) (c1C m__law_take 1 (consA (cC (.int 24)) nilA))) nilA))))))))))))))) nilA)))
  (seqS (setC 8 (c1C m__law_one 1 (consA (frzC (lstC (consA (cC (.int 1)) (consA (cC (.int 2)) (consA (cC (.int 3)) (consA (cC (.int 4)) (consA (binC fdivD (cC (.int 24)) (binC maxD (cC (.int 1)) (varC 7))) (consA (binC addE (binC fdivD (cC (.int 24)) (binC maxD (cC (.int 1)) (varC 7))) (cC (.int 1))) (consA (cC (.int 24)) (consA (cC (.int 25)) (consA (cC (.int 0)) (consA (binC addE (cC (.int 1)) (c1C m__law_take 1 (consA (cC (.int 24)) nilA))) nilA)))))))))))) nilA)))
  (ifS (cmpC neD (mapC repD (lamC m__law_told 2 (callK m_grid_net 2 [1, 0] (consA (varC 8) (consA (varC 7) nilA))))) (mapC repD (callC m__law_grid_due (consA (varC 7) (consA (varC 8) nilA))))) (retC (cC (.bl false))) nilS)))
def b_law_2 : Cs :=
  (seqS (setC 5 (ifC (chC leE leE (varC 3) (varC 4) (cC (.int 24))) (tupC (consA (varC 4) (consA (callC m__law_threads (consA (varC 4) (consA (varC 2) (consA (cC (.int 1)) nilA)))) nilA))) (tupC (consA (cC (.str "count")) (consA (varC 4) nilA)))))
  (ifS (cmpC neD (mapC repD (lamC m__law_told 2 (callC m__law_single (consA (varC 2) (consA (varC 4) nilA))))) (mapC repD (varC 5))) (retC (cC (.bl false))) nilS))
def b_law_3 : Cs :=
  (seqS (setC 3 (ifC (eqV false 2 (cC (.int 2))) (cC (.int 3)) (cC (.int 1))))
  (forC (seqI (frzC (lstC (consA (binC addE (varC 3) (c1C m__law_take 1 (consA (binC subD (cC (.int 25)) (varC 3)) nilA))) (consA (c1C m__law_one 1 (consA (frzC (lstC (consA (cC (.int 0)) (consA (cC (.int 1)) (consA (cC (.int 2)) (consA (cC (.int 3)) (consA (cC (.int 24)) (consA (cC (.int 25)) nilA)))))))) nilA)) (consA (c1C m__law_one 1 (consA (frzC (lstC (consA (mapC negD (cC (.int 1))) (consA (cC (.int 25)) (consA (binC powD (cC (.int 10)) (cC (.int 9))) nilA))))) nilA)) nilA)))))) (tgN 4) b_law_2))
def m_law : Fn := defM 1 9 (
  (seqS (setL 1 (callL m__law_pool (consA (varC 0) (consA (cC (.int 0)) nilA))))
  (seqS (forC (mapC rng1D (cC (.int 3))) (tgN 2) b_law_3)
  (seqS (forC (mapC rng1D (cC (.int 4))) (tgN 6) b_law_1)
  (retC (cC (.bl true)))))))
theorem l_law : ∀ as o, m_law as = some o → as.length = 1 := fun _ _ h => defM_len h

end BC

/-! Numbers asked. -/
namespace BC
open PySem PySem.Spec PyProof.Rows L2
variable [TabL]
theorem kit_ii : kitB "int" "int" = some true := by decide +kernel
theorem kit_ib : kitB "int" "bool" = some false := by decide +kernel
theorem number_ok {x : Int} : m_is_number [.im (.int x)] = some (.rt (.bl true) []) := by
  unfold m_is_number
  simp [isiD, tyD, kit_ii, kit_ib]
theorem within_ok {x n : Int} : m_is_within [.im (.int x), .im (.int n)] = some (.rt (.bl (decide (0 ≤ x ∧ x < n))) []) := by
  unfold m_is_within
  by_cases h : 0 ≤ x
  · simp [number_ok, h]
  · simp [number_ok, h]
theorem rising_ok {r : List Int} {n : Int} : m_is_rising [.im (.tup (r.map D.int)), .im (.int n)] = some (.rt (.bl (decide (AscB n r))) []) := by
  obtain ⟨o, key, ho⟩ := for_inv (t := tgP (tgN 2) (tgN 3)) (P := b_is_rising_1) (fun y : Int × Int => .tup [.int y.1, .int y.2]) (fun v : SV × SV => [.im (.tup (r.map D.int)), .im (.int n), v.1, v.2]) (fun k _ => AscB n (r.take k)) (fun o => ∃ ρ, o = .rt (.bl false) ρ ∧ ¬ AscB n r) (enr 0 r) 0 (.un, .un) ⟨.nil, fun _ h => by cases h⟩ fun i y s hy hs => by
    obtain ⟨x, hx, rfl, hi⟩ := enr_val hy
    rw [Nat.zero_add] at hs ⊢
    have ht := take_snoc hx
    have hq := ascB_snoc (x := x) hs
    rw [← ht] at hq
    have hr : AscB n r → AscB n (r.take (i + 1)) := fun h => by
      rw [← List.take_append_drop (i + 1) r] at h
      exact h.pre
    by_cases c1 : 0 ≤ x ∧ x < n
    · by_cases c0 : 0 < i
      · have c0' : (0 : Int) < (i : Int) := by omega
        have e1 := at_int (xs := r) (j := (i : Int) - 1) (by omega) (by omega)
        have e2 : (r.take i).getD ((r.take i).length - 1) 0 = r.getD ((i : Int) - 1).toNat 0 := by
          rw [List.length_take, show min i r.length - 1 = ((i : Int) - 1).toNat by omega, List.getD_eq_getElem?_getD, List.getElem?_take_of_lt (by omega), List.getD_eq_getElem?_getD]
        have ne : ¬ (r.take i = []) := fun z => by
          have := congrArg List.length z
          rw [List.length_take, List.length_nil] at this
          omega
        rw [e2] at hq
        simp only [c1, ne, true_and, false_or] at hq
        by_cases c2 : x ≤ r.getD ((i : Int) - 1).toNat 0
        · refine ⟨_, _, rfl, ?_, .inr (.inl ⟨?_, [.im (.tup (r.map D.int)), .im (.int n), .im (.int i), .im (.int x)], rfl, fun z => ?_⟩)⟩
          · unfold b_is_rising_1
            simp at e1 c2
            simp [within_ok, c1, c0, e1, c2]
          · simp
          · have := hq.mp (hr z); omega
        · refine ⟨_, _, rfl, ?_, .inl ⟨(.im (.int i), .im (.int x)), .inl rfl, hq.mpr (by omega)⟩⟩
          unfold b_is_rising_1
          simp at e1 c2
          have c3 : ¬ x ≤ r[i - 1]?.getD 0 := by omega
          simp [within_ok, c1, c0, e1, c3]
      · have c0' : ¬ (0 : Int) < (i : Int) := by omega
        refine ⟨_, _, rfl, ?_, .inl ⟨(.im (.int i), .im (.int x)), .inl rfl, hq.mpr ⟨c1, .inl (by rw [show i = 0 by omega]; rfl)⟩⟩⟩
        unfold b_is_rising_1
        simp [within_ok, c1, c0]
    · refine ⟨_, _, rfl, ?_, .inr (.inl ⟨?_, [.im (.tup (r.map D.int)), .im (.int n), .im (.int i), .im (.int x)], rfl, fun z => c1 ((hq.mp (hr z)).1)⟩)⟩
      · unfold b_is_rising_1
        simp [within_ok, c1]
      · simp
  unfold m_is_rising
  rcases ho with ⟨s, rfl, h⟩ | ⟨ρ, rfl, h⟩
  · rw [enr_len, Nat.zero_add, List.take_length] at h
    simp [enr_map D.int, key, h]
  · simp [enr_map D.int, key, h]
end BC

/-! Nets made. -/
namespace BC
open PySem PySem.Spec PyProof.Rows L2
variable [TabL]
abbrev Ths := List (Int × Int)
inductive Conn (ths : Ths) : Int → Prop
  | zero : Conn ths 0
  | step {u v : Int} : Conn ths u → ((u, v) ∈ ths ∨ (v, u) ∈ ths) → Conn ths v
def ltPr (p q : Int × Int) : Prop := leP p q = true ∧ p ≠ q
structure NetOk (n : Int) (ths : Ths) : Prop where
  n1 : 1 ≤ n
  n24 : n ≤ 24
  l60 : ths.length ≤ 60
  rg : ∀ y ∈ ths, 0 ≤ y.1 ∧ y.1 < y.2 ∧ y.2 < n
  asc : ths.Pairwise ltPr
  cn : ∀ v, 0 ≤ v → v < n → Conn ths v
def adj (ths : Ths) (v u : Int) : Bool := decide ((v, u) ∈ ths ∨ (u, v) ∈ ths)
theorem adj_iff {ths : Ths} {v u : Int} : adj ths v u = true ↔ (v, u) ∈ ths ∨ (u, v) ∈ ths := decide_eq_true_iff
theorem adj_symm {ths : Ths} {v u : Int} : adj ths v u = adj ths u v := by
  unfold adj
  exact decide_eq_decide.mpr ⟨fun h => h.symm, fun h => h.symm⟩
def nearM (n : Int) (ths : Ths) (v : Int) : List Int := (rng 0 n.toNat).filter (adj ths v)
def nearR (n : Int) (ths : Ths) : List (List Int) := (rng 0 n.toNat).map (nearM n ths)
def netD (n : Int) (ths : Ths) : D := .ob "Net" ["many", "threads", "near"] [.int n, .tup (ths.map prD), tbD (nearR n ths)]
@[simp] theorem net_many {n : Int} {ths : Ths} : fldD "many" (netD n ths) = some (.int n) := rfl
@[simp] theorem net_threads {n : Int} {ths : Ths} : fldD "threads" (netD n ths) = some (.tup (ths.map prD)) := rfl
@[simp] theorem net_near {n : Int} {ths : Ths} : fldD "near" (netD n ths) = some (tbD (nearR n ths)) := rfl
theorem nearR_len {n : Int} {ths : Ths} : (nearR n ths).length = n.toNat := by unfold nearR; rw [List.length_map, rng_len]
theorem bsd_near {n v : Int} {ths : Ths} (h0 : 0 ≤ v) (h1 : v < n) : bsd (nearR n ths) v = nearM n ths v := by
  unfold bsd nearR
  rw [List.getD_eq_getElem?_getD, List.getElem?_map, rng_get (by omega)]
  simp
  congr 1
  omega
theorem mem_near {n v u : Int} {ths : Ths} (hn : 0 ≤ n) : u ∈ nearM n ths v ↔ (0 ≤ u ∧ u < n) ∧ adj ths v u = true := by
  unfold nearM
  rw [List.mem_filter, mem_rng]
  refine and_congr ?_ Iff.rfl
  omega
theorem rng_asc (lo : Int) (n : Nat) : (rng lo n).Pairwise (· < ·) := by
  unfold rng
  refine List.pairwise_map.mpr ((List.pairwise_lt_range (n := n)).imp fun {a b} h => ?_)
  omega
theorem near_asc {n v : Int} {ths : Ths} : (nearM n ths v).Pairwise (· < ·) := (rng_asc 0 n.toNat).filter _
theorem near_len {n v : Int} {ths : Ths} : (nearM n ths v).length ≤ n.toNat := by
  have := List.length_filter_le (adj ths v) (rng 0 n.toNat)
  rw [rng_len] at this
  exact this
/-- ascending lists with the same members are one -/
theorem asc_ext : ∀ {xs ys : List Int}, xs.Pairwise (· < ·) → ys.Pairwise (· < ·) → (∀ x, x ∈ xs ↔ x ∈ ys) → xs = ys
  | [], [], _, _, _ => rfl
  | [], y :: ys, _, _, h => absurd ((h y).mpr List.mem_cons_self) (by simp)
  | x :: xs, [], _, _, h => absurd ((h x).mp List.mem_cons_self) (by simp)
  | x :: xs, y :: ys, hx, hy, h => by
    have hx' := List.pairwise_cons.mp hx
    have hy' := List.pairwise_cons.mp hy
    have e : x = y := by
      have a : x = y ∨ y < x := by
        rcases List.mem_cons.mp ((h x).mp List.mem_cons_self) with q | q
        · exact .inl q
        · exact .inr (hy'.1 x q)
      have b : y = x ∨ x < y := by
        rcases List.mem_cons.mp ((h y).mpr List.mem_cons_self) with q | q
        · exact .inl q
        · exact .inr (hx'.1 y q)
      omega
    subst e
    congr 1
    refine asc_ext hx'.2 hy'.2 fun z => ?_
    have hz := h z
    rw [List.mem_cons, List.mem_cons] at hz
    constructor
    · intro q
      rcases hz.mp (.inr q) with w | w
      · have := hx'.1 z q
        omega
      · exact w
    · intro q
      rcases hz.mpr (.inr q) with w | w
      · have := hy'.1 z q
        omega
      · exact w
/-! the neighbours -/
structure NrI (n : Int) (done : Ths) (rows : List (List Int)) : Prop where
  len : (rows.length : Int) = n
  mem : ∀ x y, 0 ≤ x → x < n → (y ∈ bsd rows x ↔ (x, y) ∈ done ∨ (y, x) ∈ done)
  nd : ∀ x, 0 ≤ x → x < n → (bsd rows x).Nodup
theorem nd_snoc {l : List Int} {z : Int} (hl : l.Nodup) (hz : z ∉ l) : (l ++ [z]).Nodup := by
  rw [List.nodup_append]
  exact ⟨hl, by simp, fun a ha b hb e => by rw [List.mem_singleton.mp hb] at e; rw [e] at ha; exact hz ha⟩
theorem NrI.add {n x y : Int} {done : Ths} {rows : List (List Int)} (h : NrI n done rows) (hx : 0 ≤ x) (hxy : x < y) (hy : y < n) (h1 : (x, y) ∉ done) (h2 : (y, x) ∉ done) : NrI n (done ++ [(x, y)]) (addP x y rows) := by
  have hl := h.len
  refine ⟨by rw [addP_len]; exact hl, fun u v h0 h3 => ?_, fun u h0 h3 => ?_⟩
  · rw [addP_mem hx (by omega) (by omega) (by omega) h0, h.mem u v h0 h3]
    simp only [List.mem_append, List.mem_singleton, Prod.mk.injEq]
    constructor
    · rintro ((a | a) | ⟨a, b⟩ | ⟨a, b⟩)
      · exact .inl (.inl a)
      · exact .inr (.inl a)
      · exact .inl (.inr ⟨a, b⟩)
      · exact .inr (.inr ⟨b, a⟩)
    · rintro ((a | ⟨a, b⟩) | (a | ⟨a, b⟩))
      · exact .inl (.inl a)
      · exact .inr (.inl ⟨a, b⟩)
      · exact .inl (.inr a)
      · exact .inr (.inr ⟨b, a⟩)
  · rw [addP_bsd hx (by omega) (by omega) (by omega) h0]
    by_cases c : u = x
    · subst c
      rw [if_pos rfl]
      exact nd_snoc (h.nd u h0 h3) fun z => (h.mem u y h0 h3).mp z |>.elim h1 h2
    · rw [if_neg c]
      by_cases d : u = y
      · subst d
        rw [if_pos rfl]
        exact nd_snoc (h.nd u h0 h3) fun z => (h.mem u x h0 h3).mp z |>.elim h2 h1
      · rw [if_neg d]
        exact h.nd u h0 h3
theorem NrI.rows {n : Int} {ths : Ths} {rows : List (List Int)} (h : NrI n ths rows) (hr : ∀ y ∈ ths, 0 ≤ y.1 ∧ y.1 < y.2 ∧ y.2 < n) : rows.map srtI = nearR n ths := by
  have hl := h.len
  refine List.ext_getElem (by rw [List.length_map, nearR_len]; omega) fun i h1 h2 => ?_
  rw [List.length_map] at h1
  have e1 : rows[i] = bsd rows (i : Int) := by
    unfold bsd
    rw [List.getD_eq_getElem?_getD, Int.toNat_natCast, List.getElem?_eq_getElem h1]
    rfl
  have e2 : (nearR n ths)[i] = nearM n ths (i : Int) := by
    rw [← bsd_near (by omega) (by omega)]
    unfold bsd
    rw [List.getD_eq_getElem?_getD, Int.toNat_natCast, List.getElem?_eq_getElem h2]
    rfl
  rw [List.getElem_map, e1, e2]
  refine asc_ext (srt_asc (h.nd _ (by omega) (by omega))) near_asc fun y => ?_
  rw [(srtI_perm _).mem_iff, h.mem _ _ (by omega) (by omega), mem_near (by omega), adj_iff]
  constructor
  · intro q
    refine ⟨?_, q⟩
    rcases q with q | q
    · have := hr _ q; exact ⟨by have := this; dsimp only at this; omega, by have := this; dsimp only at this; omega⟩
    · have := hr _ q; exact ⟨by have := this; dsimp only at this; omega, by have := this; dsimp only at this; omega⟩
  · exact fun q => q.2
theorem pr_target {i j : Nat} {p : Int × Int} {ρ : PE'} : tgP (tgN i) (tgN j) (prD p) ρ = some ((ρ.set i (.im (.int p.1))).set j (.im (.int p.2))) := by
  unfold prD
  simp
theorem ltPr_ne {p q : Int × Int} (h : ltPr p q) : p ≠ q := h.2
theorem asc_nd {ths : Ths} (h : ths.Pairwise ltPr) : ths.Nodup := h.imp fun h => h.2
theorem near_ok {n : Int} {ths : Ths} (h : NetOk n ths) : m_near_of [.im (.int n), .im (.tup (ths.map prD))] = some (.rt (tbD (nearR n ths)) []) := by
  have n1 := h.n1
  have n24 := h.n24
  have hnd := asc_nd h.asc
  have g0 : NrI n [] (List.replicate n.toNat []) := by
    have e : ∀ x, bsd (List.replicate n.toNat ([] : List Int)) x = [] := fun x => by
      unfold bsd
      rw [List.getD_eq_getElem?_getD, List.getElem?_replicate]
      split <;> rfl
    exact ⟨by rw [List.length_replicate]; omega, fun x y _ _ => by rw [e]; simp, fun x _ _ => by rw [e]; exact List.nodup_nil⟩
  obtain ⟨⟨j4, j5⟩, key, hk⟩ := for_fold (t := tgP (tgN 4) (tgN 5)) (P := b_near_of_1) prD (fun (rows : List (List Int)) (v : SV × SV) => [.im (.int n), .im (.tup (ths.map prD)), o2 rows, .un, v.1, v.2, .un]) (fun rows y => addP y.1 y.2 rows) (fun k rows => NrI n (ths.take k) rows) ths 0 (List.replicate n.toNat []) (.un, .un) g0 fun i y rows v hy hg => by
    rw [Nat.zero_add] at hg ⊢
    have hm := h.rg y (List.mem_of_getElem? hy)
    have hi : i < ths.length := (List.getElem?_eq_some_iff.mp hy).1
    have hne : ∀ z ∈ ths.take i, z ≠ y := fun z hz e => by
      obtain ⟨j, hj, rfl⟩ := List.getElem_of_mem hz
      rw [List.length_take] at hj
      rw [List.getElem_take] at e
      have e2 : ths[i] = y := by
        have := List.getElem?_eq_getElem hi
        rw [hy] at this
        exact (Option.some.inj this).symm
      have hjl : j < ths.length := by omega
      have := (List.nodup_iff_pairwise_ne.mp hnd)
      have := List.pairwise_iff_getElem.mp this j i hjl hi (by omega)
      exact this (e.trans e2.symm)
    have q1 : (y.1, y.2) ∉ ths.take i := fun z => hne _ z rfl
    have q2 : (y.2, y.1) ∉ ths.take i := fun z => by
      have := h.rg _ (List.mem_of_mem_take z)
      dsimp only at this
      omega
    have hl := hg.len
    have lenb : ∀ x, 0 ≤ x → x < n → (bsd rows x).length ≤ 24 := fun x h0 h1 => by
      have := nd_len (n := n.toNat) (hg.nd x h0 h1) fun u hu => by
        rcases (hg.mem x u h0 h1).mp hu with q | q
        · have := h.rg _ (List.mem_of_mem_take q); dsimp only at this; omega
        · have := h.rg _ (List.mem_of_mem_take q); dsimp only at this; omega
      omega
    have hgn := hg.add hm.1 hm.2.1 hm.2.2 q1 q2
    rw [← take_snoc (x := (y.1, y.2)) hy] at hgn
    refine ⟨_, (.im (.int y.1), .im (.int y.2)), pr_target, .inl ?_, hgn⟩
    have l1 := lenb y.1 hm.1 (by omega)
    have a1 := apiN_ok (ρ := [.im (.int n), .im (.tup (ths.map prD)), o2 rows, .un, .im (.int y.1), .im (.int y.2), .un]) (i := 2) (j := 4) (k := 5) rfl rfl rfl hm.1 (by omega) (by omega)
    have l2 : (bsd (rows.set y.1.toNat (bsd rows y.1 ++ [y.2])) y.2).length ≤ 100000 := by
      rw [bsd_set hm.1 (by omega) (by omega), if_neg (by omega)]
      have := lenb y.2 (by omega) hm.2.2
      omega
    have a2 := apiN_ok (ρ := [.im (.int n), .im (.tup (ths.map prD)), o2 (rows.set y.1.toNat (bsd rows y.1 ++ [y.2])), .un, .im (.int y.1), .im (.int y.2), .un]) (i := 2) (j := 5) (k := 4) rfl rfl rfl (by omega) (by rw [List.length_set]; omega) l2
    have hne2 : ¬ y.2 = y.1 := by omega
    show b_near_of_1 [.im (.int n), .im (.tup (ths.map prD)), o2 rows, .un, .im (.int y.1), .im (.int y.2), .un] = some (.nx [.im (.int n), .im (.tup (ths.map prD)), o2 (addP y.1 y.2 rows), .un, .im (.int y.1), .im (.int y.2), .un])
    unfold b_near_of_1 addP
    simp [a1, a2, hne2]
  rw [Nat.zero_add, List.take_length] at hk
  generalize ths.foldl (fun rows y => addP y.1 y.2 rows) (List.replicate n.toNat []) = rows at key hk
  have hrows := hk.rows h.rg
  have hl := hk.len
  have k3 := lcL_m (t := tgN 6) (E := e_near_of_1) (vs := [6]) (ρ := [.im (.int n), .im (.tup (ths.map prD)), .im (.lst ((rows.map fun r => r.map D.int).map D.lst)), .un, j4, j5, .un]) (fun r : List Int => D.lst (r.map D.int)) (fun r : List Int => D.tup ((srtI r).map D.int)) rows fun r _ => ⟨_, rfl, [.im (.int n), .im (.tup (ths.map prD)), .im (.lst ((rows.map fun r => r.map D.int).map D.lst)), .un, j4, j5, .im (.lst (r.map D.int))], by unfold e_near_of_1; simp, rfl⟩
  have k4 : q_near_of_1 [.im (.int n), .im (.tup (ths.map prD)), o2 rows, .un, j4, j5, .un] = some (.ok (rows.map fun r => D.tup ((srtI r).map D.int)) [.im (.int n), .im (.tup (ths.map prD)), .im (.lst ((rows.map fun r => r.map D.int).map D.lst)), .un, j4, j5, .un]) := by
    have hl' : rows.length ≤ 100000 := by omega
    have := lcC_ok (I := seqI (varC 2)) (ρ := [.im (.int n), .im (.tup (ths.map prD)), o2 rows, .un, j4, j5, .un]) (ρ1 := [.im (.int n), .im (.tup (ths.map prD)), .im (.lst ((rows.map fun r => r.map D.int).map D.lst)), .un, j4, j5, .un]) (xs := rows.map fun r : List Int => D.lst (r.map D.int)) (by simp) (by rw [List.length_map]; exact hl') k3
    unfold q_near_of_1
    rw [this]
    simp [kpS]
  have hb : -4611686018427387904 ≤ n ∧ n < 4611686018427387904 := by omega
  have em : emC (mapC rng1D (varC 0)) 3 [.im (.int n), .im (.tup (ths.map prD)), .un, .un, .un, .un, .un] = some (.ok n.toNat [.im (.int n), .im (.tup (ths.map prD)), .un, .un, .un, .un, .un]) := by
    have := emC_ok (I := mapC rng1D (varC 0)) (v := 3) (ρ := [.im (.int n), .im (.tup (ths.map prD)), .un, .un, .un, .un, .un]) (ρ1 := [.im (.int n), .im (.tup (ths.map prD)), .un, .un, .un, .un, .un]) (xs := (rng 0 n.toNat).map D.int) (by simp [hb]) (by rw [List.length_map, rng_len]; omega)
    rw [this, List.length_map, rng_len]
    rfl
  have er : o2 (List.replicate n.toNat []) = SV.own2 (List.replicate n.toNat []) := by
    show SV.own2 _ = _
    rw [List.map_replicate]
    rfl
  rw [er] at key
  have ef : tbD (nearR n ths) = .tup (rows.map fun r => D.tup ((srtI r).map D.int)) := by
    unfold tbD
    rw [← hrows, List.map_map]
    rfl
  rw [ef]
  unfold m_near_of
  simp [em, key, k4]
/-! who is come to -/
theorem met_ok {n : Int} {ths : Ths} (h : NetOk n ths) : ∃ found : List Int, m_met_from [.im (tbD (nearR n ths)), .im (.int 0)] = some (.rt (.lst (found.map D.int)) []) ∧ ∀ v, 0 ≤ v → v < n → v ∈ found := by
  have n1 := h.n1
  have n24 := h.n24
  obtain ⟨o, key, found, a, b, rfl, hcl, h0⟩ := whC_inv (M := c_met_from_1) (P := b_met_from_2) (fun z : List Int × Nat × SV => [.im (tbD (nearR n ths)), .im (.int 0), .own (z.1.map D.int), .im (.int z.2.1), z.2.2])
    (fun z => z.1.Nodup ∧ (∀ x ∈ z.1, 0 ≤ x ∧ x < n) ∧ 0 ∈ z.1 ∧ z.2.1 ≤ z.1.length ∧ ∀ i, i < z.2.1 → ∀ u ∈ nearM n ths (z.1.getD i 0), u ∈ z.1) (fun z => 25 - z.2.1) (fun o => ∃ found : List Int, ∃ a b, o = .nx [.im (tbD (nearR n ths)), .im (.int 0), .own (found.map D.int), a, b] ∧ (∀ v ∈ found, ∀ u ∈ nearM n ths v, u ∈ found) ∧ 0 ∈ found) ([0], 0, .un) (by show 25 - 0 < 1000000; decide) ⟨by simp, fun x hx => by rw [List.mem_singleton.mp hx]; omega, by simp, by simp, fun i hi => absurd hi (Nat.not_lt_zero i)⟩ fun z hz => by
    obtain ⟨fd, at', v⟩ := z
    obtain ⟨z1, z2, z3, z4, z5⟩ := hz
    dsimp only at z1 z2 z3 z4 z5
    have hlen : fd.length ≤ n.toNat := nd_len z1 fun x hx => by have := z2 x hx; omega
    by_cases c : at' < fd.length
    · refine ⟨true, [.im (tbD (nearR n ths)), .im (.int 0), .own (fd.map D.int), .im (.int at'), v], by unfold c_met_from_1; simp [c], .inr ⟨rfl, ?_⟩⟩
      have hx := z2 (fd.getD at' 0) (gD_mem c)
      have e1 := at_int (xs := fd) (j := (at' : Int)) (by omega) (by omega)
      rw [Int.toNat_natCast] at e1
      have e2 := tb_get (rows := nearR n ths) hx.1 (by rw [nearR_len]; omega)
      rw [bsd_near hx.1 hx.2] at e2
      obtain ⟨o, k2, ho⟩ := for_inv (t := tgN 4) (P := b_met_from_1) D.int (fun z : List Int × SV => [.im (tbD (nearR n ths)), .im (.int 0), .own (z.1.map D.int), .im (.int at'), z.2]) (fun k z => z.1.Nodup ∧ (∀ x ∈ z.1, 0 ≤ x ∧ x < n) ∧ (∃ r, z.1 = fd ++ r) ∧ ∀ u ∈ (nearM n ths (fd.getD at' 0)).take k, u ∈ z.1) (fun _ => False) (nearM n ths (fd.getD at' 0)) 0 (fd, v) ⟨z1, z2, ⟨[], by simp⟩, fun u hu => by simp at hu⟩ fun i y w hy hw => by
        obtain ⟨f, v⟩ := w
        obtain ⟨w1, w2, ⟨r, w3⟩, w4⟩ := hw
        dsimp only at w1 w2 w3 w4
        rw [Nat.zero_add] at w4 ⊢
        have hyb := (mem_near (by omega)).mp (List.mem_of_getElem? hy)
        have hfl : f.length ≤ n.toNat := nd_len w1 fun x hx => by have := w2 x hx; omega
        by_cases d : y ∈ f
        · refine ⟨_, _, rfl, ?_, .inl ⟨(f, .im (.int y)), .inl rfl, w1, w2, ⟨r, w3⟩, fun u hu => ?_⟩⟩
          · unfold b_met_from_1
            simp [d]
          · rw [take_snoc hy] at hu
            rcases List.mem_append.mp hu with q | q
            · exact w4 u q
            · rw [List.mem_singleton.mp q]; exact d
        · refine ⟨_, _, rfl, ?_, .inl ⟨(f ++ [y], .im (.int y)), .inl rfl, nd_snoc w1 d, fun x hx => ?_, ⟨r ++ [y], by rw [w3]; simp⟩, fun u hu => ?_⟩⟩
          · have hf2 : f.length ≤ 100000 := by omega
            unfold b_met_from_1
            simp [d, hf2]
          · rcases List.mem_append.mp hx with q | q
            · exact w2 x q
            · rw [List.mem_singleton.mp q]; exact hyb.1
          · rw [take_snoc hy] at hu
            rcases List.mem_append.mp hu with q | q
            · exact List.mem_append_left _ (w4 u q)
            · rw [List.mem_singleton.mp q]; simp
      rcases ho with ⟨⟨f, v'⟩, rfl, w1, w2, ⟨r, w3⟩, w4⟩ | hf
      · dsimp only at w1 w2 w3 w4
        rw [Nat.zero_add, List.take_length] at w4
        refine ⟨_, ?_, .inl ⟨(f, at' + 1, v'), .inl rfl, ⟨w1, w2, by rw [w3]; exact List.mem_append_left _ z3, by rw [w3, List.length_append]; show at' + 1 ≤ _; omega, fun i hi u hu => ?_⟩, by show 25 - (at' + 1) < 25 - at'; omega⟩⟩
        · show b_met_from_2 [.im (tbD (nearR n ths)), .im (.int 0), .own (fd.map D.int), .im (.int at'), v] = some (.nx [.im (tbD (nearR n ths)), .im (.int 0), .own (f.map D.int), .im (.int ((at' + 1 : Nat) : Int)), v'])
          unfold b_met_from_2
          simp at e1 e2
          simp at k2
          simp [e1, e2, k2]
        · dsimp only at hi hu ⊢
          have hi2 : i ≤ at' := by omega
          rw [w3, sx_app_l (show i < fd.length by omega)] at hu
          by_cases e : i = at'
          · subst e
            exact w4 u hu
          · rw [w3]
            exact List.mem_append_left _ (z5 i (by omega) u hu)
      · exact hf.elim
    · refine ⟨false, [.im (tbD (nearR n ths)), .im (.int 0), .own (fd.map D.int), .im (.int at'), v], by unfold c_met_from_1; simp [c], .inl ⟨rfl, fd, _, _, rfl, fun x hx u hu => ?_, z3⟩⟩
      obtain ⟨i, hi, rfl⟩ := List.getElem_of_mem hx
      refine z5 i (by omega) u ?_
      rw [List.getD_eq_getElem?_getD, List.getElem?_eq_getElem hi]
      exact hu
  refine ⟨found, ?_, fun v v0 v1 => ?_⟩
  · unfold m_met_from
    simp at key
    simp [key]
  · have hc := h.cn v v0 v1
    have : ∀ v, Conn ths v → v ∈ found := fun v hc => by
      induction hc with
      | zero => exact h0
      | @step u v hu he ih =>
        refine hcl u ih v ((mem_near (by omega)).mpr ⟨?_, adj_iff.mpr he⟩)
        rcases he with q | q
        · have := h.rg _ q; dsimp only at this; omega
        · have := h.rg _ q; dsimp only at this; omega
    exact this v hc
end BC

/-! Nets made and drawn. -/
namespace BC
open PySem PySem.Spec PyProof.Rows L2
variable [TabL]
theorem kit_tt : kitB "tuple" "tuple" = some true := by decide +kernel
theorem thread_ok {p : Int × Int} {n : Int} (h : 0 ≤ p.1 ∧ p.1 < p.2 ∧ p.2 < n) : m_is_thread [.im (prD p), .im (.int n)] = some (.rt (.bl true) []) := by
  have hr := rising_ok (r := [p.1, p.2]) (n := n)
  have ha : AscB n [p.1, p.2] := ⟨by simp; omega, fun x hx => by
    simp at hx
    omega⟩
  rw [decide_eq_true ha] at hr
  unfold m_is_thread prD
  simp at hr
  simp [isiD, tyD, kit_tt, hr, imS]
theorem lexLe_pr {p q : Int × Int} (h : ltPr q p) : lexLe [p.1, p.2] [q.1, q.2] = false := by
  obtain ⟨h1, h2⟩ := h
  rw [leP_iff] at h1
  have h2' : ¬ (q.1 = p.1 ∧ q.2 = p.2) := fun z => h2 (Prod.ext z.1 z.2)
  unfold lexLe
  by_cases c : p.1 = q.1
  · rw [if_pos c]
    unfold lexLe
    rw [if_neg (by omega)]
    simp
    omega
  · rw [if_neg c]
    simp
    omega
theorem net_made {n : Int} {ths : Ths} (h : NetOk n ths) : m_made_net [.im (.int n), .im (.tup (ths.map prD))] = some (.rt (netD n ths) []) := by
  have n1 := h.n1
  have n24 := h.n24
  have l60 := h.l60
  have hnear := near_ok h
  obtain ⟨found, hmet, hall⟩ := met_ok h
  obtain ⟨⟨j2, j3⟩, k1, _⟩ := for_fold (t := tgP (tgN 2) (tgN 3)) (P := b_made_net_2) (fun y : Int × (Int × Int) => .tup [.int y.1, prD y.2]) (fun (_ : Unit) (v : SV × SV) => [.im (.int n), .im (.tup (ths.map prD)), v.1, v.2, .un, .un, .un]) (fun _ _ => ()) (fun _ _ => True) (enr 0 ths) 0 () (.un, .un) trivial fun i y s v hy _ => by
    obtain ⟨p, hp, rfl, hi⟩ := enr_val hy
    have hm := h.rg p (List.mem_of_getElem? hp)
    have ht := thread_ok hm
    refine ⟨_, (.im (.int i), .im (prD p)), rfl, .inl ?_, trivial⟩
    by_cases c0 : 0 < i
    · have e1 := at_map prD (xs := ths) (j := (i : Int) - 1) (d := (0, 0)) (by omega) (by omega)
      have hlt : ltPr (ths.getD ((i : Int) - 1).toNat (0, 0)) p := by
        have := List.pairwise_iff_getElem.mp h.asc (i - 1) i (by omega) hi (by omega)
        rw [List.getD_eq_getElem?_getD, show ((i : Int) - 1).toNat = i - 1 by omega, List.getElem?_eq_getElem (by omega)]
        have e2 : ths[i] = p := by
          have := List.getElem?_eq_getElem hi
          rw [hp] at this
          exact (Option.some.inj this).symm
        rw [e2] at this
        exact this
      have hle : leE (prD p) (prD (ths.getD ((i : Int) - 1).toNat (0, 0))) = some false := by
        unfold prD
        have := lexLe_pr hlt
        simp only [leE_tup, ints_cons, ints_nil, Option.map]
        rw [this]
      generalize prD p = dp at *
      generalize prD (ths.getD ((i : Int) - 1).toNat (0, 0)) = dq at *
      unfold b_made_net_2
      simp [imS, ht, c0, e1, hle]
    · generalize prD p = dp at *
      unfold b_made_net_2
      simp [imS, ht, c0]
  obtain ⟨j6, k2, _⟩ := for_fold (t := tgN 6) (P := b_made_net_1) D.int (fun (_ : Unit) (v : SV) => [.im (.int n), .im (.tup (ths.map prD)), j2, j3, .im (tbD (nearR n ths)), .im (.lst (found.map D.int)), v]) (fun _ _ => ()) (fun _ _ => True) (rng 0 n.toNat) 0 () .un trivial fun i x s v hx _ => by
    obtain ⟨rfl, hi⟩ := rng_val hx
    have hin := hall (0 + i) (by omega) (by omega)
    refine ⟨_, .im (.int (0 + i)), rfl, .inl ?_, trivial⟩
    unfold b_made_net_1
    simp at hin
    simp [hin]
  have b1 : 1 ≤ n ∧ n ≤ 24 := ⟨n1, n24⟩
  have b2 : ¬ (60 : Int) < ths.length := by omega
  have b3 : -4611686018427387904 ≤ n ∧ n < 4611686018427387904 := by omega
  have e0 : (enr 0 (ths.map prD)).map (fun y => D.tup [.int y.1, y.2]) = (enr 0 ths).map fun y => D.tup [.int y.1, prD y.2] := enr_map prD 0 ths
  unfold m_made_net
  simp -implicitDefEqProofs [imS, b1, b2, b3, e0, k1, hnear, hmet, k2]
  rfl
/-! ### the law's nets -/
structure TrI (k : Int) (ths : Ths) : Prop where
  rg : ∀ y ∈ ths, 0 ≤ y.1 ∧ y.1 < y.2 ∧ y.2 < k
  nd : ths.Nodup
  up : ∀ w, 1 ≤ w → w < k → ∃ u, 0 ≤ u ∧ u < w ∧ (u, w) ∈ ths
  len : (ths.length : Int) = k - 1
theorem conn_up {n : Int} {ths : Ths} (h : ∀ w, 1 ≤ w → w < n → ∃ u, 0 ≤ u ∧ u < w ∧ (u, w) ∈ ths) : ∀ (m : Nat) (v : Int), v.toNat ≤ m → 0 ≤ v → v < n → Conn ths v
  | 0, v, hm, h0, _ => by
    have : v = 0 := by omega
    rw [this]
    exact .zero
  | m + 1, v, hm, h0, h1 => by
    by_cases c : v = 0
    · rw [c]; exact .zero
    · obtain ⟨u, u0, u1, hu⟩ := h v (by omega) h1
      exact .step (conn_up h m u (by omega) u0 (by omega)) (.inl hu)
structure GnI (n : Int) (m : Nat) (ths : Ths) : Prop where
  rg : ∀ y ∈ ths, 0 ≤ y.1 ∧ y.1 < y.2 ∧ y.2 < n
  nd : ths.Nodup
  cn : ∀ v, 0 ≤ v → v < n → Conn ths v
  len : (ths.length : Int) ≤ n - 1 + m
theorem Conn.mono {a b : Ths} (h : ∀ y ∈ a, y ∈ b) {v : Int} (hc : Conn a v) : Conn b v := by
  induction hc with
  | zero => exact .zero
  | step _ he ih => exact .step ih (he.elim (fun z => .inl (h _ z)) fun z => .inr (h _ z))
theorem GnI.srt {n : Int} {m : Nat} {ths : Ths} (h : GnI n m ths) (n1 : 1 ≤ n) (n24 : n ≤ 24) (m30 : m ≤ 30) : NetOk n (srtP ths) := by
  have hp := srtP_perm ths
  refine ⟨n1, n24, ?_, fun y hy => h.rg y (hp.mem_iff.mp hy), ?_, fun v h0 h1 => (h.cn v h0 h1).mono fun y hy => hp.mem_iff.mpr hy⟩
  · have := h.len
    have := hp.length_eq
    omega
  · have h2 : (srtP ths).Nodup := hp.nodup_iff.mpr h.nd
    exact (List.pairwise_and_iff.mpr ⟨srtP_sorted ths, h2⟩).imp fun ⟨a, b⟩ => ⟨a, b⟩
theorem wf_pr {p : Int × Int} {n : Nat} : D.wf (n + 1) (prD p) = true := by
  unfold prD
  simp
theorem mem_prs {ths : Ths} {a b : Int} : D.tup [.int a, .int b] ∈ ths.map prD ↔ (a, b) ∈ ths := by
  constructor
  · intro h
    obtain ⟨y, hy, e⟩ := List.mem_map.mp h
    unfold prD at e
    simp at e
    have : y = (a, b) := Prod.ext e.1 e.2
    rw [← this]
    exact hy
  · intro h
    exact List.mem_map.mpr ⟨(a, b), h, rfl⟩
theorem wf_prs {ths : Ths} {k : Nat} : (ths.map prD).all (D.wf (k + 1)) = true := by
  rw [List.all_eq_true]
  intro d hd
  obtain ⟨y, _, rfl⟩ := List.mem_map.mp hd
  exact wf_pr
theorem in_prs {ths : Ths} {a b : Int} : inD (.tup [.int a, .int b]) (.lst (ths.map prD)) = some (decide ((a, b) ∈ ths)) := by
  have h1 : D.wf 20 (.tup [.int a, .int b]) = true := by simp
  have h2 : D.wf 20 (.lst (ths.map prD)) = true := wf_prs (k := 18)
  unfold inD
  dsimp only
  rw [if_pos ⟨h1, h2⟩]
  congr 1
  exact decide_eq_decide.mpr mem_prs
theorem in_prt {ths : Ths} {a b : Int} : inD (.tup [.int a, .int b]) (.tup (ths.map prD)) = some (decide ((a, b) ∈ ths)) := by
  have h1 : D.wf 20 (.tup [.int a, .int b]) = true := by simp
  have h2 : D.wf 20 (.tup (ths.map prD)) = true := wf_prs (k := 18)
  unfold inD
  dsimp only
  rw [if_pos ⟨h1, h2⟩]
  congr 1
  exact decide_eq_decide.mpr mem_prs
end BC

/-! Nets of some shapes. -/
namespace BC
open PySem PySem.Spec PyProof.Rows L2
variable [TabL]
theorem want_good {n least : Int} (h1 : least ≤ n) (h2 : n ≤ 24) : m_want_count [.im (.int n), .im (.int least)] = some (.rt .non []) := by
  unfold m_want_count
  simp [h1, h2]
theorem want_bad {n least : Int} (h : ¬ (least ≤ n ∧ n ≤ 24)) : m_want_count [.im (.int n), .im (.int least)] = some (.er "BadCount" (.int n) []) := by
  unfold m_want_count
  by_cases c : least ≤ n
  · have d : ¬ n ≤ 24 := fun z => h ⟨c, z⟩
    simp [c, d]
  · simp [c]
def cnd (many sort wide x y : Int) : Bool := (decide (sort = 1) && decide (x = 0)) || (((!decide (sort = 1)) && (decide (y = x + 1) && ((!decide (sort = 3)) || decide (y / wide = x / wide)))) || ((decide (sort = 2) && (decide (x = 0) && decide (y = many - 1))) || (decide (sort = 3) && decide (y = x + wide))))
def thI (many sort wide x : Int) (found : Ths) (y : Int) : Ths := if cnd many sort wide x y = true then found ++ [(x, y)] else found
def thO (many sort wide : Int) (found : Ths) (x : Int) : Ths := (rng (x + 1) (many - (x + 1)).toNat).foldl (thI many sort wide x) found
def thr (many sort wide : Int) : Ths := (rng 0 many.toNat).foldl (thO many sort wide) []
def nxt (sort wide x y : Int) : Bool := decide (y = x + 1) && ((!decide (sort = 3)) || decide (y / wide = x / wide))
theorem thI_ok {many sort wide x y : Int} {found : Ths} {v : SV} (hw : 0 < wide ∧ wide < 1000) (hl : found.length ≤ 100000) :
    b__law_threads_1 [.im (.int many), .im (.int sort), .im (.int wide), .own (found.map prD), .im (.int x), .im (.int y), v] = some (.nx [.im (.int many), .im (.int sort), .im (.int wide), .own ((thI many sort wide x found y).map prD), .im (.int x), .im (.int y), .im (.bl (nxt sort wide x y))]) := by
  have hw1 : 0 < wide := hw.1
  have hw2 : wide < 1073741824 := by omega
  have hl' : (found.map prD).length ≤ 100000 := by rw [List.length_map]; exact hl
  have f1 : fdivD (.int y) (.int wide) = some (.int (y / wide)) := by rw [fdivD_int, if_pos ⟨hw1, hw2⟩]
  have f2 : fdivD (.int x) (.int wide) = some (.int (x / wide)) := by rw [fdivD_int, if_pos ⟨hw1, hw2⟩]
  have hp : prD (x, y) = .tup [.int x, .int y] := rfl
  have hcn : cnd many sort wide x y = ((decide (sort = 1) && decide (x = 0)) || (((!decide (sort = 1)) && nxt sort wide x y) || ((decide (sort = 2) && (decide (x = 0) && decide (y = many - 1))) || (decide (sort = 3) && decide (y = x + wide))))) := rfl
  have h6 : vB (andC (eqV false 5 (binC addE (varC 4) (cC (.int 1)))) (orC (eqV true 1 (cC (.int 3))) (cmpC eqD (binC fdivD (varC 5) (varC 2)) (binC fdivD (varC 4) (varC 2))))) [.im (.int many), .im (.int sort), .im (.int wide), .own (found.map prD), .im (.int x), .im (.int y), v] = some (.ok (.bl (nxt sort wide x y)) [.im (.int many), .im (.int sort), .im (.int wide), .own (found.map prD), .im (.int x), .im (.int y), v]) := by
    have q1 : eqV false 5 (binC addE (varC 4) (cC (.int 1))) [.im (.int many), .im (.int sort), .im (.int wide), .own (found.map prD), .im (.int x), .im (.int y), v] = some (.ok (decide (y = x + 1)) [.im (.int many), .im (.int sort), .im (.int wide), .own (found.map prD), .im (.int x), .im (.int y), v]) := by simp
    have q2 : eqV true 1 (cC (.int 3)) [.im (.int many), .im (.int sort), .im (.int wide), .own (found.map prD), .im (.int x), .im (.int y), v] = some (.ok (!decide (sort = 3)) [.im (.int many), .im (.int sort), .im (.int wide), .own (found.map prD), .im (.int x), .im (.int y), v]) := by simp
    have q3 : cmpC eqD (binC fdivD (varC 5) (varC 2)) (binC fdivD (varC 4) (varC 2)) [.im (.int many), .im (.int sort), .im (.int wide), .own (found.map prD), .im (.int x), .im (.int y), v] = some (.ok (decide (y / wide = x / wide)) [.im (.int many), .im (.int sort), .im (.int wide), .own (found.map prD), .im (.int x), .im (.int y), v]) := by simp [hw1, hw2]
    unfold nxt
    generalize ([.im (.int many), .im (.int sort), .im (.int wide), .own (found.map prD), .im (.int x), .im (.int y), v] : PE') = ρ at q1 q2 q3 ⊢
    generalize decide (sort = 3) = s3 at q1 q2 q3 ⊢
    generalize decide (y = x + 1) = b1 at q1 q2 q3 ⊢
    generalize decide (y / wide = x / wide) = b4 at q1 q2 q3 ⊢
    rw [vB_, andC_, q1, bd_ok]
    cases b1 with
    | false => rfl
    | true =>
      rw [if_pos rfl, orC_, q2, bd_ok]
      cases s3 with
      | false => rfl
      | true => rw [if_neg (by decide), q3]; rfl
  have hc : (orC (andC (eqV false 1 (cC (.int 1))) (eqV false 4 (cC (.int 0)))) (orC (andC (eqV true 1 (cC (.int 1))) (mapC truD (varC 6))) (orC (andC (eqV false 1 (cC (.int 2))) (andC (eqV false 4 (cC (.int 0))) (eqV false 5 (binC subD (varC 0) (cC (.int 1)))))) (andC (eqV false 1 (cC (.int 3))) (eqV false 5 (binC addE (varC 4) (varC 2))))))) [.im (.int many), .im (.int sort), .im (.int wide), .own (found.map prD), .im (.int x), .im (.int y), .im (.bl (nxt sort wide x y))] = some (.ok (cnd many sort wide x y) [.im (.int many), .im (.int sort), .im (.int wide), .own (found.map prD), .im (.int x), .im (.int y), .im (.bl (nxt sort wide x y))]) := by
    have q1 : eqV false 1 (cC (.int 1)) [.im (.int many), .im (.int sort), .im (.int wide), .own (found.map prD), .im (.int x), .im (.int y), .im (.bl (nxt sort wide x y))] = some (.ok (decide (sort = 1)) [.im (.int many), .im (.int sort), .im (.int wide), .own (found.map prD), .im (.int x), .im (.int y), .im (.bl (nxt sort wide x y))]) := by simp
    have q2 : eqV false 4 (cC (.int 0)) [.im (.int many), .im (.int sort), .im (.int wide), .own (found.map prD), .im (.int x), .im (.int y), .im (.bl (nxt sort wide x y))] = some (.ok (decide (x = 0)) [.im (.int many), .im (.int sort), .im (.int wide), .own (found.map prD), .im (.int x), .im (.int y), .im (.bl (nxt sort wide x y))]) := by simp
    have q3 : eqV true 1 (cC (.int 1)) [.im (.int many), .im (.int sort), .im (.int wide), .own (found.map prD), .im (.int x), .im (.int y), .im (.bl (nxt sort wide x y))] = some (.ok (!decide (sort = 1)) [.im (.int many), .im (.int sort), .im (.int wide), .own (found.map prD), .im (.int x), .im (.int y), .im (.bl (nxt sort wide x y))]) := by simp
    have q4 : mapC truD (varC 6) [.im (.int many), .im (.int sort), .im (.int wide), .own (found.map prD), .im (.int x), .im (.int y), .im (.bl (nxt sort wide x y))] = some (.ok (nxt sort wide x y) [.im (.int many), .im (.int sort), .im (.int wide), .own (found.map prD), .im (.int x), .im (.int y), .im (.bl (nxt sort wide x y))]) := by simp
    have q5 : eqV false 1 (cC (.int 2)) [.im (.int many), .im (.int sort), .im (.int wide), .own (found.map prD), .im (.int x), .im (.int y), .im (.bl (nxt sort wide x y))] = some (.ok (decide (sort = 2)) [.im (.int many), .im (.int sort), .im (.int wide), .own (found.map prD), .im (.int x), .im (.int y), .im (.bl (nxt sort wide x y))]) := by simp
    have q6 : eqV false 5 (binC subD (varC 0) (cC (.int 1))) [.im (.int many), .im (.int sort), .im (.int wide), .own (found.map prD), .im (.int x), .im (.int y), .im (.bl (nxt sort wide x y))] = some (.ok (decide (y = many - 1)) [.im (.int many), .im (.int sort), .im (.int wide), .own (found.map prD), .im (.int x), .im (.int y), .im (.bl (nxt sort wide x y))]) := by simp
    have q7 : eqV false 1 (cC (.int 3)) [.im (.int many), .im (.int sort), .im (.int wide), .own (found.map prD), .im (.int x), .im (.int y), .im (.bl (nxt sort wide x y))] = some (.ok (decide (sort = 3)) [.im (.int many), .im (.int sort), .im (.int wide), .own (found.map prD), .im (.int x), .im (.int y), .im (.bl (nxt sort wide x y))]) := by simp
    have q8 : eqV false 5 (binC addE (varC 4) (varC 2)) [.im (.int many), .im (.int sort), .im (.int wide), .own (found.map prD), .im (.int x), .im (.int y), .im (.bl (nxt sort wide x y))] = some (.ok (decide (y = x + wide)) [.im (.int many), .im (.int sort), .im (.int wide), .own (found.map prD), .im (.int x), .im (.int y), .im (.bl (nxt sort wide x y))]) := by simp
    rw [hcn]
    generalize ([.im (.int many), .im (.int sort), .im (.int wide), .own (found.map prD), .im (.int x), .im (.int y), .im (.bl (nxt sort wide x y))] : PE') = ρ at q1 q2 q3 q4 q5 q6 q7 q8 ⊢
    generalize nxt sort wide x y = nx at q1 q2 q3 q4 q5 q6 q7 q8 ⊢
    generalize decide (sort = 1) = s1 at q1 q2 q3 q4 q5 q6 q7 q8 ⊢
    generalize decide (sort = 2) = s2 at q1 q2 q3 q4 q5 q6 q7 q8 ⊢
    generalize decide (sort = 3) = s3 at q1 q2 q3 q4 q5 q6 q7 q8 ⊢
    generalize decide (x = 0) = b0 at q1 q2 q3 q4 q5 q6 q7 q8 ⊢
    generalize decide (y = many - 1) = b2 at q1 q2 q3 q4 q5 q6 q7 q8 ⊢
    generalize decide (y = x + wide) = b3 at q1 q2 q3 q4 q5 q6 q7 q8 ⊢
    have e1 : andC (eqV false 1 (cC (.int 1))) (eqV false 4 (cC (.int 0))) ρ = some (.ok (s1 && b0) ρ) := by rw [andC_, q1, bd_ok]; cases s1 <;> simp only [q2] <;> rfl
    have e2 : andC (eqV true 1 (cC (.int 1))) (mapC truD (varC 6)) ρ = some (.ok (!s1 && nx) ρ) := by rw [andC_, q3, bd_ok]; cases s1 <;> simp only [q4] <;> rfl
    have e3 : andC (eqV false 4 (cC (.int 0))) (eqV false 5 (binC subD (varC 0) (cC (.int 1)))) ρ = some (.ok (b0 && b2) ρ) := by rw [andC_, q2, bd_ok]; cases b0 <;> simp only [q6] <;> rfl
    have e4 : andC (eqV false 1 (cC (.int 2))) (andC (eqV false 4 (cC (.int 0))) (eqV false 5 (binC subD (varC 0) (cC (.int 1))))) ρ = some (.ok (s2 && (b0 && b2)) ρ) := by rw [andC_, q5, bd_ok]; cases s2 <;> simp only [e3] <;> rfl
    have e5 : andC (eqV false 1 (cC (.int 3))) (eqV false 5 (binC addE (varC 4) (varC 2))) ρ = some (.ok (s3 && b3) ρ) := by rw [andC_, q7, bd_ok]; cases s3 <;> simp only [q8] <;> rfl
    generalize (s1 && b0) = c1 at e1 ⊢
    generalize (!s1 && nx) = c2 at e2 ⊢
    generalize (s2 && (b0 && b2)) = c3 at e4 ⊢
    generalize (s3 && b3) = c4 at e5 ⊢
    rw [orC_, e1, bd_ok]
    cases c1 with
    | true => rfl
    | false =>
      rw [if_neg (by decide), orC_, e2, bd_ok]
      cases c2 with
      | true => rfl
      | false =>
        rw [if_neg (by decide), orC_, e4, bd_ok]
        cases c3 with
        | true => rfl
        | false => rw [if_neg (by decide), e5]; rfl
  unfold b__law_threads_1 thI
  rw [seqS_, setC_, h6, bs_ok, sq_nx]
  show (ifS _ _ _) [.im (.int many), .im (.int sort), .im (.int wide), .own (found.map prD), .im (.int x), .im (.int y), .im (.bl (nxt sort wide x y))] = _
  rw [ifS_, hc, bs_ok]
  cases cnd many sort wide x y with
  | true => simp [hl, hp]
  | false => simp
theorem thI_len {many sort wide x y : Int} {found : Ths} : (thI many sort wide x found y).length ≤ found.length + 1 := by
  unfold thI
  split
  · rw [List.length_append]; exact Nat.le_refl _
  · omega
theorem thO_ok {many sort wide x : Int} {found : Ths} {v5 v6 : SV} (hw : 0 < wide ∧ wide < 1000) (m0 : 0 ≤ many) (m24 : many ≤ 24) (x0 : 0 ≤ x) (x1 : x < many) (hl : found.length ≤ 10000) :
    ∃ b5 b6, b__law_threads_2 [.im (.int many), .im (.int sort), .im (.int wide), .own (found.map prD), .im (.int x), v5, v6] = some (.nx [.im (.int many), .im (.int sort), .im (.int wide), .own ((thO many sort wide found x).map prD), .im (.int x), b5, b6]) ∧ (thO many sort wide found x).length ≤ found.length + 24 := by
  obtain ⟨⟨b5, b6⟩, key, hk⟩ := for_fold (t := tgN 5) (P := b__law_threads_1) D.int (fun (f : Ths) (v : SV × SV) => [.im (.int many), .im (.int sort), .im (.int wide), .own (f.map prD), .im (.int x), v.1, v.2]) (thI many sort wide x) (fun k f => f.length ≤ found.length + k) (rng (x + 1) (many - (x + 1)).toNat) 0 found (v5, v6) (by omega) fun i y f v hy hf => by
    obtain ⟨rfl, hi⟩ := rng_val hy
    refine ⟨_, (.im (.int (x + 1 + i)), .im (.bl (nxt sort wide x (x + 1 + i)))), rfl, .inl (thI_ok hw (by omega)), ?_⟩
    have := thI_len (many := many) (sort := sort) (wide := wide) (x := x) (y := x + 1 + i) (found := f)
    omega
  rw [rng_len] at hk
  refine ⟨b5, b6, ?_, by unfold thO; omega⟩
  have hb : -4611686018427387904 ≤ x + 1 ∧ x + 1 < 4611686018427387904 ∧ -4611686018427387904 ≤ many ∧ many < 4611686018427387904 := by omega
  unfold b__law_threads_2
  simp at key
  simp [hb, key, thO]
theorem thr_ok {many sort wide : Int} (hw : 0 < wide ∧ wide < 1000) (m0 : 0 ≤ many) (m24 : many ≤ 24) : m__law_threads [.im (.int many), .im (.int sort), .im (.int wide)] = some (.rt (.tup ((thr many sort wide).map prD)) []) := by
  obtain ⟨⟨b4, b5, b6⟩, key, hk⟩ := for_fold (t := tgN 4) (P := b__law_threads_2) D.int (fun (f : Ths) (v : SV × SV × SV) => [.im (.int many), .im (.int sort), .im (.int wide), .own (f.map prD), v.1, v.2.1, v.2.2]) (thO many sort wide) (fun k f => f.length ≤ 24 * k) (rng 0 many.toNat) 0 [] (.un, .un, .un) (by simp) fun i y f v hy hf => by
    obtain ⟨rfl, hi⟩ := rng_val hy
    obtain ⟨b5, b6, h1, h2⟩ := thO_ok (sort := sort) (x := 0 + (i : Int)) (v5 := v.2.1) (v6 := v.2.2) (found := f) hw m0 m24 (by omega) (by omega) (by omega)
    exact ⟨_, (.im (.int (0 + i)), b5, b6), rfl, .inl h1, by omega⟩
  have hb : -4611686018427387904 ≤ many ∧ many < 4611686018427387904 := by omega
  unfold m__law_threads
  simp at key
  simp [hb, key, thr]
/-! ### the program's -/
def lineT (n : Int) : Ths := (rng 0 (n - 1).toNat).map fun p => (p, p + 1)
def ringT (n : Int) : Ths := srtP (lineT n ++ [(0, n - 1)])
def starT (n : Int) : Ths := (rng 1 (n - 1).toNat).map fun p => (0, p)
def gridI (w h : Int) (f : Ths) (p : Int) : Ths := (if p % w < w - 1 then f ++ [(p, p + 1)] else f) ++ (if p + w < w * h then [(p, p + w)] else [])
def gridT (w h : Int) : Ths := (rng 0 (w * h).toNat).foldl (gridI w h) []
instance : DecidableRel ltPr := fun p q => by unfold ltPr; exact inferInstance
def netB (n : Int) (ths : Ths) : Bool := decide (ths.length ≤ 60) && (ths.all fun y => decide (0 ≤ y.1 ∧ y.1 < y.2 ∧ y.2 < n)) && decide (ths.Pairwise ltPr) && (rng 1 (n - 1).toNat).all fun w => ths.any fun y => decide (0 ≤ y.1 ∧ y.1 < w ∧ y.2 = w)
theorem netB_ok {n : Int} {ths : Ths} (n1 : 1 ≤ n) (n24 : n ≤ 24) (h : netB n ths = true) : NetOk n ths := by
  unfold netB at h
  rw [Bool.and_eq_true, Bool.and_eq_true, Bool.and_eq_true] at h
  obtain ⟨⟨⟨h1, h2⟩, h3⟩, h4⟩ := h
  rw [List.all_eq_true] at h2 h4
  refine ⟨n1, n24, of_decide_eq_true h1, fun y hy => of_decide_eq_true (h2 y hy), of_decide_eq_true h3, fun v v0 v1 => conn_up (fun w w1 w2 => ?_) v.toNat v (Nat.le_refl _) v0 v1⟩
  have := h4 w (mem_rng.mpr (by omega))
  rw [List.any_eq_true] at this
  obtain ⟨y, hy, hd⟩ := this
  have hd := of_decide_eq_true hd
  exact ⟨y.1, hd.1, hd.2.1, by rw [← hd.2.2]; exact hy⟩
theorem line_all : ∀ n < 25, 1 ≤ n → netB (n : Nat) (lineT (n : Nat)) = true ∧ lineT (n : Nat) = thr (n : Nat) 0 1 := by decide +kernel
theorem star_all : ∀ n < 25, 1 ≤ n → netB (n : Nat) (starT (n : Nat)) = true ∧ starT (n : Nat) = thr (n : Nat) 1 1 := by decide +kernel
theorem ring_all : ∀ n < 25, 3 ≤ n → netB (n : Nat) (ringT (n : Nat)) = true ∧ ringT (n : Nat) = thr (n : Nat) 2 1 := by decide +kernel
def gridOk (w h : Nat) : Bool := !(decide (1 ≤ w) && (decide (1 ≤ h) && decide (w * h ≤ 24))) || (netB ((w : Int) * (h : Int)) (gridT w h) && decide (gridT w h = thr ((w : Int) * (h : Int)) 3 w))
theorem grid_b : ((List.range 25).all fun w => (List.range 25).all fun h => gridOk w h) = true := by decide +kernel
theorem grid_all {w h : Nat} (w0 : w < 25) (h0 : h < 25) (w1 : 1 ≤ w) (h1 : 1 ≤ h) (wh : w * h ≤ 24) : netB ((w : Int) * (h : Int)) (gridT w h) = true ∧ gridT w h = thr ((w : Int) * (h : Int)) 3 w := by
  have a := List.all_eq_true.mp grid_b w (List.mem_range.mpr w0)
  have b := List.all_eq_true.mp a h (List.mem_range.mpr h0)
  unfold gridOk at b
  rw [decide_eq_true w1, decide_eq_true h1, decide_eq_true wh] at b
  simpa using b
end BC

/-! What repr shows of small things. -/
namespace BC
open PySem PySem.Spec PyProof.Rows L2
variable [TabL]
theorem log_ok {x : Int} (h : x.natAbs < 2 ^ 1000) : x.natAbs.log2 < 1000 := by
  by_cases z : x.natAbs = 0
  · rw [z]; simp
  · exact (Nat.log2_lt z).mpr h
theorem sml_of {x : Int} (h : -10000000000 ≤ x ∧ x ≤ 10000000000) : x.natAbs < 2 ^ 1000 := by
  have : (2 : Nat) ^ 40 < 2 ^ 1000 := by decide +kernel
  omega
theorem rep_word {w : Str} {x : Int} (h : x.natAbs < 2 ^ 1000) (hw : PyData.strOk w = true) (hl : (reprText w).length ≤ 1000) (hs : (PyData.str w).showable = true) : repD (.tup [.str w, .int x]) = some (.str (D.tup [.str w, .int x]).da.shown) := by
  have hx := log_ok h
  refine rep_ok ?_ ?_ ?_
  · simp [hw]
  · have hs : PyData.showable (.str w) = true := hs
    simp [D.da, D.daL, PyData.showable, PyData.showableAll] at hs ⊢
    first | omega | exact ⟨hs, by omega⟩
  · simp only [D.siz, D.sizL]; omega
theorem rep_prs : ∀ {l : List (Int × Int)}, (∀ y ∈ l, y.1.natAbs < 2 ^ 1000 ∧ y.2.natAbs < 2 ^ 1000) → PyData.showableAll (D.daL (l.map prD)) = true ∧ D.sizL (l.map prD) ≤ l.length * 2100
  | [], _ => ⟨rfl, by simp [D.sizL]⟩
  | y :: l, h => by
    have h1 := h y List.mem_cons_self
    obtain ⟨i1, i2⟩ := rep_prs (l := l) fun z hz => h z (List.mem_cons_of_mem _ hz)
    have a := log_ok h1.1
    have b := log_ok h1.2
    refine ⟨?_, ?_⟩
    · have a' : y.1.natAbs.log2 < 1920 := by omega
      have b' : y.2.natAbs.log2 < 1920 := by omega
      simp [prD, D.daL, D.da, PyData.showableAll, PyData.showable, a', b'] at i1 ⊢
      exact i1
    · simp only [List.map_cons, prD, D.sizL, D.siz, List.length_cons] at i2 ⊢
      omega
theorem rep_net {n : Int} {l : List (Int × Int)} (hn : n.natAbs < 2 ^ 1000) (h : ∀ y ∈ l, y.1.natAbs < 2 ^ 1000 ∧ y.2.natAbs < 2 ^ 1000) (hl : l.length ≤ 1000) : repD (.tup [.int n, .tup (l.map prD)]) = some (.str (D.tup [.int n, .tup (l.map prD)]).da.shown) := by
  obtain ⟨i1, i2⟩ := rep_prs h
  have hx := log_ok hn
  refine rep_ok ?_ ?_ ?_
  · have : (l.map prD).all (D.wfb 18) = true := by
      rw [List.all_eq_true]
      intro d hd
      obtain ⟨y, _, rfl⟩ := List.mem_map.mp hd
      simp [prD]
    simp at this
    simp
    exact this
  · simp [D.da, D.daL, PyData.showable, PyData.showableAll, i1]
    omega
  · simp only [D.siz, D.sizL]
    omega
end BC

/-! Nets of some shapes: the program and the law. -/
namespace BC
open PySem PySem.Spec PyProof.Rows L2
variable [TabL]
theorem as_nat {n : Int} (h : 0 ≤ n) : n = ((n.toNat : Nat) : Int) := by omega
theorem line_fact {n : Int} (n1 : 1 ≤ n) (n24 : n ≤ 24) : NetOk n (lineT n) ∧ lineT n = thr n 0 1 := by
  obtain ⟨a, b⟩ := line_all n.toNat (by omega) (by omega)
  rw [← as_nat (by omega)] at a b
  exact ⟨netB_ok n1 n24 a, b⟩
theorem star_fact {n : Int} (n1 : 1 ≤ n) (n24 : n ≤ 24) : NetOk n (starT n) ∧ starT n = thr n 1 1 := by
  obtain ⟨a, b⟩ := star_all n.toNat (by omega) (by omega)
  rw [← as_nat (by omega)] at a b
  exact ⟨netB_ok n1 n24 a, b⟩
theorem ring_fact {n : Int} (n1 : 3 ≤ n) (n24 : n ≤ 24) : NetOk n (ringT n) ∧ ringT n = thr n 2 1 := by
  obtain ⟨a, b⟩ := ring_all n.toNat (by omega) (by omega)
  rw [← as_nat (by omega)] at a b
  exact ⟨netB_ok (by omega) n24 a, b⟩
theorem line_ok {n : Int} (n1 : 1 ≤ n) (n24 : n ≤ 24) : m_line_net [.im (.int n)] = some (.rt (netD n (lineT n)) []) := by
  have hw := want_good n1 n24
  have hm := net_made (line_fact n1 n24).1
  have hb : -4611686018427387904 ≤ n - 1 ∧ n - 1 < 4611686018427387904 := by omega
  have key := lcL_m (t := tgN 1) (E := e_line_net_1) (vs := [1]) (ρ := [.im (.int n), .un]) D.int (fun p => prD (p, p + 1)) (rng 0 (n - 1).toNat) fun p hp => ⟨_, rfl, [.im (.int n), .im (.int p)], by unfold e_line_net_1; simp; rfl, rfl⟩
  have := lcC_ok (I := mapC rng1D (binC subD (varC 0) (cC (.int 1)))) (ρ := [.im (.int n), .un]) (ρ1 := [.im (.int n), .un]) (xs := (rng 0 (n - 1).toNat).map D.int) (by simp [hb]) (by rw [List.length_map, rng_len]; omega) key
  have q : q_line_net_1 [.im (.int n), .un] = some (.ok ((lineT n).map prD) [.im (.int n), .un]) := by
    unfold q_line_net_1 lineT
    rw [this, List.map_map]
    rfl
  unfold m_line_net
  simp -implicitDefEqProofs [imS, hw, q, hm]
theorem star_ok {n : Int} (n1 : 1 ≤ n) (n24 : n ≤ 24) : m_star_net [.im (.int n)] = some (.rt (netD n (starT n)) []) := by
  have hw := want_good n1 n24
  have hm := net_made (star_fact n1 n24).1
  have hb : -4611686018427387904 ≤ n ∧ n < 4611686018427387904 := by omega
  have key := lcL_m (t := tgN 1) (E := e_star_net_1) (vs := [1]) (ρ := [.im (.int n), .un]) D.int (fun p => prD (0, p)) (rng 1 (n - 1).toNat) fun p hp => ⟨_, rfl, [.im (.int n), .im (.int p)], by unfold e_star_net_1; simp; rfl, rfl⟩
  have := lcC_ok (I := binL rng2D (cC (.int 1)) (varC 0)) (ρ := [.im (.int n), .un]) (ρ1 := [.im (.int n), .un]) (xs := (rng 1 (n - 1).toNat).map D.int) (by simp [hb]) (by rw [List.length_map, rng_len]; omega) key
  have q : q_star_net_1 [.im (.int n), .un] = some (.ok ((starT n).map prD) [.im (.int n), .un]) := by
    unfold q_star_net_1 starT
    rw [this, List.map_map]
    rfl
  unfold m_star_net
  simp -implicitDefEqProofs [imS, hw, q, hm]
theorem ring_ok {n : Int} (n1 : 3 ≤ n) (n24 : n ≤ 24) : m_ring_net [.im (.int n)] = some (.rt (netD n (ringT n)) []) := by
  have hw := want_good n1 n24
  have hm := net_made (ring_fact n1 n24).1
  have hb : -4611686018427387904 ≤ n - 1 ∧ n - 1 < 4611686018427387904 := by omega
  have key := lcL_m (t := tgN 1) (E := e_ring_net_1) (vs := [1]) (ρ := [.im (.int n), .un]) D.int (fun p => prD (p, p + 1)) (rng 0 (n - 1).toNat) fun p hp => ⟨_, rfl, [.im (.int n), .im (.int p)], by unfold e_ring_net_1; simp; rfl, rfl⟩
  have := lcC_ok (I := mapC rng1D (binC subD (varC 0) (cC (.int 1)))) (ρ := [.im (.int n), .un]) (ρ1 := [.im (.int n), .un]) (xs := (rng 0 (n - 1).toNat).map D.int) (by simp [hb]) (by rw [List.length_map, rng_len]; omega) key
  have q : q_ring_net_1 [.im (.int n), .un] = some (.ok ((lineT n).map prD) [.im (.int n), .un]) := by
    unfold q_ring_net_1 lineT
    rw [this, List.map_map]
    rfl
  have hs : srtA (.lst ((lineT n).map prD ++ [.tup [.int 0, .int (n - 1)]])) = some ((ringT n).map prD) := by
    have : (lineT n).map prD ++ [.tup [.int 0, .int (n - 1)]] = (lineT n ++ [(0, n - 1)]).map prD := by rw [List.map_append]; rfl
    rw [this, srtA_prs]
    rfl
  have hl : (lineT n).length + 1 ≤ 100000 := by unfold lineT; rw [List.length_map, rng_len]; omega
  unfold m_ring_net
  simp -implicitDefEqProofs [imS, hw, q, hl, hs, hm]
theorem line_bad {n : Int} (h : ¬ (1 ≤ n ∧ n ≤ 24)) : m_line_net [.im (.int n)] = some (.er "BadCount" (.int n) []) := by
  have hw := want_bad h
  unfold m_line_net
  simp -implicitDefEqProofs [imS, hw]
theorem star_bad {n : Int} (h : ¬ (1 ≤ n ∧ n ≤ 24)) : m_star_net [.im (.int n)] = some (.er "BadCount" (.int n) []) := by
  have hw := want_bad h
  unfold m_star_net
  simp -implicitDefEqProofs [imS, hw]
theorem ring_bad {n : Int} (h : ¬ (3 ≤ n ∧ n ≤ 24)) : m_ring_net [.im (.int n)] = some (.er "BadCount" (.int n) []) := by
  have hw := want_bad h
  unfold m_ring_net
  simp -implicitDefEqProofs [imS, hw]
def leastS (sort : Int) : Int := if sort = 2 then 3 else 1
theorem single_ok {sort n : Int} (hs : sort = 0 ∨ sort = 1 ∨ sort = 2) (h1 : leastS sort ≤ n) (h2 : n ≤ 24) : m__law_single [.im (.int sort), .im (.int n)] = some (.rt (netD n (thr n sort 1)) []) ∧ NetOk n (thr n sort 1) := by
  rcases hs with rfl | rfl | rfl
  · have n1 : 1 ≤ n := h1
    have f := line_fact n1 h2
    have o := line_ok n1 h2
    rw [f.2] at o f
    refine ⟨?_, f.1⟩
    unfold m__law_single
    simp -implicitDefEqProofs [imS, jsD, o]
  · have n1 : 1 ≤ n := h1
    have f := star_fact n1 h2
    have o := star_ok n1 h2
    rw [f.2] at o f
    refine ⟨?_, f.1⟩
    unfold m__law_single
    simp -implicitDefEqProofs [imS, jsD, o]
  · have n1 : 3 ≤ n := h1
    have f := ring_fact n1 h2
    have o := ring_ok n1 h2
    rw [f.2] at o f
    refine ⟨?_, f.1⟩
    unfold m__law_single
    simp -implicitDefEqProofs [imS, jsD, o]
theorem single_bad {sort n : Int} (hs : sort = 0 ∨ sort = 1 ∨ sort = 2) (h : ¬ (leastS sort ≤ n ∧ n ≤ 24)) : m__law_single [.im (.int sort), .im (.int n)] = some (.er "BadCount" (.int n) []) := by
  rcases hs with rfl | rfl | rfl
  · have o := line_bad (n := n) h
    unfold m__law_single
    simp -implicitDefEqProofs [imS, jsD, o]
  · have o := star_bad (n := n) h
    unfold m__law_single
    simp -implicitDefEqProofs [imS, jsD, o]
  · have o := ring_bad (n := n) h
    unfold m__law_single
    simp -implicitDefEqProofs [imS, jsD, o]
theorem grid_ok {w h : Int} (w1 : 1 ≤ w) (w24 : w ≤ 24) (h1 : 1 ≤ h) (h24 : h ≤ 24) (wh : w * h ≤ 24) : m_grid_net [.im (.int w), .im (.int h)] = some (.rt (netD (w * h) (thr (w * h) 3 w)) []) ∧ NetOk (w * h) (thr (w * h) 3 w) := by
  have ewh : w * h = ((w.toNat * h.toNat : Nat) : Int) := by rw [Int.natCast_mul, ← as_nat (by omega), ← as_nat (by omega)]
  obtain ⟨a, b⟩ := grid_all (w := w.toNat) (h := h.toNat) (by omega) (by omega) (by omega) (by omega) (by omega)
  rw [← as_nat (by omega), ← as_nat (by omega)] at a b
  have g1 : 1 ≤ w * h := by
    have : 1 * 1 ≤ w * h := Int.mul_le_mul w1 h1 (by decide) (by omega)
    omega
  have f := netB_ok g1 wh a
  have hm := net_made f
  rw [b] at f hm
  refine ⟨?_, f⟩
  have hw1 := want_good (n := w) (least := 1) w1 w24
  have hw2 := want_good (n := h) (least := 1) h1 h24
  have hmul : mulT (.int w) (.int h) = some (.int (w * h)) := by rw [mulT_int, mulD_int, if_pos (.inl (by omega))]
  generalize eW : w * h = W at *
  obtain ⟨j3, key, hk⟩ := for_fold (t := tgN 3) (P := b_grid_net_1) D.int (fun (f : Ths) (v : SV) => [.im (.int w), .im (.int h), .own (f.map prD), v]) (gridI w h) (fun k f => f.length ≤ 2 * k) (rng 0 W.toNat) 0 [] .un (by simp) fun i p f v hp hf => by
    obtain ⟨rfl, hi⟩ := rng_val hp
    have hl1 : f.length ≤ 100000 := by omega
    have hl2 : f.length + 1 ≤ 100000 := by omega
    refine ⟨_, .im (.int (0 + i)), rfl, .inl ?_, ?_⟩
    · show b_grid_net_1 [.im (.int w), .im (.int h), .own (f.map prD), .im (.int (0 + i))] = some (.nx [.im (.int w), .im (.int h), .own ((gridI w h f (0 + i)).map prD), .im (.int (0 + i))])
      rw [Int.zero_add]
      unfold b_grid_net_1 gridI
      have hw0 : 0 < w := by omega
      rw [eW]
      by_cases c : (i : Int) % w < w - 1
      · by_cases d : (i : Int) + w < W
        · simp [hw0, c, d, hmul, hl1, hl2, prD]
        · simp [hw0, c, d, hmul, hl1, prD]
      · by_cases d : (i : Int) + w < W
        · simp [hw0, c, d, hmul, hl1, prD]
        · simp [hw0, c, d, hmul]
    · have e : (gridI w h f (0 + i)).length ≤ f.length + 2 := by
        unfold gridI
        rw [List.length_append]
        split <;> split <;> simp <;> omega
      omega
  have hg : (rng 0 W.toNat).foldl (gridI w h) [] = thr W 3 w := by
    rw [← b]
    unfold gridT
    rw [eW]
  rw [hg] at key
  have hb : -4611686018427387904 ≤ W ∧ W < 4611686018427387904 := by omega
  have c24 : ¬ 24 < W := by omega
  unfold m_grid_net
  simp at key
  simp -implicitDefEqProofs [imS, hw1, hw2, hmul, c24, hb, key, hm]
theorem grid_bad1 {w h : Int} (c : ¬ (1 ≤ w ∧ w ≤ 24)) : m_grid_net [.im (.int w), .im (.int h)] = some (.er "BadCount" (.int w) []) := by
  have hw := want_bad c
  unfold m_grid_net
  simp -implicitDefEqProofs [imS, hw]
theorem grid_bad2 {w h : Int} (w1 : 1 ≤ w) (w24 : w ≤ 24) (c : ¬ (1 ≤ h ∧ h ≤ 24)) : m_grid_net [.im (.int w), .im (.int h)] = some (.er "BadCount" (.int h) []) := by
  have hw1 := want_good (n := w) (least := 1) w1 w24
  have hw := want_bad c
  unfold m_grid_net
  simp -implicitDefEqProofs [imS, hw1, hw]
theorem grid_bad3 {w h : Int} (w1 : 1 ≤ w) (w24 : w ≤ 24) (h1 : 1 ≤ h) (h24 : h ≤ 24) (wh : 24 < w * h) : m_grid_net [.im (.int w), .im (.int h)] = some (.er "BadSize" (.int (w * h)) []) := by
  have hw1 := want_good (n := w) (least := 1) w1 w24
  have hw2 := want_good (n := h) (least := 1) h1 h24
  have hmul : mulT (.int w) (.int h) = some (.int (w * h)) := by rw [mulT_int, mulD_int, if_pos (.inl (by omega))]
  generalize w * h = W at *
  unfold m_grid_net
  simp -implicitDefEqProofs [imS, hw1, hw2, hmul, wh]
end BC

/-! Nets of some shapes: the law. -/
namespace BC
open PySem PySem.Spec PyProof.Rows L2
variable [TabL]
theorem calm_fn : SV.fn.calm = true := rfl
theorem ne_cs : ¬ Str.ofString "BadCount" = Str.ofString "BadSize" := by decide +kernel
theorem ne_sc : ¬ Str.ofString "BadSize" = Str.ofString "BadCount" := by decide +kernel
def netT (n : Int) (ths : Ths) : D := .tup [.int n, .tup (ths.map prD)]
theorem told_ok {n : Int} {ths : Ths} {ρ : PE'} : toldR (m__law_told (.ok (netD n ths)) (.fn :: List.replicate 2 .un)) ρ = some (.ok (netT n ths) ρ) := by
  have e1 := net_many (n := n) (ths := ths)
  have e2 := net_threads (n := n) (ths := ths)
  unfold netT
  generalize netD n ths = N at *
  unfold m__law_told
  simp [tryC, toldR, e1, e2]
theorem told_count {x : D} {ρ : PE'} : toldR (m__law_told (.er "BadCount" x) (.fn :: List.replicate 2 .un)) ρ = some (.ok (.tup [.str "count", x]) ρ) := by
  unfold m__law_told
  simp [tryC, toldR, isiF, ns__law_told, calm_fn, ne_cs, ne_sc]
theorem told_size {x : D} {ρ : PE'} : toldR (m__law_told (.er "BadSize" x) (.fn :: List.replicate 2 .un)) ρ = some (.ok (.tup [.str "size", x]) ρ) := by
  unfold m__law_told
  simp [tryC, toldR, isiF, ns__law_told, calm_fn, ne_cs, ne_sc]
theorem rep_count {x : Int} (h : -10000000000 ≤ x ∧ x ≤ 10000000000) : repD (.tup [.str "count", .int x]) = some (.str (D.tup [.str "count", .int x]).da.shown) := rep_word (sml_of h) (by decide +kernel) (by decide +kernel) (by decide +kernel)
theorem rep_size {x : Int} (h : -10000000000 ≤ x ∧ x ≤ 10000000000) : repD (.tup [.str "size", .int x]) = some (.str (D.tup [.str "size", .int x]).da.shown) := rep_word (sml_of h) (by decide +kernel) (by decide +kernel) (by decide +kernel)
theorem rep_nt {n : Int} {ths : Ths} (h : NetOk n ths) : repD (netT n ths) = some (.str (netT n ths).da.shown) := by
  have n1 := h.n1
  have n24 := h.n24
  have l60 := h.l60
  refine rep_net (sml_of (by omega)) (fun y hy => ?_) (by omega)
  have := h.rg y hy
  exact ⟨sml_of (by omega), sml_of (by omega)⟩
abbrev sD (s : List Int) : SV := .own (s.map D.int)
theorem law2_ok {sc a1 a5 a6 a7 a8 : SV} {sort n : Int} (hs : sort = 0 ∨ sort = 1 ∨ sort = 2) (hn : -10000000000 ≤ n ∧ n ≤ 10000000000) :
    ∃ b5, b_law_2 [sc, a1, .im (.int sort), .im (.int (leastS sort)), .im (.int n), a5, a6, a7, a8] = some (.nx [sc, a1, .im (.int sort), .im (.int (leastS sort)), .im (.int n), b5, a6, a7, a8]) := by
  by_cases c : leastS sort ≤ n ∧ n ≤ 24
  · have n1 : 1 ≤ n := by
      have : leastS sort = 1 ∨ leastS sort = 3 := by unfold leastS; split <;> simp
      omega
    obtain ⟨h1, h2⟩ := single_ok hs c.1 c.2
    have ht := thr_ok (many := n) (sort := sort) (wide := 1) (by decide) (by omega) c.2
    have hr := rep_nt h2
    have hl : ∀ {v : SV}, lamC m__law_told 2 (callC m__law_single (consA (varC 2) (consA (varC 4) nilA))) [sc, a1, .im (.int sort), .im (.int (leastS sort)), .im (.int n), v, a6, a7, a8] = some (.ok (netT n (thr n sort 1)) [sc, a1, .im (.int sort), .im (.int (leastS sort)), .im (.int n), v, a6, a7, a8]) := fun {v} => by
      rw [lamC_ok (d := netD n (thr n sort 1)) (by simp [imS, h1])]
      exact told_ok
    refine ⟨.im (netT n (thr n sort 1)), ?_⟩
    have e : netT n (thr n sort 1) = .tup [.int n, .tup ((thr n sort 1).map prD)] := rfl
    unfold b_law_2
    rw [seqS_]
    have s1 : setC 5 (ifC (chC leE leE (varC 3) (varC 4) (cC (.int 24))) (tupC (consA (varC 4) (consA (callC m__law_threads (consA (varC 4) (consA (varC 2) (consA (cC (.int 1)) nilA)))) nilA))) (tupC (consA (cC (.str "count")) (consA (varC 4) nilA)))) [sc, a1, .im (.int sort), .im (.int (leastS sort)), .im (.int n), a5, a6, a7, a8] = some (.nx [sc, a1, .im (.int sort), .im (.int (leastS sort)), .im (.int n), .im (netT n (thr n sort 1)), a6, a7, a8]) := by
      rw [e]
      simp [imS, c, ht]
    rw [s1, sq_nx]
    generalize netT n (thr n sort 1) = N at *
    simp [hl, hr]
  · have h1 := single_bad hs c
    have hr := rep_count hn
    have hl : ∀ {v : SV}, lamC m__law_told 2 (callC m__law_single (consA (varC 2) (consA (varC 4) nilA))) [sc, a1, .im (.int sort), .im (.int (leastS sort)), .im (.int n), v, a6, a7, a8] = some (.ok (.tup [.str "count", .int n]) [sc, a1, .im (.int sort), .im (.int (leastS sort)), .im (.int n), v, a6, a7, a8]) := fun {v} => by
      rw [lamC_er (c := "BadCount") (d := .int n) (by simp [imS, h1])]
      exact told_count
    refine ⟨.im (.tup [.str "count", .int n]), ?_⟩
    unfold b_law_2
    rw [seqS_]
    have s1 : setC 5 (ifC (chC leE leE (varC 3) (varC 4) (cC (.int 24))) (tupC (consA (varC 4) (consA (callC m__law_threads (consA (varC 4) (consA (varC 2) (consA (cC (.int 1)) nilA)))) nilA))) (tupC (consA (cC (.str "count")) (consA (varC 4) nilA)))) [sc, a1, .im (.int sort), .im (.int (leastS sort)), .im (.int n), a5, a6, a7, a8] = some (.nx [sc, a1, .im (.int sort), .im (.int (leastS sort)), .im (.int n), .im (.tup [.str "count", .int n]), a6, a7, a8]) := by
      by_cases d : leastS sort ≤ n
      · have d2 : ¬ n ≤ 24 := fun z => c ⟨d, z⟩
        simp [d, d2]
      · simp [d]
    rw [s1, sq_nx]
    simp [hl, hr]
theorem law3_ok {sc a3 a4 a5 a6 a7 a8 : SV} {s : List Int} {sort : Int} (hv : Val s) (hs : sort = 0 ∨ sort = 1 ∨ sort = 2) :
    ∃ s' b3 b4 b5, Val s' ∧ b_law_3 [sc, sD s, .im (.int sort), a3, a4, a5, a6, a7, a8] = some (.nx [sc, sD s', .im (.int sort), b3, b4, b5, a6, a7, a8]) := by
  have hle : leastS sort = 1 ∨ leastS sort = 3 := by unfold leastS; split <;> simp
  have h1 := take_ok (s := s) (t := 25 - leastS sort) hv (by omega) (by omega)
  have b1 := tk_lt (s := s) (t := 25 - leastS sort) (by omega)
  have hv1 := tk_val (t := 25 - leastS sort) hv
  generalize tk s (25 - leastS sort) = t1 at h1 b1 hv1
  obtain ⟨y, hy, s2, hv2, h2⟩ := one_ints (s := t1.2) (xs := [0, 1, 2, 3, 24, 25]) hv1 (by decide) (by decide)
  have hy : 0 ≤ y ∧ y ≤ 25 := by
    simp at hy
    omega
  obtain ⟨z, hz, s3, hv3, h3⟩ := one_ints (s := s2) (xs := [-1, 25, 1000000000]) hv2 (by decide) (by decide)
  have hz : -1 ≤ z ∧ z ≤ 1000000000 := by
    simp at hz
    omega
  obtain ⟨o, key, ho⟩ := for_inv (t := tgN 4) (P := b_law_2) D.int (fun z : SV × SV => [sc, sD s3, .im (.int sort), .im (.int (leastS sort)), z.1, z.2, a6, a7, a8]) (fun _ _ => True) (fun _ => False) [leastS sort + t1.1, y, z] 0 (a4, a5) trivial fun i x w hx hw => by
    have hxb : -10000000000 ≤ x ∧ x ≤ 10000000000 := by
      have := List.mem_of_getElem? hx
      simp at this
      omega
    obtain ⟨b5, h⟩ := law2_ok (sc := sc) (a1 := sD s3) (a5 := w.2) (a6 := a6) (a7 := a7) (a8 := a8) hs hxb
    exact ⟨_, _, rfl, h, .inl ⟨(.im (.int x), b5), .inl rfl, trivial⟩⟩
  rcases ho with ⟨⟨b4, b5⟩, rfl, _⟩ | hf
  · refine ⟨s3, .im (.int (leastS sort)), b4, b5, hv3, ?_⟩
    have e : (if sort = 2 then (3 : Int) else 1) = leastS sort := rfl
    have s1 : setC 3 (ifC (eqV false 2 (cC (.int 2))) (cC (.int 3)) (cC (.int 1))) [sc, sD s, .im (.int sort), a3, a4, a5, a6, a7, a8] = some (.nx [sc, sD s, .im (.int sort), .im (.int (leastS sort)), a4, a5, a6, a7, a8]) := by
      rcases hs with rfl | rfl | rfl <;> simp <;> rfl
    unfold b_law_3
    rw [seqS_, s1, sq_nx]
    generalize leastS sort = lst at *
    simp at h2 h3 key
    simp -implicitDefEqProofs [imS, h1, h2, h3, key]
  · exact hf.elim
/-! grids -/
theorem due_ok {w h : Int} : m__law_grid_due [.im (.int w), .im (.int h)] = some (.rt (if ¬ (1 ≤ w ∧ w ≤ 24) then .tup [.str "count", .int w] else if ¬ (1 ≤ h ∧ h ≤ 24) then .tup [.str "count", .int h] else if 24 < w * h then .tup [.str "size", .int (w * h)] else netT (w * h) (thr (w * h) 3 w)) []) := by
  have body : ∀ n : Int, ∀ v : SV, b__law_grid_due_1 [.im (.int w), .im (.int h), .im (.int n)] = if 1 ≤ n ∧ n ≤ 24 then some (.nx [.im (.int w), .im (.int h), .im (.int n)]) else some (.rt (.tup [.str "count", .int n]) [.im (.int w), .im (.int h), .im (.int n)]) := fun n v => by
    unfold b__law_grid_due_1
    by_cases c : 1 ≤ n
    · by_cases d : n ≤ 24
      · simp [c, d]
      · simp [c, d]
    · simp [c]
  have l1 : forL (tgN 2) b__law_grid_due_1 [.int w, .int h] [.im (.int w), .im (.int h), .un] = if ¬ (1 ≤ w ∧ w ≤ 24) then some (.rt (.tup [.str "count", .int w]) [.im (.int w), .im (.int h), .im (.int w)]) else if ¬ (1 ≤ h ∧ h ≤ 24) then some (.rt (.tup [.str "count", .int h]) [.im (.int w), .im (.int h), .im (.int h)]) else some (.nx [.im (.int w), .im (.int h), .im (.int h)]) := by
    rw [forL_cons (ρ1 := [.im (.int w), .im (.int h), .im (.int w)]) rfl, body w .un]
    by_cases c : 1 ≤ w ∧ w ≤ 24
    · rw [if_pos c, if_neg (fun z => z c)]
      show forL _ _ _ _ = _
      rw [forL_cons (ρ1 := [.im (.int w), .im (.int h), .im (.int h)]) rfl, body h .un]
      by_cases d : 1 ≤ h ∧ h ≤ 24
      · rw [if_pos d, if_neg (fun z => z d)]
        rfl
      · rw [if_neg d, if_pos d]
        rfl
    · rw [if_neg c, if_pos c]
      rfl
  by_cases c : 1 ≤ w ∧ w ≤ 24
  · by_cases d : 1 ≤ h ∧ h ≤ 24
    · rw [if_neg (fun z => z c), if_neg (fun z => z d)] at l1 ⊢
      have hmul : mulT (.int w) (.int h) = some (.int (w * h)) := by rw [mulT_int, mulD_int, if_pos (.inl (by omega))]
      have g0 : 0 ≤ w * h := Int.mul_nonneg (by omega) (by omega)
      by_cases e : 24 < w * h
      · rw [if_pos e]
        generalize w * h = W at *
        unfold m__law_grid_due
        simp -implicitDefEqProofs [l1, hmul, e]
      · rw [if_neg e]
        have ht := thr_ok (many := w * h) (sort := 3) (wide := w) (by omega) g0 (by omega)
        unfold netT
        generalize w * h = W at *
        unfold m__law_grid_due
        simp -implicitDefEqProofs [l1, hmul, e, imS, ht]
    · rw [if_neg (fun z => z c), if_pos d] at l1 ⊢
      unfold m__law_grid_due
      simp -implicitDefEqProofs [l1]
  · rw [if_pos c] at l1 ⊢
    unfold m__law_grid_due
    simp -implicitDefEqProofs [l1]
theorem grid_both {sc a1 a2 a3 a4 a5 a6 : SV} {w h : Int} (hw : -1000 ≤ w ∧ w ≤ 1000) (hh : -1000 ≤ h ∧ h ≤ 1000) :
    ∃ d, lamC m__law_told 2 (callK m_grid_net 2 [1, 0] (consA (varC 8) (consA (varC 7) nilA))) [sc, a1, a2, a3, a4, a5, a6, .im (.int w), .im (.int h)] = some (.ok d [sc, a1, a2, a3, a4, a5, a6, .im (.int w), .im (.int h)]) ∧ m__law_grid_due [.im (.int w), .im (.int h)] = some (.rt d []) ∧ repD d = some (.str d.da.shown) := by
  have hd := due_ok (w := w) (h := h)
  by_cases c : 1 ≤ w ∧ w ≤ 24
  · by_cases d : 1 ≤ h ∧ h ≤ 24
    · rw [if_neg (fun z => z c), if_neg (fun z => z d)] at hd
      by_cases e : 24 < w * h
      · rw [if_pos e] at hd
        have hg := grid_bad3 c.1 c.2 d.1 d.2 e
        have hb : w * h ≤ 24 * 24 := Int.mul_le_mul c.2 d.2 (by omega) (by decide)
        refine ⟨_, ?_, hd, rep_size (by omega)⟩
        generalize w * h = W at *
        rw [lamC_er (c := "BadSize") (d := .int W) (by simp -implicitDefEqProofs [imS, jsD, hg])]
        exact told_size
      · rw [if_neg e] at hd
        obtain ⟨hg, hn⟩ := grid_ok c.1 c.2 d.1 d.2 (by omega)
        refine ⟨_, ?_, hd, rep_nt hn⟩
        rw [lamC_ok (d := netD (w * h) (thr (w * h) 3 w)) (by simp -implicitDefEqProofs [imS, jsD, hg])]
        exact told_ok
    · rw [if_neg (fun z => z c), if_pos d] at hd
      have hg := grid_bad2 c.1 c.2 d
      refine ⟨_, ?_, hd, rep_count (by omega)⟩
      rw [lamC_er (c := "BadCount") (d := .int h) (by simp -implicitDefEqProofs [imS, jsD, hg])]
      exact told_count
  · rw [if_pos c] at hd
    have hg := grid_bad1 (h := h) c
    refine ⟨_, ?_, hd, rep_count (by omega)⟩
    rw [lamC_er (c := "BadCount") (d := .int w) (by simp -implicitDefEqProofs [imS, jsD, hg])]
    exact told_count
theorem law1_ok {sc a2 a3 a4 a5 a6 a7 a8 : SV} {s : List Int} (hv : Val s) :
    ∃ s' b7 b8, Val s' ∧ b_law_1 [sc, sD s, a2, a3, a4, a5, a6, a7, a8] = some (.nx [sc, sD s', a2, a3, a4, a5, a6, b7, b8]) := by
  have h1 := take_ok (s := s) (t := 24) hv (by decide) (by decide)
  have b1 := tk_lt (s := s) (t := 24) (by decide)
  have hv1 := tk_val (t := 24) hv
  generalize tk s 24 = t1 at h1 b1 hv1
  obtain ⟨w, hw, s2, hv2, h2⟩ := one_ints (s := t1.2) (xs := [1, 2, 3, 4, 5, 6, 8, 12, 24, 25, 0, -1, 1 + t1.1]) hv1 (by simp) (by simp)
  have hw : -1 ≤ w ∧ w ≤ 25 := by
    simp at hw
    omega
  have hm : 0 < max 1 w ∧ max 1 w < 1073741824 := by omega
  have hdv : 0 ≤ 24 / max 1 w ∧ 24 / max 1 w ≤ 24 := ⟨Int.ediv_nonneg (by decide) (by omega), Int.ediv_le_self _ (by decide)⟩
  have h3 := take_ok (s := s2) (t := 24) hv2 (by decide) (by decide)
  have b3 := tk_lt (s := s2) (t := 24) (by decide)
  have hv3 := tk_val (t := 24) hv2
  generalize tk s2 24 = t3 at h3 b3 hv3
  have hfd : fdivD (.int 24) (.int (max 1 w)) = some (.int (24 / max 1 w)) := by rw [fdivD_int, if_pos hm]
  generalize 24 / max 1 w = q at hdv hfd
  obtain ⟨h, hh, s4, hv4, h4⟩ := one_ints (s := t3.2) (xs := [1, 2, 3, 4, q, q + 1, 24, 25, 0, 1 + t3.1]) hv3 (by simp) (by simp)
  have hh : 0 ≤ h ∧ h ≤ 25 := by
    simp at hh
    omega
  obtain ⟨d, g1, g2, g3⟩ := grid_both (sc := sc) (a1 := sD s4) (a2 := a2) (a3 := a3) (a4 := a4) (a5 := a5) (a6 := a6) (w := w) (h := h) (by omega) (by omega)
  refine ⟨s4, .im (.int w), .im (.int h), hv4, ?_⟩
  simp at h2 h4
  unfold b_law_1
  rw [seqS_]
  have s1 : setC 7 (c1C m__law_one 1 (consA (frzC (lstC (consA (cC (.int 1)) (consA (cC (.int 2)) (consA (cC (.int 3)) (consA (cC (.int 4)) (consA (cC (.int 5)) (consA (cC (.int 6)) (consA (cC (.int 8)) (consA (cC (.int 12)) (consA (cC (.int 24)) (consA (cC (.int 25)) (consA (cC (.int 0)) (consA (mapC negD (cC (.int 1))) (consA (binC addE (cC (.int 1)) (c1C m__law_take 1 (consA (cC (.int 24)) nilA))) nilA))))))))))))))) nilA)) [sc, sD s, a2, a3, a4, a5, a6, a7, a8] = some (.nx [sc, sD s2, a2, a3, a4, a5, a6, .im (.int w), a8]) := by
    simp -implicitDefEqProofs [imS, h1, h2]
  rw [s1, sq_nx]
  have s2' : setC 8 (c1C m__law_one 1 (consA (frzC (lstC (consA (cC (.int 1)) (consA (cC (.int 2)) (consA (cC (.int 3)) (consA (cC (.int 4)) (consA (binC fdivD (cC (.int 24)) (binC maxD (cC (.int 1)) (varC 7))) (consA (binC addE (binC fdivD (cC (.int 24)) (binC maxD (cC (.int 1)) (varC 7))) (cC (.int 1))) (consA (cC (.int 24)) (consA (cC (.int 25)) (consA (cC (.int 0)) (consA (binC addE (cC (.int 1)) (c1C m__law_take 1 (consA (cC (.int 24)) nilA))) nilA)))))))))))) nilA)) [sc, sD s2, a2, a3, a4, a5, a6, .im (.int w), a8] = some (.nx [sc, sD s4, a2, a3, a4, a5, a6, .im (.int w), .im (.int h)]) := by
    simp -implicitDefEqProofs [-fdivD_int, hfd, imS, h3, h4]
  rw [seqS_, s2', sq_nx]
  simp -implicitDefEqProofs [g1, imS, g2, g3]
theorem law_true : ∀ l : List Int, l.length ≤ 63 → m_law [.im (.lsr (l.map D.int))] = some (.rt (.bl true) []) := fun l hl => by
  have hp := pool_ok (l := l) (k := 0) hl (by decide) (by decide)
  have hv0 := pool_val l 0
  generalize poolM l 0 = s0 at hp hv0
  obtain ⟨o, k1, ho⟩ := for_inv (t := tgN 2) (P := b_law_3) D.int (fun z : List Int × SV × SV × SV × SV => [.im (.lsr (l.map D.int)), sD z.1, z.2.1, z.2.2.1, z.2.2.2.1, z.2.2.2.2, .un, .un, .un]) (fun _ z => Val z.1) (fun _ => False) (rng 0 3) 0 (s0, .un, .un, .un, .un) hv0 fun i x z hx hz => by
    obtain ⟨rfl, hi⟩ := rng_val hx
    obtain ⟨s', b3, b4, b5, h1, h2⟩ := law3_ok (sc := .im (.lsr (l.map D.int))) (a3 := z.2.2.1) (a4 := z.2.2.2.1) (a5 := z.2.2.2.2) (a6 := .un) (a7 := .un) (a8 := .un) (sort := 0 + (i : Int)) hz (by omega)
    exact ⟨_, _, rfl, h2, .inl ⟨(s', .im (.int (0 + i)), b3, b4, b5), .inl rfl, h1⟩⟩
  rcases ho with ⟨⟨s1, a2, a3, a4, a5⟩, rfl, hv1⟩ | hf
  · obtain ⟨o, k2, ho⟩ := for_inv (t := tgN 6) (P := b_law_1) D.int (fun z : List Int × SV × SV × SV => [.im (.lsr (l.map D.int)), sD z.1, a2, a3, a4, a5, z.2.1, z.2.2.1, z.2.2.2]) (fun _ z => Val z.1) (fun _ => False) (rng 0 4) 0 (s1, .un, .un, .un) hv1 fun i x z hx hz => by
      obtain ⟨s', b7, b8, h1, h2⟩ := law1_ok (sc := .im (.lsr (l.map D.int))) (a2 := a2) (a3 := a3) (a4 := a4) (a5 := a5) (a6 := .im (.int x)) (a7 := z.2.2.1) (a8 := z.2.2.2) hz
      exact ⟨_, _, rfl, h2, .inl ⟨(s', .im (.int x), b7, b8), .inl rfl, h1⟩⟩
    rcases ho with ⟨⟨s2, a6, a7, a8⟩, rfl, hv2⟩ | hf
    · simp at k1 k2
      unfold m_law
      simp -implicitDefEqProofs [imS, hp, k1, k2]
    · exact hf.elim
  · exact hf.elim
end BC

namespace BC
open PySem PySem.Spec PyProof.Rows L2
variable [TabL]
def topS (i : Nat) : Stmt := PySem.Challenge.pw_betweencoats_k04_told_nets.main.body.getD i (.Pass ⟨0, 0, 0, 0⟩)
abbrev s__law_pool : Stmt := topS 27
theorem sc__law_pool : FnScope ["script", "k", "cell", "big", "mixed"] ["script", "k"] (defScope s__law_pool) := ⟨rfl, rfl, rfl, by decide +kernel, rfl, by decide +kernel, by decide +kernel⟩
section
variable {P : Program} {w : World} {K : PySem.W.Frag} {mg : Str → Option Value} {base : Heap}
theorem ok__law_pool {f : Addr} {fd : FuncData} (F : Fun K "_law_pool" "_law_pool" s__law_pool f fd) (B : Blt mg) : FnG P w K mg base 1 f fd ["script", "k"] (spC K 2 m__law_pool) :=
  fn_c F sc__law_pool rfl rfl fun cdv hcd Ar outer s H E hr =>
  (cs_cons (cs_set 2 ce_int sc__law_pool.nd)
  (cs_cons (cs_if (cb_cmp lt_ok (nomark _) (ce_var 1) (ce_lenV 0 B.len)) (cs_one (cs_set 2 (ce_ixV 0 (ce_var 1)) sc__law_pool.nd)) (cs_one (cs_if (cb_tru (ce_var 0)) (cs_one (cs_set 2 (ce_ixV 0 ce_int) sc__law_pool.nd)) cs_nil)))
  (cs_cons (cs_set 3 (ce_max2 rfl (ce_intof (ce_var 2) B.int) (ce_intof (ce_sub (ce_neg ce_int) (ce_var 2)) B.int) B.max) sc__law_pool.nd)
  (cs_cons (cs_set 4 (ce_mod (ce_intof (ce_mulT (ce_addE (ce_addE (ce_addE (ce_mod (ce_intof (ce_var 3) B.int) ce_int) (ce_mulT (ce_mulT ce_int (ce_var 1)) (ce_var 1))) (ce_mulT ce_int (ce_var 1))) ce_int) ce_int) B.int) ce_int) sc__law_pool.nd)
  (cs_one (cs_retL (cl_lst (ca_cons (ce_mulT (ce_var 3) (ce_intof (ce_cmp ge_ok (nomark _) (ce_var 3) (ce_pow ce_int ce_int)) B.int)) (ca_cons (ce_var 4) ca_nil)))))))))
end

abbrev s__law_take : Stmt := topS 28
theorem sc__law_take : FnScope ["source", "top", "drawn"] ["source", "top"] (defScope s__law_take) := ⟨rfl, rfl, rfl, by decide +kernel, rfl, by decide +kernel, by decide +kernel⟩
section
variable {P : Program} {w : World} {K : PySem.W.Frag} {mg : Str → Option Value} {base : Heap}
theorem ok__law_take {f : Addr} {fd : FuncData} (F : Fun K "_law_take" "_law_take" s__law_take f fd) (B : Blt mg) : FnG P w K mg base 1 f fd ["source", "top"] (spC K 2 m__law_take) :=
  fn_c F sc__law_take rfl rfl fun cdv hcd Ar outer s H E hr =>
  (cs_cons (cs_if (cb_cmp gt_ok (nomark _) (ce_ixV 0 ce_int) ce_int) (cs_cons (cs_set 2 (ce_mod (ce_intof (ce_ixV 0 ce_int) B.int) (ce_var 1)) sc__law_take.nd)
  (cs_cons (cs_setI 0 ce_int (ce_fdiv (ce_ixV 0 ce_int) (ce_var 1)))
  (cs_one (cs_ret (ce_var 2))))) cs_nil)
  (cs_cons (cs_setI 0 ce_int (ce_mod (ce_intof (ce_addE (ce_mulT (ce_ixV 0 ce_int) ce_int) ce_int) B.int) ce_int))
  (cs_one (cs_ret (ce_mod (ce_intof (ce_fdiv (ce_mod (ce_intof (ce_mulT (ce_ixV 0 ce_int) (ce_ixV 0 ce_int)) B.int) ce_int) ce_int) B.int) (ce_var 1))))))
end

abbrev s__law_one : Stmt := topS 29
theorem sc__law_one : FnScope ["source", "things"] ["source", "things"] (defScope s__law_one) := ⟨rfl, rfl, rfl, by decide +kernel, rfl, by decide +kernel, by decide +kernel⟩
section
variable {P : Program} {w : World} {K : PySem.W.Frag} {mg : Str → Option Value} {base : Heap}
theorem ok__law_one {f : Addr} {fd : FuncData} (F : Fun K "_law_one" "_law_one" s__law_one f fd) (B : Blt mg) (d__law_take : Def P w K mg base "_law_take" 1 ["source", "top"] (spC K 2 m__law_take)) : FnG P w K mg base 2 f fd ["source", "things"] (spC K 2 m__law_one) :=
  fn_c F sc__law_one rfl rfl fun cdv hcd Ar outer s H E hr =>
  (cs_one (cs_ret (ce_ixV 1 (ce_call1 0 d__law_take l__law_take (hr.mono (by decide)) (takes_of rfl rfl rfl rfl) (ca_cons (ce_lenV 1 B.len) ca_nil)))))
end

abbrev s__law_told : Stmt := topS 31
theorem sc__law_told : FnScope ["deed", "net", "e"] ["deed"] (defScope s__law_told) := ⟨rfl, rfl, rfl, by decide +kernel, rfl, by decide +kernel, by decide +kernel⟩
section
variable {P : Program} {w : World} {K : PySem.W.Frag} {mg : Str → Option Value} {base : Heap}
theorem ok__law_told {f : Addr} {fd : FuncData} (F : Fun K "_law_told" "_law_told" s__law_told f fd) (B : Blt mg) {cR : Addr} (gR : mg "Refused" = some (.ref cR)) (eS : ErS K cR ns__law_told) (eT : ∀ c ∈ ns__law_told, ∃ D' fI, PySem.RefX.ClsTxt K D' fI (cK K c) ∧ IsTxt K (cK K c)) (KBadSize : IsiK K mg ns__law_told "BadSize") (KBadCount : IsiK K mg ns__law_told "BadCount") (hm : mg "_law_told" = some (.ref f)) (hk : PySem.W.keepIn K (.ref f) = true) (hb : Binds K fd ["deed"] []) : TDef P w K mg base "_law_told" 0 2 "deed" m__law_told :=
  ⟨f, fd, s__law_told, ["deed", "net", "e"], F, hm, hk, hb, sc__law_told, rfl, (by first | exact Or.inl rfl | exact Or.inr (Or.inl rfl)), by decide, by decide, rfl, fun cdv Ar outer s H fs dd hr act =>
  (cs_cons (cs_try 2 rfl rfl sc__law_told.nd ⟨rfl, by decide, .inl gR⟩ takesW0 eS (fun _ _ _ t1 t2 => (cs_one (cs_set 1 (act _ _ _ _ _ _ rfl t1) sc__law_told.nd))) (fun a oe d pn c hcn hz hf => by obtain ⟨D', fI, Tc, It⟩ := eT c hcn; exact (cs_cons (cs_if (cb_val (ce_isiE2 (xa := ⟨a, d, c, _⟩) 2 Tc It hz hf KBadCount B.isinstance)) (cs_one (cs_ret (ce_tup (ca_cons (ce_if (cb_val (ce_isiE2 (xa := ⟨a, d, c, _⟩) 2 Tc It hz hf KBadSize B.isinstance)) ce_str ce_str) (ca_cons (ce_what (xa := ⟨a, d, c, _⟩) 2 Tc hz hf) ca_nil))))) cs_nil)
  (cs_one (cs_ret (ce_tup (ca_cons (ce_if (cb_val (ce_isiE2 (xa := ⟨a, d, c, _⟩) 2 Tc It hz hf KBadSize B.isinstance)) ce_str ce_str) (ca_cons (ce_what (xa := ⟨a, d, c, _⟩) 2 Tc hz hf) ca_nil))))))))
  (cs_one (cs_ret (ce_tup (ca_cons (ce_fld (ce_var 1)) (ca_cons (ce_fld (ce_var 1)) ca_nil))))))⟩
end

abbrev s__law_threads : Stmt := topS 30
theorem sc__law_threads : FnScope ["many", "sort", "wide", "found", "x", "y", "is_next"] ["many", "sort", "wide"] (defScope s__law_threads) := ⟨rfl, rfl, rfl, by decide +kernel, rfl, by decide +kernel, by decide +kernel⟩
section
variable {P : Program} {w : World} {K : PySem.W.Frag} {mg : Str → Option Value} {base : Heap}
theorem ok__law_threads {f : Addr} {fd : FuncData} (F : Fun K "_law_threads" "_law_threads" s__law_threads f fd) (B : Blt mg) : FnG P w K mg base 1 f fd ["many", "sort", "wide"] (spC K 3 m__law_threads) :=
  fn_c F sc__law_threads rfl rfl fun cdv hcd Ar outer s H E hr =>
  (cs_cons (cs_own 3 (cl_lst ca_nil) sc__law_threads.nd)
  (cs_cons (cs_for (passes_of rfl) rfl (ci_rng1 (We := W0) (ce_var 0) B.range) (cg_name 4 sc__law_threads.nd) (cs_one (cs_for (passes_of rfl) rfl (ci_rng2 (We := W0) (ce_addE (ce_var 4) ce_int) (ce_var 0) B.range) (cg_name 5 sc__law_threads.nd) (cs_cons (cs_set 6 (ce_and (ce_eqV (neg := false) 5 hr (ce_addE (ce_var 4) ce_int)) (ce_one (ce_or (ce_eqV (neg := true) 1 hr ce_int) (ce_one (ce_cmp (eq_ok hr) (nomark _) (ce_fdiv (ce_var 5) (ce_var 2)) (ce_fdiv (ce_var 4) (ce_var 2))))))) sc__law_threads.nd)
  (cs_one (cs_if (cb_w (cw_or (cb_w (cw_and (cb_eqV (neg := false) 1 hr ce_int) (cw_and1 (cb_eqV (neg := false) 4 hr ce_int)))) (cw_or (cb_w (cw_and (cb_eqV (neg := true) 1 hr ce_int) (cw_and1 (cb_tru (ce_var 6))))) (cw_or (cb_w (cw_and (cb_eqV (neg := false) 1 hr ce_int) (cw_and (cb_eqV (neg := false) 4 hr ce_int) (cw_and1 (cb_eqV (neg := false) 5 hr (ce_sub (ce_var 0) ce_int)))))) (cw_or1 (cb_w (cw_and (cb_eqV (neg := false) 1 hr ce_int) (cw_and1 (cb_eqV (neg := false) 5 hr (ce_addE (ce_var 4) (ce_var 2))))))))))) (cs_one (cs_append 3 (ce_tup (ca_cons (ce_var 4) (ca_cons (ce_var 5) ca_nil))))) cs_nil))))))
  (cs_one (cs_ret (ce_tupleV 3 B.tuple)))))
end

abbrev s__law_grid_due : Stmt := topS 33
theorem sc__law_grid_due : FnScope ["w", "h", "n"] ["w", "h"] (defScope s__law_grid_due) := ⟨rfl, rfl, rfl, by decide +kernel, rfl, by decide +kernel, by decide +kernel⟩
section
variable {P : Program} {w : World} {K : PySem.W.Frag} {mg : Str → Option Value} {base : Heap}
theorem ok__law_grid_due {f : Addr} {fd : FuncData} (F : Fun K "_law_grid_due" "_law_grid_due" s__law_grid_due f fd) (B : Blt mg) (d__law_threads : Def P w K mg base "_law_threads" 1 ["many", "sort", "wide"] (spC K 3 m__law_threads)) : FnG P w K mg base 2 f fd ["w", "h"] (spC K 2 m__law_grid_due) :=
  fn_c F sc__law_grid_due rfl rfl fun cdv hcd Ar outer s H E hr =>
  (cs_cons (cs_for (passes_of rfl) rfl (ci_seq (We := W0) (ce_frz (cl_lst (ca_cons (ce_var 0) (ca_cons (ce_var 1) ca_nil))))) (cg_name 2 sc__law_grid_due.nd) (cs_one (cs_if (cb_not (cb_ch (leE_ok hr) (leE_ok hr) ce_int (ce_var 2) ce_int)) (cs_one (cs_ret (ce_tup (ca_cons ce_str (ca_cons (ce_var 2) ca_nil))))) cs_nil)))
  (cs_one (cs_ret (ce_if (cb_cmp gt_ok (nomark _) (ce_mulT (ce_var 0) (ce_var 1)) ce_int) (ce_tup (ca_cons ce_str (ca_cons (ce_mulT (ce_var 0) (ce_var 1)) ca_nil))) (ce_tup (ca_cons (ce_mulT (ce_var 0) (ce_var 1)) (ca_cons (ce_call d__law_threads l__law_threads (hr.mono (by decide)) (takes_of rfl rfl rfl rfl) (ca_cons (ce_mulT (ce_var 0) (ce_var 1)) (ca_cons ce_int (ca_cons (ce_var 0) ca_nil)))) ca_nil)))))))
end

abbrev s_want_count : Stmt := topS 21
theorem sc_want_count : FnScope ["count", "least"] ["count", "least"] (defScope s_want_count) := ⟨rfl, rfl, rfl, by decide +kernel, rfl, by decide +kernel, by decide +kernel⟩
section
variable {P : Program} {w : World} {K : PySem.W.Frag} {mg : Str → Option Value} {base : Heap}
theorem ok_want_count {f : Addr} {fd : FuncData} (F : FunX K "want_count" "want_count" s_want_count f fd) (B : Blt mg) (GMOST_PLACES : ∃ t, mg "MOST_PLACES" = some (.int 24 t)) (TBadCount : ErC P K mg "BadCount") : FnG P w K mg base 3 f fd ["count", "least"] (spC K 2 m_want_count) :=
  fn_cX F sc_want_count rfl rfl fun cdv hcd Ar outer s H E hr =>
  (cs_one (cs_if (cb_not (cb_ch (leE_ok hr) (leE_ok hr) (ce_var 1) (ce_var 0) (ce_gint GMOST_PLACES))) (cs_one (cs_raise TBadCount rfl (takes_of rfl rfl rfl rfl) hr (ce_var 0))) cs_nil))
end

abbrev s_near_of : Stmt := topS 16
theorem sc_near_of : FnScope ["many", "threads", "found", "place", "x", "y", "places"] ["many", "threads"] (defScope s_near_of) := ⟨rfl, rfl, rfl, by decide +kernel, rfl, by decide +kernel, by decide +kernel⟩
section
variable {P : Program} {w : World} {K : PySem.W.Frag} {mg : Str → Option Value} {base : Heap}
theorem ok_near_of {f : Addr} {fd : FuncData} (F : Fun K "near_of" "near_of" s_near_of f fd) (B : Blt mg) : FnG P w K mg base 1 f fd ["many", "threads"] (spC K 2 m_near_of) :=
  fn_c F sc_near_of rfl rfl fun cdv hcd Ar outer s H E hr =>
  (cs_cons (cs_own2Lc 2 3 rfl sc_near_of.nd (ci_rng1 (We := W0) (ce_var 0) B.range) (own' := [("place", 3)]) (blkOk_by rfl) rfl (fun _ _ _ _ _ => (cg_name 3 sc_near_of.nd)))
  (cs_cons (cs_for (passes_of rfl) rfl (ci_seq (We := W0) (ce_var 1)) (cg_pair rfl (cg_name 4 sc_near_of.nd) (cg_name 5 sc_near_of.nd)) (cs_cons (cs_appN 2 4 5)
  (cs_one (cs_appN 2 5 4))))
  (cs_one (cs_ret (ce_tuple (ce_frz (cl_lc rfl sc_near_of.nd (ci_seq (We := W0) (ce_var 2)) (own' := [("places", 6)]) (blkOk_by rfl) rfl (fun _ _ _ _ _ => (cg_name 6 sc_near_of.nd)) (fun _ _ _ _ _ => ct_nil) (fun _ _ _ _ _ => (ce_tuple (ce_frz (cl_sortedA (ce_var 6) B.sorted)) B.tuple)))) B.tuple)))))
end

abbrev s_met_from : Stmt := topS 17
theorem sc_met_from : FnScope ["near", "first", "found", "at", "other"] ["near", "first"] (defScope s_met_from) := ⟨rfl, rfl, rfl, by decide +kernel, rfl, by decide +kernel, by decide +kernel⟩
section
variable {P : Program} {w : World} {K : PySem.W.Frag} {mg : Str → Option Value} {base : Heap}
theorem ok_met_from {f : Addr} {fd : FuncData} (F : Fun K "met_from" "met_from" s_met_from f fd) (B : Blt mg) : FnG P w K mg base 1 f fd ["near", "first"] (spC K 2 m_met_from) :=
  fn_c F sc_met_from rfl rfl fun cdv hcd Ar outer s H E hr =>
  (cs_cons (cs_parLE 2 3 rfl sc_met_from.nd (cl_lst (ca_cons (ce_var 1) ca_nil)) ce_int)
  (cs_cons (cs_while (passes_of rfl) (cb_cmp lt_ok (nomark _) (ce_var 3) (ce_lenV 2 B.len)) (cs_cons (cs_for (passes_of rfl) rfl (ci_seq (We := W0) (ce_ixV 0 (ce_ixV 2 (ce_var 3)))) (cg_name 4 sc_met_from.nd) (cs_one (cs_if (cb_inV (neg := true) 2 hr (ce_var 4)) (cs_one (cs_append 2 (ce_var 4))) cs_nil)))
  (cs_one (cs_set 3 (ce_addE (ce_var 3) ce_int) sc_met_from.nd))))
  (cs_one (cs_ret (ce_var 2)))))
end

abbrev s_is_number : Stmt := topS 7
theorem sc_is_number : FnScope ["thing"] ["thing"] (defScope s_is_number) := ⟨rfl, rfl, rfl, by decide +kernel, rfl, by decide +kernel, by decide +kernel⟩
section
variable {P : Program} {w : World} {K : PySem.W.Frag} {mg : Str → Option Value} {base : Heap}
theorem ok_is_number {f : Addr} {fd : FuncData} (F : Fun K "is_number" "is_number" s_is_number f fd) (B : Blt mg) : FnG P w K mg base 1 f fd ["thing"] (spC K 1 m_is_number) :=
  fn_c F sc_is_number rfl rfl fun cdv hcd Ar outer s H E hr =>
  (cs_one (cs_ret (ce_and (ce_isi "int" (ce_var 0) B.isinstance B.int) (ce_one (ce_not (ce_isi "bool" (ce_var 0) B.isinstance B.bool))))))
end

abbrev s_is_within : Stmt := topS 9
theorem sc_is_within : FnScope ["thing", "many"] ["thing", "many"] (defScope s_is_within) := ⟨rfl, rfl, rfl, by decide +kernel, rfl, by decide +kernel, by decide +kernel⟩
section
variable {P : Program} {w : World} {K : PySem.W.Frag} {mg : Str → Option Value} {base : Heap}
theorem ok_is_within {f : Addr} {fd : FuncData} (F : Fun K "is_within" "is_within" s_is_within f fd) (B : Blt mg) (d_is_number : Def P w K mg base "is_number" 1 ["thing"] (spC K 1 m_is_number)) : FnG P w K mg base 2 f fd ["thing", "many"] (spC K 2 m_is_within) :=
  fn_c F sc_is_within rfl rfl fun cdv hcd Ar outer s H E hr =>
  (cs_one (cs_ret (ce_and (ce_bool (ce_call d_is_number l_is_number (hr.mono (by decide)) (takes_of rfl rfl rfl rfl) (ca_cons (ce_var 0) ca_nil))) (ce_one (ce_ch (leE_ok hr) lt_ok ce_int (ce_var 0) (ce_var 1))))))
end

abbrev s_is_rising : Stmt := topS 10
theorem sc_is_rising : FnScope ["row", "many", "at", "thing"] ["row", "many"] (defScope s_is_rising) := ⟨rfl, rfl, rfl, by decide +kernel, rfl, by decide +kernel, by decide +kernel⟩
section
variable {P : Program} {w : World} {K : PySem.W.Frag} {mg : Str → Option Value} {base : Heap}
theorem ok_is_rising {f : Addr} {fd : FuncData} (F : Fun K "is_rising" "is_rising" s_is_rising f fd) (B : Blt mg) (d_is_within : Def P w K mg base "is_within" 2 ["thing", "many"] (spC K 2 m_is_within)) : FnG P w K mg base 3 f fd ["row", "many"] (spC K 2 m_is_rising) :=
  fn_c F sc_is_rising rfl rfl fun cdv hcd Ar outer s H E hr =>
  (cs_cons (cs_for (passes_of rfl) rfl (ci_enu (We := W0) (ce_var 0) B.enumerate) (cg_pair rfl (cg_name 2 sc_is_rising.nd) (cg_name 3 sc_is_rising.nd)) (cs_one (cs_if (cb_w (cw_or (cb_not (cb_tru (ce_call d_is_within l_is_within (hr.mono (by decide)) (takes_of rfl rfl rfl rfl) (ca_cons (ce_var 3) (ca_cons (ce_var 1) ca_nil))))) (cw_or1 (cb_w (cw_and (cb_cmp gt_ok (nomark _) (ce_var 2) ce_int) (cw_and1 (cb_cmp (leE_ok hr) (nomark _) (ce_var 3) (ce_ixV 0 (ce_sub (ce_var 2) ce_int))))))))) (cs_one (cs_ret ce_bl)) cs_nil)))
  (cs_one (cs_ret ce_bl)))
end

abbrev s_is_thread : Stmt := topS 15
theorem sc_is_thread : FnScope ["thing", "many"] ["thing", "many"] (defScope s_is_thread) := ⟨rfl, rfl, rfl, by decide +kernel, rfl, by decide +kernel, by decide +kernel⟩
section
variable {P : Program} {w : World} {K : PySem.W.Frag} {mg : Str → Option Value} {base : Heap}
theorem ok_is_thread {f : Addr} {fd : FuncData} (F : Fun K "is_thread" "is_thread" s_is_thread f fd) (B : Blt mg) (d_is_rising : Def P w K mg base "is_rising" 3 ["row", "many"] (spC K 2 m_is_rising)) : FnG P w K mg base 4 f fd ["thing", "many"] (spC K 2 m_is_thread) :=
  fn_c F sc_is_thread rfl rfl fun cdv hcd Ar outer s H E hr =>
  (cs_one (cs_ret (ce_and (ce_isi "tuple" (ce_var 0) B.isinstance B.tuple) (ce_and (ce_cmp (eq_ok hr) (nomark _) (ce_lenV 0 B.len) ce_int) (ce_one (ce_bool (ce_call d_is_rising l_is_rising (hr.mono (by decide)) (takes_of rfl rfl rfl rfl) (ca_cons (ce_var 0) (ca_cons (ce_var 1) ca_nil)))))))))
end

abbrev s_made_net : Stmt := topS 18
theorem sc_made_net : FnScope ["many", "threads", "at", "thread", "near", "met", "place"] ["many", "threads"] (defScope s_made_net) := ⟨rfl, rfl, rfl, by decide +kernel, rfl, by decide +kernel, by decide +kernel⟩
section
variable {P : Program} {w : World} {K : PySem.W.Frag} {mg : Str → Option Value} {base : Heap}
theorem ok_made_net {f : Addr} {fd : FuncData} (F : Fun K "made_net" "made_net" s_made_net f fd) (B : Blt mg) (d_met_from : Def P w K mg base "met_from" 1 ["near", "first"] (spC K 2 m_met_from)) (d_near_of : Def P w K mg base "near_of" 1 ["many", "threads"] (spC K 2 m_near_of)) (d_is_thread : Def P w K mg base "is_thread" 4 ["thing", "many"] (spC K 2 m_is_thread)) (GMOST_THREADS : ∃ t, mg "MOST_THREADS" = some (.int 60 t)) (GMOST_PLACES : ∃ t, mg "MOST_PLACES" = some (.int 24 t)) (TParted : ErC P K mg "Parted") (TBadNet : ErC P K mg "BadNet") (TBadSize : ErC P K mg "BadSize") (NNet : ClD P w K mg base "Net" ["many", "threads", "near"] 1) : FnG P w K mg base 5 f fd ["many", "threads"] (spC K 2 m_made_net) :=
  fn_c F sc_made_net rfl rfl fun cdv hcd Ar outer s H E hr =>
  (cs_cons (cs_if (cb_not (cb_ch (leE_ok hr) (leE_ok hr) ce_int (ce_var 0) (ce_gint GMOST_PLACES))) (cs_one (cs_raise TBadSize rfl (takes_of rfl rfl rfl rfl) hr (ce_var 0))) cs_nil)
  (cs_cons (cs_if (cb_cmp gt_ok (nomark _) (ce_lenV 1 B.len) (ce_gint GMOST_THREADS)) (cs_one (cs_raise TBadSize rfl (takes_of rfl rfl rfl rfl) hr (ce_lenV 1 B.len))) cs_nil)
  (cs_cons (cs_for (passes_of rfl) rfl (ci_enu (We := W0) (ce_var 1) B.enumerate) (cg_pair rfl (cg_name 2 sc_made_net.nd) (cg_name 3 sc_made_net.nd)) (cs_one (cs_if (cb_w (cw_or (cb_not (cb_tru (ce_call d_is_thread l_is_thread (hr.mono (by decide)) (takes_of rfl rfl rfl rfl) (ca_cons (ce_var 3) (ca_cons (ce_var 0) ca_nil))))) (cw_or1 (cb_w (cw_and (cb_cmp gt_ok (nomark _) (ce_var 2) ce_int) (cw_and1 (cb_cmp (leE_ok hr) (nomark _) (ce_var 3) (ce_ixV 1 (ce_sub (ce_var 2) ce_int))))))))) (cs_one (cs_raise TBadNet rfl (takes_of rfl rfl rfl rfl) hr (ce_var 2))) cs_nil)))
  (cs_cons (cs_set 4 (ce_call d_near_of l_near_of (hr.mono (by decide)) (takes_of rfl rfl rfl rfl) (ca_cons (ce_var 0) (ca_cons (ce_var 1) ca_nil))) sc_made_net.nd)
  (cs_cons (cs_set 5 (ce_call d_met_from l_met_from (hr.mono (by decide)) (takes_of rfl rfl rfl rfl) (ca_cons (ce_var 4) (ca_cons ce_int ca_nil))) sc_made_net.nd)
  (cs_cons (cs_for (passes_of rfl) rfl (ci_rng1 (We := W0) (ce_var 0) B.range) (cg_name 6 sc_made_net.nd) (cs_one (cs_if (cb_inV (neg := true) 5 hr (ce_var 6)) (cs_one (cs_raise TParted rfl (takes_of rfl rfl rfl rfl) hr (ce_var 6))) cs_nil)))
  (cs_one (cs_ret (ce_new NNet hr (by decide) (ca_cons (ce_var 0) (ca_cons (ce_tupleV 1 B.tuple) (ca_cons (ce_var 4) ca_nil))))))))))))
end

abbrev kb_grid_net : List (List Str × Nat × List Nat) := [(["h", "w"], 0, [1, 0])]
theorem kbm_grid_net_0 : ((["h", "w"] : List Str), (0 : Nat), ([1, 0] : List Nat)) ∈ kb_grid_net := (List.Mem.head _)
abbrev s_grid_net : Stmt := topS 25
theorem sc_grid_net : FnScope ["w", "h", "threads", "place"] ["w", "h"] (defScope s_grid_net) := ⟨rfl, rfl, rfl, by decide +kernel, rfl, by decide +kernel, by decide +kernel⟩
section
variable {P : Program} {w : World} {K : PySem.W.Frag} {mg : Str → Option Value} {base : Heap}
theorem ok_grid_net {f : Addr} {fd : FuncData} (F : Fun K "grid_net" "grid_net" s_grid_net f fd) (B : Blt mg) (d_made_net : Def P w K mg base "made_net" 5 ["many", "threads"] (spC K 2 m_made_net)) (d_want_count : DefD P w K mg base "want_count" 3 ["count", "least"] (spC K 2 m_want_count) [.int (1)]) (GMOST_PLACES : ∃ t, mg "MOST_PLACES" = some (.int 24 t)) (TBadSize : ErC P K mg "BadSize") : FnG P w K mg base 6 f fd ["w", "h"] (spC K 2 m_grid_net) :=
  fn_c F sc_grid_net rfl rfl fun cdv hcd Ar outer s H E hr =>
  (cs_cons (cs_expr (ce_callD d_want_count l_want_count (hr.mono (by decide)) (takes_of rfl rfl rfl rfl) (fun _ => ⟨_, _, rfl, rfl, rfl⟩) (ca_cons (ce_var 0) ca_nil)))
  (cs_cons (cs_expr (ce_callD d_want_count l_want_count (hr.mono (by decide)) (takes_of rfl rfl rfl rfl) (fun _ => ⟨_, _, rfl, rfl, rfl⟩) (ca_cons (ce_var 1) ca_nil)))
  (cs_cons (cs_if (cb_cmp gt_ok (nomark _) (ce_mulT (ce_var 0) (ce_var 1)) (ce_gint GMOST_PLACES)) (cs_one (cs_raise TBadSize rfl (takes_of rfl rfl rfl rfl) hr (ce_mulT (ce_var 0) (ce_var 1)))) cs_nil)
  (cs_cons (cs_own 2 (cl_lst ca_nil) sc_grid_net.nd)
  (cs_cons (cs_for (passes_of rfl) rfl (ci_rng1 (We := W0) (ce_mulT (ce_var 0) (ce_var 1)) B.range) (cg_name 3 sc_grid_net.nd) (cs_cons (cs_if (cb_cmp lt_ok (nomark _) (ce_mod (ce_var 3) (ce_var 0)) (ce_sub (ce_var 0) ce_int)) (cs_one (cs_append 2 (ce_tup (ca_cons (ce_var 3) (ca_cons (ce_addE (ce_var 3) ce_int) ca_nil))))) cs_nil)
  (cs_one (cs_if (cb_cmp lt_ok (nomark _) (ce_addE (ce_var 3) (ce_var 0)) (ce_mulT (ce_var 0) (ce_var 1))) (cs_one (cs_append 2 (ce_tup (ca_cons (ce_var 3) (ca_cons (ce_addE (ce_var 3) (ce_var 0)) ca_nil))))) cs_nil))))
  (cs_one (cs_ret (ce_call d_made_net l_made_net (hr.mono (by decide)) (takes_of rfl rfl rfl rfl) (ca_cons (ce_mulT (ce_var 0) (ce_var 1)) (ca_cons (ce_tupleV 2 B.tuple) ca_nil))))))))))
end

abbrev kb_line_net : List (List Str × Nat × List Nat) := [(["n"], 0, [0])]
theorem kbm_line_net_0 : ((["n"] : List Str), (0 : Nat), ([0] : List Nat)) ∈ kb_line_net := (List.Mem.head _)
abbrev s_line_net : Stmt := topS 22
theorem sc_line_net : FnScope ["n", "place"] ["n"] (defScope s_line_net) := ⟨rfl, rfl, rfl, by decide +kernel, rfl, by decide +kernel, by decide +kernel⟩
section
variable {P : Program} {w : World} {K : PySem.W.Frag} {mg : Str → Option Value} {base : Heap}
theorem ok_line_net {f : Addr} {fd : FuncData} (F : Fun K "line_net" "line_net" s_line_net f fd) (B : Blt mg) (d_made_net : Def P w K mg base "made_net" 5 ["many", "threads"] (spC K 2 m_made_net)) (d_want_count : DefD P w K mg base "want_count" 3 ["count", "least"] (spC K 2 m_want_count) [.int (1)]) : FnG P w K mg base 6 f fd ["n"] (spC K 1 m_line_net) :=
  fn_c F sc_line_net rfl rfl fun cdv hcd Ar outer s H E hr =>
  (cs_cons (cs_expr (ce_callD d_want_count l_want_count (hr.mono (by decide)) (takes_of rfl rfl rfl rfl) (fun _ => ⟨_, _, rfl, rfl, rfl⟩) (ca_cons (ce_var 0) ca_nil)))
  (cs_one (cs_ret (ce_call d_made_net l_made_net (hr.mono (by decide)) (takes_of rfl rfl rfl rfl) (ca_cons (ce_var 0) (ca_cons (ce_tuple (ce_frz (cl_lc rfl sc_line_net.nd (ci_rng1 (We := W0) (ce_sub (ce_var 0) ce_int) B.range) (own' := [("place", 1)]) (blkOk_by rfl) rfl (fun _ _ _ _ _ => (cg_name 1 sc_line_net.nd)) (fun _ _ _ _ _ => ct_nil) (fun _ _ _ _ _ => (ce_tup (ca_cons (ce_var 1) (ca_cons (ce_addE (ce_var 1) ce_int) ca_nil)))))) B.tuple) ca_nil))))))
end

abbrev kb_star_net : List (List Str × Nat × List Nat) := [(["n"], 0, [0])]
theorem kbm_star_net_0 : ((["n"] : List Str), (0 : Nat), ([0] : List Nat)) ∈ kb_star_net := (List.Mem.head _)
abbrev s_star_net : Stmt := topS 24
theorem sc_star_net : FnScope ["n", "place"] ["n"] (defScope s_star_net) := ⟨rfl, rfl, rfl, by decide +kernel, rfl, by decide +kernel, by decide +kernel⟩
section
variable {P : Program} {w : World} {K : PySem.W.Frag} {mg : Str → Option Value} {base : Heap}
theorem ok_star_net {f : Addr} {fd : FuncData} (F : Fun K "star_net" "star_net" s_star_net f fd) (B : Blt mg) (d_made_net : Def P w K mg base "made_net" 5 ["many", "threads"] (spC K 2 m_made_net)) (d_want_count : DefD P w K mg base "want_count" 3 ["count", "least"] (spC K 2 m_want_count) [.int (1)]) : FnG P w K mg base 6 f fd ["n"] (spC K 1 m_star_net) :=
  fn_c F sc_star_net rfl rfl fun cdv hcd Ar outer s H E hr =>
  (cs_cons (cs_expr (ce_callD d_want_count l_want_count (hr.mono (by decide)) (takes_of rfl rfl rfl rfl) (fun _ => ⟨_, _, rfl, rfl, rfl⟩) (ca_cons (ce_var 0) ca_nil)))
  (cs_one (cs_ret (ce_call d_made_net l_made_net (hr.mono (by decide)) (takes_of rfl rfl rfl rfl) (ca_cons (ce_var 0) (ca_cons (ce_tuple (ce_frz (cl_lc rfl sc_star_net.nd (ci_rng2 (We := W0) ce_int (ce_var 0) B.range) (own' := [("place", 1)]) (blkOk_by rfl) rfl (fun _ _ _ _ _ => (cg_name 1 sc_star_net.nd)) (fun _ _ _ _ _ => ct_nil) (fun _ _ _ _ _ => (ce_tup (ca_cons ce_int (ca_cons (ce_var 1) ca_nil)))))) B.tuple) ca_nil))))))
end

abbrev kb_ring_net : List (List Str × Nat × List Nat) := [(["n"], 0, [0])]
theorem kbm_ring_net_0 : ((["n"] : List Str), (0 : Nat), ([0] : List Nat)) ∈ kb_ring_net := (List.Mem.head _)
abbrev s_ring_net : Stmt := topS 23
theorem sc_ring_net : FnScope ["n", "place"] ["n"] (defScope s_ring_net) := ⟨rfl, rfl, rfl, by decide +kernel, rfl, by decide +kernel, by decide +kernel⟩
section
variable {P : Program} {w : World} {K : PySem.W.Frag} {mg : Str → Option Value} {base : Heap}
theorem ok_ring_net {f : Addr} {fd : FuncData} (F : Fun K "ring_net" "ring_net" s_ring_net f fd) (B : Blt mg) (d_made_net : Def P w K mg base "made_net" 5 ["many", "threads"] (spC K 2 m_made_net)) (d_want_count : DefD P w K mg base "want_count" 3 ["count", "least"] (spC K 2 m_want_count) [.int (1)]) (GLEAST_RING : ∃ t, mg "LEAST_RING" = some (.int 3 t)) : FnG P w K mg base 6 f fd ["n"] (spC K 1 m_ring_net) :=
  fn_c F sc_ring_net rfl rfl fun cdv hcd Ar outer s H E hr =>
  (cs_cons (cs_expr (ce_call (d_want_count).d l_want_count (hr.mono (by decide)) (takes_of rfl rfl rfl rfl) (ca_cons (ce_var 0) (ca_cons (ce_gint GLEAST_RING) ca_nil))))
  (cs_one (cs_ret (ce_call d_made_net l_made_net (hr.mono (by decide)) (takes_of rfl rfl rfl rfl) (ca_cons (ce_var 0) (ca_cons (ce_tuple (ce_frz (cl_sortedA (ce_addE (ce_frz (cl_lc rfl sc_ring_net.nd (ci_rng1 (We := W0) (ce_sub (ce_var 0) ce_int) B.range) (own' := [("place", 1)]) (blkOk_by rfl) rfl (fun _ _ _ _ _ => (cg_name 1 sc_ring_net.nd)) (fun _ _ _ _ _ => ct_nil) (fun _ _ _ _ _ => (ce_tup (ca_cons (ce_var 1) (ca_cons (ce_addE (ce_var 1) ce_int) ca_nil)))))) (ce_frz (cl_lst (ca_cons (ce_tup (ca_cons ce_int (ca_cons (ce_sub (ce_var 0) ce_int) ca_nil))) ca_nil)))) B.sorted)) B.tuple) ca_nil))))))
end

abbrev s__law_single : Stmt := topS 32
theorem sc__law_single : FnScope ["sort", "n"] ["sort", "n"] (defScope s__law_single) := ⟨rfl, rfl, rfl, by decide +kernel, rfl, by decide +kernel, by decide +kernel⟩
section
variable {P : Program} {w : World} {K : PySem.W.Frag} {mg : Str → Option Value} {base : Heap}
theorem ok__law_single {f : Addr} {fd : FuncData} (F : Fun K "_law_single" "_law_single" s__law_single f fd) (B : Blt mg) (d_star_net : DefK P w K mg base "star_net" 6 ["n"] (spC K 1 m_star_net) kb_star_net) (d_ring_net : DefK P w K mg base "ring_net" 6 ["n"] (spC K 1 m_ring_net) kb_ring_net) (d_line_net : DefK P w K mg base "line_net" 6 ["n"] (spC K 1 m_line_net) kb_line_net) : FnG P w K mg base 7 f fd ["sort", "n"] (spC K 2 m__law_single) :=
  fn_c F sc__law_single rfl rfl fun cdv hcd Ar outer s H E hr =>
  (cs_cons (cs_if (cb_eqV (neg := false) 0 hr ce_int) (cs_one (cs_ret (ce_callK0 d_line_net l_line_net (hr.mono (by decide)) (takes_of rfl rfl rfl rfl) (ck_cons (ce_var 1) ck_nil) (kbm_line_net_0)))) cs_nil)
  (cs_one (cs_ret (ce_if (cb_eqV (neg := false) 0 hr ce_int) (ce_callK0 d_star_net l_star_net (hr.mono (by decide)) (takes_of rfl rfl rfl rfl) (ck_cons (ce_var 1) ck_nil) (kbm_star_net_0)) (ce_callK0 d_ring_net l_ring_net (hr.mono (by decide)) (takes_of rfl rfl rfl rfl) (ck_cons (ce_var 1) ck_nil) (kbm_ring_net_0))))))
end

abbrev s_law : Stmt := topS 34
theorem sc_law : FnScope ["script", "source", "sort", "least", "n", "due", "turn", "wide", "high"] ["script"] (defScope s_law) := ⟨rfl, rfl, rfl, by decide +kernel, rfl, by decide +kernel, by decide +kernel⟩
section
variable {P : Program} {w : World} {K : PySem.W.Frag} {mg : Str → Option Value} {base : Heap}
theorem ok_law {f : Addr} {fd : FuncData} (F : Fun K "law" "law" s_law f fd) (B : Blt mg) (d__law_told : TDef P w K mg base "_law_told" 0 2 "deed" m__law_told) (d_grid_net : DefK P w K mg base "grid_net" 6 ["w", "h"] (spC K 2 m_grid_net) kb_grid_net) (d__law_grid_due : Def P w K mg base "_law_grid_due" 2 ["w", "h"] (spC K 2 m__law_grid_due)) (d__law_one : Def P w K mg base "_law_one" 2 ["source", "things"] (spC K 2 m__law_one)) (d__law_take : Def P w K mg base "_law_take" 1 ["source", "top"] (spC K 2 m__law_take)) (d__law_single : Def P w K mg base "_law_single" 7 ["sort", "n"] (spC K 2 m__law_single)) (d__law_threads : Def P w K mg base "_law_threads" 1 ["many", "sort", "wide"] (spC K 3 m__law_threads)) (d__law_pool : Def P w K mg base "_law_pool" 1 ["script", "k"] (spC K 2 m__law_pool)) {cL PL : Addr} (hC : fd.code = .ref cL) (tB : LamX.TabB base mg cL PL) (tM : (PL, (envOfC "law" (defScope (topS 34)) 0 0 .none).qual ++ "<lambda>") ∈ TabL.T) (tU : ∀ p ∈ TabL.T, p.1 = PL → p.2 = (envOfC "law" (defScope (topS 34)) 0 0 .none).qual ++ "<lambda>") : FnG P w K mg base 10 f fd ["script"] (spC K 1 m_law) :=
  fn_c F sc_law rfl rfl fun cdv hcd Ar outer s H E hr =>
  (cs_cons (cs_own 1 (cl_call d__law_pool l__law_pool (hr.mono (by decide)) (takes_of rfl rfl rfl rfl) (ca_cons (ce_var 0) (ca_cons ce_int ca_nil))) sc_law.nd)
  (cs_cons (cs_for (passes_of rfl) rfl (ci_rng1 (We := W0) ce_int B.range) (cg_name 2 sc_law.nd) (cs_cons (cs_set 3 (ce_if (cb_eqV (neg := false) 2 hr ce_int) ce_int ce_int) sc_law.nd)
  (cs_one (cs_for (passes_of rfl) rfl (ci_seq (We := W0) (ce_frz (cl_lst (ca_cons (ce_addE (ce_var 3) (ce_call1 1 d__law_take l__law_take (hr.mono (by decide)) takesW0 (ca_cons (ce_sub ce_int (ce_var 3)) ca_nil))) (ca_cons (ce_call1 1 d__law_one l__law_one (hr.mono (by decide)) takesW0 (ca_cons (ce_frz (cl_lst (ca_cons ce_int (ca_cons ce_int (ca_cons ce_int (ca_cons ce_int (ca_cons ce_int (ca_cons ce_int ca_nil)))))))) ca_nil)) (ca_cons (ce_call1 1 d__law_one l__law_one (hr.mono (by decide)) takesW0 (ca_cons (ce_frz (cl_lst (ca_cons (ce_neg ce_int) (ca_cons ce_int (ca_cons (ce_pow ce_int ce_int) ca_nil))))) ca_nil)) ca_nil)))))) (cg_name 4 sc_law.nd) (cs_cons (cs_set 5 (ce_if (cb_ch (leE_ok hr) (leE_ok hr) (ce_var 3) (ce_var 4) ce_int) (ce_tup (ca_cons (ce_var 4) (ca_cons (ce_call d__law_threads l__law_threads (hr.mono (by decide)) (takes_of rfl rfl rfl rfl) (ca_cons (ce_var 4) (ca_cons (ce_var 2) (ca_cons ce_int ca_nil)))) ca_nil))) (ce_tup (ca_cons ce_str (ca_cons (ce_var 4) ca_nil)))) sc_law.nd)
  (cs_one (cs_if (cb_cmp (ne_ok hr) (nomark _) (ce_repr hr (ce_lam (j := 7) d__law_told tB (hcd.symm.trans hC) tM tU hr (by decide) (by decide) (LamX.lamS_by rfl) (fun _ _ _ _ _ _ _ hr => (ce_call d__law_single l__law_single (hr.mono (by decide)) (takes_of rfl rfl rfl rfl) (ca_cons (ce_var 2) (ca_cons (ce_var 4) ca_nil))))) B.repr) (ce_repr hr (ce_var 5) B.repr)) (cs_one (cs_ret ce_bl)) cs_nil)))))))
  (cs_cons (cs_for (passes_of rfl) rfl (ci_rng1 (We := W0) ce_int B.range) (cg_name 6 sc_law.nd) (cs_cons (cs_set 7 (ce_call1 1 d__law_one l__law_one (hr.mono (by decide)) (takes_of rfl rfl rfl rfl) (ca_cons (ce_frz (cl_lst (ca_cons ce_int (ca_cons ce_int (ca_cons ce_int (ca_cons ce_int (ca_cons ce_int (ca_cons ce_int (ca_cons ce_int (ca_cons ce_int (ca_cons ce_int (ca_cons ce_int (ca_cons ce_int (ca_cons (ce_neg ce_int) (ca_cons (ce_addE ce_int (ce_call1 1 d__law_take l__law_take (hr.mono (by decide)) (takes_of rfl rfl rfl rfl) (ca_cons ce_int ca_nil))) ca_nil))))))))))))))) ca_nil)) sc_law.nd)
  (cs_cons (cs_set 8 (ce_call1 1 d__law_one l__law_one (hr.mono (by decide)) (takes_of rfl rfl rfl rfl) (ca_cons (ce_frz (cl_lst (ca_cons ce_int (ca_cons ce_int (ca_cons ce_int (ca_cons ce_int (ca_cons (ce_fdiv ce_int (ce_max2 rfl ce_int (ce_var 7) B.max)) (ca_cons (ce_addE (ce_fdiv ce_int (ce_max2 rfl ce_int (ce_var 7) B.max)) ce_int) (ca_cons ce_int (ca_cons ce_int (ca_cons ce_int (ca_cons (ce_addE ce_int (ce_call1 1 d__law_take l__law_take (hr.mono (by decide)) (takes_of rfl rfl rfl rfl) (ca_cons ce_int ca_nil))) ca_nil)))))))))))) ca_nil)) sc_law.nd)
  (cs_one (cs_if (cb_cmp (ne_ok hr) (nomark _) (ce_repr hr (ce_lam (j := 7) d__law_told tB (hcd.symm.trans hC) tM tU hr (by decide) (by decide) (LamX.lamS_by rfl) (fun _ _ _ _ _ _ _ hr => (ce_callK0 d_grid_net l_grid_net (hr.mono (by decide)) (takes_of rfl rfl rfl rfl) (ck_cons (ce_var 8) (ck_cons (ce_var 7) ck_nil)) (kbm_grid_net_0)))) B.repr) (ce_repr hr (ce_call d__law_grid_due l__law_grid_due (hr.mono (by decide)) (takes_of rfl rfl rfl rfl) (ca_cons (ce_var 7) (ca_cons (ce_var 8) ca_nil))) B.repr)) (cs_one (cs_ret ce_bl)) cs_nil)))))
  (cs_one (cs_ret ce_bl)))))
end

/-! ### the end -/
abbrev sRInit : Stmt := inClass (topS 1) 0
abbrev sINet : Stmt := inClass (topS 14) 0
theorem scINet : FnScope ["self", "many", "threads", "near"] ["self", "many", "threads", "near"] (defScope sINet) := ⟨rfl, rfl, rfl, by decide +kernel, rfl, by decide +kernel, by decide +kernel⟩
theorem okI_Net {P : Program} {w : World} {K : PySem.W.Frag} {mg : Str → Option Value} {base : Heap} {f : Addr} {fd : FuncData} {qual : Str} (F : Fun K "__init__" qual sINet f fd) : FnOk P w K mg base CX0 1 f fd ["self", "many", "threads", "near"] (spRec K ["many", "threads", "near"]) := by
  refine F.ok scINet (fun vs H Q E h => ?_) (fun cdv A outer s H vs Q E hr h => ?_)
  · obtain ⟨p, C, dx, us, rfl, hl, _⟩ := h
    rw [List.length_cons, hl]
    rfl
  · obtain ⟨p, C, dx, us, rfl, hl, hp, rc, k⟩ := h
    match us, hl with
    | [u0, u1, u2], _ =>
      refine ⟨_, (pss_cons (ps_fld (pe_var (i := 0) rfl (.inl rfl) (by decide) (by decide)) (pe_var (i := 1) rfl (.inl rfl) (by decide) (by decide)) rfl) (pss_cons (ps_fld (pe_var (i := 0) rfl (.inl rfl) (by decide) (by decide)) (pe_var (i := 2) rfl (.inl rfl) (by decide) (by decide)) rfl) (pss_one (ps_fld (pe_var (i := 0) rfl (.inl rfl) (by decide) (by decide)) (pe_var (i := 3) rfl (.inl rfl) (by decide) (by decide)) rfl)))), ?_⟩
      refine ⟨_, rfl, _, rfl, p, C, dx, [], rfl, hp, rc.cl, rc.no _ (by decide), (by show 0 < 1000; decide), _, rfl, _, rfl, p, C, dx, _, rfl, upd_same, rc.cl, rc.no _ (by decide), (by show 1 < 1000; decide), _, rfl, _, rfl, p, C, dx, _, rfl, upd_same, rc.cl, rc.no _ (by decide), (by show 2 < 1000; decide), ?_⟩
      refine k _ (putF "near" u2 (putF "threads" u1 (putF "many" u0 []))) (fun b hb => by rw [upd_ne hb, upd_ne hb, upd_ne hb]) upd_same fun i f hf => ?_
      match i with
      | 0 =>
        have hf : some ("many" : Str) = some f := hf
        cases hf
        simp [lookup_putF, show ¬ (("many" : Str) = "threads") by decide +kernel, show ¬ (("many" : Str) = "near") by decide +kernel]
      | 1 =>
        have hf : some ("threads" : Str) = some f := hf
        cases hf
        simp [lookup_putF, show ¬ (("threads" : Str) = "many") by decide +kernel, show ¬ (("threads" : Str) = "near") by decide +kernel]
      | 2 =>
        have hf : some ("near" : Str) = some f := hf
        cases hf
        simp [lookup_putF, show ¬ (("near" : Str) = "many") by decide +kernel, show ¬ (("near" : Str) = "threads") by decide +kernel]
      | i + 3 => simp at hf

omit [TabL] in
theorem all_mk {l : PySem.W.OpenLaw} {w : World} {K : PySem.W.Frag} {h : Heap} {mg : Str → Option Value} {fa : Addr} (X : K.In h) (G : h.Ns mainGlobals mg) (hfa : mg "law" = some (.ref fa))
    {tMOST_PLACES : Tok} {tMOST_THREADS : Tok} {tLEAST_RING : Tok} {eD efI ecda ecc : Addr} {eod ean ecdd ecld : Option Addr} {esl eccs ecsl : Array (Option Value)} {eoc edc epm ect eccl ecl : Value} {evs : Array Value} {efile : Str} {etf : Tok} {ecdD : ClassData} {xC0 xN0 : Addr} {xnm0 xq0 : Str} {xbs0 xbm0 : List Value} {xsn0 : List Str} {xsub0 : List Value} {xab0 : Bool} {xcol0 : Option Bool} {xdd0 : Option Addr} {xk00 xk10 xk20 xk30 xk50 : Option Value} {xC1 xN1 : Addr} {xnm1 xq1 : Str} {xbs1 xbm1 : List Value} {xsn1 : List Str} {xsub1 : List Value} {xab1 : Bool} {xcol1 : Option Bool} {xdd1 : Option Addr} {xk01 xk11 xk21 xk31 xk51 : Option Value} {xC2 xN2 : Addr} {xnm2 xq2 : Str} {xbs2 xbm2 : List Value} {xsn2 : List Str} {xsub2 : List Value} {xab2 : Bool} {xcol2 : Option Bool} {xdd2 : Option Addr} {xk02 xk12 xk22 xk32 xk52 : Option Value} {xC3 xN3 : Addr} {xnm3 xq3 : Str} {xbs3 xbm3 : List Value} {xsn3 : List Str} {xsub3 : List Value} {xab3 : Bool} {xcol3 : Option Bool} {xdd3 : Option Addr} {xk03 xk13 xk23 xk33 xk53 : Option Value} {rCNet rINet : Addr} {rodNet ranNet : Option Addr} {rslNet : Array (Option Value)} {rocNet rkVNet rdcNet rpmNet rcdNet rctNet : Value} {f0 : Addr} {od0 an0 : Option Addr} {sl0 : Array (Option Value)} {oc0 kV0 dc0 pm0 cd0 ct0 : Value} {f1 : Addr} {od1 an1 : Option Addr} {sl1 : Array (Option Value)} {oc1 kV1 dc1 pm1 cd1 ct1 : Value} {f2 : Addr} {od2 an2 : Option Addr} {sl2 : Array (Option Value)} {oc2 kV2 dc2 pm2 cd2 ct2 : Value} {f3 : Addr} {od3 an3 : Option Addr} {sl3 : Array (Option Value)} {oc3 kV3 dc3 pm3 cd3 ct3 : Value} {f4 : Addr} {od4 an4 : Option Addr} {sl4 : Array (Option Value)} {oc4 kV4 dc4 pm4 cd4 ct4 : Value} {f5 : Addr} {od5 an5 : Option Addr} {sl5 : Array (Option Value)} {oc5 kV5 dc5 pm5 cd5 ct5 : Value} {f6 : Addr} {od6 an6 : Option Addr} {sl6 : Array (Option Value)} {oc6 kV6 dc6 pm6 cd6 ct6 : Value} {TD6 : Addr} {odT6 : Option Addr} {slT6 : Array (Option Value)} {nT6 : Nat} {ocT6 : Value} {itT6 : Array Value} {tkT6_0 : Tok} {f7 : Addr} {od7 an7 : Option Addr} {sl7 : Array (Option Value)} {oc7 kV7 dc7 pm7 cd7 ct7 : Value} {f8 : Addr} {od8 an8 : Option Addr} {sl8 : Array (Option Value)} {oc8 kV8 dc8 pm8 cd8 ct8 : Value} {f9 : Addr} {od9 an9 : Option Addr} {sl9 : Array (Option Value)} {oc9 kV9 dc9 pm9 cd9 ct9 : Value} {f10 : Addr} {od10 an10 : Option Addr} {sl10 : Array (Option Value)} {oc10 kV10 dc10 pm10 cd10 ct10 : Value} {f11 : Addr} {od11 an11 : Option Addr} {sl11 : Array (Option Value)} {oc11 kV11 dc11 pm11 cd11 ct11 : Value} {f12 : Addr} {od12 an12 : Option Addr} {sl12 : Array (Option Value)} {oc12 kV12 dc12 pm12 cd12 ct12 : Value} {f13 : Addr} {od13 an13 : Option Addr} {sl13 : Array (Option Value)} {oc13 kV13 dc13 pm13 cd13 ct13 : Value} {f14 : Addr} {od14 an14 : Option Addr} {sl14 : Array (Option Value)} {oc14 kV14 dc14 pm14 cd14 ct14 : Value} {f15 : Addr} {od15 an15 : Option Addr} {sl15 : Array (Option Value)} {oc15 kV15 dc15 pm15 cd15 ct15 : Value} {f16 : Addr} {od16 an16 : Option Addr} {sl16 : Array (Option Value)} {oc16 kV16 dc16 pm16 cd16 ct16 : Value} {f17 : Addr} {od17 an17 : Option Addr} {sl17 : Array (Option Value)} {oc17 kV17 dc17 pm17 cd17 ct17 : Value} {f18 : Addr} {od18 an18 : Option Addr} {sl18 : Array (Option Value)} {oc18 kV18 dc18 pm18 cd18 ct18 : Value} {f19 cA19 PT19 : Addr} {od19 an19 odC19 : Option Addr} {sl19 slC19 : Array (Option Value)} {us19 : Array Value} {oc19 kV19 dc19 pm19 ct19 : Value}
    (z0 : PySem.W.nsIn K mainGlobals "len" = some none)
 (z1 : PySem.W.nsIn K mainGlobals "tuple" = some none)
 (z2 : PySem.W.nsIn K mainGlobals "list" = some none)
 (z3 : PySem.W.nsIn K mainGlobals "int" = some none)
 (z4 : PySem.W.nsIn K mainGlobals "max" = some none)
 (z5 : PySem.W.nsIn K mainGlobals "min" = some none)
 (z6 : PySem.W.nsIn K mainGlobals "repr" = some none)
 (z7 : PySem.W.nsIn K mainGlobals "isinstance" = some none)
 (z8 : PySem.W.nsIn K mainGlobals "range" = some none)
 (z9 : PySem.W.nsIn K mainGlobals "enumerate" = some none)
 (z10 : PySem.W.nsIn K mainGlobals "bool" = some none)
 (z11 : PySem.W.nsIn K mainGlobals "str" = some none)
 (z12 : PySem.W.nsIn K mainGlobals "sorted" = some none)
 (z13 : PySem.W.nsIn K mainGlobals "sum" = some none)
 (z14 : PySem.W.nsIn K mainGlobals "all" = some none)
 (z15 : PySem.W.nsIn K mainGlobals "any" = some none)
 (z16 : PySem.W.nsIn K mainGlobals "zip" = some none)
 (z17 : PySem.W.nsIn K mainGlobals "set" = some none)
 (z18 : PySem.W.nsIn K mainGlobals "abs" = some none)
 (kMOST_PLACES : PySem.W.nsIn K mainGlobals "MOST_PLACES" = some (some (.int 24 tMOST_PLACES)))
 (kMOST_THREADS : PySem.W.nsIn K mainGlobals "MOST_THREADS" = some (some (.int 60 tMOST_THREADS)))
 (kLEAST_RING : PySem.W.nsIn K mainGlobals "LEAST_RING" = some (some (.int 3 tLEAST_RING)))
 (e0 : PySem.W.nsIn K mainGlobals "Refused" = some (some (.ref eD)))
 (e00 : PySem.W.findIn K (.ref eD) "__init__" = some (some (.ref efI)))
 (e1 : K.lookup efI = some ⟨eoc, eod, .func (PySem.W.ksFn "__init__" "Refused.__init__" (defArgs sRInit) (defBody sRInit) (defScope sRInit) .none .none edc epm ean (.ref ecda) ect ecc), esl⟩)
 (e2 : PySem.W.codeIn K (.ref ecda) "Refused.__init__" = true)
 (e3 : K.lookup ecda = some ⟨eccl, ecdd, .fields evs, eccs⟩)
 (e4 : evs[2]? = some (.str efile etf))
 (e5 : ((l.prog.main.file : Str) == efile) = true)
 (e6 : K.lookup ecc = some ⟨ecl, ecld, .cell (some (.ref eD)), ecsl⟩)
 (e7 : PySem.W.clsIn K eD = some ecdD)
 (e8 : PySem.W.nsIn K mainGlobals "super" = some none)
 (e9 : (l.prog.main.scope.names.lookup ("super" : Str)).isSome = false)
 (e10 : PySem.W.nsIn K cStatics "thirdparty.any" = some none)
 (y0a : PySem.W.nsIn K mainGlobals "BadSize" = some (some (.ref xC0)))
 (y0b : K.lookup xC0 = some (excClassObj xnm0 xq0 xC0 xN0 xbs0 xbm0 true xsn0 xsub0 xab0 xcol0 xdd0 xk00 xk10 xk20 xk30 xk50 "ValueError.__new__"))
 (y0c : PySem.HandSPX.refsVE xbm0 = true)
 (y0d : PySem.W.findIn K (.ref xC0) "__setattr__" = some (some (.builtin "object.__setattr__")))
 (y0e : PySem.W.findIn K (.ref xC0) "what" = some none)
 (y0f : PySem.W.findIn K (.ref xC0) "__init__" = some (some (.ref efI)))
 (y0g : PySem.W.typeIn K (.ref efI) = some (.type "function"))
 (y0h : PySem.W.keepIn K (.ref xC0) = true)
 (y0i : PySem.W.subIn K (.ref xC0) (.type "BaseException") = some true)
 (y0j : PySem.W.subIn K (.ref xC0) (.type "ValueError") = some true)
 (y0k : PySem.W.typeIn K (.ref xC0) = some (.type "type"))
 (y0l : PySem.W.mroIn K xC0 (.ref eD) = some true)
 (y0m : PySem.W.findIn K (.ref xC0) "__getattribute__" = some (some (.builtin "BaseException.__getattribute__")))
 (y0n : PySem.W.findIn K (.ref xC0) "__getattr__" = some none)
 (y0o : PySem.W.hasDictIn K xC0 = true)
 (y0p : PySem.W.ks_superIn K xC0 eD "__init__" = some (some (.builtin "ValueError.__init__")))
 (y0q : (PySem.W.clsIn K xC0).isSome = true)
 (y0r : PySem.W.findIn K (.ref xC0) "__class__" = some (some (.builtin "object.__class__")))
 (y0s : PySem.W.specialIn K (.builtin "object.__class__") "__get__" = some (some (.builtin "getset_descriptor.__get__")))
 (y0t : PySem.W.takesIn K (.builtin "object.__class__") = some true)
 (y0u : PySem.W.mroIn K xC0 (.type "object") = some true)
 (y0v : PySem.W.exmOne K (.ref xC0) (.ref eD) = some true)
 (y1a : PySem.W.nsIn K mainGlobals "BadCount" = some (some (.ref xC1)))
 (y1b : K.lookup xC1 = some (excClassObj xnm1 xq1 xC1 xN1 xbs1 xbm1 true xsn1 xsub1 xab1 xcol1 xdd1 xk01 xk11 xk21 xk31 xk51 "ValueError.__new__"))
 (y1c : PySem.HandSPX.refsVE xbm1 = true)
 (y1d : PySem.W.findIn K (.ref xC1) "__setattr__" = some (some (.builtin "object.__setattr__")))
 (y1e : PySem.W.findIn K (.ref xC1) "what" = some none)
 (y1f : PySem.W.findIn K (.ref xC1) "__init__" = some (some (.ref efI)))
 (y1g : PySem.W.typeIn K (.ref efI) = some (.type "function"))
 (y1h : PySem.W.keepIn K (.ref xC1) = true)
 (y1i : PySem.W.subIn K (.ref xC1) (.type "BaseException") = some true)
 (y1j : PySem.W.subIn K (.ref xC1) (.type "ValueError") = some true)
 (y1k : PySem.W.typeIn K (.ref xC1) = some (.type "type"))
 (y1l : PySem.W.mroIn K xC1 (.ref eD) = some true)
 (y1m : PySem.W.findIn K (.ref xC1) "__getattribute__" = some (some (.builtin "BaseException.__getattribute__")))
 (y1n : PySem.W.findIn K (.ref xC1) "__getattr__" = some none)
 (y1o : PySem.W.hasDictIn K xC1 = true)
 (y1p : PySem.W.ks_superIn K xC1 eD "__init__" = some (some (.builtin "ValueError.__init__")))
 (y1q : (PySem.W.clsIn K xC1).isSome = true)
 (y1r : PySem.W.findIn K (.ref xC1) "__class__" = some (some (.builtin "object.__class__")))
 (y1s : PySem.W.specialIn K (.builtin "object.__class__") "__get__" = some (some (.builtin "getset_descriptor.__get__")))
 (y1t : PySem.W.takesIn K (.builtin "object.__class__") = some true)
 (y1u : PySem.W.mroIn K xC1 (.type "object") = some true)
 (y1v : PySem.W.exmOne K (.ref xC1) (.ref eD) = some true)
 (y2a : PySem.W.nsIn K mainGlobals "BadNet" = some (some (.ref xC2)))
 (y2b : K.lookup xC2 = some (excClassObj xnm2 xq2 xC2 xN2 xbs2 xbm2 true xsn2 xsub2 xab2 xcol2 xdd2 xk02 xk12 xk22 xk32 xk52 "ValueError.__new__"))
 (y2c : PySem.HandSPX.refsVE xbm2 = true)
 (y2d : PySem.W.findIn K (.ref xC2) "__setattr__" = some (some (.builtin "object.__setattr__")))
 (y2e : PySem.W.findIn K (.ref xC2) "what" = some none)
 (y2f : PySem.W.findIn K (.ref xC2) "__init__" = some (some (.ref efI)))
 (y2g : PySem.W.typeIn K (.ref efI) = some (.type "function"))
 (y2h : PySem.W.keepIn K (.ref xC2) = true)
 (y2i : PySem.W.subIn K (.ref xC2) (.type "BaseException") = some true)
 (y2j : PySem.W.subIn K (.ref xC2) (.type "ValueError") = some true)
 (y2k : PySem.W.typeIn K (.ref xC2) = some (.type "type"))
 (y2l : PySem.W.mroIn K xC2 (.ref eD) = some true)
 (y2m : PySem.W.findIn K (.ref xC2) "__getattribute__" = some (some (.builtin "BaseException.__getattribute__")))
 (y2n : PySem.W.findIn K (.ref xC2) "__getattr__" = some none)
 (y2o : PySem.W.hasDictIn K xC2 = true)
 (y2p : PySem.W.ks_superIn K xC2 eD "__init__" = some (some (.builtin "ValueError.__init__")))
 (y2q : (PySem.W.clsIn K xC2).isSome = true)
 (y2r : PySem.W.findIn K (.ref xC2) "__class__" = some (some (.builtin "object.__class__")))
 (y2s : PySem.W.specialIn K (.builtin "object.__class__") "__get__" = some (some (.builtin "getset_descriptor.__get__")))
 (y2t : PySem.W.takesIn K (.builtin "object.__class__") = some true)
 (y2u : PySem.W.mroIn K xC2 (.type "object") = some true)
 (y2v : PySem.W.exmOne K (.ref xC2) (.ref eD) = some true)
 (y3a : PySem.W.nsIn K mainGlobals "Parted" = some (some (.ref xC3)))
 (y3b : K.lookup xC3 = some (excClassObj xnm3 xq3 xC3 xN3 xbs3 xbm3 true xsn3 xsub3 xab3 xcol3 xdd3 xk03 xk13 xk23 xk33 xk53 "ValueError.__new__"))
 (y3c : PySem.HandSPX.refsVE xbm3 = true)
 (y3d : PySem.W.findIn K (.ref xC3) "__setattr__" = some (some (.builtin "object.__setattr__")))
 (y3e : PySem.W.findIn K (.ref xC3) "what" = some none)
 (y3f : PySem.W.findIn K (.ref xC3) "__init__" = some (some (.ref efI)))
 (y3g : PySem.W.typeIn K (.ref efI) = some (.type "function"))
 (y3h : PySem.W.keepIn K (.ref xC3) = true)
 (y3i : PySem.W.subIn K (.ref xC3) (.type "BaseException") = some true)
 (y3j : PySem.W.subIn K (.ref xC3) (.type "ValueError") = some true)
 (y3k : PySem.W.typeIn K (.ref xC3) = some (.type "type"))
 (y3l : PySem.W.mroIn K xC3 (.ref eD) = some true)
 (y3m : PySem.W.findIn K (.ref xC3) "__getattribute__" = some (some (.builtin "BaseException.__getattribute__")))
 (y3n : PySem.W.findIn K (.ref xC3) "__getattr__" = some none)
 (y3o : PySem.W.hasDictIn K xC3 = true)
 (y3p : PySem.W.ks_superIn K xC3 eD "__init__" = some (some (.builtin "ValueError.__init__")))
 (y3q : (PySem.W.clsIn K xC3).isSome = true)
 (y3r : PySem.W.findIn K (.ref xC3) "__class__" = some (some (.builtin "object.__class__")))
 (y3s : PySem.W.specialIn K (.builtin "object.__class__") "__get__" = some (some (.builtin "getset_descriptor.__get__")))
 (y3t : PySem.W.takesIn K (.builtin "object.__class__") = some true)
 (y3u : PySem.W.mroIn K xC3 (.type "object") = some true)
 (y3v : PySem.W.exmOne K (.ref xC3) (.ref eD) = some true)
 (w0x1 : PySem.W.kitOne K (.ref xC0) (.ref xC1) = some false)
 (w0x0 : PySem.W.kitOne K (.ref xC0) (.ref xC0) = some true)
 (w1x1 : PySem.W.kitOne K (.ref xC1) (.ref xC1) = some true)
 (w1x0 : PySem.W.kitOne K (.ref xC1) (.ref xC0) = some false)
 (w2x1 : PySem.W.kitOne K (.ref xC2) (.ref xC1) = some false)
 (w2x0 : PySem.W.kitOne K (.ref xC2) (.ref xC0) = some false)
 (w3x1 : PySem.W.kitOne K (.ref xC3) (.ref xC1) = some false)
 (w3x0 : PySem.W.kitOne K (.ref xC3) (.ref xC0) = some false)
 (rNet0 : PySem.W.nsIn K mainGlobals "Net" = some (some (.ref rCNet)))
 (rNet1 : PySem.W.findIn K (.ref rCNet) "__init__" = some (some (.ref rINet)))
 (rNet2 : PySem.W.isFn K (.ref rINet) = true)
 (rNet3 : K.lookup rINet = some ⟨rocNet, rodNet, .func (PySem.W.fnOf "__init__" "Net.__init__" (defArgs sINet) (defBody sINet) (defScope sINet) .none rkVNet rdcNet rpmNet ranNet rcdNet rctNet), rslNet⟩)
 (rNet4 : PySem.W.codeIn K rcdNet "Net.__init__" = true)
 (rNet5 : PySem.W.keepIn K (.ref rINet) = true)
 (rNet6 : PySem.W.plainGet K rCNet Str.empty = true)
 (rNet7 : PySem.W.hasDictIn K rCNet = true)
 (rNet8 : PySem.W.plainOver K rCNet = true)
 (rNet9 : PySem.W.findIn K (.ref rCNet) "__setattr__" = some (some (.builtin "object.__setattr__")))
 (rNetA : PySem.W.makesIn K rCNet = true)
 (rNetB : PySem.W.keepIn K (.ref rCNet) = true)
 (rNetf0 : PySem.W.findIn K (.ref rCNet) "many" = some none)
 (rNetf1 : PySem.W.findIn K (.ref rCNet) "threads" = some none)
 (rNetf2 : PySem.W.findIn K (.ref rCNet) "near" = some none)
 (a0 : PySem.W.nsIn K mainGlobals "_law_pool" = some (some (.ref f0)))
 (l0 : K.lookup f0 = some ⟨oc0, od0, .func (PySem.W.fnOf "_law_pool" "_law_pool" (defArgs s__law_pool) (defBody s__law_pool) (defScope s__law_pool) .none kV0 dc0 pm0 an0 cd0 ct0), sl0⟩)
 (c0 : PySem.W.codeIn K cd0 "_law_pool" = true)
 (k0 : PySem.W.keepIn K (.ref f0) = true)
 (a1 : PySem.W.nsIn K mainGlobals "_law_take" = some (some (.ref f1)))
 (l1 : K.lookup f1 = some ⟨oc1, od1, .func (PySem.W.fnOf "_law_take" "_law_take" (defArgs s__law_take) (defBody s__law_take) (defScope s__law_take) .none kV1 dc1 pm1 an1 cd1 ct1), sl1⟩)
 (c1 : PySem.W.codeIn K cd1 "_law_take" = true)
 (k1 : PySem.W.keepIn K (.ref f1) = true)
 (a2 : PySem.W.nsIn K mainGlobals "_law_one" = some (some (.ref f2)))
 (l2 : K.lookup f2 = some ⟨oc2, od2, .func (PySem.W.fnOf "_law_one" "_law_one" (defArgs s__law_one) (defBody s__law_one) (defScope s__law_one) .none kV2 dc2 pm2 an2 cd2 ct2), sl2⟩)
 (c2 : PySem.W.codeIn K cd2 "_law_one" = true)
 (k2 : PySem.W.keepIn K (.ref f2) = true)
 (a3 : PySem.W.nsIn K mainGlobals "_law_told" = some (some (.ref f3)))
 (l3 : K.lookup f3 = some ⟨oc3, od3, .func (PySem.W.fnOf "_law_told" "_law_told" (defArgs s__law_told) (defBody s__law_told) (defScope s__law_told) .none kV3 dc3 pm3 an3 cd3 ct3), sl3⟩)
 (c3 : PySem.W.codeIn K cd3 "_law_told" = true)
 (k3 : PySem.W.keepIn K (.ref f3) = true)
 (a4 : PySem.W.nsIn K mainGlobals "_law_threads" = some (some (.ref f4)))
 (l4 : K.lookup f4 = some ⟨oc4, od4, .func (PySem.W.fnOf "_law_threads" "_law_threads" (defArgs s__law_threads) (defBody s__law_threads) (defScope s__law_threads) .none kV4 dc4 pm4 an4 cd4 ct4), sl4⟩)
 (c4 : PySem.W.codeIn K cd4 "_law_threads" = true)
 (k4 : PySem.W.keepIn K (.ref f4) = true)
 (a5 : PySem.W.nsIn K mainGlobals "_law_grid_due" = some (some (.ref f5)))
 (l5 : K.lookup f5 = some ⟨oc5, od5, .func (PySem.W.fnOf "_law_grid_due" "_law_grid_due" (defArgs s__law_grid_due) (defBody s__law_grid_due) (defScope s__law_grid_due) .none kV5 dc5 pm5 an5 cd5 ct5), sl5⟩)
 (c5 : PySem.W.codeIn K cd5 "_law_grid_due" = true)
 (k5 : PySem.W.keepIn K (.ref f5) = true)
 (a6 : PySem.W.nsIn K mainGlobals "want_count" = some (some (.ref f6)))
 (l6 : K.lookup f6 = some ⟨oc6, od6, .func (PySem.W.fnOf "want_count" "want_count" (defArgs s_want_count) (defBody s_want_count) (defScope s_want_count) (.ref TD6) kV6 dc6 pm6 an6 cd6 ct6), sl6⟩)
 (t6 : K.lookup TD6 = some ⟨ocT6, odT6, .seq itT6 nT6, slT6⟩)
 (s6 : itT6 = [Value.int (1) tkT6_0].toArray)
 (c6 : PySem.W.codeIn K cd6 "want_count" = true)
 (k6 : PySem.W.keepIn K (.ref f6) = true)
 (a7 : PySem.W.nsIn K mainGlobals "near_of" = some (some (.ref f7)))
 (l7 : K.lookup f7 = some ⟨oc7, od7, .func (PySem.W.fnOf "near_of" "near_of" (defArgs s_near_of) (defBody s_near_of) (defScope s_near_of) .none kV7 dc7 pm7 an7 cd7 ct7), sl7⟩)
 (c7 : PySem.W.codeIn K cd7 "near_of" = true)
 (k7 : PySem.W.keepIn K (.ref f7) = true)
 (a8 : PySem.W.nsIn K mainGlobals "met_from" = some (some (.ref f8)))
 (l8 : K.lookup f8 = some ⟨oc8, od8, .func (PySem.W.fnOf "met_from" "met_from" (defArgs s_met_from) (defBody s_met_from) (defScope s_met_from) .none kV8 dc8 pm8 an8 cd8 ct8), sl8⟩)
 (c8 : PySem.W.codeIn K cd8 "met_from" = true)
 (k8 : PySem.W.keepIn K (.ref f8) = true)
 (a9 : PySem.W.nsIn K mainGlobals "is_number" = some (some (.ref f9)))
 (l9 : K.lookup f9 = some ⟨oc9, od9, .func (PySem.W.fnOf "is_number" "is_number" (defArgs s_is_number) (defBody s_is_number) (defScope s_is_number) .none kV9 dc9 pm9 an9 cd9 ct9), sl9⟩)
 (c9 : PySem.W.codeIn K cd9 "is_number" = true)
 (k9 : PySem.W.keepIn K (.ref f9) = true)
 (a10 : PySem.W.nsIn K mainGlobals "is_within" = some (some (.ref f10)))
 (l10 : K.lookup f10 = some ⟨oc10, od10, .func (PySem.W.fnOf "is_within" "is_within" (defArgs s_is_within) (defBody s_is_within) (defScope s_is_within) .none kV10 dc10 pm10 an10 cd10 ct10), sl10⟩)
 (c10 : PySem.W.codeIn K cd10 "is_within" = true)
 (k10 : PySem.W.keepIn K (.ref f10) = true)
 (a11 : PySem.W.nsIn K mainGlobals "is_rising" = some (some (.ref f11)))
 (l11 : K.lookup f11 = some ⟨oc11, od11, .func (PySem.W.fnOf "is_rising" "is_rising" (defArgs s_is_rising) (defBody s_is_rising) (defScope s_is_rising) .none kV11 dc11 pm11 an11 cd11 ct11), sl11⟩)
 (c11 : PySem.W.codeIn K cd11 "is_rising" = true)
 (k11 : PySem.W.keepIn K (.ref f11) = true)
 (a12 : PySem.W.nsIn K mainGlobals "is_thread" = some (some (.ref f12)))
 (l12 : K.lookup f12 = some ⟨oc12, od12, .func (PySem.W.fnOf "is_thread" "is_thread" (defArgs s_is_thread) (defBody s_is_thread) (defScope s_is_thread) .none kV12 dc12 pm12 an12 cd12 ct12), sl12⟩)
 (c12 : PySem.W.codeIn K cd12 "is_thread" = true)
 (k12 : PySem.W.keepIn K (.ref f12) = true)
 (a13 : PySem.W.nsIn K mainGlobals "made_net" = some (some (.ref f13)))
 (l13 : K.lookup f13 = some ⟨oc13, od13, .func (PySem.W.fnOf "made_net" "made_net" (defArgs s_made_net) (defBody s_made_net) (defScope s_made_net) .none kV13 dc13 pm13 an13 cd13 ct13), sl13⟩)
 (c13 : PySem.W.codeIn K cd13 "made_net" = true)
 (k13 : PySem.W.keepIn K (.ref f13) = true)
 (a14 : PySem.W.nsIn K mainGlobals "grid_net" = some (some (.ref f14)))
 (l14 : K.lookup f14 = some ⟨oc14, od14, .func (PySem.W.fnOf "grid_net" "grid_net" (defArgs s_grid_net) (defBody s_grid_net) (defScope s_grid_net) .none kV14 dc14 pm14 an14 cd14 ct14), sl14⟩)
 (c14 : PySem.W.codeIn K cd14 "grid_net" = true)
 (k14 : PySem.W.keepIn K (.ref f14) = true)
 (a15 : PySem.W.nsIn K mainGlobals "line_net" = some (some (.ref f15)))
 (l15 : K.lookup f15 = some ⟨oc15, od15, .func (PySem.W.fnOf "line_net" "line_net" (defArgs s_line_net) (defBody s_line_net) (defScope s_line_net) .none kV15 dc15 pm15 an15 cd15 ct15), sl15⟩)
 (c15 : PySem.W.codeIn K cd15 "line_net" = true)
 (k15 : PySem.W.keepIn K (.ref f15) = true)
 (a16 : PySem.W.nsIn K mainGlobals "star_net" = some (some (.ref f16)))
 (l16 : K.lookup f16 = some ⟨oc16, od16, .func (PySem.W.fnOf "star_net" "star_net" (defArgs s_star_net) (defBody s_star_net) (defScope s_star_net) .none kV16 dc16 pm16 an16 cd16 ct16), sl16⟩)
 (c16 : PySem.W.codeIn K cd16 "star_net" = true)
 (k16 : PySem.W.keepIn K (.ref f16) = true)
 (a17 : PySem.W.nsIn K mainGlobals "ring_net" = some (some (.ref f17)))
 (l17 : K.lookup f17 = some ⟨oc17, od17, .func (PySem.W.fnOf "ring_net" "ring_net" (defArgs s_ring_net) (defBody s_ring_net) (defScope s_ring_net) .none kV17 dc17 pm17 an17 cd17 ct17), sl17⟩)
 (c17 : PySem.W.codeIn K cd17 "ring_net" = true)
 (k17 : PySem.W.keepIn K (.ref f17) = true)
 (a18 : PySem.W.nsIn K mainGlobals "_law_single" = some (some (.ref f18)))
 (l18 : K.lookup f18 = some ⟨oc18, od18, .func (PySem.W.fnOf "_law_single" "_law_single" (defArgs s__law_single) (defBody s__law_single) (defScope s__law_single) .none kV18 dc18 pm18 an18 cd18 ct18), sl18⟩)
 (c18 : PySem.W.codeIn K cd18 "_law_single" = true)
 (k18 : PySem.W.keepIn K (.ref f18) = true)
 (a19 : PySem.W.nsIn K mainGlobals "law" = some (some (.ref f19)))
 (l19 : K.lookup f19 = some ⟨oc19, od19, .func (PySem.W.fnOf "law" "law" (defArgs s_law) (defBody s_law) (defScope s_law) .none kV19 dc19 pm19 an19 (.ref cA19) ct19), sl19⟩)
 (c19 : PySem.W.codeIn K (.ref cA19) "law" = true)
 (u19a : K.lookup cA19 = some ⟨.type "code", odC19, .fields us19, slC19⟩)
 (u19b : us19[11]? = some (.ref PT19))
 (u19c : PySem.W.codeHdIn K cA19 PT19 = true)
 (u19d : K.lookup PT19 = none)
 (u19e : h.get? PT19 = some tabE)
 (k19 : PySem.W.keepIn K (.ref f19) = true) :
    LawT l w K 10 "script" mg fa h := by
  letI TL : TabL := ⟨[(PT19, ((envOfC "law" (defScope s_law) 0 0 .none).qual ++ "<lambda>"))]⟩
  have e := hfa.symm.trans (PySem.W.mg_of X G a19)
  cases e
  have B : Blt mg := blt_of X G z0 z1 z2 z3 z4 z5 z6 z7 z8 z9 z10 z11 z12 z13 z14 z15 z16 z17 z18
  have TI : PySem.RefX.InitTxt l.prog K eD efI := ⟨⟨eoc, eod, edc, epm, ean, ecda, ecc, ect, esl, _, _, _, _, _, _, _, _, _, _, _, _, e1, e2, ⟨eccl, ecdd, evs, eccs, efile, etf, e3, e4, e5⟩, ⟨ecl, ecld, ecsl, e6⟩, _, fun _ => rfl⟩, ⟨ecdD, e7⟩, e8, e9, e10⟩
  have TC0 : PySem.RefX.ClsTxt K eD efI xC0 := ⟨⟨xnm0, xq0, xN0, xbs0, xbm0, xsn0, xsub0, xab0, xcol0, xdd0, xk00, xk10, xk20, xk30, xk50, y0b, y0c⟩, y0d, y0e, y0f, y0g, y0h, y0i, y0j, y0k, y0l, y0m, y0n, y0o, y0p⟩
  have TX0 : IsTxt K xC0 := ⟨y0q, y0r, y0s, y0t, y0u⟩
  have TBadSize : ErC l.prog K mg "BadSize" := ⟨eD, efI, xC0, TI, TC0, TX0, PySem.W.mg_of X G y0a, y0a, PySem.W.mg_none_of X G e8⟩
  have cKx0 : cK K "BadSize" = xC0 := cK_of y0a
  have TC1 : PySem.RefX.ClsTxt K eD efI xC1 := ⟨⟨xnm1, xq1, xN1, xbs1, xbm1, xsn1, xsub1, xab1, xcol1, xdd1, xk01, xk11, xk21, xk31, xk51, y1b, y1c⟩, y1d, y1e, y1f, y1g, y1h, y1i, y1j, y1k, y1l, y1m, y1n, y1o, y1p⟩
  have TX1 : IsTxt K xC1 := ⟨y1q, y1r, y1s, y1t, y1u⟩
  have TBadCount : ErC l.prog K mg "BadCount" := ⟨eD, efI, xC1, TI, TC1, TX1, PySem.W.mg_of X G y1a, y1a, PySem.W.mg_none_of X G e8⟩
  have cKx1 : cK K "BadCount" = xC1 := cK_of y1a
  have TC2 : PySem.RefX.ClsTxt K eD efI xC2 := ⟨⟨xnm2, xq2, xN2, xbs2, xbm2, xsn2, xsub2, xab2, xcol2, xdd2, xk02, xk12, xk22, xk32, xk52, y2b, y2c⟩, y2d, y2e, y2f, y2g, y2h, y2i, y2j, y2k, y2l, y2m, y2n, y2o, y2p⟩
  have TX2 : IsTxt K xC2 := ⟨y2q, y2r, y2s, y2t, y2u⟩
  have TBadNet : ErC l.prog K mg "BadNet" := ⟨eD, efI, xC2, TI, TC2, TX2, PySem.W.mg_of X G y2a, y2a, PySem.W.mg_none_of X G e8⟩
  have cKx2 : cK K "BadNet" = xC2 := cK_of y2a
  have TC3 : PySem.RefX.ClsTxt K eD efI xC3 := ⟨⟨xnm3, xq3, xN3, xbs3, xbm3, xsn3, xsub3, xab3, xcol3, xdd3, xk03, xk13, xk23, xk33, xk53, y3b, y3c⟩, y3d, y3e, y3f, y3g, y3h, y3i, y3j, y3k, y3l, y3m, y3n, y3o, y3p⟩
  have TX3 : IsTxt K xC3 := ⟨y3q, y3r, y3s, y3t, y3u⟩
  have TParted : ErC l.prog K mg "Parted" := ⟨eD, efI, xC3, TI, TC3, TX3, PySem.W.mg_of X G y3a, y3a, PySem.W.mg_none_of X G e8⟩
  have cKx3 : cK K "Parted" = xC3 := cK_of y3a
  have S__law_told : ErS K eD ns__law_told := ⟨fun c hc => by
    simp only [ns__law_told, List.mem_cons, List.not_mem_nil, or_false] at hc
    rcases hc with rfl | rfl | rfl | rfl
    · exact ⟨_, y0a, y0v⟩
    · exact ⟨_, y1a, y1v⟩
    · exact ⟨_, y2a, y2v⟩
    · exact ⟨_, y3a, y3v⟩⟩
  have Y__law_told : ∀ c ∈ ns__law_told, ∃ D' fI, PySem.RefX.ClsTxt K D' fI (cK K c) ∧ IsTxt K (cK K c) := fun c hc => by
    simp only [ns__law_told, List.mem_cons, List.not_mem_nil, or_false] at hc
    rcases hc with rfl | rfl | rfl | rfl
    · rw [cKx0]; exact ⟨_, _, TC0, TX0⟩
    · rw [cKx1]; exact ⟨_, _, TC1, TX1⟩
    · rw [cKx2]; exact ⟨_, _, TC2, TX2⟩
    · rw [cKx3]; exact ⟨_, _, TC3, TX3⟩
  have K__law_told_BadSize : IsiK K mg ns__law_told "BadSize" := ⟨xC0, PySem.W.mg_of X G y0a, fun c hc => by
    simp only [ns__law_told, List.mem_cons, List.not_mem_nil, or_false] at hc
    rcases hc with rfl | rfl | rfl | rfl
    · rw [cKx0, w0x0]; first | rfl | decide
    · rw [cKx1, w1x0]; first | rfl | decide
    · rw [cKx2, w2x0]; first | rfl | decide
    · rw [cKx3, w3x0]; first | rfl | decide⟩
  have K__law_told_BadCount : IsiK K mg ns__law_told "BadCount" := ⟨xC1, PySem.W.mg_of X G y1a, fun c hc => by
    simp only [ns__law_told, List.mem_cons, List.not_mem_nil, or_false] at hc
    rcases hc with rfl | rfl | rfl | rfl
    · rw [cKx0, w0x1]; first | rfl | decide
    · rw [cKx1, w1x1]; first | rfl | decide
    · rw [cKx2, w2x1]; first | rfl | decide
    · rw [cKx3, w3x1]; first | rfl | decide⟩
  have NNet : ∀ base : Heap, ClD l.prog w K mg base "Net" ["many", "threads", "near"] 1 := fun base => by
    have F := fun_mk (st := sINet) rNet3 rNet4 rNet5
    refine ⟨rCNet, rINet, _, ⟨rNetA, rNet1, rNet2, rNetB⟩, okI_Net F, ⟨⟨rNet6, rNet7, rNet8, rNet9⟩, fun f hf => ?_⟩, PySem.W.mg_of X G rNet0, rNet0, F.binds fun _ _ _ _ _ _ us hl => match us, hl with | [_, _, _, _], _ => rfl⟩
    simp only [List.mem_cons, List.not_mem_nil, or_false] at hf
    rcases hf with rfl | rfl | rfl
    · exact rNetf0
    · exact rNetf1
    · exact rNetf2
  have F0 := fun_mk (st := s__law_pool) l0 c0 k0
  have F1 := fun_mk (st := s__law_take) l1 c1 k1
  have F2 := fun_mk (st := s__law_one) l2 c2 k2
  have F3 := fun_mk (st := s__law_told) l3 c3 k3
  have F4 := fun_mk (st := s__law_threads) l4 c4 k4
  have F5 := fun_mk (st := s__law_grid_due) l5 c5 k5
  have F6 : FunX K "want_count" "want_count" s_want_count f6 (PySem.W.fnOf "want_count" "want_count" (defArgs s_want_count) (defBody s_want_count) (defScope s_want_count) (.ref TD6) kV6 dc6 pm6 an6 cd6 ct6) := ⟨_, _, _, _, _, _, _, _, _, _, rfl, l6, c6⟩
  have FD6 : L2.FunD K "want_count" "want_count" (defArgs s_want_count) (defBody s_want_count) (defScope s_want_count) [V.int (1)] [] f6 (PySem.W.fnOf "want_count" "want_count" (defArgs s_want_count) (defBody s_want_count) (defScope s_want_count) (.ref TD6) kV6 dc6 pm6 an6 cd6 ct6) := ⟨⟨_, _, _, _, _, _, _, _, _, _, rfl, l6, c6, .inr ⟨by simp, TD6, _, _, nT6, rfl, t6, by rw [s6], .cons ⟨tkT6_0, rfl⟩ .nil⟩, .inl rfl⟩, k6⟩
  have F7 := fun_mk (st := s_near_of) l7 c7 k7
  have F8 := fun_mk (st := s_met_from) l8 c8 k8
  have F9 := fun_mk (st := s_is_number) l9 c9 k9
  have F10 := fun_mk (st := s_is_within) l10 c10 k10
  have F11 := fun_mk (st := s_is_rising) l11 c11 k11
  have F12 := fun_mk (st := s_is_thread) l12 c12 k12
  have F13 := fun_mk (st := s_made_net) l13 c13 k13
  have F14 := fun_mk (st := s_grid_net) l14 c14 k14
  have F15 := fun_mk (st := s_line_net) l15 c15 k15
  have F16 := fun_mk (st := s_star_net) l16 c16 k16
  have F17 := fun_mk (st := s_ring_net) l17 c17 k17
  have F18 := fun_mk (st := s__law_single) l18 c18 k18
  have F19 := fun_mk (st := s_law) l19 c19 k19
  refine ⟨TL, PySem.W.fnOf "law" "law" (defArgs s_law) (defBody s_law) (defScope s_law) .none kV19 dc19 pm19 an19 (.ref cA19) ct19, [(cA19, PT19)], ⟨fun p hp => ?h1, fun p hp => ?h2, fun p hp => ?h3⟩, fun q hq => ?h4, fun s v => .of_eq rfl, fun base _ _ TB => ?main⟩
  case h1 =>
    simp only [List.mem_cons, List.not_mem_nil, or_false] at hp
    rcases hp with rfl
    · exact u19e
  case h2 =>
    simp only [List.mem_cons, List.not_mem_nil, or_false] at hp
    rcases hp with rfl
    · exact u19d
  case h3 =>
    simp only [List.mem_cons, List.not_mem_nil, or_false] at hp
    rcases hp with rfl
    · exact (PySem.W.codeHd_of_K X u19c)
  case h4 =>
    have hq : q ∈ ([(PT19, ((envOfC "law" (defScope s_law) 0 0 .none).qual ++ "<lambda>"))] : List (Addr × Str)) := hq
    simp only [List.mem_cons, List.not_mem_nil, or_false] at hq
    rcases hq with rfl
    · exact ⟨(cA19, PT19), by simp, rfl⟩
  have tU19 : ∀ p ∈ TabL.T, p.1 = PT19 → p.2 = ((envOfC "law" (defScope s_law) 0 0 .none).qual ++ "<lambda>") := fun p hp e => by
    have hp : p ∈ ([(PT19, ((envOfC "law" (defScope s_law) 0 0 .none).qual ++ "<lambda>"))] : List (Addr × Str)) := hp
    simp only [List.mem_cons, List.not_mem_nil, or_false] at hp
    rcases hp with rfl
    · rfl
  have tM19 : (PT19, ((envOfC "law" (defScope s_law) 0 0 .none).qual ++ "<lambda>")) ∈ (TabL.T : List (Addr × Str)) := by
    show (PT19, ((envOfC "law" (defScope s_law) 0 0 .none).qual ++ "<lambda>")) ∈ ([(PT19, ((envOfC "law" (defScope s_law) 0 0 .none).qual ++ "<lambda>"))] : List (Addr × Str))
    simp
  have tB19 : LamX.TabB base mg cA19 PT19 := TB (cA19, PT19) (by simp)
  have d__law_pool : Def l.prog w K mg base "_law_pool" 1 ["script", "k"] (spC K 2 m__law_pool) := ⟨_, _, ok__law_pool F0 B, PySem.W.mg_of X G a0, k0, F0.binds (fun _ _ _ _ _ _ us hl => match us, hl with | [_, _], _ => rfl)⟩
  have d__law_take : Def l.prog w K mg base "_law_take" 1 ["source", "top"] (spC K 2 m__law_take) := ⟨_, _, ok__law_take F1 B, PySem.W.mg_of X G a1, k1, F1.binds (fun _ _ _ _ _ _ us hl => match us, hl with | [_, _], _ => rfl)⟩
  have d__law_one : Def l.prog w K mg base "_law_one" 2 ["source", "things"] (spC K 2 m__law_one) := ⟨_, _, ok__law_one F2 B d__law_take, PySem.W.mg_of X G a2, k2, F2.binds (fun _ _ _ _ _ _ us hl => match us, hl with | [_, _], _ => rfl)⟩
  have d__law_told : TDef l.prog w K mg base "_law_told" 0 2 "deed" m__law_told := ok__law_told F3 B (PySem.W.mg_of X G e0) S__law_told Y__law_told K__law_told_BadSize K__law_told_BadCount (PySem.W.mg_of X G a3) k3 (F3.binds (fun _ _ _ _ _ _ us hl => match us, hl with | [_], _ => rfl))
  have d__law_threads : Def l.prog w K mg base "_law_threads" 1 ["many", "sort", "wide"] (spC K 3 m__law_threads) := ⟨_, _, ok__law_threads F4 B, PySem.W.mg_of X G a4, k4, F4.binds (fun _ _ _ _ _ _ us hl => match us, hl with | [_, _, _], _ => rfl)⟩
  have d__law_grid_due : Def l.prog w K mg base "_law_grid_due" 2 ["w", "h"] (spC K 2 m__law_grid_due) := ⟨_, _, ok__law_grid_due F5 B d__law_threads, PySem.W.mg_of X G a5, k5, F5.binds (fun _ _ _ _ _ _ us hl => match us, hl with | [_, _], _ => rfl)⟩
  have d_want_count : DefD l.prog w K mg base "want_count" 3 ["count", "least"] (spC K 2 m_want_count) [.int (1)] := by
    have hf := binds_full (ps := ["count", "least"]) FD6 (by simp) (fun _ _ _ _ _ _ _ us its h1 h2 => match us, its, h1, h2 with | [_, _], [_], _, _ => ⟨_, rfl, rfl⟩)
    obtain ⟨ds, v, b⟩ := FD6.binds1 (ps := ["count", "least"]) 1 0 (by simp) rfl (fun _ _ _ _ _ _ _ us its h1 h2 => match us, its, h1, h2 with | [_], [_], _, _ => ⟨_, rfl, rfl⟩)
    exact ⟨⟨_, _, ok_want_count F6 B ⟨_, PySem.W.mg_of X G kMOST_PLACES⟩ TBadCount, PySem.W.mg_of X G a6, k6, hf⟩, _, _, ds, ok_want_count F6 B ⟨_, PySem.W.mg_of X G kMOST_PLACES⟩ TBadCount, PySem.W.mg_of X G a6, k6, v, b⟩
  have d_near_of : Def l.prog w K mg base "near_of" 1 ["many", "threads"] (spC K 2 m_near_of) := ⟨_, _, ok_near_of F7 B, PySem.W.mg_of X G a7, k7, F7.binds (fun _ _ _ _ _ _ us hl => match us, hl with | [_, _], _ => rfl)⟩
  have d_met_from : Def l.prog w K mg base "met_from" 1 ["near", "first"] (spC K 2 m_met_from) := ⟨_, _, ok_met_from F8 B, PySem.W.mg_of X G a8, k8, F8.binds (fun _ _ _ _ _ _ us hl => match us, hl with | [_, _], _ => rfl)⟩
  have d_is_number : Def l.prog w K mg base "is_number" 1 ["thing"] (spC K 1 m_is_number) := ⟨_, _, ok_is_number F9 B, PySem.W.mg_of X G a9, k9, F9.binds (fun _ _ _ _ _ _ us hl => match us, hl with | [_], _ => rfl)⟩
  have d_is_within : Def l.prog w K mg base "is_within" 2 ["thing", "many"] (spC K 2 m_is_within) := ⟨_, _, ok_is_within F10 B d_is_number, PySem.W.mg_of X G a10, k10, F10.binds (fun _ _ _ _ _ _ us hl => match us, hl with | [_, _], _ => rfl)⟩
  have d_is_rising : Def l.prog w K mg base "is_rising" 3 ["row", "many"] (spC K 2 m_is_rising) := ⟨_, _, ok_is_rising F11 B d_is_within, PySem.W.mg_of X G a11, k11, F11.binds (fun _ _ _ _ _ _ us hl => match us, hl with | [_, _], _ => rfl)⟩
  have d_is_thread : Def l.prog w K mg base "is_thread" 4 ["thing", "many"] (spC K 2 m_is_thread) := ⟨_, _, ok_is_thread F12 B d_is_rising, PySem.W.mg_of X G a12, k12, F12.binds (fun _ _ _ _ _ _ us hl => match us, hl with | [_, _], _ => rfl)⟩
  have d_made_net : Def l.prog w K mg base "made_net" 5 ["many", "threads"] (spC K 2 m_made_net) := ⟨_, _, ok_made_net F13 B d_met_from d_near_of d_is_thread ⟨_, PySem.W.mg_of X G kMOST_THREADS⟩ ⟨_, PySem.W.mg_of X G kMOST_PLACES⟩ TParted TBadNet TBadSize (NNet base), PySem.W.mg_of X G a13, k13, F13.binds (fun _ _ _ _ _ _ us hl => match us, hl with | [_, _], _ => rfl)⟩
  have d_grid_net : DefK l.prog w K mg base "grid_net" 6 ["w", "h"] (spC K 2 m_grid_net) kb_grid_net := ⟨_, _, ok_grid_net F14 B d_made_net d_want_count ⟨_, PySem.W.mg_of X G kMOST_PLACES⟩ TBadSize, PySem.W.mg_of X G a14, k14, F14.binds (fun _ _ _ _ _ _ us hl => match us, hl with | [_, _], _ => rfl), fun q hq => by
    rw [List.mem_singleton] at hq
    subst hq
    exact ⟨fun s us ws h1 h2 => match us, ws, h1, h2 with | [], [_, _], _, _ => .of_eq rfl⟩⟩
  have d_line_net : DefK l.prog w K mg base "line_net" 6 ["n"] (spC K 1 m_line_net) kb_line_net := ⟨_, _, ok_line_net F15 B d_made_net d_want_count, PySem.W.mg_of X G a15, k15, F15.binds (fun _ _ _ _ _ _ us hl => match us, hl with | [_], _ => rfl), fun q hq => by
    rw [List.mem_singleton] at hq
    subst hq
    exact ⟨fun s us ws h1 h2 => match us, ws, h1, h2 with | [], [_], _, _ => .of_eq rfl⟩⟩
  have d_star_net : DefK l.prog w K mg base "star_net" 6 ["n"] (spC K 1 m_star_net) kb_star_net := ⟨_, _, ok_star_net F16 B d_made_net d_want_count, PySem.W.mg_of X G a16, k16, F16.binds (fun _ _ _ _ _ _ us hl => match us, hl with | [_], _ => rfl), fun q hq => by
    rw [List.mem_singleton] at hq
    subst hq
    exact ⟨fun s us ws h1 h2 => match us, ws, h1, h2 with | [], [_], _, _ => .of_eq rfl⟩⟩
  have d_ring_net : DefK l.prog w K mg base "ring_net" 6 ["n"] (spC K 1 m_ring_net) kb_ring_net := ⟨_, _, ok_ring_net F17 B d_made_net d_want_count ⟨_, PySem.W.mg_of X G kLEAST_RING⟩, PySem.W.mg_of X G a17, k17, F17.binds (fun _ _ _ _ _ _ us hl => match us, hl with | [_], _ => rfl), fun q hq => by
    rw [List.mem_singleton] at hq
    subst hq
    exact ⟨fun s us ws h1 h2 => match us, ws, h1, h2 with | [], [_], _, _ => .of_eq rfl⟩⟩
  have d__law_single : Def l.prog w K mg base "_law_single" 7 ["sort", "n"] (spC K 2 m__law_single) := ⟨_, _, ok__law_single F18 B d_star_net d_ring_net d_line_net, PySem.W.mg_of X G a18, k18, F18.binds (fun _ _ _ _ _ _ us hl => match us, hl with | [_, _], _ => rfl)⟩
  exact law_c (ok_law F19 B d__law_told d_grid_net d__law_grid_due d__law_one d__law_take d__law_single d__law_threads d__law_pool rfl tB19 tM19 tU19) law_true
end BC

open PySem PySem.W PyProof.Rows in
set_option maxRecDepth 100000 in
set_option maxHeartbeats 0 in
theorem PySem.Challenge.cw_betweencoats_k04_told_nets_holds : PySem.Challenge.rw_betweencoats_k04_told_nets.Holds := by
  w_on; o_law; k_head; (case hw => w_witness2)
  k_fill
  refine BC.walkGT (l := PySem.Challenge.rw_betweencoats_k04_told_nets) (k := 10) (x := "script") rfl rfl ⟨rfl, by decide, by decide⟩ (fun w h Y => PySem.W.km_in_of Y) ?F
  case F =>
    intro w mg fa h Y KX G hmg
    refine' BC.all_mk KX G hmg ?z0 ?z1 ?z2 ?z3 ?z4 ?z5 ?z6 ?z7 ?z8 ?z9 ?z10 ?z11 ?z12 ?z13 ?z14 ?z15 ?z16 ?z17 ?z18 ?kMOST_PLACES ?kMOST_THREADS ?kLEAST_RING ?e0 ?e00 ?e1 ?e2 ?e3 ?e4 ?e5 ?e6 ?e7 ?e8 ?e9 ?e10 ?y0a ?y0b ?y0c ?y0d ?y0e ?y0f ?y0g ?y0h ?y0i ?y0j ?y0k ?y0l ?y0m ?y0n ?y0o ?y0p ?y0q ?y0r ?y0s ?y0t ?y0u ?y0v ?y1a ?y1b ?y1c ?y1d ?y1e ?y1f ?y1g ?y1h ?y1i ?y1j ?y1k ?y1l ?y1m ?y1n ?y1o ?y1p ?y1q ?y1r ?y1s ?y1t ?y1u ?y1v ?y2a ?y2b ?y2c ?y2d ?y2e ?y2f ?y2g ?y2h ?y2i ?y2j ?y2k ?y2l ?y2m ?y2n ?y2o ?y2p ?y2q ?y2r ?y2s ?y2t ?y2u ?y2v ?y3a ?y3b ?y3c ?y3d ?y3e ?y3f ?y3g ?y3h ?y3i ?y3j ?y3k ?y3l ?y3m ?y3n ?y3o ?y3p ?y3q ?y3r ?y3s ?y3t ?y3u ?y3v ?w0x1 ?w0x0 ?w1x1 ?w1x0 ?w2x1 ?w2x0 ?w3x1 ?w3x0 ?rNet0 ?rNet1 ?rNet2 ?rNet3 ?rNet4 ?rNet5 ?rNet6 ?rNet7 ?rNet8 ?rNet9 ?rNetA ?rNetB ?rNetf0 ?rNetf1 ?rNetf2 ?a0 ?l0 ?c0 ?k0 ?a1 ?l1 ?c1 ?k1 ?a2 ?l2 ?c2 ?k2 ?a3 ?l3 ?c3 ?k3 ?a4 ?l4 ?c4 ?k4 ?a5 ?l5 ?c5 ?k5 ?a6 ?l6 ?t6 ?s6 ?c6 ?k6 ?a7 ?l7 ?c7 ?k7 ?a8 ?l8 ?c8 ?k8 ?a9 ?l9 ?c9 ?k9 ?a10 ?l10 ?c10 ?k10 ?a11 ?l11 ?c11 ?k11 ?a12 ?l12 ?c12 ?k12 ?a13 ?l13 ?c13 ?k13 ?a14 ?l14 ?c14 ?k14 ?a15 ?l15 ?c15 ?k15 ?a16 ?l16 ?c16 ?k16 ?a17 ?l17 ?c17 ?k17 ?a18 ?l18 ?c18 ?k18 ?a19 ?l19 ?c19 ?u19a ?u19b ?u19c ?u19d ?u19e ?k19
    (case z0 => k_is)
    (case z1 => k_is)
    (case z2 => k_is)
    (case z3 => k_is)
    (case z4 => k_is)
    (case z5 => k_is)
    (case z6 => k_is)
    (case z7 => k_is)
    (case z8 => k_is)
    (case z9 => k_is)
    (case z10 => k_is)
    (case z11 => k_is)
    (case z12 => k_is)
    (case z13 => k_is)
    (case z14 => k_is)
    (case z15 => k_is)
    (case z16 => k_is)
    (case z17 => k_is)
    (case z18 => k_is)
    (case kMOST_PLACES => k_is)
    (case kMOST_THREADS => k_is)
    (case kLEAST_RING => k_is)
    (case e0 => k_is)
    (case e00 => k_is)
    (case e1 => k_is)
    (case e2 => k_is)
    (case e3 => k_is)
    (case e4 => rfl)
    (case e5 => first | rfl | decide +kernel)
    (case e6 => k_is)
    (case e7 => k_is)
    (case e8 => k_is)
    (case e9 => rfl)
    (case e10 => k_is)
    (case y0a => k_is)
    (case y0b => k_is)
    (case y0c => first | rfl | decide +kernel)
    (case y0d => k_is)
    (case y0e => k_is)
    (case y0f => k_is)
    (case y0g => k_is)
    (case y0h => k_is)
    (case y0i => k_is)
    (case y0j => k_is)
    (case y0k => k_is)
    (case y0l => k_is)
    (case y0m => k_is)
    (case y0n => k_is)
    (case y0o => k_is)
    (case y0p => ks_is)
    (case y0q => first | k_is | rfl)
    (case y0r => k_is)
    (case y0s => k_is)
    (case y0t => k_is)
    (case y0u => k_is)
    (case y0v => kts_exm)
    (case y1a => k_is)
    (case y1b => k_is)
    (case y1c => first | rfl | decide +kernel)
    (case y1d => k_is)
    (case y1e => k_is)
    (case y1f => k_is)
    (case y1g => k_is)
    (case y1h => k_is)
    (case y1i => k_is)
    (case y1j => k_is)
    (case y1k => k_is)
    (case y1l => k_is)
    (case y1m => k_is)
    (case y1n => k_is)
    (case y1o => k_is)
    (case y1p => ks_is)
    (case y1q => first | k_is | rfl)
    (case y1r => k_is)
    (case y1s => k_is)
    (case y1t => k_is)
    (case y1u => k_is)
    (case y1v => kts_exm)
    (case y2a => k_is)
    (case y2b => k_is)
    (case y2c => first | rfl | decide +kernel)
    (case y2d => k_is)
    (case y2e => k_is)
    (case y2f => k_is)
    (case y2g => k_is)
    (case y2h => k_is)
    (case y2i => k_is)
    (case y2j => k_is)
    (case y2k => k_is)
    (case y2l => k_is)
    (case y2m => k_is)
    (case y2n => k_is)
    (case y2o => k_is)
    (case y2p => ks_is)
    (case y2q => first | k_is | rfl)
    (case y2r => k_is)
    (case y2s => k_is)
    (case y2t => k_is)
    (case y2u => k_is)
    (case y2v => kts_exm)
    (case y3a => k_is)
    (case y3b => k_is)
    (case y3c => first | rfl | decide +kernel)
    (case y3d => k_is)
    (case y3e => k_is)
    (case y3f => k_is)
    (case y3g => k_is)
    (case y3h => k_is)
    (case y3i => k_is)
    (case y3j => k_is)
    (case y3k => k_is)
    (case y3l => k_is)
    (case y3m => k_is)
    (case y3n => k_is)
    (case y3o => k_is)
    (case y3p => ks_is)
    (case y3q => first | k_is | rfl)
    (case y3r => k_is)
    (case y3s => k_is)
    (case y3t => k_is)
    (case y3u => k_is)
    (case y3v => kts_exm)
    (case w0x1 => kit_is)
    (case w0x0 => kit_is)
    (case w1x1 => kit_is)
    (case w1x0 => kit_is)
    (case w2x1 => kit_is)
    (case w2x0 => kit_is)
    (case w3x1 => kit_is)
    (case w3x0 => kit_is)
    (case rNet0 => k_is)
    (case rNet1 => k_is)
    (case rNet2 => k_is)
    (case rNet3 => k_is)
    (case rNet4 => k_is)
    (case rNet5 => k_is)
    (case rNet6 => k_is)
    (case rNet7 => k_is)
    (case rNet8 => k_is)
    (case rNet9 => k_is)
    (case rNetA => k_is)
    (case rNetB => k_is)
    (case rNetf0 => k_is)
    (case rNetf1 => k_is)
    (case rNetf2 => k_is)
    (case a0 => k_is)
    (case l0 => k_is)
    (case c0 => k_is)
    (case k0 => k_is)
    (case a1 => k_is)
    (case l1 => k_is)
    (case c1 => k_is)
    (case k1 => k_is)
    (case a2 => k_is)
    (case l2 => k_is)
    (case c2 => k_is)
    (case k2 => k_is)
    (case a3 => k_is)
    (case l3 => k_is)
    (case c3 => k_is)
    (case k3 => k_is)
    (case a4 => k_is)
    (case l4 => k_is)
    (case c4 => k_is)
    (case k4 => k_is)
    (case a5 => k_is)
    (case l5 => k_is)
    (case c5 => k_is)
    (case k5 => k_is)
    (case a6 => k_is)
    (case l6 => k_is)
    (case t6 => k_is)
    (case s6 => rfl)
    (case c6 => k_is)
    (case k6 => k_is)
    (case a7 => k_is)
    (case l7 => k_is)
    (case c7 => k_is)
    (case k7 => k_is)
    (case a8 => k_is)
    (case l8 => k_is)
    (case c8 => k_is)
    (case k8 => k_is)
    (case a9 => k_is)
    (case l9 => k_is)
    (case c9 => k_is)
    (case k9 => k_is)
    (case a10 => k_is)
    (case l10 => k_is)
    (case c10 => k_is)
    (case k10 => k_is)
    (case a11 => k_is)
    (case l11 => k_is)
    (case c11 => k_is)
    (case k11 => k_is)
    (case a12 => k_is)
    (case l12 => k_is)
    (case c12 => k_is)
    (case k12 => k_is)
    (case a13 => k_is)
    (case l13 => k_is)
    (case c13 => k_is)
    (case k13 => k_is)
    (case a14 => k_is)
    (case l14 => k_is)
    (case c14 => k_is)
    (case k14 => k_is)
    (case a15 => k_is)
    (case l15 => k_is)
    (case c15 => k_is)
    (case k15 => k_is)
    (case a16 => k_is)
    (case l16 => k_is)
    (case c16 => k_is)
    (case k16 => k_is)
    (case a17 => k_is)
    (case l17 => k_is)
    (case c17 => k_is)
    (case k17 => k_is)
    (case a18 => k_is)
    (case l18 => k_is)
    (case c18 => k_is)
    (case k18 => k_is)
    (case a19 => k_is)
    (case l19 => k_is)
    (case c19 => k_is)
    (case u19a => k_is)
    (case u19b => rfl)
    (case u19c => first | kernel_rfl | rfl | decide +kernel)
    (case u19d => first | k_is | rfl | decide +kernel)
    (case u19e => exact PySem.W.km_tabs_of Y _ (by simp))
    (case k19 => k_is)
