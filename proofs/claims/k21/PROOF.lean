import PyProof.Rows.All
import Wide.All
import OpenK.AllK
import Wide.FinOn
import KE.KExcSuper
import KE.KSuper
import HandS.Exc
import HandS.ForMost
import HandS.ForExc
import HandS.CallSlots
import HandS.Wide
import HandS.Deep
import HandS.TupAny
import HandS.IsInst
import HandS.Conv
import KE.KDictKeyed
import PyProof.NeData
import HandS.Style
import HandS.Dict
import HandS.TupLen
import KE.KRevSl
import HandS.ExcCtx
import HandS.HotCalls
import HandS.ExcField
import HandS.ExcIs
import KE.KExcIs
import HandS.MakeKwOnly
import HandS.Defaults
import HandS.Text
import PyProof.StrLawsChain
import PyProof.StrLawsTight
import HandS.SortOrd
import HandS.SortRule
import HandS.SortInts
import HandS.TupLe
import KE.KSortTup
import KE.KSortTupAny
import KE.KSortAsk
import PyProof.InstEq
import PyProof.InstNe
import HandS.More
import HandS.SlotsOwn
import KE.KDictLaw
import PyProof.SeqIndex
import KE.KTabLook
import PySem.Challenge.RW_zoneward_k21_cache
set_option Elab.async false
set_option linter.all false
set_option maxRecDepth 100000
set_option maxHeartbeats 4000000
/-! an own error whose __init__ says super().__init__() and keeps its place -/
namespace PySem
namespace ZX
open PySem.W PySem.Calls PyProof.Rows PySem.HandSPX
structure P9 where
  p1 : Pos
  p2 : Pos
  a1 : Pos
  a2 : Pos
  a3 : Pos
  a4 : Pos
  a5 : Pos
  b1 : Pos
  b2 : Pos
  b3 : Pos
  b4 : Pos
def eA (P : P9) : Arguments := { posonlyargs := [], args := [{ arg := "self", annotation := none, pos := P.p1 }, { arg := "place", annotation := none, pos := P.p2 }], vararg := none, kwonlyargs := [], kw_defaults := [], kwarg := none, defaults := [] }
def eB (P : P9) : List Stmt := [.Expr (.Call (.Attribute (.Call (.Name "super" P.a1) [] [] P.a2) "__init__" P.a3) [] [] P.a4) P.a5, .Assign [.Attribute (.Name "self" P.b1) "place" P.b2] (.Name "place" P.b3) P.b4]
def eS : Scope := { kind := .function, names := [(PySem.Str.ofString "self", .local), (PySem.Str.ofString "place", .local), (PySem.Str.ofString "__class__", .free), (PySem.Str.ofString "super", .globalImplicit)], isGenerator := false, isCoroutine := false, more := [] }
/-- what the top has written of the class C, whose __init__ is D's -/
structure ErrTxt (K : Frag) (prog : Program) (C D fI cc cda : Addr) : Prop where
  cls : ∃ nm q N bs bm sn sub ab col dd k0 k1 k2 k3 k5, K.lookup C = some (excClassObj nm q C N bs bm true sn sub ab col dd k0 k1 k2 k3 k5 "ValueError.__new__") ∧ refsVE bm = true
  sa : findIn K (.ref C) "__setattr__" = some (some (.builtin "object.__setattr__"))
  noP : findIn K (.ref C) "place" = some none
  iC : findIn K (.ref C) "__init__" = some (some (.ref fI))
  tC : typeIn K (.ref fI) = some (.type "function")
  kC : keepIn K (.ref C) = true
  exC : subIn K (.ref C) (.type "BaseException") = some true
  veC : subIn K (.ref C) (.type "ValueError") = some true
  tyC : typeIn K (.ref C) = some (.type "type")
  supC : ks_superIn K C D "__init__" = some (some (.builtin "ValueError.__init__"))
  opq : nsIn K cStatics "thirdparty.any" = some none
  cD : ∃ cdD, clsIn K D = some cdD
  mrD : mroIn K C (.ref D) = some true
  cell : ∃ cl cld csl, K.lookup cc = some ⟨cl, cld, .cell (some (.ref D)), csl⟩
  code : ∃ ccl cdd vs ccs file tf, K.lookup cda = some ⟨ccl, cdd, .fields vs, ccs⟩ ∧ vs[2]? = some (.str file tf) ∧ ((prog.main.file : Str) == file) = true
  top : (prog.main.scope.names.lookup ("super" : Str)).isSome = false
  fn : ∃ (oc : Value) (od : Option Addr) (doc pm : Value) (an : Option Addr) (ct : Value) (osl : Array (Option Value)) (P : P9),
    K.lookup fI = some ⟨oc, od, .func (ksFn "__init__" "ZonewardError.__init__" (eA P) (eB P) eS .none .none doc pm an (.ref cda) ct cc), osl⟩ ∧ codeIn K (.ref cda) "ZonewardError.__init__" = true ∧ (P.a3.endLine == P.a4.line) = true
structure InitEnd (h h' : Heap) (x C dx t1 : Addr) (v : Value) : Prop where
  keep : ∀ b o, b ≠ x → h.get? b = some o → h'.get? b = some o
  obj : h'.get? x = some { cls := .ref C, dict := some dx, data := .fields #[.ref t1, .none, .none, .none, .bool false, .none] }
  dbig : h.objs.size ≤ dx
  dne : dx ≠ x
  ns : h'.Ns1 dx (fun y => if y = "place" then some v else none)
section
variable {prog : Program} {w : World} {A : Around} {E : Value → Shared → Prop} {h : Heap} {g : Array GenState} {d : Drawn} {t : Nat} {os : OsState}
variable {nm q : Str} {C N : Addr} {bs bm : List Value} {hdct : Bool} {sn : List Str} {sub : List Value} {ab : Bool} {col : Option Bool} {dd : Option Addr} {k0 k1 k2 k3 k5 : Option Value}
theorem call_mw {u e t0 : Addr} {Q : Value → Shared → Prop}
    (hC : h.get? C = some (excClassObj nm q C N bs bm hdct sn sub ab col dd k0 k1 k2 k3 k5 "ValueError.__new__")) (he : h.get? e = some (excO C t0)) (hu : h.get? u = some (kxs_mw "ValueError.__init__" e))
    (hq : ∀ h' t1, (∀ b o, b ≠ e → h.get? b = some o → h'.get? b = some o) → h'.get? e = some (excO C t1) → Q .none ⟨h', g, d, t, os⟩) :
    wpAny (model prog w) A (call (.ref u) []) Q E ⟨h, g, d, t, os⟩ := by
  refine wpAny_call (codeAny_of_tree ?_)
  show wpAny _ A.in1 (callAny (.ref u) ⟨[], []⟩) _ _ _
  simp only [callAny]
  refine wpAny_bind (wpAny_load hu ?_)
  simp only [kxs_mw, show (Value.type "method-wrapper" == Value.type "method" || Value.type "method-wrapper" == Value.type "builtin_function_or_method" || Value.type "method-wrapper" == Value.type "method-wrapper") = true by decide, if_true]
  refine KFB.if_so (by decide) ?_
  refine wpAny_bind (check_bound_init F.excBase_ValueError.toExcCallFacts hC he rfl ?_)
  refine wpAny_bind (wpAny_pure (wpAny_pure ?_))
  refine ⟨plainId_quiet F.excBase_ValueError.init.plain _, codeAny_builtin F.excBase_ValueError.initEntry ?_⟩
  exact exc_init_tree (cls := .ref C) (t0 := t0) (dv := none) (c2 := .none) (c3 := .none) (b4 := .bool false) he (by decide) fun h' k e' _ => hq h' _ k e'
end
section
variable {prog : Program} {w : World} {A : Around} {E : Value → Shared → Prop} {R : Result → Shared → Prop} {s : Shared} {K : Frag} {mg mb : Str → Option Value} {C D fI cc cda : Addr}
theorem err_init (T : ErrTxt K prog C D fI cc cda) {x t0 : Addr} {v : Value} (X : K.In s.heap) (hlim : s.heap.NoLimit) (hns : s.heap.Ns mainGlobals mg) (hsup : mg "super" = none) (hbn : s.heap.Ns builtinsNs mb) (hbb : ∀ x : Str, x ≠ "__name__" → mb x = bootBuiltins x)
    (hx : s.heap.get? x = some (excO C t0)) (hnx : K.lookup x = none) (hroom : A.depth < recursionLimit)
    (hq : ∀ h' tk dx t1, InitEnd s.heap h' x C dx t1 v → R (.ok (.ret .none)) { s with heap := h', toks := tk }) :
    codeAny (model prog w) A (.call (.ref fI) ⟨[.ref x, v], []⟩) R s := by
  obtain ⟨oc, od, doc, pm, an, ct, osl, P, ho, hcd, hline⟩ := T.fn
  obtain ⟨nm, q, N, bs, bm, sn, sub, ab, col, dd, k0, k1, k2, k3, k5, hC, hbm⟩ := T.cls
  obtain ⟨cl, cld, csl, hcell⟩ := T.cell
  obtain ⟨ccl, cdd, vs, ccs, file, tf, hcode, hvs, hfile⟩ := T.code
  obtain ⟨cdD, hD⟩ := T.cD
  have hcl : clsIn K C = some { name := nm, bases := bs, mro := .ref C :: bm, ns := N, qualname := q, hasDict := true, slotNames := sn, subclasses := sub, abstract := ab, collection := col, hasDel := false } := by unfold clsIn; rw [hC] <;> rfl
  refine ks_codeAny_call_defAt (body := eB P) (binds := [("self", .ref x), ("place", v)]) hroom (X _ _ ho) rfl hlim (codeRec_of X hcd) rfl (BindsTo.of_eq (by first | rfl | with_unfolding_all rfl)) (show ∀ x ∈ eS.names, x.2 ≠ .cell by decide) (by intro y hy; simp only [List.mem_cons, List.not_mem_nil, or_false] at hy; rcases hy with rfl | rfl <;> rfl) (fun h₁ hn hk₁ => ?_)
  have X₁ : K.In h₁ := X.keeps hk₁
  have hx₁ := hk₁ _ _ hx
  have I₁ : InstAt h₁ x (excO C t0) C none := ⟨hx₁, rfl, rfl, trivial⟩
  obtain ⟨oD, hD1, hD2⟩ : ∃ oD, h₁.get? D = some oD ∧ oD.data = .cls cdD := by
    unfold clsIn at hD
    split at hD
    · rename_i c d cd' sl ho
      cases hD
      exact ⟨_, X₁ _ _ ho, rfl⟩
    · cases hD
  have hns₁ : h₁.Ns mainGlobals mg := hns.keeps hk₁
  have hbn₁ : h₁.Ns builtinsNs mb := hbn.keeps hk₁
  show _root_.PySem.wpAt (model prog w) (A.deeper (ksEnv "ZonewardError.__init__" eS s.heap.objs.size fI (.ref cda) cc)) (.func (eB P) (ksEnv "ZonewardError.__init__" eS s.heap.objs.size fI (.ref cda) cc)) (execs (eB P) (ksEnv "ZonewardError.__init__" eS s.heap.objs.size fI (.ref cda) cc)) _ _ _
  refine ks_wpAt_execs_cons (ks_wpAt_Expr_any (ks_wpAt_MethodCall (pl := do return (← importBound _ (ksEnv "ZonewardError.__init__" eS s.heap.objs.size fI (.ref cda) cc)).getD true) ?_ (by
    have hpos : methodCallPos true (.Call (.Name "super" P.a1) [] [] P.a2) (ksEnv "ZonewardError.__init__" eS s.heap.objs.size fI (.ref cda) cc) P.a3 P.a4 = pure P.a4 := by unfold methodCallPos; simp [hline]
    rw [arm_eval_Call]
    unfold methodCall
    rw [show methodCallForm (([] : List Expr).length + ([] : List Keyword).length) (backTo P.a4 (starEach [] (ksEnv "ZonewardError.__init__" eS s.heap.objs.size fI (.ref cda) cc))) (backToKw P.a4 (keywordEach [] (ksEnv "ZonewardError.__init__" eS s.heap.objs.size fI (.ref cda) cc))) = true from rfl, hpos]
    rfl)))
  refine ks_wpAt_super_base (env := ksEnv "ZonewardError.__init__" eS s.heap.objs.size fI (.ref cda) cc) rfl rfl rfl rfl (X₁ _ _ ho) rfl rfl rfl (X₁ _ _ hcode) rfl hvs hfile T.top ?_
  refine ks_loadName_global rfl rfl (loadGlobal_builtin (env := ksEnv "ZonewardError.__init__" eS s.heap.objs.size fI (.ref cda) cc) hns₁ hsup hbn₁ ((hbb _ (by decide +kernel)).trans (by decide +kernel)) ⟨rfl, ?_⟩)
  refine wpAny_loadName_free rfl rfl rfl ⟨_, X₁ _ _ hcell, rfl⟩ ?_
  refine wpAny_loadName_local rfl rfl hn (by rfl) ?_
  refine ks_wpAny_isType_cls hD1 hD2 ⟨rfl, ?_⟩
  refine ks_wpAny_call_super hD1 hD2 hx₁ rfl (fun c e => by cases e) (looks_mroIn X₁ T.mrD) (fun h₂ e₂ k₂ => ?_)
  have X₂ : K.In h₂ := X₁.keeps k₂
  have hx₂ := k₂ _ _ hx₁
  have hI : Looks (model prog w) h₂ (isInstance (.ref x) (.type "ValueError")) true := (show InstAt h₂ x (excO C t0) C none from ⟨hx₂, rfl, rfl, trivial⟩).type.andThen (looks_subIn X₂ T.veC)
  have hsup' := T.supC
  unfold ks_superIn at hsup'
  rw [hcl] at hsup'
  refine kxs_getMethod kxs_ValueError e₂ (looks_opaque X₂ T.opq) (l₀ := .ref C :: bm) ?_ rfl X₂ hsup' hI (ks_ne X₁ I₁ hcl) rfl ?_
  · exact fun A Q E s k q => wpAny_bind ((looks_clsIn X₂ hcl) A _ E s k (wpAny_pure q))
  have e₃ : (h₂.push (kxs_mw "ValueError.__init__" x)).get? h₂.objs.size = some (kxs_mw "ValueError.__init__" x) := Heap.get?_push_at rfl rfl
  have k₃ : ∀ b o, h₂.get? b = some o → (h₂.push (kxs_mw "ValueError.__init__" x)).get? b = some o := fun b o e => Heap.get?_push_of_some _ e
  refine kxs_callWith (i := "ValueError.__init__") (x := x) rfl (evalArgs_empty ⟨e₃, ?_⟩)
  refine call_mw (k₃ _ _ (X₂ _ _ hC)) (k₃ _ _ hx₂) e₃ fun h₄ t1 k₄ hx₄ => ?_
  have kk : ∀ b o, b ≠ x → h₁.get? b = some o → h₄.get? b = some o := fun b o hb e => k₄ b o hb (k₃ b o (k₂ b o e))
  have nK : ∀ b o, K.lookup b = some o → b ≠ x := fun b o e z => by
    subst z
    rw [hnx] at e; cases e
  have X₄ : K.In h₄ := fun b o e => kk b o (nK b o e) (X₁ b o e)
  have hL : s.heap.objs.size ≠ x := Nat.ne_of_gt (Heap.lt_size hx)
  have hn₄ : h₄.Ns s.heap.objs.size (fun y => ([("self", .ref x), ("place", v)] : List (Str × Value)).reverse.lookup y) := by
    obtain ⟨o, es, ep, e, dd, r⟩ := hn
    exact ⟨o, es, ep, kk _ _ hL e, dd, r⟩
  refine ks_wpAt_execs_cons (ks_wpAt_Assign_Attr (_root_.PySem.wpAt_of_wpAny ?_))
  refine wpAny_Name (wpAny_loadName_local rfl rfl hn₄ (v := v) (by rfl) ?_) (by decide)
  refine wpAny_Name (wpAny_loadName_local rfl rfl hn₄ (v := .ref x) (by rfl) ?_) (by decide)
  refine set_plain X₄ (ox := excO C t1) (od := none) ⟨hx₄, rfl, rfl, trivial⟩ T.sa ?_
  refine exc_osa X₄ hx₄ hcl (show refsVE (.ref C :: bm) = true from hbm) rfl T.noP (fun h₅ tk₅ dx k₅ dn dne hx₅ hn₅ => ?_)
  have z : s.heap.objs.size < h₄.objs.size := hn₄.lt
  exact _root_.PySem.wpAt_of_wpAny (wpAny_execs_nil (hq h₅ tk₅ dx t1 ⟨fun b o hb e => k₅ b o hb (kk b o hb (hk₁ b o e)), hx₅, Nat.le_of_lt (Nat.lt_of_lt_of_le z dn), dne, hn₅⟩))
/-- a made error -/
structure OwnMade (h h' : Heap) (e C d : Addr) (v : Value) : Prop where
  keep : ∀ b o, h.get? b = some o → h'.get? b = some o
  new : h.objs.size ≤ e
  obj : ∃ oe vs, h'.get? e = some oe ∧ oe.cls = .ref C ∧ oe.dict = some d ∧ oe.data = .fields vs ∧ vs[1]? = some .none ∧ vs[2]? = some .none
  dbig : h.objs.size ≤ d
  dne : d ≠ e
  ns : h'.Ns1 d (fun y => if y = "place" then some v else none)
theorem one_size (v : Value) : [v].length ≤ sizeLine := by
  rw [sizeLine_eq]
  exact (by decide : 1 ≤ 16777216)
theorem err_made (T : ErrTxt K prog C D fI cc cda) {v : Value} (X : K.In s.heap) (hlim : s.heap.NoLimit) (hns : s.heap.Ns mainGlobals mg) (hsup : mg "super" = none) (hbn : s.heap.Ns builtinsNs mb) (hbb : ∀ x : Str, x ≠ "__name__" → mb x = bootBuiltins x) (hroom : A.depth + 1 < recursionLimit)
    (hq : ∀ h' tk e d, OwnMade s.heap h' e C d v → R (.ok (.ret (.ref e))) { s with heap := h', toks := tk }) :
    codeAny (model prog w) A (.call (.ref C) ⟨[v], []⟩) R s := by
  obtain ⟨nm, q, N, bs, bm, sn, sub, ab, col, dd, k0, k1, k2, k3, k5, hC, hbm⟩ := T.cls
  obtain ⟨hp, g, dr, tk, os⟩ := s
  have k : ∀ b o, hp.get? b = some o → ((hp.push (kdv_tup [v])).push (excO C hp.objs.size)).get? b = some o := fun b o e => Heap.get?_push_of_some _ (Heap.get?_push_of_some _ e)
  have hget : ((hp.push (kdv_tup [v])).push (excO C hp.objs.size)).get? (hp.objs.size + 1) = some (excO C hp.objs.size) := by heap_get
  have hnx : K.lookup (hp.objs.size + 1) = none := by
    cases e : K.lookup (hp.objs.size + 1) with
    | none => rfl
    | some o =>
      have z : hp.get? (hp.objs.size + 1) = some o := X _ _ e
      exact absurd (Nat.lt_of_succ_lt (Heap.lt_size z)) (Nat.lt_irrefl _)
  refine call_own F.excBase_ValueError (fun X => refsVE_contains X bm hbm) (X _ _ hC) (looks_findIn X T.iC) (fun self => bind_fn X self T.tC) (one_size v) ?_
  refine err_init (s := ⟨(hp.push (kdv_tup [v])).push (excO C hp.objs.size), g, dr, tk, os⟩) T (X.keeps k) (hlim.keeps k) (hns.keeps k) hsup (hbn.keeps k) hbb hget hnx ?_ fun h' tk' dx t1 ⟨k', hx, dn, dne, hns'⟩ => ?_
  · show A.depth + 1 < recursionLimit
    exact hroom
  · have old : ∀ b o, hp.get? b = some o → h'.get? b = some o := fun b o e => k' b o (Nat.ne_of_lt (Nat.lt_succ_of_lt (Heap.lt_size e))) (k b o e)
    have z : hp.objs.size + 1 + 1 ≤ dx := by
      first
        | (simpa only [Heap.size_push] using dn)
        | exact dn
        | (have q := dn; rw [Heap.size_push, Heap.size_push] at q; exact q)
    exact ⟨rfl, hq h' tk' (hp.objs.size + 1) dx ⟨old, Nat.le_succ _, ⟨_, _, hx, rfl, rfl, rfl, rfl, rfl⟩, Nat.le_trans (Nat.le_trans (Nat.le_succ _) (Nat.le_succ _)) z, dne, hns'⟩⟩
end
end ZX
end PySem
namespace Z
open PySem PySem.Spec PyProof.Rows L2

/-! ### values and objects of the plain side -/
inductive PV where
  | non
  | bl (b : Bool)
  | int (i : Int)
  | str (s : List Nat)
  | tup (xs : List PV)
  | ro (xs : List PV)
  | lst (xs : List PV)
  | ref (n : Nat)
  | exn (c : Nat) (p : PV)
inductive OB where
  | lst (xs : List PV)
  | ins (c : Nat) (fs : List (Nat × PV))
  | dct (kvs : List (PV × PV))
  | fdc (kvs : List (PV × PV))
abbrev PH := List OB
abbrev Sl := List (Option PV)

/-- the constants of the plain side -/
structure Wd where
  K : PySem.W.Frag
  cA : Nat → Addr
  at_ : Nat → Str
  exA : Addr → Nat → Addr → Prop
  w : World
abbrev Emb := Nat → Option Addr
def RoL (K : PySem.W.Frag) (H : Hp) (a : Addr) (xs : List V) : Prop :=
  (∃ o, H a = some (.frz o (.lst xs))) ∨
    ∃ (o : Obj) (its : Array Value) (n : Nat), K.lookup a = some o ∧ o.cls = .type "list" ∧ o.dict = none ∧ o.data = .seq its n ∧ its.size ≤ sizeLine ∧ Vals xs its.toList
theorem RoL.sq {K : PySem.W.Frag} {H : Hp} {a : Addr} {xs : List V} (h : RoL K H a xs) : SqL K H a xs := by
  rcases h with h | h
  · exact .inl (.inr h)
  · exact .inr h
mutual
def Rep (W : Wd) (φ : Emb) (H : Hp) : PV → V → Prop
  | .non, v => v = .non
  | .bl b, v => v = .bl b
  | .int i, v => v = .int i
  | .str s, v => v = .str ⟨s.toArray⟩
  | .tup xs, v => ∃ a vs, v = .ref a ∧ SqT W.K H a vs ∧ RepL W φ H xs vs
  | .ro xs, v => ∃ a vs, v = .ref a ∧ RoL W.K H a vs ∧ RepL W φ H xs vs
  | .lst _, _ => False
  | .ref n, v => ∃ a, v = .ref a ∧ φ n = some a
  | .exn c p, v => ∃ a d pv, v = .ref a ∧ W.exA a c d ∧ H d = some (.xd [("place", pv)]) ∧ Rep W φ H p pv
def RepL (W : Wd) (φ : Emb) (H : Hp) : List PV → List V → Prop
  | [], vs => vs = []
  | x :: xs, vs => ∃ v r, vs = v :: r ∧ Rep W φ H x v ∧ RepL W φ H xs r
end
/-! keys of dicts -/
mutual
def keyN : PV → Option NestedKey
  | .non => some .none
  | .bl b => some (.num (if b = true then 1 else 0))
  | .int i => some (.num i)
  | .str s => some (.text ⟨s.toArray⟩)
  | .tup xs => (keyNs xs).map .tup
  | _ => none
def keyNs : List PV → Option (List NestedKey)
  | [] => some []
  | x :: xs => match keyN x, keyNs xs with
    | some k, some ks => some (k :: ks)
    | _, _ => none
end
/-- a key that is a tuple -/
def keyT : PV → Option NestedKey
  | .tup xs => (keyN (.tup xs)).bind fun k => if k.depth ≤ 8 then some k else none
  | _ => none
/-- what stands at a dict's address -/
def DF (w : World) (a : Addr) (rs : List (NestedKey × V × V)) (h : Heap) : Prop :=
  (a == sysModules) = false ∧ ∃ (o : Obj) (es : Array DictEntry) (ep : Nat), h.get? a = some o ∧ o.ExactDict ∧ o.data = .dict es ep ∧
    Paired (fun (r : NestedKey × V × V) (e : DictEntry) => e.hash = r.1.hash w ∧ RelV r.2.1 e.key ∧ RelV r.2.2 e.val) rs es.toList
def kvR (W : Wd) (φ : Emb) (H : Hp) (p : PV × PV) (r : NestedKey × V × V) : Prop := keyT p.1 = some r.1 ∧ Rep W φ H p.1 r.2.1 ∧ Rep W φ H p.2 r.2.2
def RepF (W : Wd) (φ : Emb) (H : Hp) : List (Nat × PV) → List (Str × V) → Prop
  | [], fs => fs = []
  | (k, x) :: xs, fs => ∃ v r, fs = (W.at_ k, v) :: r ∧ Rep W φ H x v ∧ RepF W φ H xs r
end Z
namespace Z
open PySem PySem.Spec PyProof.Rows L2
section
variable {W : Wd} {φ φ' : Emb} {H H' H0 : Hp} {h h' : PH}

theorem pairedL {α β : Type} {F : α → β → Prop} {xs : List α} {ys : List β} (r : Paired F xs ys) : ∀ x ∈ xs, ∃ y, F x y := by
  induction r with
  | nil => intro x hx; cases hx
  | cons h t ih =>
    intro x hx
    rcases List.mem_cons.mp hx with rfl | hx
    · exact ⟨_, h⟩
    · exact ih x hx
theorem pairedM {α β : Type} {F G : α → β → Prop} {xs : List α} {ys : List β} (r : Paired F xs ys) (i : ∀ x y, x ∈ xs → F x y → G x y) : Paired G xs ys := by
  induction r with
  | nil => exact .nil
  | cons h t ih => exact .cons (i _ _ (List.mem_cons_self ..) h) (ih fun x y hx z => i x y (List.mem_cons_of_mem _ hx) z)
theorem RepL.length : ∀ {xs : List PV} {vs : List V}, RepL W φ H xs vs → xs.length = vs.length
  | [], vs, h => by rw [RepL] at h; subst h; rfl
  | x :: xs, vs, h => by
    rw [RepL] at h
    obtain ⟨v, r, rfl, _, h2⟩ := h
    rw [List.length_cons, List.length_cons, RepL.length h2]
theorem RepL.nil : RepL W φ H [] [] := by rw [RepL]
theorem RepL.cons {x : PV} {v : V} {xs : List PV} {vs : List V} (h : Rep W φ H x v) (t : RepL W φ H xs vs) : RepL W φ H (x :: xs) (v :: vs) := by
  rw [RepL]; exact ⟨v, vs, rfl, h, t⟩
theorem RepL.uncons {x : PV} {xs : List PV} {vs : List V} (h : RepL W φ H (x :: xs) vs) : ∃ v r, vs = v :: r ∧ Rep W φ H x v ∧ RepL W φ H xs r := by
  rw [RepL] at h; exact h
theorem RepL.unnil {vs : List V} (h : RepL W φ H [] vs) : vs = [] := by
  rw [RepL] at h; exact h
theorem RepL.get : ∀ {xs : List PV} {vs : List V} {i : Nat} {x : PV}, RepL W φ H xs vs → xs[i]? = some x → ∃ v, vs[i]? = some v ∧ Rep W φ H x v
  | [], _, _, _, _, e => by simp at e
  | y :: xs, vs, 0, x, h, e => by
    obtain ⟨v, r, rfl, h1, _⟩ := h.uncons
    simp at e; subst e
    exact ⟨v, rfl, h1⟩
  | y :: xs, vs, i + 1, x, h, e => by
    obtain ⟨v, r, rfl, _, h2⟩ := h.uncons
    obtain ⟨w, e2, hw⟩ := RepL.get (i := i) h2 (by simpa using e)
    exact ⟨w, by simpa using e2, hw⟩
theorem RepL.get' : ∀ {xs : List PV} {vs : List V} {i : Nat} {v : V}, RepL W φ H xs vs → vs[i]? = some v → ∃ x, xs[i]? = some x ∧ Rep W φ H x v
  | [], vs, _, _, h, e => by have := h.unnil; subst this; simp at e
  | y :: xs, vs, 0, x, h, e => by
    obtain ⟨v, r, rfl, h1, _⟩ := h.uncons
    simp at e; subst e
    exact ⟨y, rfl, h1⟩
  | y :: xs, vs, i + 1, x, h, e => by
    obtain ⟨v, r, rfl, _, h2⟩ := h.uncons
    obtain ⟨w, e2, hw⟩ := RepL.get' (i := i) h2 (by simpa using e)
    exact ⟨w, by simpa using e2, hw⟩
theorem RepL.append : ∀ {xs ys : List PV} {vs ws : List V}, RepL W φ H xs vs → RepL W φ H ys ws → RepL W φ H (xs ++ ys) (vs ++ ws)
  | [], _, _, _, h, t => by rw [h.unnil]; exact t
  | x :: xs, ys, vs, ws, h, t => by
    obtain ⟨v, r, rfl, h1, h2⟩ := h.uncons
    exact .cons h1 (RepL.append h2 t)
theorem RepL.take : ∀ {xs : List PV} {vs : List V} (n : Nat), RepL W φ H xs vs → RepL W φ H (xs.take n) (vs.take n)
  | _, _, 0, _ => by simp only [List.take_zero]; exact .nil
  | [], vs, n + 1, h => by rw [h.unnil]; exact .nil
  | x :: xs, vs, n + 1, h => by
    obtain ⟨v, r, rfl, h1, h2⟩ := h.uncons
    exact .cons h1 (RepL.take n h2)
theorem RepL.drop : ∀ {xs : List PV} {vs : List V} (n : Nat), RepL W φ H xs vs → RepL W φ H (xs.drop n) (vs.drop n)
  | _, _, 0, r => r
  | [], vs, n + 1, h => by rw [h.unnil]; exact .nil
  | x :: xs, vs, n + 1, h => by
    obtain ⟨v, r, rfl, h1, h2⟩ := h.uncons
    exact RepL.drop n h2
theorem RepL.set {x : PV} {v : V} (hx : Rep W φ H x v) : ∀ {xs : List PV} {vs : List V} (i : Nat), RepL W φ H xs vs → RepL W φ H (xs.set i x) (vs.set i v)
  | [], vs, i, h => by rw [h.unnil]; exact .nil
  | y :: xs, vs, 0, h => by
    obtain ⟨w, r, rfl, h1, h2⟩ := h.uncons
    exact .cons hx h2
  | y :: xs, vs, i + 1, h => by
    obtain ⟨w, r, rfl, h1, h2⟩ := h.uncons
    exact .cons h1 (RepL.set hx i h2)
theorem RepL.reverse : ∀ {xs : List PV} {vs : List V}, RepL W φ H xs vs → RepL W φ H xs.reverse vs.reverse
  | [], vs, h => by rw [h.unnil]; exact .nil
  | x :: xs, vs, h => by
    obtain ⟨v, r, rfl, h1, h2⟩ := h.uncons
    rw [List.reverse_cons, List.reverse_cons]
    exact (RepL.reverse h2).append (.cons h1 .nil)
theorem RepL.eraseIdx : ∀ {xs : List PV} {vs : List V} (i : Nat), RepL W φ H xs vs → RepL W φ H (xs.eraseIdx i) (vs.eraseIdx i)
  | [], vs, i, h => by rw [h.unnil]; exact .nil
  | y :: xs, vs, 0, h => by
    obtain ⟨w, r, rfl, h1, h2⟩ := h.uncons
    exact h2
  | y :: xs, vs, i + 1, h => by
    obtain ⟨w, r, rfl, h1, h2⟩ := h.uncons
    exact .cons h1 (RepL.eraseIdx i h2)
theorem RepL.dropLast {xs : List PV} {vs : List V} (h : RepL W φ H xs vs) : RepL W φ H xs.dropLast vs.dropLast := by
  rw [List.dropLast_eq_take, List.dropLast_eq_take, h.length]
  exact h.take _
theorem RepL.flat_rep {xs : List PV} {vs : List V} (h : RepL W φ H xs vs) : ∀ n : Nat, RepL W φ H (List.replicate n xs).flatten (List.replicate n vs).flatten
  | 0 => .nil
  | n + 1 => by
    rw [List.replicate_succ, List.replicate_succ, List.flatten_cons, List.flatten_cons]
    exact h.append (h.flat_rep n)

/-- the plain heap is held: φ says where -/
def OR (W : Wd) (φ : Emb) (H : Hp) (a : Addr) : OB → Prop
  | .lst xs => ∃ vs, H a = some (.lst vs) ∧ RepL W φ H xs vs
  | .ins c fs => ∃ dx vs, H a = some (.ins (W.cA c) dx vs) ∧ RepF W φ H fs vs
  | .dct kvs => ∃ rs, H a = some (.ext (DF W.w a rs)) ∧ (rs.map (·.1)).Nodup ∧ kvs.length ≤ 16777216 ∧ Paired (kvR W φ H) kvs rs
  | .fdc kvs => ∃ o rs, H a = some (.frz o (.ext (DF W.w a rs))) ∧ (rs.map (·.1)).Nodup ∧ kvs.length ≤ 16777216 ∧ Paired (kvR W φ H) kvs rs
structure HR (W : Wd) (φ : Emb) (H : Hp) (h : PH) : Prop where
  dom : ∀ n, n < h.length → ∃ a, φ n = some a
  cod : ∀ n a, φ n = some a → n < h.length
  inj : ∀ n m a, φ n = some a → φ m = some a → n = m
  obj : ∀ n o a, h[n]? = some o → φ n = some a → OR W φ H a o
/-- what may stand where φ points -/
def Chg : HO → Prop
  | .lst _ => True
  | .ins _ _ _ => True
  | .ext _ => True
  | .frz _ (.ext _) => True
  | _ => False
theorem OR.chg {a : Addr} {o : OB} (x : OR W φ H a o) : ∃ u, H a = some u ∧ Chg u := by
  cases o with
  | lst xs => obtain ⟨vs, e, _⟩ := x; exact ⟨_, e, True.intro⟩
  | ins c fs => obtain ⟨dx, vs, e, _⟩ := x; exact ⟨_, e, True.intro⟩
  | dct kvs => obtain ⟨rs, e, _⟩ := x; exact ⟨_, e, True.intro⟩
  | fdc kvs => obtain ⟨o, rs, e, _⟩ := x; exact ⟨_, e, True.intro⟩
theorem HR.chg (x : HR W φ H h) {n : Nat} {a : Addr} (e : φ n = some a) : ∃ u, H a = some u ∧ Chg u := by
  have hn := x.cod n a e
  exact (x.obj n h[n] a (List.getElem?_eq_getElem hn) e).chg
/-- a part of the run: nothing that φ does not know is changed, and what is newly known is new -/
structure Post (φ : Emb) (H : Hp) (φ' : Emb) (H' : Hp) : Prop where
  sub : ∀ n a, φ n = some a → φ' n = some a
  keep : ∀ a o, H a = some o → (∀ n, φ n ≠ some a) → H' a = some o
  new : ∀ n a, φ' n = some a → φ n = some a ∨ H a = none
  frz : ∀ a o u, H a = some (.frz o u) → H' a = some (.frz o u)
theorem Post.refl : Post φ H φ H := ⟨fun _ _ e => e, fun _ _ e _ => e, fun _ _ e => .inl e, fun _ _ _ e => e⟩
theorem Post.out (p : Post φ H φ' H') {a : Addr} {o : HO} (e : H a = some o) (n : ∀ n, φ n ≠ some a) : ∀ n, φ' n ≠ some a := fun m q => by
  rcases p.new m a q with z | z
  · exact n m z
  · rw [e] at z; cases z
theorem Post.trans {φ1 φ2 φ3 : Emb} {H1 H2 H3 : Hp} (hr : HR W φ2 H2 h) (p : Post φ1 H1 φ2 H2) (q : Post φ2 H2 φ3 H3) : Post φ1 H1 φ3 H3 := by
  refine ⟨fun n a e => q.sub n a (p.sub n a e), fun a o e z => q.keep a o (p.keep a o e z) (p.out e z), fun n a e => ?_, fun a o u e => q.frz a o u (p.frz a o u e)⟩
  rcases q.new n a e with z | z
  · exact p.new n a z
  · by_cases hk : ∃ n, φ1 n = some a
    · obtain ⟨m, hm⟩ := hk
      obtain ⟨u, hu, _⟩ := hr.chg (p.sub m a hm)
      rw [z] at hu; cases hu
    · cases e1 : H1 a with
      | none => exact .inr rfl
      | some o =>
        have := p.keep a o e1 fun n z => hk ⟨n, z⟩
        rw [z] at this; cases this
theorem Post.tup (hr : HR W φ H h) (p : Post φ H φ' H') {a : Addr} {vs : List V} (s : SqT W.K H a vs) : SqT W.K H' a vs := by
  rcases s with (s | ⟨o, s⟩) | s
  · refine .inl (.inl (p.keep a _ s fun n e => ?_))
    obtain ⟨u, hu, c⟩ := hr.chg e
    rw [s] at hu; cases hu; exact c
  · refine .inl (.inr ⟨o, p.keep a _ s fun n e => ?_⟩)
    obtain ⟨u, hu, c⟩ := hr.chg e
    rw [s] at hu; cases hu; exact c
  · exact .inr s
theorem Post.ro (hr : HR W φ H h) (p : Post φ H φ' H') {a : Addr} {vs : List V} (s : RoL W.K H a vs) : RoL W.K H' a vs := by
  rcases s with ⟨o, s⟩ | s
  · refine .inl ⟨o, p.keep a _ s fun n e => ?_⟩
    obtain ⟨u, hu, c⟩ := hr.chg e
    rw [s] at hu; cases hu; exact c
  · exact .inr s
theorem Post.xd (hr : HR W φ H h) (p : Post φ H φ' H') {a : Addr} {fs : List (Str × V)} (s : H a = some (.xd fs)) : H' a = some (.xd fs) := by
  refine p.keep a _ s fun n e => ?_
  obtain ⟨u, hu, c⟩ := hr.chg e
  rw [s] at hu; cases hu; exact c
/-- what a value's standing leans on -/
structure Keep (W : Wd) (φ : Emb) (H : Hp) (φ' : Emb) (H' : Hp) : Prop where
  sub : ∀ n a, φ n = some a → φ' n = some a
  tup : ∀ a vs, SqT W.K H a vs → SqT W.K H' a vs
  ro : ∀ a vs, RoL W.K H a vs → RoL W.K H' a vs
  xd : ∀ a fs, H a = some (.xd fs) → H' a = some (.xd fs)
theorem Post.k (hr : HR W φ H h) (p : Post φ H φ' H') : Keep W φ H φ' H' := ⟨p.sub, fun _ _ s => p.tup hr s, fun _ _ s => p.ro hr s, fun _ _ s => p.xd hr s⟩
theorem Keep.of (s : ∀ n a, φ n = some a → φ' n = some a) : Keep W φ H φ' H := ⟨s, fun _ _ s => s, fun _ _ s => s, fun _ _ s => s⟩
mutual
theorem Rep.mono (p : Keep W φ H φ' H') : ∀ {x : PV} {v : V}, Rep W φ H x v → Rep W φ' H' x v
  | .non, v, e => by rw [Rep] at e ⊢; exact e
  | .bl b, v, e => by rw [Rep] at e ⊢; exact e
  | .int b, v, e => by rw [Rep] at e ⊢; exact e
  | .str b, v, e => by rw [Rep] at e ⊢; exact e
  | .tup xs, v, e => by
    rw [Rep] at e ⊢
    obtain ⟨a, vs, e1, s, t⟩ := e
    exact ⟨a, vs, e1, p.tup _ _ s, RepL.mono p t⟩
  | .ro xs, v, e => by
    rw [Rep] at e ⊢
    obtain ⟨a, vs, e1, s, t⟩ := e
    exact ⟨a, vs, e1, p.ro _ _ s, RepL.mono p t⟩
  | .lst xs, v, e => by rw [Rep] at e; exact e.elim
  | .ref n, v, e => by
    rw [Rep] at e ⊢
    obtain ⟨a, e1, s⟩ := e
    exact ⟨a, e1, p.sub _ _ s⟩
  | .exn c q, v, e => by
    rw [Rep] at e ⊢
    obtain ⟨a, d, pv, e1, s, t, u⟩ := e
    exact ⟨a, d, pv, e1, s, p.xd _ _ t, Rep.mono p u⟩
theorem RepL.mono (p : Keep W φ H φ' H') : ∀ {xs : List PV} {vs : List V}, RepL W φ H xs vs → RepL W φ' H' xs vs
  | [], vs, e => by rw [RepL] at e ⊢; exact e
  | x :: xs, vs, e => by
    rw [RepL] at e ⊢
    obtain ⟨v, r, e1, s, t⟩ := e
    exact ⟨v, r, e1, Rep.mono p s, RepL.mono p t⟩
end
theorem RepF.mono (p : Keep W φ H φ' H') : ∀ {xs : List (Nat × PV)} {vs : List (Str × V)}, RepF W φ H xs vs → RepF W φ' H' xs vs
  | [], vs, e => by unfold RepF at e ⊢; exact e
  | (k, x) :: xs, vs, e => by
    unfold RepF at e ⊢
    obtain ⟨v, r, e1, s, t⟩ := e
    exact ⟨v, r, e1, s.mono p, RepF.mono p t⟩
/-- an object's standing, the object itself as it was -/
theorem OR.mono (p : Keep W φ H φ' H') {a : Addr} {o : OB} (k : H' a = H a) (x : OR W φ H a o) : OR W φ' H' a o := by
  cases o with
  | lst xs => obtain ⟨vs, e, r⟩ := x; exact ⟨vs, k.trans e, r.mono p⟩
  | ins c fs => obtain ⟨dx, vs, e, r⟩ := x; exact ⟨dx, vs, k.trans e, r.mono p⟩
  | dct kvs => obtain ⟨rs, e, x1, x2, r⟩ := x; exact ⟨rs, k.trans e, x1, x2, Paired.mapP r fun _ _ z => ⟨z.1, z.2.1.mono p, z.2.2.mono p⟩⟩
  | fdc kvs => obtain ⟨o, rs, e, x1, x2, r⟩ := x; exact ⟨o, rs, k.trans e, x1, x2, Paired.mapP r fun _ _ z => ⟨z.1, z.2.1.mono p, z.2.2.mono p⟩⟩
/-- a value in hand: what may be stored, or a new list that nobody holds -/
def RR (W : Wd) (φ : Emb) (H0 H : Hp) (x : PV) (v : V) : Prop :=
  Rep W φ H x v ∨ ∃ xs a vs, x = .lst xs ∧ v = .ref a ∧ H a = some (.lst vs) ∧ H0 a = none ∧ (∀ n, φ n ≠ some a) ∧ RepL W φ H xs vs
theorem RR.mono (hr : HR W φ H h) (p : Post φ H φ' H') {x : PV} {v : V} (r : RR W φ H0 H x v) : RR W φ' H0 H' x v := by
  rcases r with r | ⟨xs, a, vs, e1, e2, e3, e4, e5, e6⟩
  · exact .inl (r.mono (p.k hr))
  · exact .inr ⟨xs, a, vs, e1, e2, p.keep a _ e3 e5, e4, p.out e3 e5, e6.mono (p.k hr)⟩
theorem RR.up {φ1 φ2 : Emb} {H1 H2 : Hp} {h2 : PH} (hr : HR W φ2 H2 h2) (p : Post φ1 H1 φ2 H2) {x : PV} {v : V} (r : RR W φ H2 H x v) : RR W φ H1 H x v := by
  rcases r with r | ⟨xs, a, vs, e1, e2, e3, e4, e5, e6⟩
  · exact .inl r
  · refine .inr ⟨xs, a, vs, e1, e2, e3, ?_, e5, e6⟩
    cases z : H1 a with
    | none => rfl
    | some o =>
      have := p.keep a o z fun n e => by
        obtain ⟨u, hu, _⟩ := hr.chg (p.sub n a e)
        rw [e4] at hu; cases hu
      rw [e4] at this; cases this
theorem RR.rep {x : PV} {v : V} (r : RR W φ H0 H x v) (n : ∀ xs, x ≠ .lst xs) : Rep W φ H x v := by
  rcases r with r | ⟨xs, a, vs, e1, _⟩
  · exact r
  · exact absurd e1 (n xs)
theorem HR.out (x : HR W φ H h) {a : Addr} {u : HO} (e : H a = some u) (c : ¬ Chg u) : ∀ n, φ n ≠ some a := fun n q => by
  obtain ⟨u', hu, c'⟩ := x.chg q
  rw [e] at hu; cases hu; exact c c'
theorem HR.free (x : HR W φ H h) {a : Addr} (e : H a = none) : ∀ n, φ n ≠ some a := fun n q => by
  obtain ⟨u', hu, _⟩ := x.chg q
  rw [e] at hu; cases hu
/-- a new object that φ does not know -/
theorem Post.add {a : Addr} {o : HO} (e : H a = none) : Post φ H φ (upd H a o) := by
  refine ⟨fun _ _ e => e, fun b u q n => ?_, fun _ _ e => .inl e, fun b o u q => ?_⟩
  · rw [upd_ne (ne_of_none q e)]; exact q
  · rw [upd_ne (ne_of_none q e)]; exact q
theorem HR.post (x : HR W φ H h) {H' : Hp} (p : Post φ H φ H') (k : ∀ n a, φ n = some a → H' a = H a) : HR W φ H' h :=
  ⟨x.dom, x.cod, x.inj, fun n o a e1 e2 => (x.obj n o a e1 e2).mono (p.k x) (k n a e2)⟩
theorem HR.add (x : HR W φ H h) {a : Addr} {o : HO} (e : H a = none) : HR W φ (upd H a o) h :=
  x.post (.add e) fun n b q => upd_ne fun z => by subst z; exact x.free e n q

/-- φ with one more -/
def ext (φ : Emb) (n : Nat) (a : Addr) : Emb := fun m => if m = n then some a else φ m
theorem ext_same {n : Nat} {a : Addr} : ext φ n a n = some a := if_pos rfl
theorem ext_ne {n m : Nat} {a : Addr} (h : m ≠ n) : ext φ n a m = φ m := if_neg h
theorem HR.sub (x : HR W φ H h) (a : Addr) : ∀ n b, φ n = some b → ext φ h.length a n = some b := fun n b e => by
  rw [ext_ne (Nat.ne_of_lt (x.cod n b e))]; exact e
/-- an object that stands already becomes known -/
theorem HR.know (x : HR W φ H h) {a : Addr} {o : OB} (n : ∀ n, φ n ≠ some a) (r : OR W φ H a o) : HR W (ext φ h.length a) H (h ++ [o]) := by
  have k : Keep W φ H (ext φ h.length a) H := .of (x.sub a)
  refine ⟨fun m hm => ?_, fun m b e => ?_, fun m l b e1 e2 => ?_, fun m u b e1 e2 => ?_⟩
  · rw [List.length_append, List.length_singleton] at hm
    by_cases e : m = h.length
    · exact ⟨a, by rw [e]; exact ext_same⟩
    · obtain ⟨b, q⟩ := x.dom m (by omega)
      exact ⟨b, by rw [ext_ne e]; exact q⟩
  · rw [List.length_append, List.length_singleton]
    by_cases q : m = h.length
    · omega
    · rw [ext_ne q] at e
      have := x.cod m b e
      omega
  · by_cases q : m = h.length
    · by_cases q' : l = h.length
      · omega
      · rw [q, ext_same] at e1; cases e1
        rw [ext_ne q'] at e2
        exact absurd e2 (n l)
    · rw [ext_ne q] at e1
      by_cases q' : l = h.length
      · rw [q', ext_same] at e2; cases e2
        exact absurd e1 (n m)
      · rw [ext_ne q'] at e2
        exact x.inj m l b e1 e2
  · by_cases q : m = h.length
    · subst q
      rw [ext_same] at e2; cases e2
      rw [List.getElem?_append_right (Nat.le_refl _), Nat.sub_self] at e1
      cases e1
      exact r.mono k rfl
    · rw [ext_ne q] at e2
      rw [List.getElem?_append_left (x.cod m b e2)] at e1
      exact (x.obj m u b e1 e2).mono k rfl
theorem Post.know {φ0 : Emb} {H0 : Hp} (x : HR W φ H h) (p : Post φ0 H0 φ H) {a : Addr} (e : H0 a = none) : Post φ0 H0 (ext φ h.length a) H := by
  refine ⟨fun n b q => x.sub a n b (p.sub n b q), p.keep, fun n b q => ?_, p.frz⟩
  by_cases z : n = h.length
  · rw [z, ext_same] at q; cases q; exact .inr e
  · rw [ext_ne z] at q; exact p.new n b q
/-- it is not locked -/
def NF (H : Hp) (a : Addr) : Prop := ∀ o u, H a ≠ some (.frz o u)
theorem nf_lst {H : Hp} {a : Addr} {xs : List V} (e : H a = some (.lst xs)) : NF H a := fun o u q => by rw [e] at q; cases q
theorem nf_ins {H : Hp} {a : Addr} {C dx : Addr} {fs : List (Str × V)} (e : H a = some (.ins C dx fs)) : NF H a := fun o u q => by rw [e] at q; cases q
theorem nf_ext {H : Hp} {a : Addr} {F : Heap → Prop} (e : H a = some (.ext F)) : NF H a := fun o u q => by rw [e] at q; cases q
theorem Post.put {n : Nat} {a : Addr} {u : HO} (e : φ n = some a) (nf : NF H a) : Post φ H φ (upd H a u) := ⟨fun _ _ q => q, fun b w q z => by
  rw [upd_ne fun y => by subst y; exact z n e]; exact q, fun _ _ q => .inl q, fun b o w q => by
  rw [upd_ne fun y => by subst y; exact nf _ _ q]; exact q⟩
/-- an object that φ knows is changed -/
theorem HR.put (x : HR W φ H h) {n : Nat} {a : Addr} {u : HO} {o : OB} (e : φ n = some a) (nf : NF H a) (c : Chg u) (r : OR W φ (upd H a u) a o) : HR W φ (upd H a u) (h.set n o) ∧ Post φ H φ (upd H a u) := by
  have p : Post φ H φ (upd H a u) := .put e nf
  refine ⟨⟨fun m hm => x.dom m (by rwa [List.length_set] at hm), fun m b q => by rw [List.length_set]; exact x.cod m b q, x.inj, fun m w b e1 e2 => ?_⟩, p⟩
  by_cases q : m = n
  · subst q
    rw [e] at e2; cases e2
    rw [List.getElem?_set_self (x.cod m a e)] at e1
    cases e1
    exact r
  · rw [List.getElem?_set_ne (Ne.symm q)] at e1
    refine (x.obj m w b e1 e2).mono (p.k x) (upd_ne fun z => ?_)
    subst z
    exact q (x.inj m n b e2 e)

/-! ### slots -/
structure SR (W : Wd) (φ : Emb) (H : Hp) (env : Sl) (σ : L2.St) : Prop where
  len : env.length = σ.length
  at_ : ∀ (i : Nat) x, env[i]? = some (some x) → ∃ v, σ[i]? = some (some v) ∧ Rep W φ H x v
theorem SR.mono (p : Keep W φ H φ' H') {env : Sl} {σ : L2.St} (s : SR W φ H env σ) : SR W φ' H' env σ := ⟨s.len, fun i x e => by
  obtain ⟨v, e1, r⟩ := s.at_ i x e
  exact ⟨v, e1, r.mono p⟩⟩
theorem SR.set {env : Sl} {σ : L2.St} (s : SR W φ H env σ) {x : PV} {v : V} (r : Rep W φ H x v) (i : Nat) : SR W φ H (env.set i (some x)) (σ.set i (some v)) := by
  refine ⟨by rw [List.length_set, List.length_set]; exact s.len, fun j y e => ?_⟩
  by_cases q : j = i
  · subst q
    by_cases hl : j < env.length
    · rw [List.getElem?_set_self hl] at e
      cases e
      exact ⟨v, by rw [List.getElem?_set_self (by rw [← s.len]; exact hl)], r⟩
    · rw [List.getElem?_eq_none (by rw [List.length_set]; omega)] at e; cases e
  · rw [List.getElem?_set_ne (Ne.symm q)] at e
    obtain ⟨w, e1, r1⟩ := s.at_ j y e
    exact ⟨w, by rw [List.getElem?_set_ne (Ne.symm q)]; exact e1, r1⟩
end
end Z
namespace Z
open PySem PySem.Spec PyProof.Rows L2

/-! ### what a piece of code gives on the plain side -/
inductive RG (α : Type) where
  | ok (a : α) (h : PH)
  | ex (c : Nat) (p : PV) (h : PH)
  | bad
def RG.bind {α β : Type} (r : RG α) (k : α → PH → RG β) : RG β := match r with
  | .ok a h => k a h
  | .ex c p h => .ex c p h
  | .bad => .bad
theorem RG.bind_ok {α β : Type} (a : α) (h : PH) (k : α → PH → RG β) : (RG.ok a h).bind k = k a h := rfl
abbrev MG (α : Type) := Sl → PH → RG α
inductive RS where
  | nx (σ : Sl) (h : PH)
  | rt (x : PV) (h : PH)
  | bk (σ : Sl) (h : PH)
  | ct (σ : Sl) (h : PH)
  | ex (c : Nat) (p : PV) (σ : Sl) (h : PH)
  | bad
abbrev MS := Sl → PH → RS

abbrev RL (α β : Type) := Hp → Emb → Hp → α → β → Prop
section
variable (W : Wd) (Wx : WX)
def XZ (σ : L2.St) (φ : Emb) (H : Hp) (c : Nat) (p : PV) (h' : PH) : Prop :=
  ∀ φ' d pv H', Post φ H φ' H' → HR W φ' H' h' → Rep W φ' H' p pv → H' d = some (.xd [("place", pv)]) → Wx (.ref (W.cA c)) (some d) σ H'
def ResG {α β : Type} (R : RL α β) (σ : L2.St) (φ : Emb) (H : Hp) (r : RG α) (Q : β → Hp → Prop) : Prop := match r with
  | .ok x h' => ∀ φ' v H', Post φ H φ' H' → HR W φ' H' h' → R H φ' H' x v → Q v H'
  | .ex c p h' => XZ W Wx σ φ H c p h'
  | .bad => False
/-- the readings -/
def tG {α β : Type} (R : RL α β) (m : MG α) : L2.St → Hp → (β → Hp → Prop) → Prop := fun σ H Q => ∃ φ env h, SR W φ H env σ ∧ HR W φ H h ∧ ResG W Wx R σ φ H (m env h) Q
def rE : RL PV V := fun H0 φ H x v => RR W φ H0 H x v
def rM : RL PV V := fun _ φ H x v => Rep W φ H x v
def rT : RL Bool Bool := fun _ _ _ x v => x = v
def rA : RL (List PV) (List V) := fun _ φ H xs vs => RepL W φ H xs vs
abbrev tE (m : MG PV) : TE := tG W Wx (rE W) m
abbrev tM (m : MG PV) : TE := tG W Wx (rM W) m
abbrev tT (m : MG Bool) : TT := tG W Wx rT m
abbrev tA (m : MG (List PV)) : TA := tG W Wx (rA W) m
def ResS (φ : Emb) (H : Hp) (r : RS) (D : Ends) : Prop := match r with
  | .nx env h' => ∀ φ' σ' H', Post φ H φ' H' → HR W φ' H' h' → SR W φ' H' env σ' → D.nx σ' H'
  | .rt x h' => ∀ φ' v H', Post φ H φ' H' → HR W φ' H' h' → RR W φ' H H' x v → D.rt v H'
  | .bk env h' => ∀ φ' σ' H', Post φ H φ' H' → HR W φ' H' h' → SR W φ' H' env σ' → D.bk σ' H'
  | .ct env h' => ∀ φ' σ' H', Post φ H φ' H' → HR W φ' H' h' → SR W φ' H' env σ' → D.ct σ' H'
  | .ex c p env h' => ∀ φ' σ' d pv H', Post φ H φ' H' → HR W φ' H' h' → SR W φ' H' env σ' → Rep W φ' H' p pv → H' d = some (.xd [("place", pv)]) → Wx (.ref (W.cA c)) (some d) σ' H'
  | .bad => False
def tS (m : MS) : TS := fun D σ H => ∃ φ env h, SR W φ H env σ ∧ HR W φ H h ∧ ResS W Wx φ H (m env h) D
end
section
variable {W : Wd} {Wx : WX} {α β γ δ : Type} {R : RL α β} {R' : RL γ δ} {σ : L2.St} {φ φ1 : Emb} {H H1 : Hp} {h1 : PH}
class Up (R : RL α β) : Prop where
  up : ∀ {W : Wd} {φ1 φ2 φ : Emb} {H1 H2 H : Hp} {h2 : PH} {x : α} {v : β}, HR W φ2 H2 h2 → Post φ1 H1 φ2 H2 → R H2 φ H x v → R H1 φ H x v
instance : Up (rE W) := ⟨fun hr p r => by
  rcases r with r | ⟨xs, a, vs, e1, e2, e3, e4, e5, e6⟩
  · exact .inl r
  · refine .inr ⟨xs, a, vs, e1, e2, e3, ?_, e5, e6⟩
    rename_i W' φ1 φ2 φ H1 H2 H h2 x v
    cases z : H1 a with
    | none => rfl
    | some o =>
      have := p.keep a o z fun n e => by
        obtain ⟨u, hu, _⟩ := hr.chg (p.sub n a e)
        rw [e4] at hu; cases hu
      rw [e4] at this; cases this⟩
instance : Up (rM W) := ⟨fun _ _ r => r⟩
instance : Up rT := ⟨fun _ _ r => r⟩
instance : Up (rA W) := ⟨fun _ _ r => r⟩
theorem XZ.later {c : Nat} {p : PV} {h' : PH} (x : XZ W Wx σ φ H c p h') (q : Post φ H φ1 H1) (hr : HR W φ1 H1 h1) : XZ W Wx σ φ1 H1 c p h' :=
  fun φ' d pv H' p' r' e f => x φ' d pv H' (q.trans hr p') r' e f
theorem ResG.later [Up R] {r : RG α} {Q : β → Hp → Prop} (x : ResG W Wx R σ φ H r Q) (q : Post φ H φ1 H1) (hr : HR W φ1 H1 h1) : ResG W Wx R σ φ1 H1 r Q := by
  cases r with
  | ok a h' => exact fun φ' v H' p' r' e => x φ' v H' (q.trans hr p') r' (Up.up hr q e)
  | ex c p h' => exact XZ.later x q hr
  | bad => exact x
theorem ResS.later {r : RS} {D : Ends} (x : ResS W Wx φ H r D) (q : Post φ H φ1 H1) (hr : HR W φ1 H1 h1) : ResS W Wx φ1 H1 r D := by
  cases r with
  | nx env h' => exact fun φ' v H' p' r' e => x φ' v H' (q.trans hr p') r' e
  | rt env h' => exact fun φ' v H' p' r' e => x φ' v H' (q.trans hr p') r' (e.up hr q)
  | bk env h' => exact fun φ' v H' p' r' e => x φ' v H' (q.trans hr p') r' e
  | ct env h' => exact fun φ' v H' p' r' e => x φ' v H' (q.trans hr p') r' e
  | ex c p env h' => exact fun φ' v d pv H' p' r' e f g => x φ' v d pv H' (q.trans hr p') r' e f g
  | bad => exact x
theorem ResG.mono {r : RG α} {Q Q' : β → Hp → Prop} (x : ResG W Wx R σ φ H r Q) (i : ∀ v H', Q v H' → Q' v H') : ResG W Wx R σ φ H r Q' := by
  cases r with
  | ok a h' => exact fun φ' v H' p' r' e => i _ _ (x φ' v H' p' r' e)
  | ex c p h' => exact x
  | bad => exact x
theorem tG.mono {m : MG α} {Q Q' : β → Hp → Prop} (x : tG W Wx R m σ H Q) (i : ∀ v H', Q v H' → Q' v H') : tG W Wx R m σ H Q' := by
  obtain ⟨φ, env, h, s, r, x⟩ := x
  exact ⟨φ, env, h, s, r, x.mono i⟩
/-- one piece, then another -/
theorem tb [Up R'] {m : MG α} {k : α → PH → RG γ} {Q : δ → Hp → Prop} {env : Sl} {h : PH} (s : SR W φ H env σ) (r : HR W φ H h) (x : ResG W Wx R' σ φ H ((m env h).bind k) Q) :
    tG W Wx R m σ H fun v H1 => ∃ φ1 h1 a, Post φ H φ1 H1 ∧ SR W φ1 H1 env σ ∧ HR W φ1 H1 h1 ∧ R H φ1 H1 a v ∧ ResG W Wx R' σ φ1 H1 (k a h1) Q := by
  refine ⟨φ, env, h, s, r, ?_⟩
  cases e : m env h with
  | ok a h1 =>
    rw [e] at x
    exact fun φ' v H' p' r' q => ⟨φ', h1, a, p', s.mono (p'.k r), r', q, ResG.later x p' r'⟩
  | ex c p h1 => rw [e] at x; exact x
  | bad => rw [e] at x; exact x
theorem tG.of {m : MG α} {env : Sl} {h : PH} {Q : β → Hp → Prop} (s : SR W φ H env σ) (r : HR W φ H h) (x : ResG W Wx R σ φ H (m env h) Q) : tG W Wx R m σ H Q := ⟨φ, env, h, s, r, x⟩

theorem PE.imp {X : Cx} {e : Expr} {t t' : TE} (h : PE X e t) (i : ∀ σ H Q, t' σ H Q → t σ H Q) : PE X e t' := ⟨fun pins s σ H Q I q => h.run pins s σ H Q I (i _ _ _ q)⟩
theorem PT.imp {X : Cx} {e : Expr} {t t' : TT} (h : PT X e t) (i : ∀ σ H Q, t' σ H Q → t σ H Q) : PT X e t' := ⟨fun pins s σ H Q I q => h.run pins s σ H Q I (i _ _ _ q)⟩
theorem PW.imp {X : Cx} {e : Expr} {t t' : TT} (h : PW X e t) (i : ∀ σ H Q, t' σ H Q → t σ H Q) : PW X e t' := ⟨fun wh pins s σ H Q I q => h.run wh pins s σ H Q I (i _ _ _ q)⟩
theorem PA.imp {X : Cx} {e : List Expr} {t t' : TA} (h : PA X e t) (i : ∀ σ H Q, t' σ H Q → t σ H Q) : PA X e t' := ⟨fun pos pins s σ H Q I q => h.run pos pins s σ H Q I (i _ _ _ q)⟩
theorem PS.imp {X : Cx} {e : Stmt} {t t' : TS} (h : L2.PS X e t) (i : ∀ D σ H, t' D σ H → t D σ H) : L2.PS X e t' := ⟨fun pins s σ H D I q => h.run pins s σ H D I (i _ _ _ q)⟩
theorem PSs.imp {X : Cx} {e : List Stmt} {t t' : TS} (h : PSs X e t) (i : ∀ D σ H, t' D σ H → t D σ H) : PSs X e t' := ⟨fun pins s σ H D I q => h.run pins s σ H D I (i _ _ _ q)⟩
theorem PI.imp {X : Cx} {tg e : Expr} {t t' : TI} (h : PI X tg e t) (i : ∀ σ H R, t' σ H R → t σ H R) : PI X tg e t' := ⟨fun pins s σ H D I q => h.run pins s σ H D I (i _ _ _ q)⟩

/-! ### a new list that is put away gets a number -/
def mat (r : RG PV) : RG PV := match r with
  | .ok (.lst xs) h => .ok (.ref h.length) (h ++ [.lst xs])
  | r => r
def mM (m : MG PV) : MG PV := fun env h => mat (m env h)
theorem tE.mat {m : MG PV} {Q : VK} (x : tM W Wx (mM m) σ H Q) : tE W Wx m σ H Q := by
  obtain ⟨φ, env, h, s, r, x⟩ := x
  refine ⟨φ, env, h, s, r, ?_⟩
  unfold mM at x
  cases e : m env h with
  | ok a h1 =>
    rw [e] at x
    intro φ' v H' p' r' q
    rcases q with q | ⟨xs, b, vs, e1, e2, e3, e4, e5, e6⟩
    · cases a <;> first
        | exact x φ' v H' p' r' q
        | (rw [Rep] at q; exact q.elim)
    · subst e1
      refine x (ext φ' h1.length b) v H' (p'.know r' e4) (r'.know e5 ⟨vs, e3, e6⟩) ?_
      show Rep W _ _ (.ref _) v
      rw [Rep]
      exact ⟨b, e2, ext_same⟩
  | ex c p h1 => rw [e] at x; exact x
  | bad => rw [e] at x; exact x
theorem PE.m {X : Cx} {e : Expr} {m : MG PV} (h : PE X e (tE W Wx m)) : PE X e (tM W Wx (mM m)) := PE.imp h fun _ _ _ => tE.mat

/-! ### argument lists -/
def aNil : MG (List PV) := fun _ h => .ok [] h
def aCons (m : MG PV) (r : MG (List PV)) : MG (List PV) := fun env h => (mM m env h).bind fun x h1 => (r env h1).bind fun xs h2 => .ok (x :: xs) h2
theorem z_nil {X : Cx} : PA X [] (tA W Wx aNil) := PA.imp pa_nil fun σ H Q x => by
  obtain ⟨φ, env, h, s, r, x⟩ := x
  exact x φ [] H .refl r .nil
theorem z_cons {X : Cx} {e : Expr} {es : List Expr} {m : MG PV} {r : MG (List PV)} (h : PE X e (tE W Wx m)) (t : PA X es (tA W Wx r)) (hs : starEach (e :: es) X.env = (false, eval e X.env) :: starEach es X.env) : PA X (e :: es) (tA W Wx (aCons m r)) := by
  refine PA.imp (pa_cons (PE.m h) t hs) fun σ H Q ⟨φ, env, h, s, r, x⟩ => ?_
  refine (tb (R := rM W) s r x).mono fun v H1 ⟨φ1, h1, a, p1, s1, r1, e1, q⟩ => ?_
  refine (tb (R := rA W) s1 r1 q).mono fun vs H2 ⟨φ2, h2, as, p2, s2, r2, e2, q⟩ => ?_
  exact q φ2 _ H2 .refl r2 (.cons (e1.mono (p2.k r1)) e2)
end
end Z
namespace Z
open PySem PySem.Spec PyProof.Rows L2

/-! ### what is read of a list or a tuple -/
/-- the items: true for a tuple -/
def seqV (h : PH) : PV → Option (Bool × List PV)
  | .tup xs => some (true, xs)
  | .ro xs => some (false, xs)
  | .lst xs => some (false, xs)
  | .ref n => match h[n]? with
    | some (.lst xs) => some (false, xs)
    | _ => none
  | _ => none
/-- a list that may be changed or put together -/
def lstV (h : PH) : PV → Option (List PV)
  | .lst xs => some xs
  | .ref n => match h[n]? with
    | some (.lst xs) => some xs
    | _ => none
  | _ => none
section
variable {W : Wd} {φ : Emb} {H H0 : Hp} {h : PH} {x : PV} {v : V} {xs : List PV}
theorem seqV_ok (hr : HR W φ H h) (r : RR W φ H0 H x v) {t : Bool} (e : seqV h x = some (t, xs)) : ∃ a vs, v = .ref a ∧ RepL W φ H xs vs ∧ (if t = true then SqT W.K H a vs else SqL W.K H a vs) := by
  cases x with
  | tup ys =>
    cases e
    have r := r.rep fun _ => by simp
    rw [Rep] at r
    obtain ⟨a, vs, e1, s, q⟩ := r
    exact ⟨a, vs, e1, q, s⟩
  | ro ys =>
    cases e
    have r := r.rep fun _ => by simp
    rw [Rep] at r
    obtain ⟨a, vs, e1, s, q⟩ := r
    exact ⟨a, vs, e1, q, (s.sq : SqL W.K H a vs)⟩
  | lst ys =>
    cases e
    rcases r with r | ⟨zs, a, vs, e1, e2, e3, e4, e5, e6⟩
    · rw [Rep] at r; exact r.elim
    · cases e1
      exact ⟨a, vs, e2, e6, (.of e3 : SqL W.K H a vs)⟩
  | ref n =>
    have r := r.rep fun _ => by simp
    rw [Rep] at r
    obtain ⟨a, e1, s⟩ := r
    cases q : h[n]? with
    | none => simp [seqV, q] at e
    | some o =>
      cases o with
      | lst ys =>
        simp [seqV, q] at e
        obtain ⟨rfl, rfl⟩ := e
        obtain ⟨vs, e3, e6⟩ := hr.obj n _ a q s
        exact ⟨a, vs, e1, e6, (.of e3 : SqL W.K H a vs)⟩
      | ins c fs => simp [seqV, q] at e
      | dct kvs => simp [seqV, q] at e
      | fdc kvs => simp [seqV, q] at e
  | _ => cases e
theorem lstV_ok (hr : HR W φ H h) (r : RR W φ H0 H x v) (e : lstV h x = some xs) : ∃ a vs, v = .ref a ∧ RepL W φ H xs vs ∧ H a = some (.lst vs) := by
  cases x with
  | lst ys =>
    cases e
    rcases r with r | ⟨zs, a, vs, e1, e2, e3, e4, e5, e6⟩
    · rw [Rep] at r; exact r.elim
    · cases e1
      exact ⟨a, vs, e2, e6, e3⟩
  | ref n =>
    have r := r.rep fun _ => by simp
    rw [Rep] at r
    obtain ⟨a, e1, s⟩ := r
    cases q : h[n]? with
    | none => simp [lstV, q] at e
    | some o =>
      cases o with
      | lst ys =>
        simp [lstV, q] at e
        subst e
        obtain ⟨vs, e3, e6⟩ := hr.obj n _ a q s
        exact ⟨a, vs, e1, e6, e3⟩
      | ins c fs => simp [lstV, q] at e
      | dct kvs => simp [lstV, q] at e
      | fdc kvs => simp [lstV, q] at e
  | _ => cases e
end

/-! ### == at any depth -/
def scl : PV → Bool
  | .non | .bl _ | .int _ | .str _ => true
  | _ => false
def eqS : PV → PV → Bool
  | .non, .non => true
  | .bl a, .bl b => a == b
  | .bl a, .int j => (if a then 1 else 0) == j
  | .int i, .bl b => i == (if b then 1 else 0)
  | .int i, .int j => i == j
  | .str s, .str t => s == t
  | _, _ => false
/-- item by item as far as both go -/
def eqP (f : PV → PV → Option Bool) : List PV → List PV → Option Bool
  | [], _ => some true
  | _ :: _, [] => some true
  | x :: xs, y :: ys => match f x y, eqP f xs ys with
    | some a, some b => some (a && b)
    | _, _ => none
def eqQ (f : PV → PV → Option Bool) (p q : Bool × List PV) : Option Bool :=
  if p.1 = q.1 then (if p.1 = false ∧ p.2.length ≠ q.2.length then some false else (eqP f p.2 q.2).map fun b => b && p.2.length == q.2.length) else some false
def eqF (h : PH) : Nat → PV → PV → Option Bool
  | 0, x, y => if scl x && scl y then some (eqS x y) else none
  | n + 1, x, y =>
    if scl x then (if scl y then some (eqS x y) else (seqV h y).map fun _ => false)
    else if scl y then (seqV h x).map fun _ => false
    else (seqV h x).bind fun p => (seqV h y).bind fun q => eqQ (eqF h n) p q
theorem eqP_get {f : PV → PV → Option Bool} : ∀ {xs ys : List PV} {b : Bool}, eqP f xs ys = some b → ∃ e : Nat → Bool, (∀ j x y, xs[j]? = some x → ys[j]? = some y → f x y = some (e j)) ∧ b = (List.range (min xs.length ys.length)).all e
  | [], ys, b, h => ⟨fun _ => true, fun _ _ _ e => by simp at e, by unfold eqP at h; cases h; simp⟩
  | x :: xs, [], b, h => ⟨fun _ => true, fun _ _ _ _ e => by simp at e, by unfold eqP at h; cases h; simp⟩
  | x :: xs, y :: ys, b, h => by
    unfold eqP at h
    cases e1 : f x y with
    | none => rw [e1] at h; cases h
    | some a =>
      cases e2 : eqP f xs ys with
      | none => rw [e1, e2] at h; cases h
      | some c =>
        rw [e1, e2] at h
        cases h
        obtain ⟨e, q1, q2⟩ := eqP_get e2
        refine ⟨fun j => match j with | 0 => a | j + 1 => e j, fun j z w h1 h2 => ?_, ?_⟩
        · cases j with
          | zero => simp at h1 h2; subst h1; subst h2; exact e1
          | succ j => exact q1 j z w (by simpa using h1) (by simpa using h2)
        · have e3 : min (x :: xs).length (y :: ys).length = min xs.length ys.length + 1 := by simp only [List.length_cons]; omega
          rw [e3, List.range_succ_eq_map, List.all_cons, List.all_map, q2]
          rfl
section
variable {W : Wd} {φ : Emb} {H H0 H0' : Hp} {h : PH} {X : Cx} {pins : List (Addr × Obj)} {σ : L2.St} {s : Shared}
theorem Rep.scl {x : PV} {v : V} (r : Rep W φ H x v) (e : scl x = true) : ∀ a, v ≠ .ref a := by
  intro a z
  subst z
  cases x with
  | non => rw [Rep] at r; cases r
  | bl b => rw [Rep] at r; cases r
  | int b => rw [Rep] at r; cases r
  | str b => rw [Rep] at r; cases r
  | _ => exact nomatch (show false = true from e)
theorem rep_non {v : V} {a : Value} (r : Rep W φ H .non v) (q : RelV v a) : a = .none := by rw [Rep] at r; subst r; exact q
theorem rep_bl {b : Bool} {v : V} {a : Value} (r : Rep W φ H (.bl b) v) (q : RelV v a) : a = .bool b := by rw [Rep] at r; subst r; exact q
theorem rep_int {i : Int} {v : V} {a : Value} (r : Rep W φ H (.int i) v) (q : RelV v a) : ∃ t, a = .int i t := by rw [Rep] at r; subst r; exact q
theorem rep_str {x : List Nat} {v : V} {a : Value} (r : Rep W φ H (.str x) v) (q : RelV v a) : ∃ t, a = .str ⟨x.toArray⟩ t := by rw [Rep] at r; subst r; exact q
open PySem.SeqAt in
theorem eqS_at {x y : PV} {v u : V} {a b : Value} {A : Around} (rx : Rep W φ H x v) (ry : Rep W φ H y u) (hx : scl x = true) (hy : scl y = true) (ra : RelV v a) (rb : RelV u b) : EqAt A s a b (eqS x y) := by
  cases x with
  | non =>
    have := rep_non rx ra; subst this
    cases y with
    | non => have := rep_non ry rb; subst this; exact EqAt.same _
    | bl j => have := rep_bl ry rb; subst this; exact EqAt.none_bool _
    | int j => obtain ⟨t, rfl⟩ := rep_int ry rb; exact EqAt.none_int _ _
    | str j => obtain ⟨t, rfl⟩ := rep_str ry rb; exact EqAt.none_str _ _
    | _ => exact nomatch (show false = true from hy)
  | bl i =>
    have := rep_bl rx ra; subst this
    cases y with
    | non => have := rep_non ry rb; subst this; exact EqAt.bool_none _
    | bl j => have := rep_bl ry rb; subst this; exact EqAt.bool_bool _ _
    | int j => obtain ⟨t, rfl⟩ := rep_int ry rb; exact EqAt.bool_int _ _ _
    | str j => obtain ⟨t, rfl⟩ := rep_str ry rb; exact EqAt.bool_str _ _ _
    | _ => exact nomatch (show false = true from hy)
  | int i =>
    obtain ⟨t, rfl⟩ := rep_int rx ra
    cases y with
    | non => have := rep_non ry rb; subst this; exact EqAt.int_none _ _
    | bl j => have := rep_bl ry rb; subst this; exact EqAt.int_bool _ _ _
    | int j => obtain ⟨t, rfl⟩ := rep_int ry rb; exact EqAt.int_int _ _ _ _
    | str j => obtain ⟨t, rfl⟩ := rep_str ry rb; exact EqAt.int_str _ _ _ _
    | _ => exact nomatch (show false = true from hy)
  | str i =>
    obtain ⟨t, rfl⟩ := rep_str rx ra
    cases y with
    | non => have := rep_non ry rb; subst this; exact EqAt.str_none _ _
    | bl j => have := rep_bl ry rb; subst this; exact EqAt.str_bool _ _ _
    | int j => obtain ⟨t, rfl⟩ := rep_int ry rb; exact EqAt.str_int _ _ _ _
    | str j =>
      obtain ⟨t, rfl⟩ := rep_str ry rb
      have e : eqS (.str i) (.str j) = ((⟨i.toArray⟩ : Str) == ⟨j.toArray⟩) := by
        show (i == j) = _
        rw [Bool.eq_iff_iff]
        simp
      rw [e]
      exact EqAt.str_str _ _ _ _
    | _ => exact nomatch (show false = true from hy)
  | _ => exact nomatch (show false = true from hx)
open PySem.SeqAt in
theorem eqS_ne {x y : PV} {v u : V} {a b : Value} {A : Around} (rx : Rep W φ H x v) (ry : Rep W φ H y u) (hx : scl x = true) (hy : scl y = true) (ra : RelV v a) (rb : RelV u b) : RcNeAt A s a b (!eqS x y) := by
  cases x with
  | non =>
    have := rep_non rx ra; subst this
    cases y with
    | non => have := rep_non ry rb; subst this; exact RcNeAt.none_none
    | bl j => have := rep_bl ry rb; subst this; exact RcNeAt.none_bool _
    | int j => obtain ⟨t, rfl⟩ := rep_int ry rb; exact RcNeAt.none_int _ _
    | str j => obtain ⟨t, rfl⟩ := rep_str ry rb; exact RcNeAt.none_str _ _
    | _ => exact nomatch (show false = true from hy)
  | bl i =>
    have := rep_bl rx ra; subst this
    cases y with
    | non => have := rep_non ry rb; subst this; exact RcNeAt.bool_none _
    | bl j => have := rep_bl ry rb; subst this; exact RcNeAt.bool_bool _ _
    | int j => obtain ⟨t, rfl⟩ := rep_int ry rb; exact RcNeAt.bool_int _ _ _
    | str j => obtain ⟨t, rfl⟩ := rep_str ry rb; exact RcNeAt.bool_str _ _ _
    | _ => exact nomatch (show false = true from hy)
  | int i =>
    obtain ⟨t, rfl⟩ := rep_int rx ra
    cases y with
    | non => have := rep_non ry rb; subst this; exact RcNeAt.int_none _ _
    | bl j => have := rep_bl ry rb; subst this; exact RcNeAt.int_bool _ _ _
    | int j => obtain ⟨t, rfl⟩ := rep_int ry rb; exact RcNeAt.int_int _ _ _ _
    | str j => obtain ⟨t, rfl⟩ := rep_str ry rb; exact RcNeAt.int_str _ _ _ _
    | _ => exact nomatch (show false = true from hy)
  | str i =>
    obtain ⟨t, rfl⟩ := rep_str rx ra
    cases y with
    | non => have := rep_non ry rb; subst this; exact RcNeAt.str_none _ _
    | bl j => have := rep_bl ry rb; subst this; exact RcNeAt.str_bool _ _ _
    | int j => obtain ⟨t, rfl⟩ := rep_int ry rb; exact RcNeAt.str_int _ _ _ _
    | str j =>
      obtain ⟨t, rfl⟩ := rep_str ry rb
      have e : eqS (.str i) (.str j) = ((⟨i.toArray⟩ : Str) == ⟨j.toArray⟩) := by
        show (i == j) = _
        rw [Bool.eq_iff_iff]
        simp
      rw [e]
      exact RcNeAt.str_str _ _ _ _
    | _ => exact nomatch (show false = true from hy)
  | _ => exact nomatch (show false = true from hx)
open PySem.SeqAt in
theorem eqS_rc {x y : PV} {v u : V} {a b : Value} {A : Around} (rx : Rep W φ H x v) (ry : Rep W φ H y u) (hx : scl x = true) (hy : scl y = true) (ra : RelV v a) (rb : RelV u b) : RcAt A s a b (eqS x y) := by
  cases x with
  | non =>
    have := rep_non rx ra; subst this
    cases y with
    | non => have := rep_non ry rb; subst this; exact RcAt.none_none
    | bl j => have := rep_bl ry rb; subst this; exact RcAt.none_bool _
    | int j => obtain ⟨t, rfl⟩ := rep_int ry rb; exact RcAt.none_int _ _
    | str j => obtain ⟨t, rfl⟩ := rep_str ry rb; exact RcAt.none_str _ _
    | _ => exact nomatch (show false = true from hy)
  | bl i =>
    have := rep_bl rx ra; subst this
    cases y with
    | non => have := rep_non ry rb; subst this; exact RcAt.bool_none _
    | bl j => have := rep_bl ry rb; subst this; exact RcAt.bool_bool _ _
    | int j => obtain ⟨t, rfl⟩ := rep_int ry rb; exact RcAt.bool_int _ _ _
    | str j => obtain ⟨t, rfl⟩ := rep_str ry rb; exact RcAt.bool_str _ _ _
    | _ => exact nomatch (show false = true from hy)
  | int i =>
    obtain ⟨t, rfl⟩ := rep_int rx ra
    cases y with
    | non => have := rep_non ry rb; subst this; exact RcAt.int_none _ _
    | bl j => have := rep_bl ry rb; subst this; exact RcAt.int_bool _ _ _
    | int j => obtain ⟨t, rfl⟩ := rep_int ry rb; exact RcAt.int_int _ _ _ _
    | str j => obtain ⟨t, rfl⟩ := rep_str ry rb; exact RcAt.int_str _ _ _ _
    | _ => exact nomatch (show false = true from hy)
  | str i =>
    obtain ⟨t, rfl⟩ := rep_str rx ra
    cases y with
    | non => have := rep_non ry rb; subst this; exact RcAt.str_none _ _
    | bl j => have := rep_bl ry rb; subst this; exact RcAt.str_bool _ _ _
    | int j => obtain ⟨t, rfl⟩ := rep_int ry rb; exact RcAt.str_int _ _ _ _
    | str j =>
      obtain ⟨t, rfl⟩ := rep_str ry rb
      have e : eqS (.str i) (.str j) = ((⟨i.toArray⟩ : Str) == ⟨j.toArray⟩) := by
        show (i == j) = _
        rw [Bool.eq_iff_iff]
        simp
      rw [e]
      exact RcAt.str_str _ _ _ _
    | _ => exact nomatch (show false = true from hy)
  | _ => exact nomatch (show false = true from hx)
/-- what stands at a sequence's address in the state -/
theorem Inv.seq {t : Bool} {a : Addr} {vs : List V} (I : Inv X pins σ H s) (q : if t = true then SqT X.K H a vs else SqL X.K H a vs) :
    ∃ its : List Value, Vals vs its ∧ (if t = true then s.heap.IsTuple a its.toArray else s.heap.IsList a its.toArray) := by
  cases t with
  | true =>
    obtain ⟨its, r, p, _⟩ := I.tuple q
    exact ⟨its, r, (show s.heap.IsTuple a its.toArray from p)⟩
  | false =>
    obtain ⟨its, r, p, _⟩ := I.list q
    exact ⟨its, r, p.isList⟩
theorem Inv.seq_inj {t t' : Bool} {a : Addr} {vs ws : List V} (I : Inv X pins σ H s) (q : if t = true then SqT X.K H a vs else SqL X.K H a vs) (q' : if t' = true then SqT X.K H a ws else SqL X.K H a ws) : t = t' ∧ vs = ws := by
  obtain ⟨i1, _, h1⟩ := Inv.seq I q
  obtain ⟨i2, _, h2⟩ := Inv.seq I q'
  cases t <;> cases t'
  · exact ⟨rfl, I.list_inj q q'⟩
  · obtain ⟨o, e, c, _⟩ := (show s.heap.IsList a i1.toArray from h1)
    obtain ⟨o', e', c', _⟩ := (show s.heap.IsTuple a i2.toArray from h2)
    rw [e] at e'; cases e'; rw [c] at c'; exact absurd c' (by intro z; injection z with z; exact absurd z (by decide))
  · obtain ⟨o, e, c, _⟩ := (show s.heap.IsTuple a i1.toArray from h1)
    obtain ⟨o', e', c', _⟩ := (show s.heap.IsList a i2.toArray from h2)
    rw [e] at e'; cases e'; rw [c] at c'; exact absurd c' (by intro z; injection z with z; exact absurd z (by decide))
  · exact ⟨rfl, I.tuple_inj q q'⟩
theorem eqP_len {f : PV → PV → Option Bool} {xs ys : List PV} {b : Bool} {e : Nat → Bool} (hb : b = (List.range (min xs.length ys.length)).all e) (h : ∀ j, j < min xs.length ys.length → e j = true) : b = true := by
  rw [hb, List.all_eq_true]
  intro j hj
  exact h j (List.mem_range.mp hj)
theorem eqF_zero {x y : PV} {k : Bool} (e : eqF h 0 x y = some k) : scl x = true ∧ scl y = true ∧ k = eqS x y := by
  unfold eqF at e
  cases hx : scl x <;> cases hy : scl y <;> simp [hx, hy] at e
  exact ⟨rfl, rfl, e.symm⟩
/-- the ways through eqF -/
theorem eqF_succ {n : Nat} {x y : PV} {k : Bool} (e : eqF h (n + 1) x y = some k) : (scl x = true ∧ scl y = true ∧ k = eqS x y) ∨ (scl x = true ∧ scl y = false ∧ k = false ∧ ∃ p, seqV h y = some p) ∨ (scl x = false ∧ scl y = true ∧ k = false ∧ ∃ p, seqV h x = some p) ∨
    (scl x = false ∧ scl y = false ∧ ∃ t xs u ys, seqV h x = some (t, xs) ∧ seqV h y = some (u, ys) ∧ ((t ≠ u ∧ k = false) ∨ (t = u ∧ ((t = false ∧ xs.length ≠ ys.length ∧ k = false) ∨ ∃ c, eqP (eqF h n) xs ys = some c ∧ k = (c && xs.length == ys.length))))) := by
  unfold eqF at e
  cases hx : scl x <;> cases hy : scl y <;> simp only [hx, hy, if_true, if_false, Bool.false_eq_true] at e
  · refine .inr (.inr (.inr ⟨rfl, rfl, ?_⟩))
    obtain ⟨⟨t, xs⟩, e1, e⟩ := Option.bind_eq_some_iff.mp e
    obtain ⟨⟨u, ys⟩, e2, e⟩ := Option.bind_eq_some_iff.mp e
    refine ⟨t, xs, u, ys, e1, e2, ?_⟩
    unfold eqQ at e
    by_cases h1 : t = u
    · rw [if_pos h1] at e
      by_cases h2 : t = false ∧ xs.length ≠ ys.length
      · rw [if_pos h2] at e
        exact .inr ⟨h1, .inl ⟨h2.1, h2.2, (Option.some.inj e).symm⟩⟩
      · rw [if_neg h2] at e
        obtain ⟨c, e3, e4⟩ := Option.map_eq_some_iff.mp e
        exact .inr ⟨h1, .inr ⟨c, e3, e4.symm⟩⟩
    · rw [if_neg h1] at e
      exact .inl ⟨h1, (Option.some.inj e).symm⟩
  · obtain ⟨p, e1, e2⟩ := Option.map_eq_some_iff.mp e
    exact .inr (.inr (.inl ⟨rfl, rfl, e2.symm, p, e1⟩))
  · obtain ⟨p, e1, e2⟩ := Option.map_eq_some_iff.mp e
    exact .inr (.inl ⟨rfl, rfl, e2.symm, p, e1⟩)
  · exact .inl ⟨rfl, rfl, (Option.some.inj e).symm⟩
def sV : PV → V
  | .non => .non
  | .bl b => .bl b
  | .int i => .int i
  | .str s => .str ⟨s.toArray⟩
  | _ => .non
theorem repS {x : PV} {v : V} (r : Rep W φ H x v) (e : scl x = true) : v = sV x := by
  cases x with
  | non => rw [Rep] at r; exact r
  | bl b => rw [Rep] at r; exact r
  | int b => rw [Rep] at r; exact r
  | str b => rw [Rep] at r; exact r
  | _ => exact nomatch (show false = true from e)
theorem sV_eq {x y : PV} (hx : scl x = true) (hy : scl y = true) (e : sV x = sV y) : x = y := by
  cases x with
  | non => cases y <;> first | rfl | (exact nomatch (show false = true from hy)) | (cases e)
  | bl b => cases y <;> first | (exact nomatch (show false = true from hy)) | (cases e; rfl) | (cases e)
  | int b => cases y <;> first | (exact nomatch (show false = true from hy)) | (cases e; rfl) | (cases e)
  | str b => cases y <;> first | (exact nomatch (show false = true from hy)) | (simp [sV] at e; rw [e]) | (cases e)
  | _ => exact nomatch (show false = true from hx)
theorem eqS_same {x y : PV} {v : V} (rx : Rep W φ H x v) (ry : Rep W φ H y v) (hx : scl x = true) (hy : scl y = true) : eqS x y = true := by
  have e := sV_eq hx hy ((repS rx hx).symm.trans (repS ry hy))
  subst e
  cases x with
  | non => rfl
  | bl b => simp [eqS]
  | int b => simp [eqS]
  | str b => simp [eqS]
  | _ => exact nomatch (show false = true from hx)
theorem scl_not {x : PV} {xs : List PV} (e : scl x = true) : x ≠ .lst xs := by
  intro z; subst z; exact nomatch (show false = true from e)
theorem eqF_same (hK : X.K = W.K) (hr : HR W φ H h) (I : Inv X pins σ H s) : ∀ (n : Nat) {x y : PV} {v : V} {k : Bool} {H0 H0' : Hp}, RR W φ H0 H x v → RR W φ H0' H y v → eqF h n x y = some k → k = true
  | 0, x, y, v, k, _, _, rx, ry, e => by
    obtain ⟨hx, hy, rfl⟩ := eqF_zero e
    exact eqS_same (rx.rep fun _ => scl_not hx) (ry.rep fun _ => scl_not hy) hx hy
  | n + 1, x, y, v, k, _, _, rx, ry, e => by
    rcases eqF_succ e with ⟨hx, hy, rfl⟩ | ⟨hx, hy, rfl, p, e1⟩ | ⟨hx, hy, rfl, p, e1⟩ | ⟨hx, hy, t, xs, u, ys, e1, e2, q⟩
    · exact eqS_same (rx.rep fun _ => scl_not hx) (ry.rep fun _ => scl_not hy) hx hy
    · obtain ⟨a, vs, z, _⟩ := seqV_ok hr ry (t := p.1) (xs := p.2) e1
      exact absurd z ((rx.rep fun _ => scl_not hx).scl hx a)
    · obtain ⟨a, vs, z, _⟩ := seqV_ok hr rx (t := p.1) (xs := p.2) e1
      exact absurd z ((ry.rep fun _ => scl_not hy).scl hy a)
    · obtain ⟨a, vs, z, r1, s1⟩ := seqV_ok hr rx e1
      obtain ⟨a', vs', z', r2, s2⟩ := seqV_ok hr ry e2
      rw [z] at z'; cases z'
      rw [← hK] at s1 s2
      obtain ⟨rfl, rfl⟩ := Inv.seq_inj I s1 s2
      have hl : xs.length = ys.length := by rw [r1.length, r2.length]
      rcases q with ⟨q, _⟩ | ⟨_, ⟨_, q, _⟩ | ⟨c, q, rfl⟩⟩
      · exact absurd rfl q
      · exact absurd hl q
      · obtain ⟨e', q1, q2⟩ := eqP_get q
        have : c = true := eqP_len (f := eqF h n) q2 fun j hj => by
          have j1 : j < xs.length := by omega
          have j2 : j < ys.length := by omega
          obtain ⟨w1, g1, p1⟩ := r1.get (List.getElem?_eq_getElem j1)
          obtain ⟨w2, g2, p2⟩ := r2.get (List.getElem?_eq_getElem j2)
          rw [g1] at g2; cases g2
          exact eqF_same hK hr I n (H0 := H) (H0' := H) (.inl p1) (.inl p2) (q1 j _ _ (List.getElem?_eq_getElem j1) (List.getElem?_eq_getElem j2))
        rw [this, hl]; simp
open PySem.SeqAt in
theorem sc_seq {A : Around} {x : PV} {v : V} {a : Value} {t : Bool} {l : Addr} {its : List Value} (rx : Rep W φ H x v) (hx : scl x = true) (ra : RelV v a) (q : if t = true then s.heap.IsTuple l its.toArray else s.heap.IsList l its.toArray) (hu : A.units < cLine) :
    EqAt A s a (.ref l) false ∧ EqAt A s (.ref l) a false ∧ RcAt A s a (.ref l) false ∧ RcAt A s (.ref l) a false ∧ RcNeAt A s a (.ref l) true ∧ RcNeAt A s (.ref l) a true := by
  cases x with
  | non =>
    have := rep_non rx ra; subst this
    cases t with
    | true => exact ⟨EqAt.none_tuple q hu, EqAt.tuple_none q hu, RcAt.none_tuple q hu, RcAt.tuple_none q hu, RcNeAt.none_tuple q hu, RcNeAt.tuple_none q hu⟩
    | false => exact ⟨EqAt.none_list q hu, EqAt.list_none q hu, RcAt.none_list q hu, RcAt.list_none q hu, RcNeAt.none_list q hu, RcNeAt.list_none q hu⟩
  | bl i =>
    have := rep_bl rx ra; subst this
    cases t with
    | true => exact ⟨EqAt.bool_tuple _ q hu, EqAt.tuple_bool _ q hu, RcAt.bool_tuple _ q hu, RcAt.tuple_bool _ q hu, RcNeAt.bool_tuple _ q hu, RcNeAt.tuple_bool _ q hu⟩
    | false => exact ⟨EqAt.bool_list _ q hu, EqAt.list_bool _ q hu, RcAt.bool_list _ q hu, RcAt.list_bool _ q hu, RcNeAt.bool_list _ q hu, RcNeAt.list_bool _ q hu⟩
  | int i =>
    obtain ⟨t', rfl⟩ := rep_int rx ra
    cases t with
    | true => exact ⟨EqAt.int_tuple _ _ q hu, EqAt.tuple_int _ _ q hu, RcAt.int_tuple _ _ q hu, RcAt.tuple_int _ _ q hu, RcNeAt.int_tuple _ _ q hu, RcNeAt.tuple_int _ _ q hu⟩
    | false => exact ⟨EqAt.int_list _ _ q hu, EqAt.list_int _ _ q hu, RcAt.int_list _ _ q hu, RcAt.list_int _ _ q hu, RcNeAt.int_list _ _ q hu, RcNeAt.list_int _ _ q hu⟩
  | str i =>
    obtain ⟨t', rfl⟩ := rep_str rx ra
    cases t with
    | true => exact ⟨EqAt.str_tuple _ _ q hu, EqAt.tuple_str _ _ q hu, RcAt.str_tuple _ _ q hu, RcAt.tuple_str _ _ q hu, RcNeAt.str_tuple _ _ q hu, RcNeAt.tuple_str _ _ q hu⟩
    | false => exact ⟨EqAt.str_list _ _ q hu, EqAt.list_str _ _ q hu, RcAt.str_list _ _ q hu, RcAt.list_str _ _ q hu, RcNeAt.str_list _ _ q hu, RcNeAt.list_str _ _ q hu⟩
  | _ => exact nomatch (show false = true from hx)
open PySem.SeqAt in
theorem eqF_at (hK : X.K = W.K) (hr : HR W φ H h) (I : Inv X pins σ H s) : ∀ (n : Nat) (A : Around) {x y : PV} {v u : V} {a b : Value} {k : Bool} {H0 H0' : Hp}, A.units + n < cLine → RR W φ H0 H x v → RR W φ H0' H y u → RelV v a → RelV u b → eqF h n x y = some k →
    EqAt A s a b k ∧ RcAt A s a b k ∧ RcNeAt A s a b (!k)
  | 0, A, x, y, v, u, a, b, k, _, _, hu, rx, ry, ra, rb, e => by
    obtain ⟨hx, hy, rfl⟩ := eqF_zero e
    have rx := rx.rep fun _ => scl_not hx
    have ry := ry.rep fun _ => scl_not hy
    exact ⟨eqS_at rx ry hx hy ra rb, eqS_rc rx ry hx hy ra rb, eqS_ne rx ry hx hy ra rb⟩
  | n + 1, A, x, y, v, u, a, b, k, _, _, hu, rx, ry, ra, rb, e => by
    have hu0 : A.units < cLine := by omega
    rcases eqF_succ e with ⟨hx, hy, rfl⟩ | ⟨hx, hy, rfl, p, e1⟩ | ⟨hx, hy, rfl, p, e1⟩ | ⟨hx, hy, t, xs, t', ys, e1, e2, q⟩
    · have rx := rx.rep fun _ => scl_not hx
      have ry := ry.rep fun _ => scl_not hy
      exact ⟨eqS_at rx ry hx hy ra rb, eqS_rc rx ry hx hy ra rb, eqS_ne rx ry hx hy ra rb⟩
    · obtain ⟨l, vs, z, _, s1⟩ := seqV_ok hr ry (t := p.1) (xs := p.2) e1
      rw [← hK] at s1
      obtain ⟨its, _, q⟩ := Inv.seq I s1
      subst z; cases rb
      have := sc_seq (A := A) (rx.rep fun _ => scl_not hx) hx ra q hu0
      exact ⟨this.1, this.2.2.1, this.2.2.2.2.1⟩
    · obtain ⟨l, vs, z, _, s1⟩ := seqV_ok hr rx (t := p.1) (xs := p.2) e1
      rw [← hK] at s1
      obtain ⟨its, _, q⟩ := Inv.seq I s1
      subst z; cases ra
      have := sc_seq (A := A) (ry.rep fun _ => scl_not hy) hy rb q hu0
      exact ⟨this.2.1, this.2.2.2.1, this.2.2.2.2.2⟩
    · obtain ⟨l, vs, z, r1, s1⟩ := seqV_ok hr rx e1
      obtain ⟨l', vs', z', r2, s2⟩ := seqV_ok hr ry e2
      rw [← hK] at s1 s2
      obtain ⟨its, rv1, q1⟩ := Inv.seq I s1
      obtain ⟨its', rv2, q2⟩ := Inv.seq I s2
      subst z; subst z'; cases ra; cases rb
      have n1 : its.toArray.size = xs.length := by rw [List.size_toArray, ← rv1.length, r1.length]
      have n2 : its'.toArray.size = ys.length := by rw [List.size_toArray, ← rv2.length, r2.length]
      have fin : RcAt A s (.ref l) (.ref l') k ∧ RcNeAt A s (.ref l) (.ref l') (!k) → EqAt A s (.ref l) (.ref l') k ∧ RcAt A s (.ref l) (.ref l') k ∧ RcNeAt A s (.ref l) (.ref l') (!k) := fun z => by
        refine ⟨?_, z⟩
        by_cases hl : l = l'
        · subst hl
          rw [eqF_same hK hr I (n + 1) rx ry e]
          exact EqAt.same _
        · exact EqAt.of_refs hl z.1
      have items : ∀ e : Nat → Bool, (∀ j x y, xs[j]? = some x → ys[j]? = some y → eqF h n x y = some (e j)) → ∀ j (h1 : j < its.toArray.size) (h2 : j < its'.toArray.size), EqAt A.in1 s its.toArray[j] its'.toArray[j] (e j) := fun e q j h1 h2 => by
        have j1 : j < xs.length := by omega
        have j2 : j < ys.length := by omega
        obtain ⟨w1, g1, p1⟩ := r1.get (List.getElem?_eq_getElem j1)
        obtain ⟨w2, g2, p2⟩ := r2.get (List.getElem?_eq_getElem j2)
        obtain ⟨u1, k1, m1⟩ := rv1.get g1
        obtain ⟨u2, k2, m2⟩ := rv2.get g2
        have := (eqF_at hK hr I n A.in1 (H0 := H) (H0' := H) (by show A.units + 1 + n < cLine; omega) (.inl p1) (.inl p2) m1 m2 (q j _ _ (List.getElem?_eq_getElem j1) (List.getElem?_eq_getElem j2))).1
        have f1 : its.toArray[j] = u1 := by
          rw [List.getElem?_eq_getElem (by simpa using h1)] at k1
          simpa using Option.some.inj k1
        have f2 : its'.toArray[j] = u2 := by
          rw [List.getElem?_eq_getElem (by simpa using h2)] at k2
          simpa using Option.some.inj k2
        rw [f1, f2]; exact this
      refine fin ?_
      rcases q with ⟨q, rfl⟩ | ⟨rfl, ⟨rfl, q, rfl⟩ | ⟨c, q, rfl⟩⟩
      · cases t <;> cases t'
        · exact absurd rfl q
        · exact ⟨RcAt.list_tuple q1 q2 hu0, RcNeAt.list_tuple q1 q2 hu0⟩
        · exact ⟨RcAt.tuple_list q1 q2 hu0, RcNeAt.tuple_list q1 q2 hu0⟩
        · exact absurd rfl q
      · exact ⟨RcAt.lists_lengths q1 q2 (by rw [n1, n2]; simpa using q) hu0, RcNeAt.lists_lengths q1 q2 (by rw [n1, n2]; simpa using q) hu0⟩
      · obtain ⟨e', p1, p2⟩ := eqP_get q
        cases t with
        | true =>
          have := RcAt.tuples (e := e') q1 q2 hu0 (items e' p1)
          have this2 := RcNeAt.tuples (e := e') q1 q2 hu0 (items e' p1)
          rw [n1, n2, ← p2] at this this2
          exact ⟨this, this2⟩
        | false =>
          by_cases hl : xs.length = ys.length
          · have := RcAt.lists (e := e') q1 q2 (by rw [n1, n2]; exact hl) hu0 (items e' p1)
            have this2 := RcNeAt.lists (e := e') q1 q2 (by rw [n1, n2]; exact hl) hu0 (items e' p1)
            rw [n1] at this this2
            rw [hl, Nat.min_self, ← hl] at p2
            rw [← p2] at this this2
            have e4 : (c && xs.length == ys.length) = c := by simp [hl]
            rw [e4]
            exact ⟨this, this2⟩
          · have := RcAt.lists_lengths q1 q2 (by rw [n1, n2]; simpa using hl) hu0 (A := A)
            have this2 := RcNeAt.lists_lengths q1 q2 (by rw [n1, n2]; simpa using hl) hu0 (A := A)
            have e4 : (c && xs.length == ys.length) = false := by simp [hl]
            rw [e4]; exact ⟨this, this2⟩
end
end Z
namespace Z
open PySem PySem.Spec PyProof.Rows L2
abbrev SZ : Nat := 16777216
theorem SZ_eq : sizeLine = SZ := sizeLine_eq

/-! ### combinators -/
def mK (x : PV) : MG PV := fun _ h => .ok x h
def mV (i : Nat) : MG PV := fun env h => match env[i]? with
  | some (some x) => .ok x h
  | _ => .bad
def mB (f : PV → PV → PH → RG PV) (a b : MG PV) : MG PV := fun env h => (a env h).bind fun x h1 => (b env h1).bind fun y h2 => f x y h2
def mU (f : PV → PH → RG PV) (a : MG PV) : MG PV := fun env h => (a env h).bind fun x h1 => f x h1
def oB (b : Option Bool) (h : PH) : RG PV := match b with
  | some b => .ok (.bl b) h
  | none => .bad
def truV (h : PH) (x : PV) : Option Bool := match x with
  | .non => some false
  | .bl b => some b
  | .int i => some (i != 0)
  | .str s => if s.length ≤ SZ then some ((s.length : Int) != 0) else none
  | x => (seqV h x).map fun p => !p.2.isEmpty
def mTr (m : MG PV) : MG Bool := fun env h => (m env h).bind fun x h1 => match truV h1 x with
  | some b => .ok b h1
  | none => .bad
def mTb (m : MG PV) : MG Bool := fun env h => (m env h).bind fun x h1 => match x with
  | .bl b => .ok b h1
  | _ => .bad
def mAnd (a b : MG Bool) : MG Bool := fun env h => (a env h).bind fun x h1 => if x = true then b env h1 else .ok false h1
def mOr (a b : MG Bool) : MG Bool := fun env h => (a env h).bind fun x h1 => if x = true then .ok true h1 else b env h1
def mNot (a : MG Bool) : MG Bool := fun env h => (a env h).bind fun x h1 => .ok (!x) h1
def mAndV (a b : MG PV) : MG PV := fun env h => (mTb a env h).bind fun x h1 => if x = true then b env h1 else .ok (.bl false) h1
def mOrV (a b : MG PV) : MG PV := fun env h => (mTb a env h).bind fun x h1 => if x = true then .ok (.bl true) h1 else b env h1
def mNotV (a : MG PV) : MG PV := fun env h => (mTb a env h).bind fun x h1 => .ok (.bl (!x)) h1
def mIf (t : MG Bool) (a b : MG PV) : MG PV := fun env h => (t env h).bind fun x h1 => if x = true then a env h1 else b env h1
def mTup (as : MG (List PV)) : MG PV := fun env h => (as env h).bind fun xs h1 => if xs.length ≤ SZ then .ok (.tup xs) h1 else .bad
def mLst (as : MG (List PV)) : MG PV := fun env h => (as env h).bind fun xs h1 => if xs.length ≤ SZ then .ok (.lst xs) h1 else .bad
def mC (f : List PV → PH → RG PV) (as : MG (List PV)) : MG PV := fun env h => (as env h).bind fun xs h1 => f xs h1

section
variable {W : Wd} {Wx : WX} {X : Cx} {σ : L2.St} {φ : Emb} {H H0 H1 H2 : Hp} {h : PH} {e e1 e2 : Expr} {m m1 m2 : MG PV} {t t1 t2 : MG Bool} {pos : Pos} {Q : VK}

theorem mV_ok {env : Sl} {i : Nat} {R : RG PV} (e : mV i env h = R) (n : R ≠ .bad) : ∃ x, env[i]? = some (some x) ∧ R = .ok x h := by
  unfold mV at e
  split at e
  · rename_i x q; exact ⟨x, q, e.symm⟩
  · exact absurd e.symm n
theorem z_var {i : Nat} {x : Str} (hN : X.N[i]? = some x) (hv : Vis X.env.scope x) (hd : (x == ("__debug__" : Str)) = false) (hcd : (x == ("__classdict__" : Str)) = false) : PE X (.Name x pos) (tE W Wx (mV i)) :=
  PE.imp (pe_var hN hv hd hcd) fun σ H Q ⟨φ, env, h, s, r, q⟩ => by
    obtain ⟨x, e, z⟩ := mV_ok (R := mV i env h) rfl (by intro z; rw [z] at q; exact q)
    rw [z] at q
    obtain ⟨v, e', rp⟩ := s.at_ i x e
    exact ⟨v, e', q φ v H .refl r (.inl rp)⟩
theorem z_const {v : V} {x : PV} (hp : PE X e (tC v)) (hr : ∀ φ H, Rep W φ H x v) : PE X e (tE W Wx (mK x)) :=
  PE.imp hp fun σ H Q ⟨φ, env, h, s, r, q⟩ => q φ v H .refl r (.inl (hr φ H))
theorem z_int {i j} : PE X (.Constant (.int i) j pos) (tE W Wx (mK (.int i))) := z_const pe_int fun _ _ => by rw [Rep]
theorem z_bl {i j} : PE X (.Constant (.bool i) j pos) (tE W Wx (mK (.bl i))) := z_const pe_bl fun _ _ => by rw [Rep]
theorem z_non {j} : PE X (.Constant .none j pos) (tE W Wx (mK .non)) := z_const pe_non fun _ _ => by rw [Rep]
theorem z_str {x : Str} {j} : PE X (.Constant (.str x) j pos) (tE W Wx (mK (.str x.cps.toList))) := z_const pe_str fun _ _ => by rw [Rep]
/-- two operands -/
theorem b2 {f : PV → PV → PH → RG PV} {r : V → V → Hp → VK → Prop}
    (hr : ∀ {φ H H1 H2 h x y v u σ Q}, HR W φ H h → RR W φ H1 H x v → RR W φ H2 H y u → ResG W Wx (rE W) σ φ H (f x y h) Q → r v u H Q) (q : tE W Wx (mB f m1 m2) σ H Q) : tOp r (tE W Wx m1) (tE W Wx m2) σ H Q := by
  obtain ⟨φ, env, h, s, r0, q⟩ := q
  refine (tb (R := rE W) s r0 q).mono fun v H1 ⟨φ1, h1, a, p1, s1, r1, e1, q⟩ => ?_
  refine (tb (R := rE W) s1 r1 q).mono fun u H2 ⟨φ2, h2, b, p2, s2, r2, e2, q⟩ => ?_
  exact hr r2 (RR.mono (H0 := H) r1 p2 e1) e2 q
theorem u1 {f : PV → PH → RG PV} {r : V → Hp → VK → Prop}
    (hr : ∀ {φ H H1 h x v σ Q}, HR W φ H h → RR W φ H1 H x v → ResG W Wx (rE W) σ φ H (f x h) Q → r v H Q) (q : tE W Wx (mU f m1) σ H Q) : tUn r (tE W Wx m1) σ H Q := by
  obtain ⟨φ, env, h, s, r0, q⟩ := q
  exact (tb (R := rE W) s r0 q).mono fun v H1 ⟨φ1, h1, a, p1, s1, r1, e1, q⟩ => hr r1 e1 q
theorem c1 {f : List PV → PH → RG PV} {as : MG (List PV)} {r : List V → Hp → VK → Prop}
    (hr : ∀ {φ H h xs vs σ Q}, HR W φ H h → RepL W φ H xs vs → ResG W Wx (rE W) σ φ H (f xs h) Q → r vs H Q) (q : tE W Wx (mC f as) σ H Q) : tCB r (tA W Wx as) σ H Q := by
  obtain ⟨φ, env, h, s, r0, q⟩ := q
  exact (tb (R := rA W) s r0 q).mono fun v H1 ⟨φ1, h1, a, p1, s1, r1, e1, q⟩ => hr r1 e1 q
/-- the ends of a result -/
theorem res_same {x : PV} {v : V} (r : HR W φ H h) (q : ResG W Wx (rE W) σ φ H (.ok x h) Q) (e : Rep W φ H x v) : Q v H := q φ v H .refl r (.inl e)
theorem res_int {i : Int} (r : HR W φ H h) (q : ResG W Wx (rE W) σ φ H (.ok (.int i) h) Q) : Q (.int i) H := res_same r q (by rw [Rep])
theorem res_bl {i : Bool} (r : HR W φ H h) (q : ResG W Wx (rE W) σ φ H (.ok (.bl i) h) Q) : Q (.bl i) H := res_same r q (by rw [Rep])
theorem res_str {i : List Nat} (r : HR W φ H h) (q : ResG W Wx (rE W) σ φ H (.ok (.str i) h) Q) : Q (.str ⟨i.toArray⟩) H := res_same r q (by rw [Rep])
theorem res_lst {xs : List PV} {vs : List V} {p : Addr} (r : HR W φ H h) (q : ResG W Wx (rE W) σ φ H (.ok (.lst xs) h) Q) (e : RepL W φ H xs vs) (n : H p = none) : Q (.ref p) (upd H p (.lst vs)) :=
  q φ _ _ (.add n) (r.add n) (.inr ⟨xs, p, vs, rfl, rfl, upd_same, n, r.free n, e.mono ((Post.add n).k r)⟩)
theorem res_tup {xs : List PV} {vs : List V} {p : Addr} (r : HR W φ H h) (q : ResG W Wx (rE W) σ φ H (.ok (.tup xs) h) Q) (e : RepL W φ H xs vs) (n : H p = none) : Q (.ref p) (upd H p (.tup vs)) :=
  q φ _ _ (.add n) (r.add n) (.inl (by rw [Rep]; exact ⟨p, vs, rfl, .of upd_same, e.mono ((Post.add n).k r)⟩))

/-! ### tests -/
theorem z_tr (h : PE X e (tE W Wx m)) (he : ∀ whole, isTrue e X.env whole = (do let v ← whole; standAt e.pos; holding [v] (truthy v))) (hK : X.K = W.K) : PT X e (tT W Wx (mTr m)) := by
  refine PT.imp (pt_truth h he) fun σ H Q ⟨φ, env, h, s, r, q⟩ => ?_
  refine (tb (R := rE W) s r q).mono fun v H1 ⟨φ1, h1, x, p1, s1, r1, e1, q⟩ => ?_
  have key : ∀ k, truV h1 x = some k → TruV X.K v H1 k := fun k ek => by
    have sq : ∀ p, seqV h1 x = some p → k = !p.2.isEmpty → TruV X.K v H1 k := fun p ep ek => by
      obtain ⟨a, vs, rfl, rl, z⟩ := seqV_ok r1 e1 (t := p.1) (xs := p.2) ep
      have : p.2.isEmpty = vs.isEmpty := by
        have := rl.length
        cases hx : p.2 <;> cases vs <;> simp [hx] at this ⊢
      rw [this] at ek
      rw [← hK] at z
      cases hp : p.1 with
      | true => rw [hp] at z; exact .inr (.inl ⟨vs, z, ek⟩)
      | false => rw [hp] at z; exact .inl ⟨vs, z, ek⟩
    cases x with
    | non => have e1 := e1.rep (fun _ => by simp); rw [Rep] at e1; subst e1; exact (Option.some.inj ek).symm
    | bl b => have e1 := e1.rep (fun _ => by simp); rw [Rep] at e1; subst e1; exact (Option.some.inj ek).symm
    | int i => have e1 := e1.rep (fun _ => by simp); rw [Rep] at e1; subst e1; exact (Option.some.inj ek).symm
    | str t =>
      have e1 := e1.rep (fun _ => by simp)
      rw [Rep] at e1; subst e1
      unfold truV at ek
      simp only [] at ek
      split at ek
      · rename_i hl
        have : (Str.length ⟨t.toArray⟩) = t.length := by simp [Str.length]
        refine ⟨by rw [this, SZ_eq]; exact hl, ?_⟩
        rw [this]; exact (Option.some.inj ek).symm
      · cases ek
    | exn c p => simp [truV, seqV] at ek
    | tup xs => obtain ⟨p, ep, ek⟩ := Option.map_eq_some_iff.mp (show (seqV h1 (.tup xs)).map (fun p => !p.2.isEmpty) = some k from ek); exact sq p ep ek.symm
    | ro xs => obtain ⟨p, ep, ek⟩ := Option.map_eq_some_iff.mp (show (seqV h1 (.ro xs)).map (fun p => !p.2.isEmpty) = some k from ek); exact sq p ep ek.symm
    | lst xs => obtain ⟨p, ep, ek⟩ := Option.map_eq_some_iff.mp (show (seqV h1 (.lst xs)).map (fun p => !p.2.isEmpty) = some k from ek); exact sq p ep ek.symm
    | ref n => obtain ⟨p, ep, ek⟩ := Option.map_eq_some_iff.mp (show (seqV h1 (.ref n)).map (fun p => !p.2.isEmpty) = some k from ek); exact sq p ep ek.symm
  cases ek : truV h1 x with
  | none => rw [ek] at q; exact q.elim
  | some k =>
    rw [ek] at q
    exact ⟨k, key k ek, q φ1 k H1 .refl r1 rfl⟩
theorem tb_bl' {Q : Bool → Hp → Prop} (q : tT W Wx (mTb m) σ H Q) : tE W Wx m σ H fun x H1 => ∃ k, x = .bl k ∧ Q k H1 := by
  obtain ⟨φ, env, h, s, r, q⟩ := q
  refine (tb (R := rE W) s r q).mono fun v H1 ⟨φ1, h1, x, p1, s1, r1, e1, q⟩ => ?_
  cases x <;> first
    | exact q.elim
    | (have e1 := e1.rep (fun _ => by simp)
       rw [Rep] at e1; subst e1
       exact ⟨_, rfl, q φ1 _ H1 .refl r1 rfl⟩)
theorem z_and1 (h : PT X e (tT W Wx t)) : PW X (.BoolOp .And [e] pos) (tT W Wx t) := pw_and1 h
theorem z_or1 (h : PT X e (tT W Wx t)) : PW X (.BoolOp .Or [e] pos) (tT W Wx t) := pw_or1 h
theorem z_and {rest : List Expr} (h : PT X e1 (tT W Wx t1)) (hr : PW X (.BoolOp .And (e2 :: rest) pos) (tT W Wx t2)) : PW X (.BoolOp .And (e1 :: e2 :: rest) pos) (tT W Wx (mAnd t1 t2)) := by
  refine PW.imp (pw_and h hr) fun σ H Q ⟨φ, env, h, s, r, q⟩ => ?_
  refine (tb (R := rT) s r q).mono fun v H1 ⟨φ1, h1, x, p1, s1, r1, e1, q⟩ => ?_
  cases e1
  by_cases hx : v = true
  · rw [if_pos hx] at q ⊢; exact ⟨φ1, env, h1, s1, r1, q⟩
  · rw [if_neg hx] at q ⊢; exact q φ1 false H1 .refl r1 rfl
theorem z_or {rest : List Expr} (h : PT X e1 (tT W Wx t1)) (hr : PW X (.BoolOp .Or (e2 :: rest) pos) (tT W Wx t2)) : PW X (.BoolOp .Or (e1 :: e2 :: rest) pos) (tT W Wx (mOr t1 t2)) := by
  refine PW.imp (pw_or h hr) fun σ H Q ⟨φ, env, h, s, r, q⟩ => ?_
  refine (tb (R := rT) s r q).mono fun v H1 ⟨φ1, h1, x, p1, s1, r1, e1, q⟩ => ?_
  cases e1
  by_cases hx : v = true
  · rw [if_pos hx] at q ⊢; exact q φ1 true H1 .refl r1 rfl
  · rw [if_neg hx] at q ⊢; exact ⟨φ1, env, h1, s1, r1, q⟩
theorem z_not (h : PT X e (tT W Wx t)) : PT X (.UnaryOp .Not e pos) (tT W Wx (mNot t)) := by
  refine PT.imp (pt_not h) fun σ H Q ⟨φ, env, h, s, r, q⟩ => ?_
  refine (tb (R := rT) s r q).mono fun v H1 ⟨φ1, h1, x, p1, s1, r1, e1, q⟩ => ?_
  cases e1
  exact q φ1 _ H1 .refl r1 rfl
theorem z_andV {rest : List Expr} (h : PE X e1 (tE W Wx m1)) (hr : PE X (.BoolOp .And (e2 :: rest) pos) (tE W Wx m2)) : PE X (.BoolOp .And (e1 :: e2 :: rest) pos) (tE W Wx (mAndV m1 m2)) := by
  refine PE.imp (pe_and h hr) fun σ H Q ⟨φ, env, h, s, r, q⟩ => ?_
  refine tb_bl' ((tb (R := rT) s r q).mono fun v H1 ⟨φ1, h1, x, p1, s1, r1, e1, q⟩ => ?_)
  cases e1
  by_cases hx : v = true
  · rw [if_pos hx] at q ⊢; exact ⟨φ1, env, h1, s1, r1, q⟩
  · rw [if_neg hx] at q ⊢; exact res_bl r1 q
theorem z_orV {rest : List Expr} (h : PE X e1 (tE W Wx m1)) (hr : PE X (.BoolOp .Or (e2 :: rest) pos) (tE W Wx m2)) : PE X (.BoolOp .Or (e1 :: e2 :: rest) pos) (tE W Wx (mOrV m1 m2)) := by
  refine PE.imp (pe_or h hr) fun σ H Q ⟨φ, env, h, s, r, q⟩ => ?_
  refine tb_bl' ((tb (R := rT) s r q).mono fun v H1 ⟨φ1, h1, x, p1, s1, r1, e1, q⟩ => ?_)
  cases e1
  by_cases hx : v = true
  · rw [if_pos hx] at q ⊢; exact res_bl r1 q
  · rw [if_neg hx] at q ⊢; exact ⟨φ1, env, h1, s1, r1, q⟩
theorem z_oneV {op} (h : PE X e (tE W Wx m)) : PE X (.BoolOp op [e] pos) (tE W Wx m) := pe_one h
theorem z_notV (h : PE X e (tE W Wx m)) : PE X (.UnaryOp .Not e pos) (tE W Wx (mNotV m)) := by
  refine PE.imp (pe_not h) fun σ H Q ⟨φ, env, h, s, r, q⟩ => ?_
  refine tb_bl' ((tb (R := rT) s r q).mono fun v H1 ⟨φ1, h1, x, p1, s1, r1, e1, q⟩ => ?_)
  cases e1
  exact res_bl r1 q
theorem z_if (ht : PT X e (tT W Wx t)) (h1 : PE X e1 (tE W Wx m1)) (h2 : PE X e2 (tE W Wx m2)) : PE X (.IfExp e e1 e2 pos) (tE W Wx (mIf t m1 m2)) := by
  refine PE.imp (pe_ifExp ht h1 h2) fun σ H Q ⟨φ, env, h, s, r, q⟩ => ?_
  refine (tb (R := rT) s r q).mono fun v H1 ⟨φ1, h1, x, p1, s1, r1, e1, q⟩ => ?_
  cases e1
  by_cases hx : v = true
  · rw [if_pos hx] at q ⊢; exact ⟨φ1, env, h1, s1, r1, q⟩
  · rw [if_neg hx] at q ⊢; exact ⟨φ1, env, h1, s1, r1, q⟩
theorem z_tup {es : List Expr} {x1} {as : MG (List PV)} (h : PA X es (tA W Wx as)) : PE X (.Tuple es x1 pos) (tE W Wx (mTup as)) := by
  refine PE.imp (pe_tup h) fun σ H Q ⟨φ, env, h, s, r, q⟩ => ?_
  refine (tb (R := rA W) s r q).mono fun v H1 ⟨φ1, h1, x, p1, s1, r1, e1, q⟩ => ?_
  by_cases hx : x.length ≤ SZ
  · rw [if_pos hx] at q
    exact ⟨by rw [← RepL.length e1, SZ_eq]; exact hx, fun p hp => res_tup r1 q e1 hp⟩
  · rw [if_neg hx] at q; exact q.elim
theorem z_lst {es : List Expr} {as : MG (List PV)} (h : PA X es (tA W Wx as)) : PE X (.List es pos) (tE W Wx (mLst as)) := by
  refine PE.imp (pe_lst h) fun σ H Q ⟨φ, env, h, s, r, q⟩ => ?_
  refine (tb (R := rA W) s r q).mono fun v H1 ⟨φ1, h1, x, p1, s1, r1, e1, q⟩ => ?_
  by_cases hx : x.length ≤ SZ
  · rw [if_pos hx] at q
    exact ⟨by rw [← RepL.length e1, SZ_eq]; exact hx, fun p hp => res_lst r1 q e1 hp⟩
  · rw [if_neg hx] at q; exact q.elim
end
end Z
namespace Z
open PySem PySem.Spec PyProof.Rows L2
/-! ### a dict of the top with texts as keys and whole numbers as values, never changed -/
structure DcT (P : Program) (w : World) (mg : Str → Option Value) (K : PySem.W.Frag) (x : Str) (tbl : List (List Nat × Int)) : Prop where
  ex : ∃ (d : Addr) (o : Obj) (es : Array DictEntry) (ep : Nat) (kvs : List (Str × Value)), mg x = some (.ref d) ∧ (d == sysModules) = false ∧ K.lookup d = some o ∧ o.ExactDict ∧ o.data = .dict es ep ∧
    KeysOf (strKind P w) es ∧ Pairs (strKind P w) es.toList kvs ∧ (kvs.map (·.1)).Nodup ∧ Paired (fun (p : List Nat × Int) (q : Str × Value) => q.1 = ⟨p.1.toArray⟩ ∧ ∃ t, q.2 = .int p.2 t) tbl kvs
/-! ### dicts whose keys are tuples -/
def dctV (h : PH) : PV → Option (List (PV × PV))
  | .ref n => match h[n]? with
    | some (.dct kvs) => some kvs
    | some (.fdc kvs) => some kvs
    | _ => none
  | _ => none
/-- a dict that may be changed -/
def wdV (h : PH) (n : Nat) : Option (List (PV × PV)) := match h[n]? with
  | some (.dct kvs) => some kvs
  | _ => none
theorem wdV_iff {h : PH} {n : Nat} {kvs : List (PV × PV)} : wdV h n = some kvs ↔ h[n]? = some (.dct kvs) := by
  unfold wdV
  split
  · rename_i k e; exact ⟨fun q => (by cases q; exact e), fun q => (by rw [e] at q; cases q; rfl)⟩
  · rename_i e; exact ⟨fun q => (nomatch q), fun q => absurd q (e kvs)⟩
/-- the dict stands -/
def OD (W : Wd) (φ : Emb) (H : Hp) (a : Addr) (kvs : List (PV × PV)) : Prop := OR W φ H a (.dct kvs) ∨ OR W φ H a (.fdc kvs)
def kget (kvs : List (PV × PV)) (k : NestedKey) : Option PV := (kvs.find? fun p => decide (keyT p.1 = some k)).map (·.2)
def kput (kvs : List (PV × PV)) (k : NestedKey) (x y : PV) : List (PV × PV) :=
  if (kget kvs k).isSome = true then kvs.map fun p => if keyT p.1 = some k then (p.1, y) else p else kvs ++ [(x, y)]
def kdel (kvs : List (PV × PV)) (k : NestedKey) : List (PV × PV) := kvs.filter fun p => decide (keyT p.1 ≠ some k)
theorem kput_len {kvs : List (PV × PV)} {k : NestedKey} {x y : PV} : (kput kvs k x y).length ≤ kvs.length + 1 := by
  unfold kput
  split <;> simp
section
variable {W : Wd} {φ : Emb} {H H0 : Hp} {h : PH} {X : Cx} {pins : List (Addr × Obj)} {σ : L2.St} {s : Shared} {kvs : List (PV × PV)} {a : Addr}
mutual
theorem nestV (hK : X.K = W.K) (I : Inv X pins σ H s) : ∀ {x : PV} {v : V} {u : Value} {k : NestedKey}, Rep W φ H x v → RelV v u → keyN x = some k → NestedIs s.heap k u
  | .non, v, u, k, r, q, e => by
    rw [keyN] at e; cases e
    rw [rep_non r q]; exact .none
  | .bl b, v, u, k, r, q, e => by
    rw [keyN] at e; cases e
    rw [rep_bl r q]; exact .bool rfl
  | .int b, v, u, k, r, q, e => by
    rw [keyN] at e; cases e
    obtain ⟨t, rfl⟩ := rep_int r q
    exact .int _ _
  | .str b, v, u, k, r, q, e => by
    rw [keyN] at e; cases e
    obtain ⟨t, rfl⟩ := rep_str r q
    exact .text _ _
  | .tup xs, v, u, k, r, q, e => by
    rw [keyN] at e
    obtain ⟨ks, e1, rfl⟩ := Option.map_eq_some_iff.mp e
    rw [Rep] at r
    obtain ⟨a, vs, rfl, sq, rl⟩ := r
    cases q
    rw [← hK] at sq
    obtain ⟨its, rv, ⟨o, ho, hc, n, hd⟩, _⟩ := I.tuple sq
    exact .tup ho hc hd (nestL hK I rl rv e1)
  | .ro _, _, _, _, _, _, e => by rw [keyN] at e <;> first | cases e | (intros; simp)
  | .lst _, _, _, _, _, _, e => by rw [keyN] at e <;> first | cases e | (intros; simp)
  | .ref _, _, _, _, _, _, e => by rw [keyN] at e <;> first | cases e | (intros; simp)
  | .exn _ _, _, _, _, _, _, e => by rw [keyN] at e <;> first | cases e | (intros; simp)
theorem nestL (hK : X.K = W.K) (I : Inv X pins σ H s) : ∀ {xs : List PV} {vs : List V} {us : List Value} {ks : List NestedKey}, RepL W φ H xs vs → Vals vs us → keyNs xs = some ks → NestedAll s.heap ks us
  | [], vs, us, ks, r, q, e => by
    rw [r.unnil] at q
    cases q
    rw [keyNs] at e; cases e
    exact .nil
  | x :: xs, vs, us, ks, r, q, e => by
    obtain ⟨v, r', rfl, h1, h2⟩ := r.uncons
    cases q with
    | cons q1 q2 =>
      rw [keyNs] at e
      split at e
      · rename_i k ks e1 e2
        cases e
        exact .cons (nestV hK I h1 q1 e1) (nestL hK I h2 q2 e2)
      · cases e
end
theorem keyT_some {x : PV} {k : NestedKey} (e : keyT x = some k) : (∃ xs, x = .tup xs) ∧ keyN x = some k ∧ k.depth ≤ 8 := by
  cases x with
  | tup xs =>
    unfold keyT at e
    obtain ⟨k', e1, e2⟩ := Option.bind_eq_some_iff.mp e
    by_cases c : k'.depth ≤ 8
    · rw [if_pos c] at e2; cases e2
      exact ⟨⟨xs, rfl⟩, e1, c⟩
    · rw [if_neg c] at e2; cases e2
  | _ => cases e
/-- a key in hand -/
theorem keyT_at (hK : X.K = W.K) (I : Inv X pins σ H s) {x : PV} {v : V} {u : Value} {k : NestedKey} (r : RR W φ H0 H x v) (q : RelV v u) (e : keyT x = some k) : ∃ b, v = .ref b ∧ u = .ref b ∧ Rep W φ H x v ∧ (nestedKind X.prog X.w).is s.heap k b := by
  obtain ⟨⟨xs, rfl⟩, e1, e2⟩ := keyT_some e
  have r := r.rep fun _ => by simp
  have r2 := r
  rw [Rep] at r2
  obtain ⟨b, vs, rfl, sq, rl⟩ := r2
  cases q
  exact ⟨b, rfl, rfl, r, nestV hK I r rfl e1, e2⟩
/-- entries of the plain dict and of the dict in the heap -/
def kvX (W : Wd) (φ : Emb) (H : Hp) (p : PV × PV) (q : NestedKey × Addr × Value) : Prop := keyT p.1 = some q.1 ∧ Rep W φ H p.1 (.ref q.2.1) ∧ ∃ v, Rep W φ H p.2 v ∧ RelV v q.2.2
theorem rowsX {P : Program} : ∀ {kvs : List (PV × PV)} {rs : List (NestedKey × V × V)} {es : List DictEntry}, Paired (kvR W φ H) kvs rs → Paired (fun (r : NestedKey × V × V) (e : DictEntry) => e.hash = r.1.hash W.w ∧ RelV r.2.1 e.key ∧ RelV r.2.2 e.val) rs es →
    ∃ xs, es = xs.map (entryOfKey (nestedKind P W.w)) ∧ xs.map (·.1) = rs.map (·.1) ∧ Paired (kvX W φ H) kvs xs := by
  intro kvs rs es r1
  induction r1 generalizing es with
  | nil => intro r2; cases r2; exact ⟨[], rfl, rfl, .nil⟩
  | @cons p r kvs rs h t ih =>
    intro r2
    cases r2 with
    | @cons _ e _ es h2 t2 =>
      obtain ⟨xs, e1, e2, e3⟩ := ih t2
      obtain ⟨k1, k2, k3⟩ := h
      obtain ⟨q1, q2, q3⟩ := h2
      obtain ⟨⟨ys, ey⟩, _, _⟩ := keyT_some k1
      have k2' := k2
      rw [ey, Rep] at k2'
      obtain ⟨b, vs, eb, _, _⟩ := k2'
      rw [eb] at q2 k2
      have q2 : e.key = .ref b := q2
      refine ⟨(r.1, b, e.val) :: xs, ?_, by rw [List.map_cons, List.map_cons, e2], .cons ⟨k1, k2, _, k3, q3⟩ e3⟩
      rw [List.map_cons, e1]
      congr 1
      obtain ⟨eh, ek, ev⟩ := e
      cases q2
      cases q1
      rfl
theorem rowsR {P : Program} : ∀ {kvs : List (PV × PV)} {xs : List (NestedKey × Addr × Value)}, Paired (kvX W φ H) kvs xs →
    ∃ rs, Paired (kvR W φ H) kvs rs ∧ rs.map (·.1) = xs.map (·.1) ∧ Paired (fun (r : NestedKey × V × V) (e : DictEntry) => e.hash = r.1.hash W.w ∧ RelV r.2.1 e.key ∧ RelV r.2.2 e.val) rs (xs.map (entryOfKey (nestedKind P W.w))) := by
  intro kvs xs r
  induction r with
  | nil => exact ⟨[], .nil, rfl, .nil⟩
  | @cons p q kvs xs h t ih =>
    obtain ⟨rs, e1, e2, e3⟩ := ih
    obtain ⟨h1, h2, v, h3, h4⟩ := h
    exact ⟨(q.1, .ref q.2.1, v) :: rs, .cons ⟨h1, h2, h3⟩ e1, by rw [List.map_cons, List.map_cons, e2], .cons ⟨rfl, rfl, h4⟩ e3⟩
theorem kvX_get {kvs : List (PV × PV)} {xs : List (NestedKey × Addr × Value)} (r : Paired (kvX W φ H) kvs xs) (k : NestedKey) :
    (∀ y, kget kvs k = some y → ∃ p v, atKey xs k = some p ∧ Rep W φ H y v ∧ RelV v p.2) ∧ (kget kvs k = none → atKey xs k = none) := by
  induction r with
  | nil => exact ⟨fun y e => (nomatch e), fun _ => rfl⟩
  | @cons p q kvs xs h t ih =>
    obtain ⟨h1, h2, v, h3, h4⟩ := h
    by_cases c : q.1 = k
    · have e1 : kget (p :: kvs) k = some p.2 := by
        unfold kget
        rw [List.find?_cons_of_pos (by rw [h1, c]; simp)]; rfl
      have e2 : atKey (q :: xs) k = some q.2 := by
        unfold atKey
        rw [List.find?_cons_of_pos (by simp [c])]; rfl
      rw [e1, e2]
      exact ⟨fun y e => by cases e; exact ⟨_, v, rfl, h3, h4⟩, fun e => (nomatch e)⟩
    · have e1 : kget (p :: kvs) k = kget kvs k := by
        unfold kget
        rw [List.find?_cons_of_neg (by rw [h1]; simp [c])]
      have e2 : atKey (q :: xs) k = atKey xs k := by
        unfold atKey
        rw [List.find?_cons_of_neg (by simp [c])]
      rw [e1, e2]
      exact ih
theorem kvX_some {kvs : List (PV × PV)} {xs : List (NestedKey × Addr × Value)} (r : Paired (kvX W φ H) kvs xs) (k : NestedKey) : (atKey xs k).isSome = (kget kvs k).isSome := by
  obtain ⟨h1, h2⟩ := kvX_get r k
  cases e : kget kvs k with
  | none => rw [h2 e]; rfl
  | some y => obtain ⟨p, _, ep, _⟩ := h1 y e; rw [ep]; rfl
theorem kvX_put {kvs : List (PV × PV)} {xs : List (NestedKey × Addr × Value)} (r : Paired (kvX W φ H) kvs xs) {k : NestedKey} {x y : PV} {b : Addr} {v : V} {u : Value} (hk : keyT x = some k) (rx : Rep W φ H x (.ref b)) (ry : Rep W φ H y v) (q : RelV v u) :
    Paired (kvX W φ H) (kput kvs k x y) (storedH xs k b u) := by
  unfold kput storedH
  rw [kvX_some r k]
  split
  · rename_i hsome
    clear hk rx hsome
    induction r with
    | nil => exact .nil
    | @cons p z kvs xs h t ih =>
      rw [List.map_cons, List.map_cons]
      refine .cons ?_ ih
      obtain ⟨h1, h2, h3⟩ := h
      unfold putAt
      by_cases c : z.1 = k
      · rw [if_pos c, if_pos (by rw [h1, c])]
        exact ⟨h1, h2, v, ry, q⟩
      · rw [if_neg c, if_neg (by rw [h1]; simpa using c)]
        exact ⟨h1, h2, h3⟩
  · exact Paired.snoc r ⟨hk, rx, v, ry, q⟩
theorem kvX_del {kvs : List (PV × PV)} {xs : List (NestedKey × Addr × Value)} (r : Paired (kvX W φ H) kvs xs) (k : NestedKey) : Paired (kvX W φ H) (kdel kvs k) (withoutH xs k) := by
  unfold kdel withoutH
  induction r with
  | nil => exact .nil
  | @cons p z kvs xs h t ih =>
    obtain ⟨h1, h2, h3⟩ := h
    rw [List.filter_cons, List.filter_cons]
    by_cases c : z.1 = k
    · rw [if_neg (by rw [h1, c]; simp), if_neg (by simp [c])]
      exact ih
    · rw [if_pos (by rw [h1]; simpa using c), if_pos (by simpa using c)]
      exact .cons ⟨h1, h2, h3⟩ ih
/-- the dict in the heap -/
theorem dct_at (hw : X.w = W.w) (hK : X.K = W.K) (I : Inv X pins σ H s) (x : OD W φ H a kvs) : (a == sysModules) = false ∧ kvs.length ≤ sizeLine ∧ ∃ xs, Paired (kvX W φ H) kvs xs ∧ s.heap.DictOfH (nestedKind X.prog X.w) a xs ∧ xs.length = kvs.length := by
  obtain ⟨rs, ⟨h0, o, es, ep, ho, hc, hd, pe⟩, nd, hl, r⟩ : ∃ rs, DF W.w a rs s.heap ∧ (rs.map (·.1)).Nodup ∧ kvs.length ≤ 16777216 ∧ Paired (kvR W φ H) kvs rs := by
    rcases x with ⟨rs, e, nd, hl, r⟩ | ⟨o, rs, e, nd, hl, r⟩
    · obtain ⟨d, _⟩ := I.hok a _ e
      exact ⟨rs, d, nd, hl, r⟩
    · obtain ⟨_, d, _⟩ := I.hok a _ e
      exact ⟨rs, d, nd, hl, r⟩
  obtain ⟨xs, e1, e2, e3⟩ := rowsX (P := X.prog) r pe
  refine ⟨h0, by rw [sizeLine_eq]; exact hl, xs, e3, ⟨o, es, ep, ho, hc, hd, by rw [hw]; exact e1, fun y hy => ?_, by rw [e2]; exact nd⟩, (Paired.length e3).symm⟩
  have : ∀ {kvs : List (PV × PV)} {xs : List (NestedKey × Addr × Value)}, Paired (kvX W φ H) kvs xs → y ∈ xs → (nestedKind X.prog X.w).is s.heap y.1 y.2.1 := by
    intro kvs xs r
    induction r with
    | nil => intro hy; cases hy
    | @cons p z kvs xs h t ih =>
      intro hy
      rcases List.mem_cons.mp hy with rfl | hy
      · obtain ⟨h1, h2, _⟩ := h
        obtain ⟨b, e1, e2, _, q⟩ := keyT_at (X := X) hK I (H0 := H) (.inl h2) rfl h1
        cases e1
        exact q
      · exact ih hy
  exact this e3 hy
theorem dctV_ok (hr : HR W φ H h) {x : PV} {v : V} (r : RR W φ H0 H x v) (e : dctV h x = some kvs) : ∃ n a, x = .ref n ∧ v = .ref a ∧ φ n = some a ∧ (h[n]? = some (.dct kvs) ∨ h[n]? = some (.fdc kvs)) ∧ OD W φ H a kvs := by
  cases x with
  | ref n =>
    have r := r.rep fun _ => by simp
    rw [Rep] at r
    obtain ⟨a, e1, e2⟩ := r
    unfold dctV at e
    dsimp only at e
    split at e
    · rename_i kvs' eo
      cases e
      exact ⟨n, a, rfl, e1, e2, .inl eo, .inl (hr.obj n _ a eo e2)⟩
    · rename_i kvs' eo
      cases e
      exact ⟨n, a, rfl, e1, e2, .inr eo, .inr (hr.obj n _ a eo e2)⟩
    · cases e
  | _ => cases e
theorem dctW_ok (hr : HR W φ H h) {n : Nat} {v : V} (r : RR W φ H0 H (.ref n) v) (e : h[n]? = some (.dct kvs)) : ∃ a, v = .ref a ∧ φ n = some a ∧ OR W φ H a (.dct kvs) := by
  have r := r.rep fun _ => by simp
  rw [Rep] at r
  obtain ⟨a, e1, e2⟩ := r
  exact ⟨a, e1, e2, hr.obj n _ a e e2⟩
/-- the object of a dict, as the heap holds it -/
theorem dct_new {P : Program} {h' : Heap} {xs : List (NestedKey × Addr × Value)} (hl : kvs.length ≤ sizeLine) (h0 : (a == sysModules) = false) (r : Paired (kvX W φ H) kvs xs) (d : h'.DictOfH (nestedKind P W.w) a xs) :
    ∃ rs, (∀ H1, ObjOk P W.w H1 h' a (.ext (DF W.w a rs))) ∧ (rs.map (·.1)).Nodup ∧ kvs.length ≤ 16777216 ∧ Paired (kvR W φ H) kvs rs := by
  obtain ⟨o, es, ep, ho, hc, hd, he, _, nd⟩ := d
  obtain ⟨rs, r1, r2, r3⟩ := rowsR (P := P) r
  refine ⟨rs, fun H1 => ⟨⟨h0, o, es, ep, ho, hc, hd, by rw [he]; exact r3⟩, ⟨o, ho⟩, ?_⟩, by rw [r2]; exact nd, by rw [sizeLine_eq] at hl; exact hl, r1⟩
  rintro h1 h2 ⟨z0, o, es, ep, ho, z⟩ k
  exact ⟨z0, o, es, ep, k _ ho, z⟩
/-- another object in its place -/
theorem dct_put (hw : X.w = W.w) (hr : HR W φ H h) {n : Nat} (e : φ n = some a) {kvs' : List (PV × PV)} (x : OR W φ H a (.dct kvs)) {xs : List (NestedKey × Addr × Value)} {h' : Heap} {t' : Nat} (I : Inv X pins σ H s) (hl : kvs'.length ≤ sizeLine) (r : Paired (kvX W φ H) kvs' xs) (d : h'.DictOfH (nestedKind X.prog X.w) a xs) (hs : Heap.SameBut a s.heap h') :
    ∃ u, Inv X pins σ (upd H a u) { s with heap := h', toks := t' } ∧ HR W φ (upd H a u) (h.set n (.dct kvs')) ∧ Post φ H φ (upd H a u) := by
  obtain ⟨rs0, e0, _⟩ := x
  obtain ⟨⟨h0, _⟩, _⟩ := I.hok a _ e0
  rw [hw] at d
  obtain ⟨rs, n1, n2, n3, n4⟩ := dct_new (P := X.prog) hl h0 r d
  have hc : Chg (.ext (DF W.w a rs)) := True.intro
  have p : Post φ H φ (upd H a (.ext (DF W.w a rs))) := .put e (nf_ext e0)
  have q := hr.put (u := .ext (DF W.w a rs)) (o := .dct kvs') e (nf_ext e0) hc ⟨rs, upd_same, n2, n3, pairedM n4 fun _ _ _ z => ⟨z.1, z.2.1.mono (p.k hr), z.2.2.mono (p.k hr)⟩⟩
  refine ⟨_, d_write I (by rw [e0]; exact True.intro) hs (let ⟨q, _, _, hq, _⟩ := d; ⟨q, hq⟩) ?_, q.1, q.2⟩
  rw [hw]
  exact n1 _
end
end Z
namespace Z
open PySem PySem.Spec PyProof.Rows L2

/-! ### operators by value -/
def oAdd (x y : PV) (h : PH) : RG PV := match x with
  | .int i => (match y with
    | .int j => .ok (.int (i + j)) h
    | _ => .bad)
  | .str s => (match y with
    | .str t => if s.length + t.length ≤ SZ then .ok (.str (s ++ t)) h else .bad
    | _ => .bad)
  | .tup s => (match y with
    | .tup t => if s.length + t.length ≤ SZ then .ok (.tup (s ++ t)) h else .bad
    | _ => .bad)
  | x => (match lstV h x, lstV h y with
    | some s, some t => if s.length + t.length ≤ SZ then .ok (.lst (s ++ t)) h else .bad
    | _, _ => .bad)
def oII (C : Int → Int → Bool) (g : Int → Int → PV) (x y : PV) (h : PH) : RG PV := match x with
  | .int i => (match y with
    | .int j => if C i j then .ok (g i j) h else .bad
    | _ => .bad)
  | _ => .bad
def cMul (i j : Int) : Bool := decide ((-18446744073709551616 < i ∧ i < 18446744073709551616) ∨ (-18446744073709551616 < j ∧ j < 18446744073709551616))
def cDiv (_ j : Int) : Bool := decide (0 < j ∧ j < 18446744073709551616)
def cMod (_ j : Int) : Bool := decide (0 < j)
def cPow (i j : Int) : Bool := decide (0 ≤ j ∧ j ≤ 1000000 ∧ -18446744073709551616 < i ∧ i < 18446744073709551616)
def cAny (_ _ : Int) : Bool := true
abbrev oSub := oII cAny fun i j => .int (i - j)
abbrev oFdiv := oII cDiv fun i j => .int (i / j)
abbrev oMod := oII cMod fun i j => .int (i % j)
abbrev oPow := oII cPow fun i j => .int (i ^ j.toNat)
abbrev oLt := oII cAny fun i j => .bl (decide (i < j))
abbrev oLe := oII cAny fun i j => .bl (decide (i ≤ j))
abbrev oGt := oII cAny fun i j => .bl (decide (j < i))
abbrev oGe := oII cAny fun i j => .bl (decide (j ≤ i))
def oEq (x y : PV) (h : PH) : RG PV := oB (eqF h 50 x y) h
def oNe (x y : PV) (h : PH) : RG PV := oB ((eqF h 50 x y).map (!·)) h
def inF (f : PV → PV → Option Bool) (x : PV) : List PV → Option Bool
  | [] => some false
  | y :: ys => match f y x, inF f x ys with
    | some a, some b => some (a || b)
    | _, _ => none
def oIn (x y : PV) (h : PH) : RG PV := match dctV h y with
  | some kvs => oB ((keyT x).map fun k => (kget kvs k).isSome) h
  | none => (match seqV h y with
    | some p => oB (inF (eqF h 50) x p.2) h
    | none => .bad)
def oNotIn (x y : PV) (h : PH) : RG PV := match dctV h y with
  | some kvs => oB ((keyT x).map fun k => !(kget kvs k).isSome) h
  | none => (match seqV h y with
    | some p => oB ((inF (eqF h 50) x p.2).map (!·)) h
    | none => .bad)
/-- one sign in a text -/
def oInS (x y : PV) (h : PH) : RG PV := match x with
  | .str [c] => (match y with
    | .str t => .ok (.bl (decide (c ∈ t))) h
    | _ => .bad)
  | _ => .bad
def oNotInS (x y : PV) (h : PH) : RG PV := match x with
  | .str [c] => (match y with
    | .str t => .ok (.bl (!decide (c ∈ t))) h
    | _ => .bad)
  | _ => .bad
def isN : PV → Bool
  | .non => true
  | _ => false
def oIs (x y : PV) (h : PH) : RG PV := match y with
  | .non => .ok (.bl (isN x)) h
  | .bl b => (match x with
    | .bl a => .ok (.bl (decide (a = b))) h
    | _ => .bad)
  | _ => .bad
def oIsNot (x y : PV) (h : PH) : RG PV := match y with
  | .non => .ok (.bl (!isN x)) h
  | .bl b => (match x with
    | .bl a => .ok (.bl (!decide (a = b))) h
    | _ => .bad)
  | _ => .bad
/-- x[i] of a list or a tuple, of a text -/
def oIx (x y : PV) (h : PH) : RG PV := match y with
  | .int i => (match x with
    | .str s => if s.length ≤ SZ then (match atI s i with
      | some c => .ok (.str [c]) h
      | none => .bad) else .bad
    | x => (match seqV h x with
      | some p => (match atI p.2 i with
        | some z => .ok z h
        | none => .bad)
      | none => .bad))
  | .tup ys => (match dctV h x, keyT (.tup ys) with
    | some kvs, some k => (match kget kvs k with
      | some z => .ok z h
      | none => .bad)
    | _, _ => .bad)
  | _ => .bad
abbrev oBAnd : PV → PV → PH → RG PV := oII cAny fun i j => .int (PySem.Builtin.bitAnd i j)
abbrev oBOr : PV → PV → PH → RG PV := oII cAny fun i j => .int (PySem.Builtin.bitOr i j)
abbrev oBXor : PV → PV → PH → RG PV := oII cAny fun i j => .int (PySem.Builtin.bitXor i j)
def cShr : Int → Int → Bool := fun _ j => decide (0 ≤ j)
abbrev oShr : PV → PV → PH → RG PV := oII cShr fun i j => .int (i / 2 ^ j.toNat)
def oNeg (x : PV) (h : PH) : RG PV := match x with
  | .int i => .ok (.int (-i)) h
  | _ => .bad
section
variable {W : Wd} {Wx : WX} {X : Cx} {σ : L2.St} {φ : Emb} {H H0 H1 H2 : Hp} {h : PH} {e e1 e2 : Expr} {m m1 m2 : MG PV} {t t1 t2 : MG Bool} {pos : Pos} {Q : VK}
theorem oII_ok {C : Int → Int → Bool} {g : Int → Int → PV} {x y : PV} {v u : V} (r1 : RR W φ H1 H x v) (r2 : RR W φ H2 H y u) (q : ResG W Wx (rE W) σ φ H (oII C g x y h) Q) :
    ∃ i j, v = .int i ∧ u = .int j ∧ C i j = true ∧ ResG W Wx (rE W) σ φ H (.ok (g i j) h) Q := by
  cases x with
  | int i =>
    cases y with
    | int j =>
      have r1 := r1.rep (fun _ => by simp)
      have r2 := r2.rep (fun _ => by simp)
      rw [Rep] at r1 r2
      dsimp only [oII] at q
      by_cases hc : C i j = true
      · rw [if_pos hc] at q; exact ⟨i, j, r1, r2, hc, q⟩
      · rw [if_neg hc] at q; exact q.elim
    | _ => exact q.elim
  | _ => exact q.elim
theorem z_opI {op : Operator} {C : Int → Int → Bool} {g : Int → Int → PV} {r : R2} (ho : OpR X (binaryOp op) r) (hr : ∀ i j H Q, C i j = true → (∀ x, (∀ φ, Rep W φ H (g i j) x) → Q x H) → r (.int i) (.int j) H Q) (h1 : PE X e1 (tE W Wx m1)) (h2 : PE X e2 (tE W Wx m2)) :
    PE X (.BinOp e1 op e2 pos) (tE W Wx (mB (oII C g) m1 m2)) := by
  refine PE.imp (pe_op ho h1 h2) fun σ H Q q => b2 (fun hr' r1 r2 q => ?_) q
  obtain ⟨i, j, rfl, rfl, hc, q⟩ := oII_ok r1 r2 q
  exact hr i j _ _ hc fun x hx => res_same hr' q (hx _)
theorem z_sub (h1 : PE X e1 (tE W Wx m1)) (h2 : PE X e2 (tE W Wx m2)) : PE X (.BinOp e1 .Sub e2 pos) (tE W Wx (mB oSub m1 m2)) :=
  z_opI op_sub (fun i j H Q _ q => ⟨i, j, rfl, rfl, q _ fun _ => by rw [Rep]⟩) h1 h2
theorem z_mod (h1 : PE X e1 (tE W Wx m1)) (h2 : PE X e2 (tE W Wx m2)) : PE X (.BinOp e1 .Mod e2 pos) (tE W Wx (mB oMod m1 m2)) :=
  z_opI op_mod (fun i j H Q c q => ⟨i, j, rfl, rfl, of_decide_eq_true c, q _ fun _ => by rw [Rep]⟩) h1 h2
theorem z_fdiv (h1 : PE X e1 (tE W Wx m1)) (h2 : PE X e2 (tE W Wx m2)) : PE X (.BinOp e1 .FloorDiv e2 pos) (tE W Wx (mB oFdiv m1 m2)) :=
  z_opI op_fdivW (fun i j H Q c q => ⟨i, j, rfl, rfl, wide_div (of_decide_eq_true c).1 (b := 64) (by have := of_decide_eq_true c; omega) (by decide) (by decide), q _ fun _ => by rw [Rep]⟩) h1 h2
theorem z_pow (h1 : PE X e1 (tE W Wx m1)) (h2 : PE X e2 (tE W Wx m2)) : PE X (.BinOp e1 .Pow e2 pos) (tE W Wx (mB oPow m1 m2)) :=
  z_opI op_pow (fun i j H Q c q => ⟨i, j, rfl, rfl, ⟨(of_decide_eq_true c).1, (of_decide_eq_true c).2.1, by have := of_decide_eq_true c; omega⟩, q _ fun _ => by rw [Rep]⟩) h1 h2
theorem z_band (h1 : PE X e1 (tE W Wx m1)) (h2 : PE X e2 (tE W Wx m2)) : PE X (.BinOp e1 .BitAnd e2 pos) (tE W Wx (mB oBAnd m1 m2)) :=
  z_opI op_and (fun i j H Q _ q => ⟨i, j, rfl, rfl, q _ fun _ => by rw [Rep]⟩) h1 h2
theorem z_bor (h1 : PE X e1 (tE W Wx m1)) (h2 : PE X e2 (tE W Wx m2)) : PE X (.BinOp e1 .BitOr e2 pos) (tE W Wx (mB oBOr m1 m2)) :=
  z_opI op_or (fun i j H Q _ q => ⟨i, j, rfl, rfl, q _ fun _ => by rw [Rep]⟩) h1 h2
theorem z_xor (h1 : PE X e1 (tE W Wx m1)) (h2 : PE X e2 (tE W Wx m2)) : PE X (.BinOp e1 .BitXor e2 pos) (tE W Wx (mB oBXor m1 m2)) :=
  z_opI op_xor (fun i j H Q _ q => ⟨i, j, rfl, rfl, q _ fun _ => by rw [Rep]⟩) h1 h2
theorem z_shr (h1 : PE X e1 (tE W Wx m1)) (h2 : PE X e2 (tE W Wx m2)) : PE X (.BinOp e1 .RShift e2 pos) (tE W Wx (mB oShr m1 m2)) :=
  z_opI op_shr (fun i j H Q c q => ⟨i, j, rfl, rfl, of_decide_eq_true c, q _ fun _ => by rw [Rep]⟩) h1 h2
theorem z_add (h1 : PE X e1 (tE W Wx m1)) (h2 : PE X e2 (tE W Wx m2)) (hK : X.K = W.K) : PE X (.BinOp e1 .Add e2 pos) (tE W Wx (mB oAdd m1 m2)) := by
  refine PE.imp (pe_op (op_add.or (op_add_str.or (op_catA.or op_cat))) h1 h2) fun σ H Q q => b2 (fun {φ H H1 H2 h x y v u σ Q} hr r1 r2 q => ?_) q
  have lists : (match lstV h x, lstV h y with
    | some s, some t => if s.length + t.length ≤ SZ then ResG W Wx (rE W) σ φ H (.ok (.lst (s ++ t)) h) Q else False
    | _, _ => False) → rCat v u H Q := fun q => by
    cases ex : lstV h x with
    | none => rw [ex] at q; exact q.elim
    | some s =>
      cases ey : lstV h y with
      | none => rw [ex, ey] at q; exact q.elim
      | some t =>
        rw [ex, ey] at q
        simp only [] at q
        split at q
        · rename_i hl
          obtain ⟨a, vs, rfl, rl, ha⟩ := lstV_ok hr r1 ex
          obtain ⟨b, us, rfl, rl', hb⟩ := lstV_ok hr r2 ey
          exact ⟨a, b, vs, us, rfl, rfl, ha, hb, by rw [← rl.length, ← rl'.length, SZ_eq]; exact hl, fun p hp => res_lst hr q (rl.append rl') hp⟩
        · exact q.elim
  have go : (match lstV h x, lstV h y with
    | some s, some t => if s.length + t.length ≤ SZ then RG.ok (.lst (s ++ t)) h else .bad
    | _, _ => .bad) = oAdd x y h → rCat v u H Q := fun z => by
    rw [← z] at q
    refine lists ?_
    cases ex : lstV h x with
    | none => rw [ex] at q; exact q.elim
    | some s =>
      cases ey : lstV h y with
      | none => rw [ex, ey] at q; exact q.elim
      | some t =>
        rw [ex, ey] at q
        simp only [] at q ⊢
        split at q
        · rename_i hl; rw [if_pos hl]; exact q
        · exact q.elim
  cases x with
  | int i =>
    cases y with
    | int j =>
      have r1 := r1.rep (fun _ => by simp)
      have r2 := r2.rep (fun _ => by simp)
      rw [Rep] at r1 r2
      exact .inl ⟨i, j, r1, r2, res_int hr q⟩
    | _ => exact q.elim
  | str s =>
    cases y with
    | str t =>
      have r1 := r1.rep (fun _ => by simp)
      have r2 := r2.rep (fun _ => by simp)
      rw [Rep] at r1 r2
      dsimp only [oAdd] at q
      split at q
      · rename_i hl
        refine .inr (.inl ⟨_, _, r1, r2, by simp only [Str.length, List.size_toArray]; rw [SZ_eq]; exact hl, ?_⟩)
        have := res_str hr q
        have e : (⟨s.toArray⟩ ++ ⟨t.toArray⟩ : Str) = ⟨(s ++ t).toArray⟩ := by
          show Str.append _ _ = _
          simp [Str.append]
        rw [e]; exact this
      · exact q.elim
    | _ => exact q.elim
  | tup s =>
    cases y with
    | tup t =>
      have r1' := r1.rep (fun _ => by simp)
      have r2' := r2.rep (fun _ => by simp)
      have r3 := r1'
      have r4 := r2'
      rw [Rep] at r1' r2'
      obtain ⟨a, vs, rfl, sa, rl⟩ := r1'
      obtain ⟨b, us, rfl, sb, rl'⟩ := r2'
      dsimp only [oAdd] at q
      split at q
      · rename_i hl
        refine .inr (.inr (.inl ⟨a, b, vs, us, rfl, rfl, hK ▸ sa, hK ▸ sb, by rw [← rl.length, ← rl'.length, SZ_eq]; exact hl, fun z => ?_, fun _ z => ?_, fun _ _ p hp => res_tup hr q (rl.append rl') hp⟩))
        · subst z
          have : s = [] := List.eq_nil_of_length_eq_zero (by rw [rl.length]; rfl)
          subst this
          exact res_same hr q r4
        · subst z
          have : t = [] := List.eq_nil_of_length_eq_zero (by rw [rl'.length]; rfl)
          subst this
          rw [List.append_nil] at q
          exact res_same hr q r3
      · exact q.elim
    | _ => exact q.elim
  | _ => exact .inr (.inr (.inr (go rfl)))
/-! ### comparisons -/
theorem z_cmp {op : CmpOp} {f : PV → PV → PH → RG PV} {r : R2} (ho : OpR X (compareOp op) r) (hr : ∀ {φ H H1 H2 h x y v u σ Q}, HR W φ H h → RR W φ H1 H x v → RR W φ H2 H y u → ResG W Wx (rE W) σ φ H (f x y h) Q → r v u H Q)
    (h1 : PE X e1 (tE W Wx m1)) (h2 : PE X e2 (tE W Wx m2)) (hm : behindInMarks op e2 = false) : PE X (.Compare e1 [op] [e2] pos) (tE W Wx (mB f m1 m2)) := PE.imp (pe_cmpR ho h1 h2 hm) fun σ H Q q => b2 hr q
theorem z_cmpT {op : CmpOp} {f : PV → PV → PH → RG PV} {r : R2} (ho : OpR X (compareOp op) r) (hr : ∀ {φ H H1 H2 h x y v u σ Q}, HR W φ H h → RR W φ H1 H x v → RR W φ H2 H y u → ResG W Wx (rE W) σ φ H (f x y h) Q → r v u H Q)
    (h1 : PE X e1 (tE W Wx m1)) (h2 : PE X e2 (tE W Wx m2)) (hm : behindInMarks op e2 = false) : PT X (.Compare e1 [op] [e2] pos) (tT W Wx (mTb (mB f m1 m2))) := PT.imp (pt_cmpR ho h1 h2 hm) fun σ H Q q => by
  have := tb_bl' q
  exact b2 hr this
/-- a comparison of two ints -/
theorem cmpI {g : Int → Int → Bool} {φ : Emb} {H H1 H2 : Hp} {h : PH} {x y : PV} {v u : V} (hr : HR W φ H h) (r1 : RR W φ H1 H x v) (r2 : RR W φ H2 H y u) (q : ResG W Wx (rE W) σ φ H (oII cAny (fun i j => .bl (g i j)) x y h) Q) : rI0 (fun i j => .bl (g i j)) v u H Q := by
  obtain ⟨i, j, rfl, rfl, _, q⟩ := oII_ok r1 r2 q
  exact ⟨i, j, rfl, rfl, res_bl hr q⟩
theorem oB_ok {b : Option Bool} (hr : HR W φ H h) (q : ResG W Wx (rE W) σ φ H (oB b h) Q) : ∃ k, b = some k ∧ Q (.bl k) H := by
  cases b with
  | none => exact q.elim
  | some k => exact ⟨k, rfl, res_bl hr q⟩
def rEqZ (W : Wd) (neg : Bool) : R2 := fun v u H Q => ∃ φ h x y H1 H2 k, HR W φ H h ∧ RR W φ H1 H x v ∧ RR W φ H2 H y u ∧ eqF h 50 x y = some k ∧ Q (.bl (if neg then !k else k)) H
theorem op_eqZ (hu : X.A.units + 64 < cLine) (hK : X.K = W.K) : OpR X (compareOp .Eq) (rEqZ W false) := by
  intro pins s σ H v u a b Q I ra rb ⟨φ, h, x, y, H1, H2, k, hr, r1, r2, e, q⟩
  exact (eqF_at hK hr I 50 X.A (by omega) r1 r2 ra rb e).2.1 _ _ _ _ ⟨.bl k, H, I, rfl, q⟩
theorem op_neZ (hu : X.A.units + 64 < cLine) (hK : X.K = W.K) : OpR X (compareOp .NotEq) (rEqZ W true) := by
  intro pins s σ H v u a b Q I ra rb ⟨φ, h, x, y, H1, H2, k, hr, r1, r2, e, q⟩
  exact (eqF_at hK hr I 50 X.A (by omega) r1 r2 ra rb e).2.2 _ _ _ _ ⟨.bl (!k), H, I, rfl, q⟩
theorem eqZ {φ : Emb} {H H1 H2 : Hp} {h : PH} {x y : PV} {v u : V} (hr : HR W φ H h) (r1 : RR W φ H1 H x v) (r2 : RR W φ H2 H y u) (q : ResG W Wx (rE W) σ φ H (oEq x y h) Q) : rEqZ W false v u H Q := by
  obtain ⟨k, e, q⟩ := oB_ok hr q
  exact ⟨φ, h, x, y, H1, H2, k, hr, r1, r2, e, q⟩
theorem neZ {φ : Emb} {H H1 H2 : Hp} {h : PH} {x y : PV} {v u : V} (hr : HR W φ H h) (r1 : RR W φ H1 H x v) (r2 : RR W φ H2 H y u) (q : ResG W Wx (rE W) σ φ H (oNe x y h) Q) : rEqZ W true v u H Q := by
  obtain ⟨k, e, q⟩ := oB_ok hr q
  obtain ⟨k', e', rfl⟩ := Option.map_eq_some_iff.mp e
  exact ⟨φ, h, x, y, H1, H2, k', hr, r1, r2, e', q⟩
theorem inF_get {f : PV → PV → Option Bool} {x : PV} : ∀ {ys : List PV} {b : Bool}, inF f x ys = some b → ∃ es : List Bool, es.length = ys.length ∧ b = es.any id ∧ ∀ (j : Nat) y k, ys[j]? = some y → es[j]? = some k → f y x = some k
  | [], b, h => ⟨[], rfl, by unfold inF at h; cases h; rfl, fun _ _ _ e => by simp at e⟩
  | y :: ys, b, h => by
    unfold inF at h
    cases e1 : f y x with
    | none => rw [e1] at h; cases h
    | some a =>
      cases e2 : inF f x ys with
      | none => rw [e1, e2] at h; cases h
      | some c =>
        rw [e1, e2] at h
        cases h
        obtain ⟨es, q1, q2, q3⟩ := inF_get e2
        refine ⟨a :: es, by simp [q1], by simp [q2], fun j z k h1 h2 => ?_⟩
        cases j with
        | zero => simp at h1 h2; subst h1; subst h2; exact e1
        | succ j => exact q3 j z k (by simpa using h1) (by simpa using h2)
def rInD (W : Wd) (neg : Bool) : R2 := fun v u H Q => ∃ φ h x y H1 H2 kvs k, HR W φ H h ∧ RR W φ H1 H x v ∧ RR W φ H2 H y u ∧ dctV h y = some kvs ∧ keyT x = some k ∧ Q (.bl (if neg then !(kget kvs k).isSome else (kget kvs k).isSome)) H
theorem nk_room {A : Around} {P : Program} {w : World} (hu : A.units + 64 < cLine) : (nestedKind P w).room A.in1 := by
  show A.units + 1 + 8 < cLine
  omega
theorem op_inD (hu : X.A.units + 64 < cLine) (hK : X.K = W.K) (hw : X.w = W.w) : OpR X (compareOp .In) (rInD W false) := by
  intro pins s σ H v u a b Q I ra rb ⟨φ, h, x, y, H1, H2, kvs, k, hr, r1, r2, e, ek, q⟩
  obtain ⟨n, d, rfl, rfl, _, _, o⟩ := dctV_ok hr r2 e
  cases rb
  obtain ⟨c, rfl, rfl, _, hk⟩ := keyT_at hK I r1 ra ek
  obtain ⟨h0, _, xs, r, dd, _⟩ := dct_at hw hK I o
  refine wpAny_in_heap (nk_room hu) hk h0 dd ?_
  rw [kvX_some r k]
  exact ⟨.bl (kget kvs k).isSome, H, I.tok _, rfl, q⟩
theorem op_notInD (hu : X.A.units + 64 < cLine) (hK : X.K = W.K) (hw : X.w = W.w) : OpR X (compareOp .NotIn) (rInD W true) := by
  intro pins s σ H v u a b Q I ra rb ⟨φ, h, x, y, H1, H2, kvs, k, hr, r1, r2, e, ek, q⟩
  obtain ⟨n, d, rfl, rfl, _, _, o⟩ := dctV_ok hr r2 e
  cases rb
  obtain ⟨c, rfl, rfl, _, hk⟩ := keyT_at hK I r1 ra ek
  obtain ⟨h0, _, xs, r, dd, _⟩ := dct_at hw hK I o
  refine wpAny_notIn_heap (nk_room hu) hk h0 dd ?_
  rw [kvX_some r k]
  exact ⟨.bl (!(kget kvs k).isSome), H, I.tok _, rfl, q⟩
def rInY (W : Wd) (neg : Bool) : R2 := fun v u H Q => ∃ φ h x y H1 H2 p k, HR W φ H h ∧ RR W φ H1 H x v ∧ RR W φ H2 H y u ∧ seqV h y = some p ∧ inF (eqF h 50) x p.2 = some k ∧ Q (.bl (if neg then !k else k)) H
open PySem.SeqAt in
theorem in_at (hu : X.A.units + 64 < cLine) (hK : X.K = W.K) {pins : List (Addr × Obj)} {s : Shared} {v u : V} {a b : Value} {φ : Emb} {h : PH} {x y : PV} {p : Bool × List PV} {k : Bool} (I : Inv X pins σ H s) (ra : RelV v a) (rb : RelV u b)
    (hr : HR W φ H h) (r1 : RR W φ H1 H x v) (r2 : RR W φ H2 H y u) (e : seqV h y = some p) (ei : inF (eqF h 50) x p.2 = some k) :
    ∃ l its, b = .ref l ∧ (if p.1 = true then s.heap.IsTuple l its else s.heap.IsList l its) ∧ ∃ f : Value → Bool, (∀ y, y ∈ its → EqAt X.A.in1 s y a (f y)) ∧ its.any f = k := by
  obtain ⟨l, vs, rfl, rl, sq⟩ := seqV_ok hr r2 (t := p.1) (xs := p.2) e
  rw [← hK] at sq
  obtain ⟨its, rv, hl⟩ := Inv.seq I sq
  cases rb
  obtain ⟨es, n1, rfl, q⟩ := inF_get ei
  have n2 : its.length = p.2.length := by rw [← rv.length, rl.length]
  have at_ : ∀ (j : Nat) y, its[j]? = some y → ∃ k, es[j]? = some k ∧ EqAt X.A.in1 s y a k := fun j y ey => by
    have hj : j < its.length := (List.getElem?_eq_some_iff.mp ey).1
    have j1 : j < p.2.length := by omega
    have j2 : j < es.length := by omega
    obtain ⟨w1, g1, p1⟩ := rl.get (List.getElem?_eq_getElem j1)
    obtain ⟨u1, k1, m1⟩ := rv.get g1
    rw [ey] at k1; cases k1
    exact ⟨es[j], List.getElem?_eq_getElem j2, (eqF_at hK hr I 50 X.A.in1 (H0 := H) (H0' := H1) (by show X.A.units + 1 + 50 < cLine; omega) (.inl p1) r1 m1 ra (q j _ _ (List.getElem?_eq_getElem j1) (List.getElem?_eq_getElem j2))).1⟩
  -- a function of the item: the first place that holds it
  have sep : ∃ f : Value → Bool, (∀ y, y ∈ its → EqAt X.A.in1 s y a (f y)) ∧ its.any f = es.any id := by
    by_cases ht : ∃ (j : Nat) (y : Value), its[j]? = some y ∧ es[j]? = some true
    · obtain ⟨j, y, e1, e2⟩ := ht
      refine ⟨fun z => @decide (∃ j : Nat, its[j]? = some z ∧ es[j]? = some true) (Classical.propDecidable _), fun z hz => ?_, ?_⟩
      · by_cases hz' : ∃ j : Nat, its[j]? = some z ∧ es[j]? = some true
        · show EqAt X.A.in1 s z a (@decide (∃ j : Nat, its[j]? = some z ∧ es[j]? = some true) (Classical.propDecidable _))
          rw [@decide_eq_true _ (Classical.propDecidable _) hz']
          obtain ⟨j', f1, f2⟩ := hz'
          obtain ⟨k, g1, g2⟩ := at_ j' z f1
          rw [f2] at g1; cases g1
          exact g2
        · show EqAt X.A.in1 s z a (@decide (∃ j : Nat, its[j]? = some z ∧ es[j]? = some true) (Classical.propDecidable _))
          rw [@decide_eq_false _ (Classical.propDecidable _) hz']
          obtain ⟨j', hj', f1⟩ := List.getElem_of_mem hz
          obtain ⟨k, g1, g2⟩ := at_ j' z (by rw [List.getElem?_eq_getElem hj', f1])
          cases k with
          | true => exact absurd ⟨j', by rw [List.getElem?_eq_getElem hj', f1], g1⟩ hz'
          | false => exact g2
      · have h1 : es.any id = true := List.any_eq_true.mpr ⟨true, List.mem_of_getElem? e2, rfl⟩
        rw [h1]
        refine List.any_eq_true.mpr ⟨y, List.mem_of_getElem? e1, @decide_eq_true _ (Classical.propDecidable _) ⟨j, e1, e2⟩⟩
    · refine ⟨fun _ => false, fun z hz => ?_, ?_⟩
      · obtain ⟨j', hj', f1⟩ := List.getElem_of_mem hz
        obtain ⟨k, g1, g2⟩ := at_ j' z (by rw [List.getElem?_eq_getElem hj', f1])
        cases k with
        | true => exact absurd ⟨j', z, by rw [List.getElem?_eq_getElem hj', f1], g1⟩ ht
        | false => exact g2
      · have h1 : es.any id = false := by
          rw [List.any_eq_false]
          intro k hk
          obtain ⟨j', hj', f1⟩ := List.getElem_of_mem hk
          cases k with
          | false => simp
          | true =>
            have j2 : j' < its.length := by omega
            exact absurd ⟨j', its[j'], List.getElem?_eq_getElem j2, by rw [List.getElem?_eq_getElem hj', f1]⟩ ht
        rw [h1, List.any_eq_false]
        simp
  obtain ⟨f, f1, f2⟩ := sep
  exact ⟨l, its.toArray, rfl, hl, f, fun y hy => f1 y (by simpa using hy), by simpa using f2⟩
open PySem.SeqAt in
theorem op_inY (hu : X.A.units + 64 < cLine) (hK : X.K = W.K) : OpR X (compareOp .In) (rInY W false) := by
  intro pins s σ H v u a b Q I ra rb ⟨φ, h, x, y, H1, H2, p, k, hr, r1, r2, e, ei, q⟩
  obtain ⟨l, its, rfl, hl, f, f1, f2⟩ := in_at hu hK I ra rb hr r1 r2 e ei
  cases hp : p.1 with
  | true => rw [hp] at hl; exact in_tupleAt f hl f1 (by rw [f2]; exact ⟨.bl k, H, I, rfl, q⟩)
  | false => rw [hp] at hl; exact in_listAt f hl f1 (by rw [f2]; exact ⟨.bl k, H, I, rfl, q⟩)
open PySem.SeqAt in
theorem op_notInY (hu : X.A.units + 64 < cLine) (hK : X.K = W.K) : OpR X (compareOp .NotIn) (rInY W true) := by
  intro pins s σ H v u a b Q I ra rb ⟨φ, h, x, y, H1, H2, p, k, hr, r1, r2, e, ei, q⟩
  obtain ⟨l, its, rfl, hl, f, f1, f2⟩ := in_at hu hK I ra rb hr r1 r2 e ei
  cases hp : p.1 with
  | true => rw [hp] at hl; exact notIn_tupleAt f hl f1 (by rw [f2]; exact ⟨.bl (!k), H, I, rfl, q⟩)
  | false => rw [hp] at hl; exact notIn_listAt f hl f1 (by rw [f2]; exact ⟨.bl (!k), H, I, rfl, q⟩)
def rInZ (W : Wd) (neg : Bool) : R2 := fun v u H Q => rInY W neg v u H Q ∨ rInD W neg v u H Q
theorem op_inZ (hu : X.A.units + 64 < cLine) (hK : X.K = W.K) (hw : X.w = W.w) : OpR X (compareOp .In) (rInZ W false) := (op_inY hu hK).or (op_inD hu hK hw)
theorem op_notInZ (hu : X.A.units + 64 < cLine) (hK : X.K = W.K) (hw : X.w = W.w) : OpR X (compareOp .NotIn) (rInZ W true) := (op_notInY hu hK).or (op_notInD hu hK hw)
theorem inZ {φ : Emb} {H H1 H2 : Hp} {h : PH} {x y : PV} {v u : V} (hr : HR W φ H h) (r1 : RR W φ H1 H x v) (r2 : RR W φ H2 H y u) (q : ResG W Wx (rE W) σ φ H (oIn x y h) Q) : rInZ W false v u H Q := by
  unfold oIn at q
  cases ed : dctV h y with
  | some kvs =>
    rw [ed] at q
    obtain ⟨k, ei, q⟩ := oB_ok hr q
    obtain ⟨k', ei', rfl⟩ := Option.map_eq_some_iff.mp ei
    exact .inr ⟨φ, h, x, y, H1, H2, kvs, k', hr, r1, r2, ed, ei', q⟩
  | none =>
    rw [ed] at q
    dsimp only at q
    cases e : seqV h y with
    | none => rw [e] at q; exact q.elim
    | some p =>
      rw [e] at q
      obtain ⟨k, ei, q⟩ := oB_ok hr q
      exact .inl ⟨φ, h, x, y, H1, H2, p, k, hr, r1, r2, e, ei, q⟩
theorem notInZ {φ : Emb} {H H1 H2 : Hp} {h : PH} {x y : PV} {v u : V} (hr : HR W φ H h) (r1 : RR W φ H1 H x v) (r2 : RR W φ H2 H y u) (q : ResG W Wx (rE W) σ φ H (oNotIn x y h) Q) : rInZ W true v u H Q := by
  unfold oNotIn at q
  cases ed : dctV h y with
  | some kvs =>
    rw [ed] at q
    obtain ⟨k, ei, q⟩ := oB_ok hr q
    obtain ⟨k', ei', rfl⟩ := Option.map_eq_some_iff.mp ei
    exact .inr ⟨φ, h, x, y, H1, H2, kvs, k', hr, r1, r2, ed, ei', q⟩
  | none =>
    rw [ed] at q
    dsimp only at q
    cases e : seqV h y with
    | none => rw [e] at q; exact q.elim
    | some p =>
      rw [e] at q
      obtain ⟨k, ei, q⟩ := oB_ok hr q
      obtain ⟨k', ei', rfl⟩ := Option.map_eq_some_iff.mp ei
      exact .inl ⟨φ, h, x, y, H1, H2, p, k', hr, r1, r2, e, ei', q⟩
theorem isN_iff {φ : Emb} {H H1 : Hp} {x : PV} {v : V} (r : RR W φ H1 H x v) : decide (v = .non) = isN x := by
  rcases r with r | ⟨xs, a, vs, rfl, rfl, _⟩
  · cases x with
    | non => rw [Rep] at r; subst r; rfl
    | bl b => rw [Rep] at r; subst r; rfl
    | int b => rw [Rep] at r; subst r; rfl
    | str b => rw [Rep] at r; subst r; rfl
    | tup xs => rw [Rep] at r; obtain ⟨a, vs, rfl, _⟩ := r; rfl
    | ro xs => rw [Rep] at r; obtain ⟨a, vs, rfl, _⟩ := r; rfl
    | lst xs => rw [Rep] at r; exact r.elim
    | ref xs => rw [Rep] at r; obtain ⟨a, rfl, _⟩ := r; rfl
    | exn c p => rw [Rep] at r; obtain ⟨a, _, _, rfl, _⟩ := r; rfl
  · rfl
theorem isZ {φ : Emb} {H H1 H2 : Hp} {h : PH} {x y : PV} {v u : V} (hr : HR W φ H h) (r1 : RR W φ H1 H x v) (r2 : RR W φ H2 H y u) (q : ResG W Wx (rE W) σ φ H (oIs x y h) Q) :
    (fun x y H Q => (y = V.non ∧ Q (.bl (decide (x = .non))) H) ∨ rIsB x y H Q) v u H Q := by
  cases y with
  | non =>
    have e := r2.rep (fun _ => by simp)
    rw [Rep] at e; subst e
    exact .inl ⟨rfl, by rw [isN_iff r1]; exact res_bl hr q⟩
  | bl b =>
    have e := r2.rep (fun _ => by simp)
    rw [Rep] at e; subst e
    cases x with
    | bl a =>
      have e := r1.rep (fun _ => by simp)
      rw [Rep] at e; subst e
      exact .inr ⟨a, b, rfl, rfl, res_bl hr q⟩
    | _ => exact q.elim
  | _ => exact q.elim
theorem isNotZ {φ : Emb} {H H1 H2 : Hp} {h : PH} {x y : PV} {v u : V} (hr : HR W φ H h) (r1 : RR W φ H1 H x v) (r2 : RR W φ H2 H y u) (q : ResG W Wx (rE W) σ φ H (oIsNot x y h) Q) :
    (fun x y H Q => (y = V.non ∧ Q (.bl (!decide (x = .non))) H) ∨ rNotB x y H Q) v u H Q := by
  cases y with
  | non =>
    have e := r2.rep (fun _ => by simp)
    rw [Rep] at e; subst e
    exact .inl ⟨rfl, by rw [isN_iff r1]; exact res_bl hr q⟩
  | bl b =>
    have e := r2.rep (fun _ => by simp)
    rw [Rep] at e; subst e
    cases x with
    | bl a =>
      have e := r1.rep (fun _ => by simp)
      rw [Rep] at e; subst e
      exact .inr ⟨a, b, rfl, rfl, res_bl hr q⟩
    | _ => exact q.elim
  | _ => exact q.elim
end
end Z
namespace Z
open PySem PySem.Spec PyProof.Rows L2

/-! ### subscripts, slices -/
def cutG {α : Type} (xs : List α) (lo hi : Option Int) : List α := (xs.drop (HT.sIx xs.length 0 lo)).take (HT.sIx xs.length xs.length hi - HT.sIx xs.length 0 lo)
def mNo : MG (Option Int) := fun _ h => .ok none h
def mSo (m : MG PV) : MG (Option Int) := fun env h => (m env h).bind fun x h1 => match x with
  | .int i => .ok (some i) h1
  | _ => .bad
def oSl (lo hi : Option Int) (x : PV) (h : PH) : RG PV := match x with
  | .str s => if s.length ≤ SZ then .ok (.str (cutG s lo hi)) h else .bad
  | x => (match seqV h x with
    | some (true, xs) => .ok (.tup (cutG xs lo hi)) h
    | some (false, xs) => .ok (.lst (cutG xs lo hi)) h
    | none => .bad)
def mSl (m : MG PV) (lo hi : MG (Option Int)) : MG PV := fun env h => (m env h).bind fun x h1 => (lo env h1).bind fun l h2 => (hi env h2).bind fun u h3 => oSl l u x h3
/-! ### arguments of built-ins: nothing is put away -/
def aConsR (m : MG PV) (r : MG (List PV)) : MG (List PV) := fun env h => (m env h).bind fun x h1 => (r env h1).bind fun xs h2 => .ok (x :: xs) h2
def RV (W : Wd) (φ : Emb) (H : Hp) (x : PV) (v : V) : Prop := ∃ H0, RR W φ H0 H x v
def RVL (W : Wd) (φ : Emb) (H : Hp) : List PV → List V → Prop
  | [], vs => vs = []
  | x :: xs, vs => ∃ v r, vs = v :: r ∧ RV W φ H x v ∧ RVL W φ H xs r
def rR (W : Wd) : RL (List PV) (List V) := fun _ φ H xs vs => RVL W φ H xs vs
instance {W : Wd} : Up (rR W) := ⟨fun _ _ r => r⟩
abbrev tR (W : Wd) (Wx : WX) (m : MG (List PV)) : TA := tG W Wx (rR W) m
def oLen (xs : List PV) (h : PH) : RG PV := match xs with
  | [.str s] => if s.length ≤ SZ then .ok (.int s.length) h else .bad
  | [x] => (match seqV h x with
    | some p => .ok (.int p.2.length) h
    | none => (match dctV h x with
      | some kvs => .ok (.int kvs.length) h
      | none => .bad))
  | _ => .bad
def oInt (xs : List PV) (h : PH) : RG PV := match xs with
  | [.int i] => .ok (.int i) h
  | [.bl b] => .ok (.int (if b then 1 else 0)) h
  | _ => .bad
def oTuple (xs : List PV) (h : PH) : RG PV := match xs with
  | [x] => (match seqV h x with
    | some p => .ok (.tup p.2) h
    | none => .bad)
  | _ => .bad
def oList (xs : List PV) (h : PH) : RG PV := match xs with
  | [x] => (match seqV h x with
    | some p => .ok (.lst p.2) h
    | none => (match dctV h x with
      | some kvs => .ok (.lst (kvs.map (·.1))) h
      | none => .bad))
  | _ => .bad
/-- ints, bools of a list of values -/
def intsV : List PV → Option (List Int)
  | [] => some []
  | .int i :: r => (intsV r).map (i :: ·)
  | _ => none
def blsV : List PV → Option (List Bool)
  | [] => some []
  | .bl i :: r => (blsV r).map (i :: ·)
  | _ => none
def oOn {α : Type} (f : List PV → Option α) (g : α → PV) (xs : List PV) (h : PH) : RG PV := match xs with
  | [x] => (match seqV h x with
    | some (false, p) => (match f p with
      | some a => .ok (g a) h
      | none => .bad)
    | _ => .bad)
  | _ => .bad
abbrev oSum := oOn intsV fun ns => .int ns.sum
abbrev oAll := oOn blsV fun bs => .bl (bs.all id)
abbrev oAny := oOn blsV fun bs => .bl (bs.any id)
def leastI : List Int → Option Int
  | [] => none
  | x :: r => some (r.foldl (fun a b => if b < a then b else a) x)
abbrev oMinL := oOn (fun xs => (intsV xs).bind leastI) PV.int
def oMax2 (xs : List PV) (h : PH) : RG PV := match xs with
  | [.int i, .int j] => .ok (.int (if j > i then j else i)) h
  | _ => .bad
def oMin2 (xs : List PV) (h : PH) : RG PV := match xs with
  | [.int i, .int j] => .ok (.int (if j < i then j else i)) h
  | _ => .bad
/-- the kinds of values that isinstance tells apart -/
def tyName (h : PH) : PV → Option String
  | .non => some "NoneType"
  | .bl _ => some "bool"
  | .int _ => some "int"
  | .str _ => some "str"
  | .tup _ => some "tuple"
  | .lst _ => some "list"
  | .ref n => match h[n]? with
    | some (.lst _) => some "list"
    | _ => none
  | _ => none
def oIsiB (T : String) (x : PV) (h : PH) : RG PV := match tyName h x with
  | some t => oB (kitB t T) h
  | none => .bad
section
variable {W : Wd} {Wx : WX} {X : Cx} {σ : L2.St} {φ : Emb} {H H0 H1 H2 : Hp} {h : PH} {e e1 e2 : Expr} {m m1 m2 : MG PV} {t t1 t2 : MG Bool} {pos : Pos} {Q : VK}
theorem atI_rep {xs : List PV} {vs : List V} {i : Int} {x : PV} (r : RepL W φ H xs vs) (e : atI xs i = some x) : ∃ v, atI vs i = some v ∧ Rep W φ H x v := by
  unfold atI at e ⊢
  rw [← r.length]
  obtain ⟨j, e1, e2⟩ := Option.bind_eq_some_iff.mp e
  obtain ⟨v, e3, rv⟩ := r.get e2
  exact ⟨v, by rw [e1]; exact e3, rv⟩
def rIxD (W : Wd) : R2 := fun v u H Q => ∃ φ h x y H1 H2 kvs k z, HR W φ H h ∧ RR W φ H1 H x v ∧ RR W φ H2 H y u ∧ dctV h x = some kvs ∧ keyT y = some k ∧ kget kvs k = some z ∧ ∀ v, Rep W φ H z v → Q v H
theorem ix_dct (hu : X.A.units + 64 < cLine) (hK : X.K = W.K) (hw : X.w = W.w) : IxR X (rIxD W) := by
  intro value slice pins s σ H v u a b Q I ra rb ⟨φ, h, x, y, H1, H2, kvs, k, z, hr, r1, r2, e, ek, ez, q⟩ hs
  obtain ⟨n, d, rfl, rfl, _, _, o⟩ := dctV_ok hr r1 e
  cases ra
  obtain ⟨c, rfl, rfl, _, hk⟩ := keyT_at hK I r2 rb ek
  obtain ⟨h0, _, xs, r, dd, _⟩ := dct_at hw hK I o
  obtain ⟨p, v', ep, rz, rv⟩ := (kvX_get r k).1 z ez
  have hT : s.TypeIs (.ref d) "dict" := dd.typeIs
  unfold subscriptTail
  refine wpAny_bind ?_
  rw [getitemInPython_of_ne hT.not_modules]
  refine wpAny_bind (wpAny_specialOf hT PySem.F.slot_dict_getitem.lookup ?_)
  have fin : wpAny (model X.prog X.w) X.A (subscripted slice false (.ref d) (.ref c)) (fun r s₃ => wpAny (model X.prog X.w) X.A (letTemporaryGo value (.ref d) r >>= fun _ => pure r) (EP X pins σ Q) X.xe s₃) X.xe s := by
    rw [hs]
    refine wpAny_operating (wpAny_getItem_heap (nk_room hu) hk dd ep ?_)
    exact wpAny_bind (wpAny_letTemporaryGo (wpAny_pure ⟨v', H, I.tok _, rv, q v' rz⟩))
  first
    | exact wpAny_pure (wpAny_bind fin)
    | exact wpAny_bind (wpAny_pure (wpAny_bind fin))
    | exact wpAny_bind fin
theorem IxR.or {r r' : R2} (h : IxR X r) (h' : IxR X r') : IxR X (fun x y H Q => r x y H Q ∨ r' x y H Q) := by
  intro value slice pins s σ H x y v u Q I rx ry q hs
  rcases q with q | q
  · exact h value slice pins s σ H x y v u Q I rx ry q hs
  · exact h' value slice pins s σ H x y v u Q I rx ry q hs
theorem z_ix (h1 : PE X e1 (tE W Wx m1)) (h2 : PE X e2 (tE W Wx m2)) (hs : PlainIx e2) (hu : X.A.units + 64 < cLine) (hK : X.K = W.K) (hw : X.w = W.w) : PE X (.Subscript e1 e2 pos) (tE W Wx (mB oIx m1 m2)) := by
  refine PE.imp (pe_ix (Z.IxR.or ix_seq (ix_dct hu hK hw)) h1 h2 hs) fun σ H Q q => b2 (fun {φ H H1 H2 h x y v u σ Q} hr r1 r2 q => ?_) q
  cases y with
  | tup ys =>
    unfold oIx at q
    dsimp only at q
    cases ed : dctV h x with
    | none => rw [ed] at q; exact q.elim
    | some kvs =>
      cases ek : keyT (.tup ys) with
      | none => rw [ed, ek] at q; exact q.elim
      | some k =>
        rw [ed, ek] at q
        dsimp only at q
        cases ez : kget kvs k with
        | none => rw [ez] at q; exact q.elim
        | some z =>
          rw [ez] at q
          exact .inr ⟨φ, h, x, _, H1, H2, kvs, k, z, hr, r1, r2, ed, ek, ez, fun v rv => res_same hr q rv⟩
  | int i =>
    refine .inl ?_
    have e2 := r2.rep (fun _ => by simp)
    rw [Rep] at e2; subst e2
    have sq : (match seqV h x with
      | some p => (match atI p.2 i with
        | some z => RG.ok z h
        | none => .bad)
      | none => .bad) = oIx x (.int i) h → rIx X.K v (.int i) H Q := fun z => by
      rw [← z] at q
      cases es : seqV h x with
      | none => rw [es] at q; exact q.elim
      | some p =>
        rw [es] at q
        cases ea : atI p.2 i with
        | none => simp only [ea] at q; exact q.elim
        | some c =>
          simp only [ea] at q
          obtain ⟨a, vs, rfl, rl, s⟩ := seqV_ok hr r1 (t := p.1) (xs := p.2) es
          obtain ⟨w, ew, rw'⟩ := atI_rep rl ea
          rw [← hK] at s
          cases hp : p.1 with
          | true => rw [hp] at s; exact .inr (.inl ⟨a, vs, i, w, rfl, rfl, s, ew, res_same hr q rw'⟩)
          | false => rw [hp] at s; exact .inl ⟨a, vs, i, w, rfl, rfl, s, ew, res_same hr q rw'⟩
    cases x with
    | str s =>
      have e1 := r1.rep (fun _ => by simp)
      rw [Rep] at e1; subst e1
      dsimp only [oIx] at q
      split at q
      · rename_i hl
        split at q
        · rename_i c ec
          exact .inr (.inr ⟨_, i, c, rfl, rfl, by simp only [Str.length, List.size_toArray]; rw [SZ_eq]; exact hl, by simpa using ec, res_str hr q⟩)
        · exact q.elim
      · exact q.elim
    | _ => exact sq rfl
  | _ => exact q.elim
abbrev tO (W : Wd) (Wx : WX) (m : MG (Option Int)) : TO := tG W Wx (fun _ _ _ x v => x = v) m
instance : Up (fun (_ : Hp) (_ : Emb) (_ : Hp) (x v : Option Int) => x = v) := ⟨fun _ _ r => r⟩
theorem z_no : L2.PO X none (tO W Wx mNo) := ⟨fun pins s σ H Q I ⟨φ, env, h, sr, r, q⟩ => po_none.run pins s σ H Q I (q φ none H .refl r rfl)⟩
theorem z_so (h1 : PE X e (tE W Wx m)) : L2.PO X (some e) (tO W Wx (mSo m)) := ⟨fun pins s σ H Q I ⟨φ, env, h, sr, r, q⟩ => (po_some h1).run pins s σ H Q I (by
  refine (tb (R := rE W) sr r q).mono fun v H1 ⟨φ1, h1, x, p1, s1, r1, e1, q⟩ => ?_
  cases x with
  | int i =>
    have e1 := e1.rep (fun _ => by simp)
    rw [Rep] at e1; subst e1
    exact ⟨i, rfl, q φ1 _ H1 .refl r1 rfl⟩
  | _ => exact q.elim)⟩
theorem cut_rep {xs : List PV} {vs : List V} {lo hi : Option Int} (r : RepL W φ H xs vs) : RepL W φ H (cutG xs lo hi) (cutV vs lo hi) := by
  unfold cutG cutV
  rw [← r.length]
  exact (r.drop _).take _
theorem z_sl {a b : Option Expr} {p2 : Pos} {lo hi : MG (Option Int)} (h1 : PE X e (tE W Wx m)) (ha : L2.PO X a (tO W Wx lo)) (hb : L2.PO X b (tO W Wx hi)) (hK : X.K = W.K) : PE X (.Subscript e (.Slice a b none p2) pos) (tE W Wx (mSl m lo hi)) := by
  refine PE.imp (pe_slice (sl_list.or (sl_tupA.or sl_str)) h1 ha hb) fun σ H Q ⟨φ, env, h, s, r, q⟩ => ?_
  refine (tb (R := rE W) s r q).mono fun v H1 ⟨φ1, h1, x, p1, s1, r1, e1, q⟩ => ?_
  refine (tb (R := fun _ _ _ x v => x = v) s1 r1 q).mono fun l H2 ⟨φ2, h2, l', p2, s2, r2, e2, q⟩ => ?_
  subst e2
  refine (tb (R := fun _ _ _ x v => x = v) s2 r2 q).mono fun u H3 ⟨φ3, h3, u', p3, s3, r3, e3, q⟩ => ?_
  subst e3
  have e1 := RR.mono (H0 := H) r2 p3 (RR.mono (H0 := H) r1 p2 e1)
  have sq : (match seqV h3 x with
    | some (true, xs) => RG.ok (.tup (cutG xs l' u')) h3
    | some (false, xs) => .ok (.lst (cutG xs l' u')) h3
    | none => .bad) = oSl l' u' x h3 → rSlL X.K v l' u' H3 Q ∨ rSlA X.K v l' u' H3 Q := fun z => by
    rw [← z] at q
    cases es : seqV h3 x with
    | none => rw [es] at q; exact q.elim
    | some p =>
      obtain ⟨t, xs⟩ := p
      rw [es] at q
      obtain ⟨a, vs, rfl, rl, sq⟩ := seqV_ok r3 e1 es
      rw [← hK] at sq
      cases t with
      | false => exact .inl ⟨a, vs, rfl, sq, fun p hp => res_lst r3 q (cut_rep rl) hp⟩
      | true =>
        refine .inr ⟨a, vs, rfl, sq, fun hw => ?_, fun hw p hp => res_tup r3 q (cut_rep rl) hp⟩
        refine res_same r3 q ?_
        have e : cutG xs l' u' = xs := by
          unfold cutG
          rw [rl.length, hw.1, hw.2]
          rw [List.drop_zero, Nat.sub_zero, ← rl.length, List.take_length]
        rw [e, Rep]
        exact ⟨a, vs, rfl, hK ▸ sq, rl⟩
  cases x with
  | str z =>
    have e1 := e1.rep (fun _ => by simp)
    rw [Rep] at e1; subst e1
    dsimp only [oSl] at q
    split at q
    · rename_i hl
      have el : Str.length ⟨z.toArray⟩ = z.length := by simp [Str.length]
      refine .inr (.inr ⟨_, rfl, by rw [el, SZ_eq]; exact hl, ?_⟩)
      have := res_str r3 q
      unfold cutS
      rw [el]
      exact this
    · exact q.elim
  | _ => exact (sq rfl).elim .inl fun z => .inr (.inl z)
/-! ### built-in functions -/
theorem RVL.mono {φ' : Emb} {H' : Hp} (hr : HR W φ H h) (p : Post φ H φ' H') : ∀ {xs : List PV} {vs : List V}, RVL W φ H xs vs → RVL W φ' H' xs vs
  | [], vs, e => e
  | x :: xs, vs, ⟨v, r, e1, ⟨H0, e2⟩, e3⟩ => ⟨v, r, e1, ⟨H0, e2.mono hr p⟩, RVL.mono hr p e3⟩
theorem z_nilR : PA X [] (tR W Wx aNil) := PA.imp pa_nil fun σ H Q ⟨φ, env, h, s, r, x⟩ => x φ [] H .refl r rfl
theorem z_consR {es : List Expr} {r : MG (List PV)} (h : PE X e (tE W Wx m)) (t : PA X es (tR W Wx r)) (hs : starEach (e :: es) X.env = (false, eval e X.env) :: starEach es X.env) : PA X (e :: es) (tR W Wx (aConsR m r)) := by
  refine PA.imp (pa_cons h t hs) fun σ H Q ⟨φ, env, h, s, r, x⟩ => ?_
  refine (tb (R := rE W) s r x).mono fun v H1 ⟨φ1, h1, a, p1, s1, r1, e1, q⟩ => ?_
  refine (tb (R := rR W) s1 r1 q).mono fun vs H2 ⟨φ2, h2, as, p2, s2, r2, e2, q⟩ => ?_
  exact q φ2 _ H2 .refl r2 ⟨v, vs, rfl, ⟨H, RR.mono (H0 := H) r1 p2 e1⟩, e2⟩
/-- a call of a built-in by value -/
def COk (W : Wd) (Wx : WX) (f : List PV → PH → RG PV) (r : List V → Hp → VK → Prop) : Prop :=
  ∀ {φ H h xs vs σ Q}, HR W φ H h → RVL W φ H xs vs → ResG W Wx (rE W) σ φ H (f xs h) Q → r vs H Q
theorem c1R {f : List PV → PH → RG PV} {as : MG (List PV)} {r : List V → Hp → VK → Prop} (hr : COk W Wx f r) (q : tE W Wx (mC f as) σ H Q) : tCB r (tR W Wx as) σ H Q := by
  obtain ⟨φ, env, h, s, r0, q⟩ := q
  exact (tb (R := rR W) s r0 q).mono fun v H1 ⟨φ1, h1, a, p1, s1, r1, e1, q⟩ => hr r1 e1 q
theorem z_callB {id : String} {x : Str} {es : List Expr} {p : Pos} {f : List PV → PH → RG PV} {as : MG (List PV)} {r : List V → Hp → VK → Prop} (hc : CallR X (.builtin id) r) (hf : COk W Wx f r) (hg : Gl X x) (hm : X.mg x = none) (hv : bootBuiltins x = some (.builtin id))
    (ha : PA X (e :: es) (tR W Wx as)) (hn : x ≠ "__name__") (hdb : (x == ("__debug__" : Str)) = false) (he : starEach (e :: es) X.env = (false, eval e X.env) :: starEach es X.env) (hpl : (backTo pos (starEach es X.env)).any (·.1) = false) :
    PE X (.Call (.Name x p) (e :: es) [] pos) (tE W Wx (mC f as)) := PE.imp (pe_callB hc hg hm hv ha hn hdb he hpl) fun _ _ _ q => c1R hf q
theorem z_callTy {T : String} {x : Str} {es : List Expr} {p : Pos} {f : List PV → PH → RG PV} {as : MG (List PV)} {r : List V → Hp → VK → Prop} (hc : CallR X (.type T) r) (hf : COk W Wx f r) (hg : Gl X x) (hm : X.mg x = none) (hv : bootBuiltins x = some (.type T))
    (ha : PA X (e :: es) (tR W Wx as)) (hn : x ≠ "__name__") (hdb : (x == ("__debug__" : Str)) = false) (he : starEach (e :: es) X.env = (false, eval e X.env) :: starEach es X.env) (hpl : (backTo pos (starEach es X.env)).any (·.1) = false) :
    PE X (.Call (.Name x p) (e :: es) [] pos) (tE W Wx (mC f as)) := PE.imp (pe_callTy hc hg hm hv ha hn hdb he hpl) fun _ _ _ q => c1R hf q
theorem RVL.one {x : PV} {vs : List V} (r : RVL W φ H [x] vs) : ∃ v, vs = [v] ∧ RV W φ H x v := by
  obtain ⟨v, r', rfl, h1, h2⟩ := r
  have : r' = [] := h2
  subst this
  exact ⟨v, rfl, h1⟩
theorem RVL.two {x y : PV} {vs : List V} (r : RVL W φ H [x, y] vs) : ∃ v u, vs = [v, u] ∧ RV W φ H x v ∧ RV W φ H y u := by
  obtain ⟨v, r', rfl, h1, h2⟩ := r
  obtain ⟨u, rfl, h3⟩ := RVL.one h2
  exact ⟨v, u, rfl, h1, h3⟩
theorem RV.rep {x : PV} {v : V} (r : RV W φ H x v) (n : ∀ xs, x ≠ .lst xs) : Rep W φ H x v := let ⟨_, r⟩ := r; r.rep n
def rLenX (W : Wd) (X : Cx) : List V → Hp → VK → Prop := fun xs H Q => (∃ x n, xs = [x] ∧ LenV X.K x H n ∧ Q (.int n) H) ∨ ∃ φ h x kvs H0 v, HR W φ H h ∧ RR W φ H0 H x v ∧ xs = [v] ∧ dctV h x = some kvs ∧ Q (.int kvs.length) H
theorem call_lenX (hK : X.K = W.K) (hw : X.w = W.w) : CallR X (.builtin "len") (rLenX W X) := by
  intro pins s σ H xs us Q I r h
  rcases h with h | ⟨φ, hh, x, kvs, H0, v, hr, rx, rfl, e, q⟩
  · exact call_len pins s σ H xs us Q I r h
  · obtain ⟨n, a, rfl, rfl, _, _, o⟩ := dctV_ok hr rx e
    obtain ⟨u, rfl, ru⟩ := vals1 r
    cases ru
    obtain ⟨h0, hz, ys, pr, dd, el⟩ := dct_at hw hK I o
    refine call_len_dictH h0 dd (by rw [sizeLine_eq] at hz; omega) ?_
    rw [el]
    exact ⟨.int kvs.length, H, I.tok _, ⟨_, rfl⟩, q⟩
theorem c_len (hK : W.K = X.K) : COk W Wx oLen (rLenX W X) := by
  intro φ H h xs vs σ Q hr r q
  have sq : ∀ x, xs = [x] → (match seqV h x with
    | some p => RG.ok (.int p.2.length) h
    | none => (match dctV h x with
      | some kvs => RG.ok (.int kvs.length) h
      | none => .bad)) = oLen xs h → rLenX W X vs H Q := fun x ex z => by
    subst ex
    rw [← z] at q
    obtain ⟨v, rfl, H0, r⟩ := r.one
    cases es : seqV h x with
    | none =>
      rw [es] at q
      cases ed : dctV h x with
      | none => rw [ed] at q; exact q.elim
      | some kvs =>
        rw [ed] at q
        exact .inr ⟨φ, h, x, kvs, H0, v, hr, r, rfl, ed, res_int hr q⟩
    | some p =>
      rw [es] at q
      obtain ⟨a, vs, rfl, rl, s⟩ := seqV_ok hr r (t := p.1) (xs := p.2) es
      rw [hK] at s
      refine .inl ⟨_, vs.length, rfl, ?_, by rw [← rl.length]; exact res_int hr q⟩
      cases hp : p.1 with
      | true => rw [hp] at s; exact .inr ⟨vs, s, rfl⟩
      | false => rw [hp] at s; exact .inl ⟨vs, s, rfl⟩
  match xs, q with
  | [], q => exact q.elim
  | [.str s], q =>
    obtain ⟨v, rfl, r1⟩ := r.one
    have r1 := r1.rep (fun _ => by simp)
    rw [Rep] at r1; subst r1
    dsimp only [oLen] at q
    split at q
    · rename_i hl
      have el : Str.length ⟨s.toArray⟩ = s.length := by simp [Str.length]
      exact .inl ⟨_, s.length, rfl, ⟨by rw [el, SZ_eq]; exact hl, el.symm⟩, res_int hr q⟩
    · exact q.elim
  | [.non], q => exact sq _ rfl rfl
  | [.bl _], q => exact sq _ rfl rfl
  | [.int _], q => exact sq _ rfl rfl
  | [.tup _], q => exact sq _ rfl rfl
  | [.ro _], q => exact sq _ rfl rfl
  | [.lst _], q => exact sq _ rfl rfl
  | [.ref _], q => exact sq _ rfl rfl
  | [.exn _ _], q => exact sq _ rfl rfl
  | x :: y :: r, q => exact (show False by cases x <;> exact q).elim
theorem c_int : COk W Wx oInt (fun xs H Q => (∃ i, xs = [.int i] ∧ Q (.int i) H) ∨ ∃ k, xs = [.bl k] ∧ Q (.int (if k then 1 else 0)) H) := by
  intro φ H h xs vs σ Q hr r q
  match xs, q with
  | [.int i], q =>
    obtain ⟨v, rfl, r1⟩ := r.one
    have r1 := r1.rep (fun _ => by simp)
    rw [Rep] at r1; subst r1
    exact .inl ⟨i, rfl, res_int hr q⟩
  | [.bl i], q =>
    obtain ⟨v, rfl, r1⟩ := r.one
    have r1 := r1.rep (fun _ => by simp)
    rw [Rep] at r1; subst r1
    exact .inr ⟨i, rfl, res_int hr q⟩
end
end Z
namespace Z
open PySem PySem.Spec PyProof.Rows L2
/-! ### a list turned round: x[::-1] -/
def oRv (x : PV) (h : PH) : RG PV := match seqV h x with
  | some (false, xs) => .ok (.lst xs.reverse) h
  | _ => .bad
def mRv (m : MG PV) (ms : MG (Option Int)) : MG PV := fun env h => (m env h).bind fun x h1 => (ms env h1).bind fun l h2 => if l = some (-1) then oRv x h2 else .bad
section
variable {X : Cx} {e es : Expr} {te : TE} {ts : TO} {p2 pos : Pos}
def rRv (K : PySem.W.Frag) : V → Option Int → Hp → VK → Prop := fun x u H Q => u = some (-1) ∧ ∃ a xs, x = .ref a ∧ SqL K H a xs ∧ ∀ p, H p = none → Q (.ref p) (upd H p (.lst xs.reverse))
theorem pe_rev (he : PE X e te) (hs : PO X (some es) ts) : PE X (.Subscript e (.Slice none none (some es) p2) pos) (fun σ H Q => te σ H fun x H1 => ts σ H1 fun u H2 => rRv X.K x u H2 Q) := by
  refine ⟨fun pins s σ H Q I h => ?_⟩
  refine Subscript_ (thn (he.run pins s σ H _ I h) fun v s1 ⟨x, H1, I1, r1, q1⟩ => ?_)
  refine wpAny_Slice ?_
  rw [evalPart_none]
  refine wpAny_pure ?_
  refine wpAny_pure ?_
  refine thn (hs.run pins s1 σ H1 _ I1 q1) fun vs s3 ⟨u, H3, I3, pu, q3⟩ => ?_
  obtain ⟨rfl, a, xs, rfl, hx, q⟩ := q3
  have I4 : Inv X pins σ H3 { s3 with heap := s3.heap.push { cls := .type "slice", data := .fields #[.none, .none, vs] } } := I3.kept (t' := s3.toks) fun b ob q => Heap.get?_push_of_some _ q
  cases r1
  obtain ⟨its, r, ht, hz⟩ := I4.list hx
  have hlen := r.length
  show wpAny (model X.prog X.w) X.A (subscriptTail e (.Slice none none (some es) p2) _ (.ref s3.heap.objs.size)) (EP X pins σ Q) X.xe { s3 with heap := s3.heap.push { cls := .type "slice", data := .fields #[.none, .none, vs] } }
  refine tail_any (T := "list") (ops := [.ref a, .ref s3.heap.objs.size]) ht.isList.typeIs slot_list_getitem.lookup ?_ (by with_unfolding_all rfl)
  refine wpAny_getItem_list_slice ht.isList (Heap.IsSliceOf.new ..) .none .none pu (by decide) ?_ (by rw [List.size_toArray] <;> omega)
  rw [PySem.W.krv_pick]
  refine ⟨.ref _, _, I4.laid (t' := s3.toks) (o := .lst xs.reverse) (fun b ob q => Heap.get?_push_of_some _ q) (Nat.le_refl _) ?_, rfl, q _ (I4.hok.fresh (Nat.le_refl _))⟩
  exact ⟨by rw [List.length_reverse]; exact hz, _, 0, r.reverse, Heap.get?_push_size _ rfl⟩
end
section
variable {W : Wd} {Wx : WX} {X : Cx} {e es : Expr} {m : MG PV} {ms : MG (Option Int)} {p2 pos : Pos} {φ : Emb} {H : Hp}
theorem z_rv (h1 : PE X e (tE W Wx m)) (hs : L2.PO X (some es) (tO W Wx ms)) (hK : X.K = W.K) : PE X (.Subscript e (.Slice none none (some es) p2) pos) (tE W Wx (mRv m ms)) := by
  refine PE.imp (pe_rev h1 hs) fun σ H Q ⟨φ, env, h, s, r, q⟩ => ?_
  refine (tb (R := rE W) s r q).mono fun v H1 ⟨φ1, h1, x, p1, s1, r1, e1, q⟩ => ?_
  refine (tb (R := fun _ _ _ x v => x = v) s1 r1 q).mono fun l H2 ⟨φ2, h2, l', p2, s2, r2, e2, q⟩ => ?_
  subst e2
  have e1 := RR.mono (H0 := H) r1 p2 e1
  split at q
  rotate_left
  · exact q.elim
  rename_i hl
  refine ⟨hl, ?_⟩
  unfold oRv at q
  cases es : seqV h2 x with
  | none => rw [es] at q; exact q.elim
  | some p =>
    obtain ⟨t, xs⟩ := p
    rw [es] at q
    cases t with
    | true => exact q.elim
    | false =>
      obtain ⟨a, vs, rfl, rl, sq⟩ := seqV_ok r2 e1 es
      rw [← hK] at sq
      exact ⟨a, vs, rfl, sq, fun p hp => res_lst r2 q (rl.reverse) hp⟩
end
end Z
namespace Z
open PySem PySem.Spec PyProof.Rows L2
section
variable {W : Wd} {Wx : WX} {X : Cx} {σ : L2.St} {φ : Emb} {H H0 H1 H2 : Hp} {h : PH} {e e1 e2 : Expr} {m m1 m2 : MG PV} {t t1 t2 : MG Bool} {pos : Pos} {Q : VK}
/-- one argument that is a sequence -/
theorem one_seq {g : Bool × List PV → RG PV} {f : List PV → PH → RG PV} (hf : ∀ x, f [x] h = (match seqV h x with
      | some p => g p
      | none => .bad)) (h0 : f [] h = .bad) (h2 : ∀ x y r, f (x :: y :: r) h = .bad) {xs : List PV} {vs : List V} (hr : HR W φ H h) (r : RVL W φ H xs vs) (q : ResG W Wx (rE W) σ φ H (f xs h) Q) :
    ∃ a us p x H0, xs = [x] ∧ vs = [.ref a] ∧ RR W φ H0 H x (.ref a) ∧ seqV h x = some p ∧ RepL W φ H p.2 us ∧ (if p.1 = true then SqT W.K H a us else SqL W.K H a us) ∧ ResG W Wx (rE W) σ φ H (g p) Q := by
  match xs, q, r with
  | [], q, _ => rw [h0] at q; exact q.elim
  | x :: y :: r, q, _ => rw [h2] at q; exact q.elim
  | [x], q, r =>
    rw [hf] at q
    obtain ⟨v, rfl, H0, r⟩ := r.one
    cases es : seqV h x with
    | none => rw [es] at q; exact q.elim
    | some p =>
      rw [es] at q
      obtain ⟨a, us, rfl, rl, s⟩ := seqV_ok hr r (t := p.1) (xs := p.2) es
      exact ⟨a, us, p, x, H0, rfl, rfl, r, es, rl, s, q⟩
theorem seq_or {K : PySem.W.Frag} {a : Addr} {us : List V} {t : Bool} (s : if t = true then SqT K H a us else SqL K H a us) : SqL K H a us ∨ SqT K H a us := by
  cases t with
  | true => exact .inr s
  | false => exact .inl s
def rListX (W : Wd) (X : Cx) : List V → Hp → VK → Prop := fun xs H Q => (∃ p ys, xs = [.ref p] ∧ (SqL X.K H p ys ∨ SqT X.K H p ys) ∧ ∀ l, H l = none → Q (.ref l) (upd H l (.lst ys))) ∨
  ∃ φ h x kvs H0 v, HR W φ H h ∧ RR W φ H0 H x v ∧ xs = [v] ∧ dctV h x = some kvs ∧ ∀ us l, RepL W φ H (kvs.map (·.1)) us → H l = none → Q (.ref l) (upd H l (.lst us))
theorem call_listX (hK : X.K = W.K) (hw : X.w = W.w) (hc : X.calm = true) : CallR X (.type "list") (rListX W X) := by
  intro pins s σ H xs us Q I r h
  rcases h with h | ⟨φ, hh, x, kvs, H0, v, hr, rx, rfl, e, q⟩
  · exact call_list_of pins s σ H xs us Q I r h
  · obtain ⟨n, a, rfl, rfl, _, _, o⟩ := dctV_ok hr rx e
    obtain ⟨u, rfl, ru⟩ := vals1 r
    cases ru
    obtain ⟨h0, hz, ks, pr, ⟨od, es, ep, ho, hx, hdt, he, _⟩, el⟩ := dct_at hw hK I o
    have l1 : es.size = ks.length := size_of_entries he
    refine PySem.W.kdl_call (kdl_raw h0 hx hdt) (I.ok.hd hc) ho (by omega) fun h' tk acc' c' kp e it => ?_
    have ea : acc'.toList = ks.map fun x => Value.ref x.2.1 := by
      have hl : acc'.toList.length = ks.length := by rw [Array.length_toList, it.1]; exact l1
      apply List.ext_getElem?
      intro j
      rw [List.getElem?_map]
      cases hj : acc'.toList[j]? with
      | none =>
        have h1 := List.getElem?_eq_none_iff.mp hj
        rw [List.getElem?_eq_none (by omega)]
        all_goals rfl
      | some v =>
        obtain ⟨en, hen, hv⟩ := it.2 j v (by rw [← Array.getElem?_toList]; exact hj)
        have qe := entry_at he j
        rw [hen] at qe
        cases hb : ks[j]? with
        | none =>
          rw [hb] at qe
          exact nomatch (show some en = none from qe)
        | some b =>
          rw [hb] at qe
          have e2 : en = entryOfKey (nestedKind X.prog X.w) b := Option.some.inj qe
          rw [hv, e2]
          all_goals rfl
    have eb : acc'.toList = (ks.map fun x => x.2.1).map Value.ref := by rw [ea, List.map_map]; all_goals rfl
    have rv : Vals ((ks.map fun x => x.2.1).map V.ref) acc'.toList := by rw [eb]; exact vals_refs _
    have hz : ((ks.map fun x => x.2.1).map V.ref).length ≤ sizeLine := by rw [List.length_map, List.length_map]; omega
    have rk : ∀ {kvs : List (PV × PV)} {ks : List (NestedKey × Addr × Value)}, Paired (kvX W φ H) kvs ks → RepL W φ H (kvs.map (·.1)) ((ks.map fun x => x.2.1).map V.ref) := by
      intro kvs ks r
      induction r with
      | nil => exact .nil
      | cons h t ih => exact .cons h.2.1 ih
    refine ⟨.ref s.heap.objs.size, _, I.laid (t' := tk) (o := .lst ((ks.map fun x => x.2.1).map V.ref)) kp (Nat.le_refl _) ?_, rfl, q _ _ (rk pr) (I.hok.fresh (Nat.le_refl _))⟩
    exact ⟨hz, acc'.toList, c', rv, by rw [Array.toArray_toList]; exact e⟩
theorem c_list (hK : W.K = X.K) : COk W Wx oList (rListX W X) := by
  intro φ H h xs vs σ Q hr r q
  match xs, q, r with
  | [], q, _ => exact q.elim
  | _ :: _ :: _, q, _ => exact q.elim
  | [x], q, r =>
    obtain ⟨v, rfl, H0, r⟩ := r.one
    unfold oList at q
    dsimp only at q
    cases es : seqV h x with
    | some p =>
      rw [es] at q
      obtain ⟨a, us, rfl, rl, s⟩ := seqV_ok hr r (t := p.1) (xs := p.2) es
      rw [hK] at s
      exact .inl ⟨a, us, rfl, seq_or s, fun l hl => res_lst hr q rl hl⟩
    | none =>
      rw [es] at q
      cases ed : dctV h x with
      | none => rw [ed] at q; exact q.elim
      | some kvs => rw [ed] at q; exact .inr ⟨φ, h, x, kvs, H0, v, hr, r, rfl, ed, fun us l rl hl => res_lst hr q rl hl⟩
theorem c_tuple (hK : W.K = X.K) : COk W Wx oTuple (fun xs H Q => ∃ p ys, xs = [.ref p] ∧ ((SqL X.K H p ys ∧ ∀ l, H l = none → Q (.ref l) (upd H l (.tup ys))) ∨ (SqT X.K H p ys ∧ Q (.ref p) H))) := by
  intro φ H h xs vs σ Q hr r q
  obtain ⟨a, us, p, x, H0, rfl, rfl, rx, ex, rl, s, q⟩ := one_seq (f := oTuple) (g := fun p => .ok (.tup p.2) h) (fun _ => rfl) rfl (fun _ _ _ => rfl) hr r q
  cases hp : p.1 with
  | true =>
    rw [hp] at s
    exact ⟨a, us, rfl, .inr ⟨hK ▸ s, res_same hr q (by rw [Rep]; exact ⟨a, us, rfl, s, rl⟩)⟩⟩
  | false =>
    rw [hp] at s
    exact ⟨a, us, rfl, .inl ⟨hK ▸ s, fun l hl => res_tup hr q rl hl⟩⟩
theorem intsV_ok : ∀ {xs : List PV} {ns : List Int} {vs : List V}, intsV xs = some ns → RepL W φ H xs vs → vs = ns.map V.int
  | [], ns, vs, e, r => by cases e; exact r.unnil
  | x :: xs, ns, vs, e, r => by
    obtain ⟨v, r', rfl, r1, r2⟩ := r.uncons
    cases x with
    | int i =>
      obtain ⟨ms, e1, rfl⟩ := Option.map_eq_some_iff.mp (show (intsV xs).map (i :: ·) = some ns from e)
      rw [Rep] at r1; subst r1
      rw [intsV_ok e1 r2]; rfl
    | _ => cases e
theorem blsV_ok : ∀ {xs : List PV} {ns : List Bool} {vs : List V}, blsV xs = some ns → RepL W φ H xs vs → vs = ns.map V.bl
  | [], ns, vs, e, r => by cases e; exact r.unnil
  | x :: xs, ns, vs, e, r => by
    obtain ⟨v, r', rfl, r1, r2⟩ := r.uncons
    cases x with
    | bl i =>
      obtain ⟨ms, e1, rfl⟩ := Option.map_eq_some_iff.mp (show (blsV xs).map (i :: ·) = some ns from e)
      rw [Rep] at r1; subst r1
      rw [blsV_ok e1 r2]; rfl
    | _ => cases e
theorem oOn_ok {α : Type} {f : List PV → Option α} {g : α → PV} {xs : List PV} {vs : List V} (hr : HR W φ H h) (r : RVL W φ H xs vs) (q : ResG W Wx (rE W) σ φ H (oOn f g xs h) Q) :
    ∃ a us ys z, vs = [.ref a] ∧ SqL W.K H a us ∧ RepL W φ H ys us ∧ f ys = some z ∧ ResG W Wx (rE W) σ φ H (.ok (g z) h) Q := by
  match xs, q, r with
  | [], q, _ => exact q.elim
  | x :: y :: r, q, _ => exact q.elim
  | [x], q, r =>
    obtain ⟨v, rfl, H0, r⟩ := r.one
    dsimp only [oOn] at q
    cases es : seqV h x with
    | none => rw [es] at q; exact q.elim
    | some p =>
      obtain ⟨t, ys⟩ := p
      rw [es] at q
      cases t with
      | true => exact q.elim
      | false =>
        dsimp only at q
        cases ef : f ys with
        | none => rw [ef] at q; exact q.elim
        | some z =>
          rw [ef] at q
          obtain ⟨a, us, rfl, rl, s⟩ := seqV_ok hr r es
          exact ⟨a, us, ys, z, rfl, s, rl, ef, q⟩
theorem c_sum (hK : W.K = X.K) : COk W Wx oSum (rSum X.K) := fun hr r q => by
  obtain ⟨a, us, ys, z, rfl, s, rl, e, q⟩ := oOn_ok hr r q
  exact ⟨a, z, rfl, hK ▸ (intsV_ok e rl ▸ s), res_int hr q⟩
theorem c_all (hK : W.K = X.K) : COk W Wx oAll (rAll X.K) := fun hr r q => by
  obtain ⟨a, us, ys, z, rfl, s, rl, e, q⟩ := oOn_ok hr r q
  exact ⟨a, z, rfl, hK ▸ (blsV_ok e rl ▸ s), res_bl hr q⟩
theorem c_any (hK : W.K = X.K) : COk W Wx oAny (rAny X.K) := fun hr r q => by
  obtain ⟨a, us, ys, z, rfl, s, rl, e, q⟩ := oOn_ok hr r q
  exact ⟨a, z, rfl, hK ▸ (blsV_ok e rl ▸ s), res_bl hr q⟩
theorem fold_least : ∀ (r : List Int) (x : Int), r.foldl (fun a b => if b < a then b else a) x ∈ x :: r ∧ ∀ y ∈ x :: r, r.foldl (fun a b => if b < a then b else a) x ≤ y
  | [], x => ⟨by simp, by simp⟩
  | z :: r, x => by
    rw [List.foldl_cons]
    obtain ⟨i1, i2⟩ := fold_least r (if z < x then z else x)
    by_cases hz : z < x
    · rw [if_pos hz] at i1 i2 ⊢
      refine ⟨List.mem_cons_of_mem _ i1, fun y hy => ?_⟩
      rcases List.mem_cons.mp hy with rfl | hy
      · have := i2 z List.mem_cons_self; omega
      · exact i2 y hy
    · rw [if_neg hz] at i1 i2 ⊢
      refine ⟨?_, fun y hy => ?_⟩
      · rcases List.mem_cons.mp i1 with e | hy
        · rw [e]; exact List.mem_cons_self
        · exact List.mem_cons_of_mem _ (List.mem_cons_of_mem _ hy)
      · rcases List.mem_cons.mp hy with rfl | hy
        · exact i2 _ List.mem_cons_self
        · rcases List.mem_cons.mp hy with rfl | hy
          · have := i2 x List.mem_cons_self; omega
          · exact i2 y (List.mem_cons_of_mem _ hy)
theorem c_minL (hK : W.K = X.K) : COk W Wx oMinL (rMin X.K) := fun {φ H h xs vs σ Q} hr r q => by
  obtain ⟨a, us, ys, z, rfl, s, rl, e, q⟩ := oOn_ok hr r q
  obtain ⟨ns, e1, e2⟩ := Option.bind_eq_some_iff.mp e
  refine ⟨a, ns, rfl, hK ▸ (intsV_ok e1 rl ▸ s), ?_, fun k hk hl => ?_⟩
  · cases ns with
    | nil => cases e2
    | cons x r => simp
  · cases ns with
    | nil => cases e2
    | cons x r =>
      cases e2
      obtain ⟨i1, i2⟩ := fold_least r x
      have : k = r.foldl (fun a b => if b < a then b else a) x := by
        have h1 := hl _ i1
        have h2 := i2 k hk
        omega
      rw [this]
      exact res_int hr q
theorem two_int {f : List PV → PH → RG PV} {g : Int → Int → Int} (hf : ∀ i j h, f [.int i, .int j] h = .ok (.int (g i j)) h) (hn : ∀ xs h, (∀ i j, xs ≠ [.int i, .int j]) → f xs h = .bad) :
    COk W Wx f (fun xs H Q => ∃ i j, xs = [.int i, .int j] ∧ Q (.int (g i j)) H) := fun {φ H h xs vs σ Q} hr r q => by
  by_cases hx : ∃ i j, xs = [.int i, .int j]
  · obtain ⟨i, j, rfl⟩ := hx
    rw [hf] at q
    obtain ⟨v, u, rfl, r1, r2⟩ := r.two
    have r1 := r1.rep (fun _ => by simp)
    have r2 := r2.rep (fun _ => by simp)
    rw [Rep] at r1 r2
    subst r1; subst r2
    exact ⟨i, j, rfl, res_int hr q⟩
  · rw [hn xs h fun i j z => hx ⟨i, j, z⟩] at q
    exact q.elim
theorem c_max2 : COk W Wx oMax2 (fun xs H Q => ∃ i j, xs = [.int i, .int j] ∧ Q (.int (if j > i then j else i)) H) := two_int (fun _ _ _ => rfl) fun xs h n => by
  unfold oMax2; split
  · rename_i i j; exact absurd rfl (n i j)
  · rfl
theorem c_min2 : COk W Wx oMin2 (fun xs H Q => ∃ i j, xs = [.int i, .int j] ∧ Q (.int (if j < i then j else i)) H) := two_int (fun _ _ _ => rfl) fun xs h n => by
  unfold oMin2; split
  · rename_i i j; exact absurd rfl (n i j)
  · rfl
/-! ### isinstance of a built-in class -/
theorem tyName_ok (hK : W.K = X.K) {x : PV} {v : V} {T : String} (hr : HR W φ H h) (r : RR W φ H0 H x v) (e : tyName h x = some T) : TyX X.K H v (.type T) := by
  rcases r with r | ⟨xs, a, vs, rfl, rfl, ha, _⟩
  · cases x with
    | non => rw [Rep] at r; subst r; cases e; exact .base .non
    | bl b => rw [Rep] at r; subst r; cases e; exact .base (.bl _)
    | int b => rw [Rep] at r; subst r; cases e; exact .base (.int _)
    | str b => rw [Rep] at r; subst r; cases e; exact .base (.str _)
    | tup xs =>
      rw [Rep] at r
      obtain ⟨a, vs, rfl, s, _⟩ := r
      cases e
      rcases s with (s | ⟨o, s⟩) | ⟨o, its, n, s, c, _⟩
      · exact .base (.tup s)
      · exact .fTuple s
      · exact .kTuple (hK ▸ s) c
    | lst xs => rw [Rep] at r; exact r.elim
    | ref n =>
      rw [Rep] at r
      obtain ⟨a, rfl, s⟩ := r
      cases q : h[n]? with
      | none => simp [tyName, q] at e
      | some o =>
        cases o with
        | lst ys =>
          simp [tyName, q] at e
          subst e
          obtain ⟨vs, e3, _⟩ := hr.obj n _ a q s
          exact .base (.lst e3)
        | ins c fs => simp [tyName, q] at e
        | dct kvs => simp [tyName, q] at e
        | fdc kvs => simp [tyName, q] at e
    | _ => cases e
  · cases e
    exact .base (.lst ha)
theorem z_isiB {T : String} {p p2 : Pos} {x : Str} (h1 : PE X e (tE W Wx m)) (hK : W.K = X.K) (hg : Gl X "isinstance") (hm : X.mg "isinstance" = none) (hg2 : Gl X x) (hm2 : X.mg x = none) (hv : bootBuiltins x = some (.type T)) (hn : x ≠ "__name__") (hdb : (x == ("__debug__" : Str)) = false)
    (hs : starEach [e, .Name x p2] X.env = (false, eval e X.env) :: starEach [.Name x p2] X.env) : PE X (.Call (.Name "isinstance" p) [e, .Name x p2] [] pos) (tE W Wx (mU (oIsiB T) m)) := by
  refine PE.imp (pe_callB call_isi hg hm boot_isinstance (pa_cons h1 (pa_cons (pe_bltn (v := .ty T) hg2 hm2 hv rfl hn hdb) pa_nil) hs) (by decide) (by decide) hs) fun σ H Q ⟨φ, env, h, s, r, q⟩ => ?_
  refine (tb (R := rE W) s r q).mono fun v H1 ⟨φ1, h1, x, p1, s1, r1, e1, q⟩ => ?_
  unfold oIsiB at q
  cases et : tyName h1 x with
  | none => rw [et] at q; exact q.elim
  | some t =>
    rw [et] at q
    obtain ⟨k, ek, q⟩ := oB_ok r1 q
    exact ⟨v, .ty T, .type t, .type T, k, rfl, .ty T, tyName_ok hK r1 e1 et, kit_ty ek, q⟩
end
end Z
namespace Z
open PySem PySem.Spec PyProof.Rows L2

/-! ### targets -/
abbrev TgP := PV → Sl → Option Sl
def gN (i : Nat) : TgP := fun x env => some (env.set i (some x))
def gsNil : List PV → Sl → Option Sl := fun xs env => match xs with
  | [] => some env
  | _ => none
def gsCons (g : TgP) (gs : List PV → Sl → Option Sl) : List PV → Sl → Option Sl := fun xs env => match xs with
  | x :: r => (g x env).bind fun env' => gs r env'
  | [] => none
def gT (gs : List PV → Sl → Option Sl) : TgP := fun x env => match x with
  | .tup xs => gs xs env
  | _ => none
def RG.toS {α : Type} (r : RG α) (env : Sl) (k : α → PH → RS) : RS := match r with
  | .ok a h => k a h
  | .ex c p h => .ex c p env h
  | .bad => .bad
theorem RG.toS_ok {α : Type} (a : α) (h : PH) (env : Sl) (k : α → PH → RS) : (RG.ok a h).toS env k = k a h := rfl
def sNil : MS := fun env h => .nx env h
def sSeq (a b : MS) : MS := fun env h => match a env h with
  | .nx env' h' => b env' h'
  | r => r
def sSet (i : Nat) (m : MG PV) : MS := fun env h => (mM m env h).toS env fun x h1 => .nx (env.set i (some x)) h1
def sAsg (g : TgP) (m : MG PV) : MS := fun env h => (mM m env h).toS env fun x h1 => match g x env with
  | some env' => .nx env' h1
  | none => .bad
def sIf (t : MG Bool) (a b : MS) : MS := fun env h => (t env h).toS env fun x h1 => if x = true then a env h1 else b env h1
def sRet (m : MG PV) : MS := fun env h => (m env h).toS env fun x h1 => .rt x h1
def sRetN : MS := fun env h => .rt .non h
def sExp (m : MG PV) : MS := fun env h => (m env h).toS env fun _ h1 => .nx env h1
def sBk : MS := fun env h => .bk env h
def sCt : MS := fun env h => .ct env h
def oAddA (x y : PV) (h : PH) : RG PV := match x with
  | .int i => (match y with
    | .int j => .ok (.int (i + j)) h
    | _ => .bad)
  | .str s => (match y with
    | .str t => if s.length + t.length ≤ SZ then .ok (.str (s ++ t)) h else .bad
    | _ => .bad)
  | _ => .bad
def sAug (i : Nat) (f : PV → PV → PH → RG PV) (m : MG PV) : MS := fun env h => (mV i env h).toS env fun x _ => (m env h).toS env fun y h1 => (f x y h1).toS env fun z h2 => .nx (env.set i (some z)) h2
def setIx (o i x : PV) (env : Sl) (h : PH) : RS := match o with
  | .ref n => (match i with
    | .int k => (match h[n]? with
      | some (.lst xs) => (match ixN xs.length k with
        | some j => .nx env (h.set n (.lst (xs.set j x)))
        | none => .bad)
      | _ => .bad)
    | .tup ys => (match h[n]? with
      | some (.dct kvs) => (match keyT (.tup ys) with
        | some k => if kvs.length < 16777216 then .nx env (h.set n (.dct (kput kvs k (.tup ys) x))) else .bad
        | none => .bad)
      | _ => .bad)
    | _ => .bad)
  | _ => .bad
def sSub (mo mi mv : MG PV) : MS := fun env h => (mM mv env h).toS env fun x h1 => (mo env h1).toS env fun o h2 => (mi env h2).toS env fun i h3 => setIx o i x env h3

section
variable (W : Wd) (Wx : WX)
def tGt (js : List Nat) (g : TgP) : TG := fun v σ H Q => ∃ φ env h x env', SR W φ H env σ ∧ HR W φ H h ∧ Rep W φ H x v ∧ g x env = some env' ∧ ∀ σ', SR W φ H env' σ' → (∀ vs : List Nat, (∀ j ∈ js, j ∈ vs) → wipe σ' vs = wipe σ vs) → Q σ' H
def tGts (js : List Nat) (g : List PV → Sl → Option Sl) : TGs := fun vs σ H Q => ∃ φ env h xs env', SR W φ H env σ ∧ HR W φ H h ∧ RepL W φ H xs vs ∧ g xs env = some env' ∧ ∀ σ', SR W φ H env' σ' → (∀ vs : List Nat, (∀ j ∈ js, j ∈ vs) → wipe σ' vs = wipe σ vs) → Q σ' H
end
section
variable {W : Wd} {Wx : WX} {α β : Type} {R : RL α β} {X : Cx} {σ : L2.St} {φ : Emb} {H H0 H1 H2 : Hp} {h : PH} {e e1 e2 : Expr} {m m1 m2 : MG PV} {t t1 t2 : MG Bool} {pos : Pos} {Q : VK} {D : Ends} {a b : MS}
theorem PG.imp {tg : Expr} {t t' : TG} (h : PG X tg t) (i : ∀ v σ H Q, t' v σ H Q → t v σ H Q) : PG X tg t' := ⟨fun pins s σ H v u Q I r q => h.run pins s σ H v u Q I r (i _ _ _ _ q)⟩
theorem PGs.imp {tg : List Expr} {t t' : TGs} (h : PGs X tg t) (i : ∀ v σ H Q, t' v σ H Q → t v σ H Q) : PGs X tg t' := ⟨fun pins s σ H v u Q I r q => h.run pins s σ H v u Q I r (i _ _ _ _ q)⟩
theorem wipe_put {i : Nat} {x : Option V} : ∀ {vs : List Nat} {σ : L2.St}, wipe (σ.set i x) vs = if i ∈ vs then wipe σ vs else (wipe σ vs).set i x
  | [], σ => by rw [if_neg (by simp)]; rfl
  | v :: vs, σ => by
    have ih := wipe_put (i := i) (x := x) (vs := vs) (σ := σ)
    show (wipe (σ.set i x) vs).set v none = if i ∈ v :: vs then (wipe σ vs).set v none else ((wipe σ vs).set v none).set i x
    rw [ih]
    by_cases h1 : i ∈ vs
    · rw [if_pos h1, if_pos (List.mem_cons_of_mem _ h1)]
    · rw [if_neg h1]
      by_cases h2 : i = v
      · subst h2
        rw [if_pos List.mem_cons_self, List.set_set]
      · rw [if_neg (by simp [h1, h2]), List.set_comm _ _ h2]
theorem wipe_set {i : Nat} {x : Option V} {vs : List Nat} {σ : L2.St} (h : i ∈ vs) : wipe (σ.set i x) vs = wipe σ vs := by rw [wipe_put, if_pos h]
theorem z_gn {i : Nat} {x : Str} (hN : X.N.Nodup) (hi : X.N[i]? = some x) (hx : Loc X.env.scope x) (hf : X.fn x = true ∨ X.env.scope.names.lookup x = some .local) : PG X (.Name x pos) (tGt W [i] (gN i)) :=
  PG.imp (pg_name hN hi hx hf) fun v σ H Q ⟨φ, env, h, x, env', s, r, rp, e, q⟩ => by
    cases e
    exact q _ (s.set rp i) fun vs hv => wipe_set (hv i (by simp))
theorem z_gsn : PGs X [] (tGts W [] gsNil) := PGs.imp pgs_nil fun vs σ H Q ⟨φ, env, h, xs, env', s, r, rp, e, q⟩ => by
  cases xs with
  | nil => cases e; exact ⟨rp.unnil, q σ s fun _ _ => rfl⟩
  | cons x r => cases e
theorem z_gsc {es : List Expr} {g : TgP} {gs : List PV → Sl → Option Sl} {j js : List Nat} (h1 : PG X e (tGt W j g)) (h2 : PGs X es (tGts W js gs)) (hs : (assignEach (e :: es) X.env).map (·.2) = assign e X.env :: (assignEach es X.env).map (·.2)) : PGs X (e :: es) (tGts W (j ++ js) (gsCons g gs)) :=
  PGs.imp (pgs_cons h1 h2 hs) fun vs σ H Q ⟨φ, env, h, xs, env', s, r, rp, e, q⟩ => by
    cases xs with
    | nil => cases e
    | cons x xs =>
      obtain ⟨v, vr, rfl, r1, r2⟩ := rp.uncons
      obtain ⟨env1, e1, e2⟩ := Option.bind_eq_some_iff.mp (show (g x env).bind (fun env' => gs xs env') = some env' from e)
      exact ⟨v, vr, rfl, φ, env, h, x, env1, s, r, r1, e1, fun σ1 s1 w1 => ⟨φ, env1, h, xs, env', s1, r, r2, e2, fun σ2 s2 w2 => q σ2 s2 fun vs hv => (w2 vs fun k hk => hv k (List.mem_append_right _ hk)).trans (w1 vs fun k hk => hv k (List.mem_append_left _ hk))⟩⟩
theorem z_gt {es : List Expr} {k : Nat} {gs : List PV → Sl → Option Sl} {n : Nat} {js : List Nat} (hK : X.K = W.K) (hc : X.calm = true) (h : PGs X es (tGts W js gs)) (hl : ∀ xs env env', gs xs env = some env' → xs.length = n)
    (hn : (assignEach es X.env).length = n) (hst : (assignEach es X.env).findIdx? (·.1) = none) : PG X (.Tuple es k pos) (tGt W js (gT gs)) :=
  PG.imp (pg_tup hc h hn hst) fun v σ H Q ⟨φ, env, h, x, env', s, r, rp, e, q⟩ => by
    cases x with
    | tup xs =>
      rw [Rep] at rp
      obtain ⟨a, vs, rfl, sq, rl⟩ := rp
      have e : gs xs env = some env' := e
      exact ⟨a, vs, rfl, hK ▸ sq, by rw [← rl.length]; exact hl _ _ _ e, φ, env, h, xs, env', s, r, rl, e, q⟩
    | _ => cases e
/-! ### statements -/
theorem sb {m : MG α} {k : α → PH → RS} {env : Sl} {h : PH} (s : SR W φ H env σ) (r : HR W φ H h) (x : ResS W Wx φ H ((m env h).toS env k) D) :
    tG W Wx R m σ H fun v H1 => ∃ φ1 h1 a, Post φ H φ1 H1 ∧ SR W φ1 H1 env σ ∧ HR W φ1 H1 h1 ∧ R H φ1 H1 a v ∧ ResS W Wx φ1 H1 (k a h1) D := by
  refine ⟨φ, env, h, s, r, ?_⟩
  cases e : m env h with
  | ok a h1 =>
    rw [e] at x
    exact fun φ' v H' p' r' q => ⟨φ', h1, a, p', s.mono (p'.k r), r', q, ResS.later x p' r'⟩
  | ex c p h1 =>
    rw [e] at x
    exact fun φ' d pv H' p' r' e f => x φ' σ d pv H' p' r' (s.mono (p'.k r)) e f
  | bad => rw [e] at x; exact x
theorem z_ssn : PSs X [] (tS W Wx sNil) := PSs.imp pss_nil fun D σ H ⟨φ, env, h, s, r, q⟩ => q φ σ H .refl r s
theorem z_pass : L2.PS X (.Pass pos) (tS W Wx sNil) := PS.imp ps_pass fun D σ H ⟨φ, env, h, s, r, q⟩ => q φ σ H .refl r s
theorem z_bk : L2.PS X (.Break pos) (tS W Wx sBk) := PS.imp ps_break fun D σ H ⟨φ, env, h, s, r, q⟩ => q φ σ H .refl r s
theorem z_ct : L2.PS X (.Continue pos) (tS W Wx sCt) := PS.imp ps_continue fun D σ H ⟨φ, env, h, s, r, q⟩ => q φ σ H .refl r s
theorem z_ssc {st : Stmt} {rest : List Stmt} (h1 : L2.PS X st (tS W Wx a)) (h2 : PSs X rest (tS W Wx b)) : PSs X (st :: rest) (tS W Wx (sSeq a b)) :=
  PSs.imp (pss_cons h1 h2) fun D σ H ⟨φ, env, h, s, r, q⟩ => by
    refine ⟨φ, env, h, s, r, ?_⟩
    unfold sSeq at q
    cases e : a env h with
    | nx env' h' =>
      simp only [e] at q
      exact fun φ' σ' H' p' r' s' => ⟨φ', env', h', s', r', q.later p' r'⟩
    | rt x h' => simp only [e] at q; exact q
    | bk x h' => simp only [e] at q; exact q
    | ct x h' => simp only [e] at q; exact q
    | ex c p x h' => simp only [e] at q; exact q
    | bad => simp only [e] at q; exact q
theorem z_ss1 {st : Stmt} (h1 : L2.PS X st (tS W Wx a)) : PSs X [st] (tS W Wx a) := pss_one h1
theorem z_set {i : Nat} {x : Str} {pos' : Pos} (hN : X.N.Nodup) (hi : X.N[i]? = some x) (hx : Loc X.env.scope x) (he : PE X e (tE W Wx m)) (hs : swapsWith e (some (.Name x pos')) pos.line X.env = pure false) (hf : X.fn x = true ∨ X.env.scope.names.lookup x = some .local) :
    L2.PS X (.Assign [.Name x pos'] e pos) (tS W Wx (sSet i m)) := PS.imp (ps_set hN hi hx (PE.m he) hs hf) fun D σ H ⟨φ, env, h, s, r, q⟩ =>
  (sb (R := rM W) s r q).mono fun v H1 ⟨φ1, h1, a, p1, s1, r1, e1, q⟩ => q φ1 _ H1 .refl r1 (s1.set e1 i)
theorem z_asg {tg : Expr} {g : TgP} {js : List Nat} (he : PE X e (tE W Wx m)) (hg : PG X tg (tGt W js g)) (hs : swapsWithSole [tg] e pos.line X.env = pure false) (hw : swappedStores [tg] e X.env = pure none)
    (h1 : (assignEach [tg] X.env).map (·.2) = [assign tg X.env]) : L2.PS X (.Assign [tg] e pos) (tS W Wx (sAsg g m)) := PS.imp (ps_asg (PE.m he) hg hs hw h1) fun D σ H ⟨φ, env, h, s, r, q⟩ =>
  (sb (R := rM W) s r q).mono fun v H1 ⟨φ1, h1, a, p1, s1, r1, e1, q⟩ => by
    cases eg : g a env with
    | none => simp only [eg] at q; exact q.elim
    | some env' =>
      simp only [eg] at q
      exact ⟨φ1, env, h1, a, env', s1, r1, e1, eg, fun σ' s' _ => q φ1 σ' H1 .refl r1 s'⟩
theorem z_ifS {c : Expr} {sa sb' : List Stmt} (ht : PT X c (tT W Wx t)) (h1 : PSs X sa (tS W Wx a)) (h2 : PSs X sb' (tS W Wx b)) : L2.PS X (.If c sa sb' pos) (tS W Wx (sIf t a b)) := PS.imp (ps_if ht h1 h2) fun D σ H ⟨φ, env, h, s, r, q⟩ =>
  (sb (R := rT) s r q).mono fun v H1 ⟨φ1, h1, x, p1, s1, r1, e1, q⟩ => by
    cases e1
    by_cases hx : v = true
    · rw [if_pos hx] at q ⊢; exact ⟨φ1, env, h1, s1, r1, q⟩
    · rw [if_neg hx] at q ⊢; exact ⟨φ1, env, h1, s1, r1, q⟩
theorem z_ret (he : PE X e (tE W Wx m)) : L2.PS X (.Return (some e) pos) (tS W Wx (sRet m)) := PS.imp (ps_ret he) fun D σ H ⟨φ, env, h, s, r, q⟩ => by
  refine ⟨φ, env, h, s, r, ?_⟩
  unfold sRet at q
  cases e : m env h with
  | ok a h1 => rw [e] at q; exact q
  | ex c p h1 => rw [e] at q; exact fun φ' d pv H' p' r' e f => q φ' σ d pv H' p' r' (s.mono (p'.k r)) e f
  | bad => rw [e] at q; exact q
theorem z_retN : L2.PS X (.Return none pos) (tS W Wx sRetN) := PS.imp ps_retN fun D σ H ⟨φ, env, h, s, r, q⟩ => q φ _ H .refl r (.inl (by rw [Rep]))
theorem z_exp (he : PE X e (tE W Wx m)) (hs : swapsWith e none pos.line X.env = pure false) : L2.PS X (.Expr e pos) (tS W Wx (sExp m)) := PS.imp (ps_expr he hs) fun D σ H ⟨φ, env, h, s, r, q⟩ =>
  (sb (R := rE W) s r q).mono fun v H1 ⟨φ1, h1, a, p1, s1, r1, e1, q⟩ => q φ1 σ H1 .refl r1 s1
theorem z_aug {i : Nat} {x : Str} {op : Operator} {f : PV → PV → PH → RG PV} {r2 : R2} {pos' : Pos} (ho : OpR X (inplaceOp op) r2) (hr : ∀ {φ H H1 H2 h x y v u σ Q}, HR W φ H h → RR W φ H1 H x v → RR W φ H2 H y u → ResG W Wx (rM W) σ φ H (f x y h) Q → r2 v u H Q)
    (hN : X.N.Nodup) (hi : X.N[i]? = some x) (hx : Loc X.env.scope x) (he : PE X e (tE W Wx m)) (hf : X.fn x = true ∨ X.env.scope.names.lookup x = some .local) : L2.PS X (.AugAssign (.Name x pos') op e pos) (tS W Wx (sAug i f m)) :=
  PS.imp (ps_aug hN hi hx he (fun pins s σ H x y v u Q I r1 r2 q => ho pins s σ H x y v u Q I r1 r2 q) hf) fun D σ H ⟨φ, env, h, s, r, q⟩ => by
    unfold sAug at q
    cases e : mV i env h with
    | ex c p h1 => obtain ⟨y, _, z⟩ := mV_ok e (by simp); cases z
    | bad => rw [e] at q; exact q.elim
    | ok x0 h0 =>
      obtain ⟨y, e1, z⟩ := mV_ok e (by simp)
      cases z
      rw [e] at q
      obtain ⟨v, e2, rx⟩ := s.at_ i _ e1
      refine ⟨v, e2, (sb (R := rE W) s r q).mono fun u H1 ⟨φ1, h1, y, p1, s1, r1, ry, q⟩ => ?_⟩
      have rx1 : RR W φ1 H H1 x0 v := .inl (rx.mono (p1.k r))
      refine hr (σ := σ) r1 rx1 ry ?_
      cases e3 : f x0 y h1 with
      | ok z h2 => rw [e3] at q; exact fun φ' w H' p' r' e4 => q φ' _ H' p' r' ((s1.mono (p'.k r1)).set e4 i)
      | ex c p h2 => rw [e3] at q; exact fun φ' d pv H' p' r' e f => q φ' σ d pv H' p' r' (s1.mono (p'.k r1)) e f
      | bad => rw [e3] at q; exact q.elim
theorem addA {φ : Emb} {H H1 H2 : Hp} {h : PH} {x y : PV} {v u : V} {σ : L2.St} {Q : VK} (hr : HR W φ H h) (r1 : RR W φ H1 H x v) (r2 : RR W φ H2 H y u) (q : ResG W Wx (rM W) σ φ H (oAddA x y h) Q) :
    (fun x y H Q => (rI0 fun i j => .int (i + j)) x y H Q ∨ (fun x y H Q => ∃ i j, x = V.str i ∧ y = V.str j ∧ i.length + j.length ≤ sizeLine ∧ Q (.str (i ++ j)) H) x y H Q) v u H Q := by
  cases x with
  | int i =>
    cases y with
    | int j =>
      have r1 := r1.rep (fun _ => by simp)
      have r2 := r2.rep (fun _ => by simp)
      rw [Rep] at r1 r2
      exact .inl ⟨i, j, r1, r2, q φ _ H .refl hr (by show Rep W φ H _ _; rw [Rep])⟩
    | _ => exact q.elim
  | str s =>
    cases y with
    | str t =>
      have r1 := r1.rep (fun _ => by simp)
      have r2 := r2.rep (fun _ => by simp)
      rw [Rep] at r1 r2
      dsimp only [oAddA] at q
      split at q
      · rename_i hl
        refine .inr ⟨_, _, r1, r2, by simp only [Str.length, List.size_toArray]; rw [SZ_eq]; exact hl, ?_⟩
        have e : (⟨s.toArray⟩ ++ ⟨t.toArray⟩ : Str) = ⟨(s ++ t).toArray⟩ := by
          show Str.append _ _ = _
          simp [Str.append]
        rw [e]
        exact q φ _ H .refl hr (by show Rep W φ H _ _; rw [Rep])
      · exact q.elim
    | _ => exact q.elim
  | _ => exact q.elim
theorem z_augAdd {i : Nat} {x : Str} {pos' : Pos} (hN : X.N.Nodup) (hi : X.N[i]? = some x) (hx : Loc X.env.scope x) (he : PE X e (tE W Wx m)) (hf : X.fn x = true ∨ X.env.scope.names.lookup x = some .local) : L2.PS X (.AugAssign (.Name x pos') .Add e pos) (tS W Wx (sAug i oAddA m)) :=
  z_aug (iop_add.or iop_add_str) addA hN hi hx he hf
def rSetD (W : Wd) : TSet := fun o i v H Q => ∃ φ h n i' x H1 H2 kvs k, HR W φ H h ∧ RR W φ H1 H (.ref n) o ∧ RR W φ H2 H i' i ∧ Rep W φ H x v ∧ h[n]? = some (.dct kvs) ∧ keyT i' = some k ∧ kvs.length < 16777216 ∧
  ∀ H', HR W φ H' (h.set n (.dct (kput kvs k i' x))) → Post φ H φ H' → Q H'
theorem set_dct (hu : X.A.units + 64 < cLine) (hK : X.K = W.K) (hw : X.w = W.w) : PSet X (rSetD W) := by
  intro pins s σ H o i v ov iv u Q I ro ri rv ⟨φ, h, n, i', x, H1, H2, kvs, k, hr, r1, r2, rx, e, ek, hl, q⟩
  obtain ⟨d, rfl, en2, oo⟩ := dctW_ok hr r1 e
  cases ro
  obtain ⟨c, rfl, rfl, rk, hk⟩ := keyT_at hK I r2 ri ek
  obtain ⟨h0, hz, xs, r, dd, hx⟩ := dct_at hw hK I (.inl oo)
  refine wpAny_setItem_heap (hsz := by rw [hx]; exact hz) (nk_room hu) hk dd fun h' dd' hs => ?_
  obtain ⟨U, I', hr', p'⟩ := dct_put hw hr en2 oo (kvs' := kput kvs k i' x) (t' := s.toks + (nestedKind X.prog X.w).draws k) I (by have := kput_len (kvs := kvs) (k := k) (x := i') (y := x); rw [sizeLine_eq]; omega) (kvX_put r ek rk rx rv) dd' hs
  exact ⟨_, I', q _ hr' p'⟩
theorem PSet.or {r r' : TSet} (h : PSet X r) (h' : PSet X r') : PSet X (fun o i v H Q => r o i v H Q ∨ r' o i v H Q) := by
  intro pins s σ H o i v ov iv u Q I ro ri rv q
  rcases q with q | q
  · exact h pins s σ H o i v ov iv u Q I ro ri rv q
  · exact h' pins s σ H o i v ov iv u Q I ro ri rv q
theorem setL_ok {env : Sl} {o i x : PV} {ov iv v : V} (hr : HR W φ H h) (s : SR W φ H env σ) (ro : RR W φ H0 H o ov) (ri : RR W φ H1 H i iv) (rx : Rep W φ H x v) (q : ResS W Wx φ H (setIx o i x env h) D) : rSetL ov iv v H (fun H' => D.nx σ H') ∨ rSetD W ov iv v H (fun H' => D.nx σ H') := by
  cases o with
  | ref n =>
    cases i with
    | tup ys =>
      cases e : h[n]? with
      | none => simp only [setIx, e] at q; exact q.elim
      | some ob =>
        cases ob with
        | dct kvs =>
          cases ek : keyT (.tup ys) with
          | none => simp only [setIx, e, ek] at q; exact q.elim
          | some k =>
            simp only [setIx, e, ek] at q
            by_cases hl : kvs.length < 16777216
            · rw [if_pos hl] at q
              exact .inr ⟨φ, h, n, _, x, H0, H1, kvs, k, hr, ro, ri, rx, e, ek, hl, fun H' hr' p' => q φ σ _ p' hr' (s.mono (p'.k hr))⟩
            · rw [if_neg hl] at q; exact q.elim
        | ins c fs => simp only [setIx, e] at q; exact q.elim
        | fdc kvs => simp only [setIx, e] at q; exact q.elim
        | lst kvs => simp only [setIx, e] at q; exact q.elim
    | int k =>
      refine .inl ?_
      have ro := ro.rep (fun _ => by simp)
      have ri := ri.rep (fun _ => by simp)
      rw [Rep] at ro
      rw [Rep] at ri
      obtain ⟨a, rfl, ha⟩ := ro
      subst ri
      cases e : h[n]? with
      | none => simp only [setIx, e] at q; exact q.elim
      | some ob =>
        cases ob with
        | lst xs =>
          obtain ⟨vs, hv, rl⟩ := hr.obj n _ a e ha
          cases ej : ixN xs.length k with
          | none => simp only [setIx, e, ej] at q; exact q.elim
          | some j =>
            simp only [setIx, e, ej] at q
            refine ⟨a, vs, k, j, rfl, rfl, hv, by rw [← rl.length]; exact ej, ?_⟩
            have p : Post φ H φ (upd H a (.lst (vs.set j v))) := .put ha (nf_lst hv)
            obtain ⟨hr', p'⟩ := hr.put (u := .lst (vs.set j v)) (o := .lst (xs.set j x)) ha (nf_lst hv) True.intro ⟨_, upd_same, RepL.set (rx.mono (p.k hr)) j (rl.mono (p.k hr))⟩
            exact q φ σ _ p' hr' (s.mono (p'.k hr))
        | ins c fs => simp only [setIx, e] at q; exact q.elim
        | dct kvs => simp only [setIx, e] at q; exact q.elim
        | fdc kvs => simp only [setIx, e] at q; exact q.elim
    | _ => exact q.elim
  | _ => exact q.elim
theorem z_sub' {o i : Expr} {tpos : Pos} {mo mi mv : MG PV} (hu : X.A.units + 64 < cLine) (hK : X.K = W.K) (hw : X.w = W.w) (hv : PE X e (tE W Wx mv)) (ho : PE X o (tE W Wx mo)) (hi : PE X i (tE W Wx mi))
    (ha : ∀ v, assign (.Subscript o i tpos) X.env v = (do
      let ov ← holding [v] (eval o X.env)
      let iv ← holding [v, ov] (eval i X.env)
      standAt tpos
      holding [v, ov, iv] (setItem ov iv v)
      release [v, ov, iv] [])) (hs : swapsWithSole [.Subscript o i tpos] e pos.line X.env = pure false) (hsw : swappedStores [.Subscript o i tpos] e X.env = pure none)
    (h1 : (assignEach [.Subscript o i tpos] X.env).map (·.2) = [assign (.Subscript o i tpos) X.env]) : L2.PS X (.Assign [.Subscript o i tpos] e pos) (tS W Wx (sSub mo mi mv)) :=
  PS.imp (ps_asg (PE.m hv) (pg_sub ho hi (Z.PSet.or set_list (set_dct hu hK hw)) ha) hs hsw h1) fun D σ H ⟨φ, env, h, s, r, q⟩ => by
    refine (sb (R := rM W) s r q).mono fun v H1 ⟨φ1, h1, x, p1, s1, r1, e1, q⟩ => ?_
    refine (sb (R := rE W) s1 r1 q).mono fun ov H2 ⟨φ2, h2, o', p2, s2, r2, e2, q⟩ => ?_
    refine (sb (R := rE W) s2 r2 q).mono fun iv H3 ⟨φ3, h3, i', p3, s3, r3, e3, q⟩ => ?_
    exact setL_ok r3 s3 (RR.mono (H0 := H1) r2 p3 e2) e3 ((e1.mono (p2.k r1)).mono (p3.k r2)) q
end
end Z
namespace Z
open PySem PySem.Spec PyProof.Rows L2

/-! ### what a loop walks -/
structure Src where
  items : List PV
  live : Option Nat
def gd (s : Src) (h : PH) : Prop := match s.live with
  | none => True
  | some n => h[n]? = some (.lst s.items)
def iSrc (h : PH) : PV → Option Src
  | .str s => if s.length ≤ SZ then some ⟨s.map fun c => .str [c], none⟩ else none
  | .ref n => match h[n]? with
    | some (.lst xs) => some ⟨xs, some n⟩
    | _ => none
  | .tup xs => some ⟨xs, none⟩
  | .ro xs => some ⟨xs, none⟩
  | .lst xs => some ⟨xs, none⟩
  | _ => none
def iSeq (m : MG PV) : MG Src := fun env h => (m env h).bind fun x h1 => match iSrc h1 x with
  | some s => .ok s h1
  | none => .bad
def rgI (lo : Int) (n : Nat) : List PV := (List.range n).map fun i => .int (lo + (i : Nat))
def iRg1 (as : MG (List PV)) : MG Src := fun env h => (as env h).bind fun xs h1 => match xs with
  | [.int j] => if -16777216 ≤ j ∧ j ≤ 16777216 then .ok ⟨rgI 0 j.toNat, none⟩ h1 else .bad
  | _ => .bad
def iRg2 (as : MG (List PV)) : MG Src := fun env h => (as env h).bind fun xs h1 => match xs with
  | [.int i, .int j] => if -16777216 ≤ i ∧ i ≤ 16777216 ∧ -16777216 ≤ j ∧ j ≤ 16777216 ∧ j - i ≤ 16777216 then .ok ⟨rgI i (j - i).toNat, none⟩ h1 else .bad
  | _ => .bad
structure Wk (W : Wd) (J : It) (φ : Emb) (H : Hp) (src : Src) : Prop where
  go : ∀ i φ' H' h', Post φ H φ' H' → HR W φ' H' h' → gd src h' → i < src.items.length → J.go i H'
  yld : ∀ i φ' H' h' v H'', Post φ H φ' H' → HR W φ' H' h' → gd src h' → i < src.items.length → J.yld i H' v H'' → ∃ x, src.items[i]? = some x ∧ H'' = H' ∧ Rep W φ' H' x v
  stop : ∀ i φ' H' h', Post φ H φ' H' → HR W φ' H' h' → gd src h' → src.items.length ≤ i → J.stop i H'
  sz : src.items.length ≤ sizeLine
def rI (W : Wd) : RL Src It := fun _ φ H src J => Wk W J φ H src
instance {W : Wd} : Up (rI W) := ⟨fun _ _ r => r⟩
abbrev tI (W : Wd) (Wx : WX) (m : MG Src) : TI := tG W Wx (rI W) m
open Classical in
noncomputable def forL (src : Src) (g : TgP) (b : MS) : List PV → Sl → PH → RS
  | [], env, h => if gd src h then .nx env h else .bad
  | x :: r, env, h => if gd src h then (match g x env with
    | none => .bad
    | some env1 => match b env1 h with
      | .nx env2 h2 => forL src g b r env2 h2
      | .ct env2 h2 => forL src g b r env2 h2
      | .bk env2 h2 => .nx env2 h2
      | z => z) else .bad
noncomputable def sFor (mi : MG Src) (g : TgP) (b : MS) : MS := fun env h => (mi env h).toS env fun src h1 => forL src g b src.items env h1
def whN (t : MG Bool) (b : MS) : Nat → Sl → PH → Option RS
  | 0, _, _ => none
  | n + 1, env, h => match t env h with
    | .ok true h1 => (match b env h1 with
      | .nx env2 h2 => whN t b n env2 h2
      | .ct env2 h2 => whN t b n env2 h2
      | .bk env2 h2 => some (.nx env2 h2)
      | z => some z)
    | .ok false h1 => some (.nx env h1)
    | .ex c p h1 => some (.ex c p env h1)
    | .bad => some .bad
open Classical in
noncomputable def sWh (t : MG Bool) (b : MS) : MS := fun env h => if q : ∃ r n, whN t b n env h = some r then Classical.choose q else .bad
/-! comprehensions -/
def wipeP (env : Sl) : List Nat → Sl
  | [] => env
  | v :: vs => (wipeP env vs).set v none
open Classical in
noncomputable def lcL (src : Src) (g : TgP) (t : MG Bool) (m : MG PV) (env : Sl) : List PV → PH → RG (List PV)
  | [], h => if gd src h then .ok [] h else .bad
  | x :: r, h => if gd src h then (match g x env with
    | none => .bad
    | some env1 => match t env1 h with
      | .ok true h1 => (match mM m env1 h1 with
        | .ok y h2 => (match lcL src g t m env r h2 with
          | .ok ys h3 => .ok (y :: ys) h3
          | _ => .bad)
        | _ => .bad)
      | .ok false h1 => lcL src g t m env r h1
      | _ => .bad) else .bad
noncomputable def mLC (mi : MG Src) (g : TgP) (own : List Nat) (t : MG Bool) (m : MG PV) : MG PV := fun env h => (mi env h).bind fun src h1 => (lcL src g t m (wipeP env own) src.items h1).bind fun ys h2 => .ok (.lst ys) h2
def tTrue : MG Bool := fun _ h => .ok true h

section
variable {W : Wd} {Wx : WX} {X : Cx} {σ : L2.St} {φ : Emb} {H H0 H1 H2 : Hp} {h : PH} {e e1 e2 tg : Expr} {m m1 m2 : MG PV} {t t1 t2 : MG Bool} {pos : Pos} {Q : VK} {D : Ends} {a b : MS}
variable {pins : List (Addr × Obj)} {s : Shared} {R : It → Hp → Prop}
theorem iter_list {l : Addr} {xs : List V} (I1 : L2.Inv X pins σ H s) (hq : SqL X.K H l xs) (q : R (Itl X.K l) H) : wpAny (model X.prog X.w) X.A (pyIter (.ref l)) (PIE X pins σ tg R) X.xe s := by
  obtain ⟨its, rv, p, hz⟩ := I1.list hq
  refine wpAny_pyIter_list p.isList ?_
  refine ⟨s.heap.objs.size, [s.heap.objs.size], _, _, H, rfl, I1.kept (t' := s.toks) fun b o e => Heap.get?_push_of_some _ e, turn_list l _, ⟨_, Heap.get?_push_size _ rfl, rfl, rfl⟩, fun b hb => ?_, q⟩
  have e : b = s.heap.objs.size := by simpa using hb
  subst e
  exact I1.fpOk (Nat.le_refl _) (I1.hok.fresh (Nat.le_refl _))
theorem iter_tup {l : Addr} {xs : List V} (I1 : L2.Inv X pins σ H s) (hq : SqT X.K H l xs) (q : R (Itt X.K l) H) : wpAny (model X.prog X.w) X.A (pyIter (.ref l)) (PIE X pins σ tg R) X.xe s := by
  obtain ⟨its, rv, p, hz⟩ := I1.tuple hq
  refine wpAny_pyIter_tuple (show s.heap.IsTuple l its.toArray from p) ?_
  refine ⟨s.heap.objs.size, [s.heap.objs.size], _, _, H, rfl, I1.kept (t' := s.toks) fun b o e => Heap.get?_push_of_some _ e, turn_tuple l _, ⟨_, Heap.get?_push_size _ rfl, rfl, rfl⟩, fun b hb => ?_, q⟩
  have e : b = s.heap.objs.size := by simpa using hb
  subst e
  exact I1.fpOk (Nat.le_refl _) (I1.hok.fresh (Nat.le_refl _))
theorem iter_str {x : Str} {u : Value} (I1 : L2.Inv X pins σ H s) (ru : RelV (.str x) u) (q : R (Its x) H) : wpAny (model X.prog X.w) X.A (pyIter u) (PIE X pins σ tg R) X.xe s := by
  obtain ⟨t, rfl⟩ := ru
  cases ha : x.cps.all (· < 128)
  · exact wpAny_pyIter_wide ha (pi_one (tk := s.toks) I1 _ (turn_str _ x t "str_iterator" (.inr rfl)) ⟨_, Heap.get?_push_size _ rfl, rfl, rfl⟩ q)
  · exact wpAny_pyIter_ascii ha (pi_one (tk := s.toks) I1 _ (turn_str _ x t "str_ascii_iterator" (.inl rfl)) ⟨_, Heap.get?_push_size _ rfl, rfl, rfl⟩ q)
theorem wk_list {l : Addr} {vs : List V} {src : Src} (hs : ∀ φ' H' h', Post φ H φ' H' → HR W φ' H' h' → gd src h' → ∃ vs, SqL W.K H' l vs ∧ RepL W φ' H' src.items vs) (hz : src.items.length ≤ sizeLine) : Wk W (Itl W.K l) φ H src where
  go := fun i φ' H' h' p r g hi => by
    obtain ⟨vs, s, rl⟩ := hs φ' H' h' p r g
    have hl := rl.length
    exact ⟨vs, vs[i]'(by omega), s, List.getElem?_eq_getElem _⟩
  yld := fun i φ' H' h' v H'' p r g hi y => by
    obtain ⟨e, y⟩ := y
    obtain ⟨vs, s, rl⟩ := hs φ' H' h' p r g
    obtain ⟨x, e1, e2⟩ := rl.get' (y vs s)
    exact ⟨x, e1, e, e2⟩
  stop := fun i φ' H' h' p r g hi => by
    obtain ⟨vs, s, rl⟩ := hs φ' H' h' p r g
    exact ⟨vs, s, by rw [← rl.length]; exact hi⟩
  sz := hz
theorem wk_tup {l : Addr} {vs : List V} {src : Src} (hs : ∀ φ' H' h', Post φ H φ' H' → HR W φ' H' h' → ∃ vs, SqT W.K H' l vs ∧ RepL W φ' H' src.items vs) (hz : src.items.length ≤ sizeLine) : Wk W (Itt W.K l) φ H src where
  go := fun i φ' H' h' p r g hi => by
    obtain ⟨vs, s, rl⟩ := hs φ' H' h' p r
    have hl := rl.length
    exact ⟨vs, vs[i]'(by omega), s, List.getElem?_eq_getElem _⟩
  yld := fun i φ' H' h' v H'' p r g hi y => by
    obtain ⟨e, y⟩ := y
    obtain ⟨vs, s, rl⟩ := hs φ' H' h' p r
    obtain ⟨x, e1, e2⟩ := rl.get' (y vs s)
    exact ⟨x, e1, e, e2⟩
  stop := fun i φ' H' h' p r g hi => by
    obtain ⟨vs, s, rl⟩ := hs φ' H' h' p r
    exact ⟨vs, s, by rw [← rl.length]; exact hi⟩
  sz := hz
theorem rgI_get {lo : Int} {n i : Nat} (h : i < n) : (rgI lo n)[i]? = some (.int (lo + (i : Nat))) := by
  unfold rgI
  rw [List.getElem?_map, List.getElem?_range h]; rfl
theorem rgI_length {lo : Int} {n : Nat} : (rgI lo n).length = n := by unfold rgI; rw [List.length_map, List.length_range]
theorem wk_rng {lo : Int} {n : Nat} (hz : n ≤ SZ) : Wk W (Itr lo n) φ H ⟨rgI lo n, none⟩ where
  go := fun i φ' H' h' p r g hi => by rw [rgI_length] at hi; exact hi
  yld := fun i φ' H' h' v H'' p r g hi y => by
    rw [rgI_length] at hi
    obtain ⟨e, rfl⟩ := y
    exact ⟨_, rgI_get hi, e, by rw [Rep]⟩
  stop := fun i φ' H' h' p r g hi => by rw [rgI_length] at hi; exact hi
  sz := by rw [rgI_length, SZ_eq]; exact hz
theorem wk_str {z : List Nat} (hz : z.length ≤ SZ) : Wk W (Its ⟨z.toArray⟩) φ H ⟨z.map fun c => .str [c], none⟩ where
  go := fun i φ' H' h' p r g hi => by
    show i < z.toArray.size
    simpa using hi
  yld := fun i φ' H' h' v H'' p r g hi y => by
    obtain ⟨e, c, ec, rfl⟩ := y
    refine ⟨.str [c], ?_, e, by rw [Rep]⟩
    rw [List.getElem?_map]
    have : z[i]? = some c := by simpa using ec
    rw [this]; rfl
  stop := fun i φ' H' h' p r g hi => by
    show z.toArray.size ≤ i
    simpa using hi
  sz := by rw [SZ_eq]; simpa using hz
theorem z_iseq (hK : X.K = W.K) (he : PE X e (tE W Wx m)) : PI X tg e (tI W Wx (iSeq m)) := by
  refine ⟨fun pins s σ H R I ⟨φ, env, h, sr, r, q⟩ => ?_⟩
  refine thn (he.run pins s σ H _ I (tb (R := rE W) sr r q)) fun u s1 ⟨v, H1, I1, ru, φ1, h1, x, p1, s1', r1, e1, q⟩ => ?_
  cases ei : iSrc h1 x with
  | none => rw [ei] at q; exact q.elim
  | some src =>
    rw [ei] at q
    have q : ∀ J, Wk W J φ1 H1 src → R J H1 := fun J w => q φ1 J H1 .refl r1 w
    have lst : ∀ {l : Addr} {vs : List V}, v = .ref l → SqL W.K H1 l vs → RepL W φ1 H1 src.items vs → (∀ φ' H' h', Post φ1 H1 φ' H' → HR W φ' H' h' → gd src h' → ∃ vs, SqL W.K H' l vs ∧ RepL W φ' H' src.items vs) →
        wpAny (model X.prog X.w) X.A (pyIter u) (PIE X pins σ tg R) X.xe s1 := fun {l vs} ev sq rl k => by
      subst ev; cases ru
      rw [← hK] at sq
      have hz : src.items.length ≤ sizeLine := by
        obtain ⟨_, _, _, hz⟩ := I1.list sq
        rw [rl.length]; exact hz
      exact iter_list I1 sq (by rw [hK]; exact q _ (wk_list (vs := vs) k hz))
    cases x with
    | str z =>
      have e1 := e1.rep (fun _ => by simp)
      rw [Rep] at e1; subst e1
      dsimp only [iSrc] at ei
      split at ei
      · rename_i hl
        cases ei
        exact iter_str I1 ru (q _ (wk_str hl))
      · cases ei
    | ref n =>
      have e1 := e1.rep (fun _ => by simp)
      rw [Rep] at e1
      obtain ⟨l, ev, hl⟩ := e1
      cases eo : h1[n]? with
      | none => simp [iSrc, eo] at ei
      | some o =>
        cases o with
        | lst xs =>
          simp [iSrc, eo] at ei
          subst ei
          have mine : ∀ φ' H' h', Post φ1 H1 φ' H' → HR W φ' H' h' → gd ⟨xs, some n⟩ h' → ∃ vs, SqL W.K H' l vs ∧ RepL W φ' H' xs vs := fun φ' H' h' p r g => by
            obtain ⟨vs, e2, rl⟩ := r.obj n _ l (show h'[n]? = some (.lst xs) from g) (p.sub n l hl)
            exact ⟨vs, .of e2, rl⟩
          obtain ⟨vs, sq, rl⟩ := mine φ1 H1 h1 .refl r1 eo
          exact lst ev sq rl mine
        | ins c fs => simp [iSrc, eo] at ei
        | dct kvs => simp [iSrc, eo] at ei
        | fdc kvs => simp [iSrc, eo] at ei
    | tup xs =>
      cases ei
      have e1 := e1.rep (fun _ => by simp)
      have e2 := e1
      rw [Rep] at e1
      obtain ⟨l, vs, rfl, sq, rl⟩ := e1
      cases ru
      have sq' := sq
      rw [← hK] at sq'
      have hz : xs.length ≤ sizeLine := by
        obtain ⟨_, _, _, hz⟩ := I1.tuple sq'
        rw [rl.length]; exact hz
      exact iter_tup I1 sq' (by rw [hK]; exact q _ (wk_tup (vs := vs) (fun φ' H' h' p r => ⟨vs, p.tup r1 sq, rl.mono (p.k r1)⟩) hz))
    | ro xs =>
      cases ei
      have e1 := e1.rep (fun _ => by simp)
      rw [Rep] at e1
      obtain ⟨l, vs, ev, sq, rl⟩ := e1
      exact lst ev sq.sq rl fun φ' H' h' p r _ => ⟨vs, (p.ro r1 sq).sq, rl.mono (p.k r1)⟩
    | lst xs =>
      cases ei
      rcases e1 with e1 | ⟨zs, l, vs, e1, ev, e3, e4, e5, e6⟩
      · rw [Rep] at e1; exact e1.elim
      · cases e1
        exact lst ev (.of e3) e6 fun φ' H' h' p r _ => ⟨vs, .of (p.keep l _ e3 e5), e6.mono (p.k r1)⟩
    | _ => cases ei
theorem PI.of {t : TI} {m : MG Src} (h : PI X tg e t) (i : ∀ σ H R, tI W Wx m σ H R → t σ H R) : PI X tg e (tI W Wx m) := PI.imp h i
theorem z_irg1 {a : Expr} {as : MG (List PV)} {p : Pos} (hg : Gl X "range") (hm : X.mg "range" = none) (ha : PA X [a] (tA W Wx as)) (hs : starEach [a] X.env = [(false, eval a X.env)]) : PI X tg (.Call (.Name "range" p) [a] [] pos) (tI W Wx (iRg1 as)) :=
  PI.imp (pi_range1 hg hm ha hs) fun σ H R ⟨φ, env, h, s, r, q⟩ => by
    refine (tb (R := rA W) s r q).mono fun vs H1 ⟨φ1, h1, xs, p1, s1, r1, e1, q⟩ => ?_
    split at q
    · rename_i j
      split at q
      · rename_i hj
        obtain ⟨v, r', rfl, e2, e3⟩ := RepL.uncons e1
        rw [e3.unnil]
        rw [Rep] at e2; subst e2
        exact ⟨j, rfl, by omega, by omega, q φ1 _ H1 .refl r1 (wk_rng (by show j.toNat ≤ 16777216; omega))⟩
      · exact q.elim
    · exact q.elim
theorem z_irg2 {a b : Expr} {as : MG (List PV)} {p : Pos} (hg : Gl X "range") (hm : X.mg "range" = none) (ha : PA X [a, b] (tA W Wx as)) (hs : starEach [a, b] X.env = [(false, eval a X.env), (false, eval b X.env)]) (hs2 : starEach [b] X.env = [(false, eval b X.env)]) :
    PI X tg (.Call (.Name "range" p) [a, b] [] pos) (tI W Wx (iRg2 as)) :=
  PI.imp (pi_range2 hg hm ha hs hs2) fun σ H R ⟨φ, env, h, s, r, q⟩ => by
    refine (tb (R := rA W) s r q).mono fun vs H1 ⟨φ1, h1, xs, p1, s1, r1, e1, q⟩ => ?_
    split at q
    · rename_i i j
      split at q
      · rename_i hj
        obtain ⟨v, r', rfl, e2, e3⟩ := RepL.uncons e1
        obtain ⟨v', r'', rfl, e4, e5⟩ := RepL.uncons e3
        rw [e5.unnil]
        rw [Rep] at e2 e4
        subst e2; subst e4
        exact ⟨i, j, rfl, by omega, q φ1 _ H1 .refl r1 (wk_rng (by show (j - i).toNat ≤ 16777216; omega))⟩
      · exact q.elim
    · exact q.elim
/-! ### for -/
theorem drop_cons {α : Type} {xs : List α} {i : Nat} {x : α} (e : xs[i]? = some x) : xs.drop i = x :: xs.drop (i + 1) := by
  obtain ⟨h, e⟩ := List.getElem?_eq_some_iff.mp e
  rw [List.drop_eq_getElem_cons h, e]
theorem for_ok {src : Src} {g : TgP} {js : List Nat} {env1 : Sl} {h1 : PH} {J : It} (r1 : HR W φ H1 h1) (s1 : SR W φ H1 env1 σ) (w : Wk W J φ H1 src) (q : ResS W Wx φ H1 (forL src g b src.items env1 h1) D) :
    ∃ Wn : Nat → Nat → L2.St → Hp → Prop, (∃ m, Wn 0 m σ H1) ∧ ∀ i m σ H, Wn i m σ H →
      (J.stop i H ∧ D.nx σ H) ∨ (J.go i H ∧ ∃ N : L2.St → Hp → Prop, (∀ σ' H', N σ' H' → ∃ m', m' < m ∧ Wn (i + 1) m' σ' H') ∧ ∀ x H', J.yld i H x H' → tGt W js g x σ H' fun σ2 H2 => tS W Wx b { D with nx := N, ct := N, bk := D.nx } σ2 H2) := by
  let St := fun (i : Nat) (σ : L2.St) (H : Hp) => ∃ φ' env h, Post φ H1 φ' H ∧ HR W φ' H h ∧ SR W φ' H env σ ∧ ResS W Wx φ' H (forL src g b (src.items.drop i) env h) D
  refine ⟨fun i m σ H => m = src.items.length - i ∧ i ≤ src.items.length ∧ St i σ H, ⟨_, rfl, Nat.zero_le _, φ, env1, h1, .refl, r1, s1, q⟩, ?_⟩
  rintro i m σ H ⟨rfl, hi, φ', env, h, p, r, s, q⟩
  by_cases hl : i < src.items.length
  · have ex := List.getElem?_eq_getElem hl
    rw [drop_cons ex] at q
    unfold forL at q
    by_cases hg : gd src h
    · rw [if_pos hg] at q
      refine .inr ⟨w.go i φ' H h p r hg hl, fun σ' H' => St (i + 1) σ' H', fun σ' H' n => ⟨_, by omega, rfl, hl, n⟩, fun v H' y => ?_⟩
      obtain ⟨x, ex', e, rx⟩ := w.yld i φ' H h v H' p r hg hl y
      subst e
      rw [ex] at ex'; cases ex'
      cases eg : g src.items[i] env with
      | none => simp only [eg] at q; exact q.elim
      | some env2 =>
        simp only [eg] at q
        refine ⟨φ', env, h, _, env2, s, r, rx, eg, fun σ2 s2 _ => ⟨φ', env2, h, s2, r, ?_⟩⟩
        cases eb : b env2 h with
        | nx env3 h3 => simp only [eb] at q; exact fun φ3 σ3 H3 p3 r3 s3 => ⟨φ3, env3, h3, p.trans r p3, r3, s3, q.later p3 r3⟩
        | ct env3 h3 => simp only [eb] at q; exact fun φ3 σ3 H3 p3 r3 s3 => ⟨φ3, env3, h3, p.trans r p3, r3, s3, q.later p3 r3⟩
        | bk env3 h3 => simp only [eb] at q; exact q
        | rt x h3 => simp only [eb] at q; exact q
        | ex c pv env3 h3 => simp only [eb] at q; exact q
        | bad => simp only [eb] at q; exact q
    · rw [if_neg hg] at q; exact q.elim
  · have e : i = src.items.length := by omega
    subst e
    rw [List.drop_length] at q
    unfold forL at q
    by_cases hg : gd src h
    · rw [if_pos hg] at q
      exact .inl ⟨w.stop _ φ' H h p r hg (Nat.le_refl _), q φ' σ H .refl r s⟩
    · rw [if_neg hg] at q; exact q.elim
theorem z_for {iter : Expr} {body : List Stmt} {mi : MG Src} {g : TgP} {js : List Nat} (hp : PassesOwn (model X.prog X.w) X.A X.env X.xe) (hc : X.calm = true) (hi : PI X tg iter (tI W Wx mi)) (hg : PG X tg (tGt W js g)) (hb : PSs X body (tS W Wx b))
    (hs : ∀ x, foldedSetIterable iter X.env x = pure x) : L2.PS X (.For tg iter body [] pos) (tS W Wx (sFor mi g b)) := PS.imp (ps_for hp hc hi hg hb hs) fun D σ H ⟨φ, env, h, s, r, q⟩ =>
  (sb (R := rI W) s r q).mono fun J H1 ⟨φ1, h1, src, p1, s1, r1, w, q⟩ => for_ok r1 s1 w q
/-! ### while -/
theorem whN_mono {n k : Nat} {env : Sl} {h : PH} {r : RS} (e : whN t b n env h = some r) (hk : n ≤ k) : whN t b k env h = some r := by
  induction n generalizing k env h with
  | zero => cases e
  | succ n ih =>
    obtain ⟨k, rfl⟩ : ∃ j, k = j + 1 := ⟨k - 1, by omega⟩
    unfold whN at e ⊢
    cases e1 : t env h with
    | ok c h1 =>
      rw [e1] at e
      cases c with
      | true =>
        dsimp only at e ⊢
        cases e2 : b env h1 with
        | nx env2 h2 => rw [e2] at e; exact ih e (by omega)
        | ct env2 h2 => rw [e2] at e; exact ih e (by omega)
        | bk env2 h2 => rw [e2] at e; exact e
        | rt x h2 => rw [e2] at e; exact e
        | ex c p x h2 => rw [e2] at e; exact e
        | bad => rw [e2] at e; exact e
      | false => exact e
    | ex c p h1 => rw [e1] at e; exact e
    | bad => rw [e1] at e; exact e
theorem sWh_of {n : Nat} {env : Sl} {h : PH} {r : RS} (e : whN t b n env h = some r) : sWh t b env h = r := by
  have q : ∃ r n, whN t b n env h = some r := ⟨r, n, e⟩
  unfold sWh
  rw [dif_pos q]
  obtain ⟨k, hk⟩ := Classical.choose_spec q
  have h1 := whN_mono e (Nat.le_max_left n k)
  have h2 := whN_mono hk (Nat.le_max_right n k)
  rw [h1] at h2
  exact (Option.some.inj h2).symm
theorem z_while {c : Expr} {body : List Stmt} (hp : PassesOwn (model X.prog X.w) X.A X.env X.xe) (ht : PT X c (tT W Wx t)) (hb : PSs X body (tS W Wx b)) : L2.PS X (.While c body [] pos) (tS W Wx (sWh t b)) := PS.imp (ps_while hp ht hb) fun D σ H ⟨φ, env, h, s, r, q⟩ => by
  by_cases hx : ∃ rs n, whN t b n env h = some rs
  · obtain ⟨rs, n, e⟩ := hx
    rw [sWh_of e] at q
    refine ⟨fun n σ' H' => ∃ φ' env' h', Post φ H φ' H' ∧ HR W φ' H' h' ∧ SR W φ' H' env' σ' ∧ whN t b n env' h' = some rs ∧ ResS W Wx φ' H' rs D, ⟨n, φ, env, h, .refl, r, s, e, q⟩, ?_⟩
    rintro m σ' H' ⟨φ', env', h', p, r', s', e, q⟩
    cases m with
    | zero => cases e
    | succ m =>
      refine ⟨φ', env', h', s', r', ?_⟩
      unfold whN at e
      cases e1 : t env' h' with
      | ex c p h1 =>
        rw [e1] at e; cases e
        exact fun φ2 d pv H2 p2 r2 e f => q φ2 σ' d pv H2 p2 r2 (s'.mono (p2.k r')) e f
      | bad => rw [e1] at e; cases e; exact q
      | ok c h1 =>
        rw [e1] at e
        intro φ2 v2 H2 p2 r2 ev
        cases ev
        cases c with
        | false => dsimp only at e; cases e; exact q φ2 σ' H2 p2 r2 (s'.mono (p2.k r'))
        | true =>
          dsimp only at e
          rw [if_pos rfl]
          have q2 := q.later p2 r2
          have s2 := s'.mono (p2.k r')
          have p3 := p.trans r' p2
          refine ⟨fun σ3 H3 => ∃ φ3 env3 h3, Post φ H φ3 H3 ∧ HR W φ3 H3 h3 ∧ SR W φ3 H3 env3 σ3 ∧ whN t b m env3 h3 = some rs ∧ ResS W Wx φ3 H3 rs D, fun σ3 H3 n3 => ⟨m, by omega, n3⟩, φ2, env', h1, s2, r2, ?_⟩
          cases eb : b env' h1 with
          | nx env3 h3 => rw [eb] at e; exact fun φ3 σ3 H3 p4 r3 s3 => ⟨φ3, env3, h3, p3.trans r2 p4, r3, s3, e, q2.later p4 r3⟩
          | ct env3 h3 => rw [eb] at e; exact fun φ3 σ3 H3 p4 r3 s3 => ⟨φ3, env3, h3, p3.trans r2 p4, r3, s3, e, q2.later p4 r3⟩
          | bk env3 h3 => rw [eb] at e; cases e; exact q2
          | rt x h3 => rw [eb] at e; cases e; exact q2
          | ex c pv env3 h3 => rw [eb] at e; cases e; exact q2
          | bad => rw [eb] at e; cases e; exact q2
  · unfold sWh at q
    rw [dif_neg hx] at q
    exact q.elim
/-! ### comprehensions -/
theorem SR.wipe {env : Sl} (s : SR W φ H env σ) : ∀ vs : List Nat, SR W φ H (wipeP env vs) (wipe σ vs)
  | [] => s
  | v :: vs => by
    have ih := SR.wipe s vs
    show SR W φ H ((wipeP env vs).set v none) ((L2.wipe σ vs).set v none)
    refine ⟨by rw [List.length_set, List.length_set]; exact ih.len, fun i x e => ?_⟩
    by_cases q : i = v
    · subst q
      by_cases hl : i < (wipeP env vs).length
      · rw [List.getElem?_set_self hl] at e; cases e
      · rw [List.getElem?_eq_none (by rw [List.length_set]; omega)] at e; cases e
    · rw [List.getElem?_set_ne (Ne.symm q)] at e ⊢
      exact ih.at_ i x e
abbrev Wx0 : WX := fun _ _ _ _ => False
theorem lcL_step {src : Src} {g : TgP} {env : Sl} {x : PV} {r : List PV} {h hf : PH} {zs : List PV} (e : lcL src g t m env (x :: r) h = .ok zs hf) : gd src h ∧ ∃ env1 c h1, g x env = some env1 ∧ t env1 h = .ok c h1 ∧
    ((c = false ∧ lcL src g t m env r h1 = .ok zs hf) ∨ (c = true ∧ ∃ y h2 ys, mM m env1 h1 = .ok y h2 ∧ lcL src g t m env r h2 = .ok ys hf ∧ zs = y :: ys)) := by
  unfold lcL at e
  by_cases hg : gd src h
  · rw [if_pos hg] at e
    refine ⟨hg, ?_⟩
    cases e1 : g x env with
    | none => simp only [e1] at e; cases e
    | some env1 =>
      simp only [e1] at e
      cases e2 : t env1 h with
      | ex c p h1 => simp only [e2] at e; cases e
      | bad => simp only [e2] at e; cases e
      | ok c h1 =>
        cases c with
        | false => simp only [e2] at e; exact ⟨env1, false, h1, rfl, e2, .inl ⟨rfl, e⟩⟩
        | true =>
          simp only [e2] at e
          cases e3 : mM m env1 h1 with
          | ex c p h2 => simp only [e3] at e; cases e
          | bad => simp only [e3] at e; cases e
          | ok y h2 =>
            simp only [e3] at e
            cases e4 : lcL src g t m env r h2 with
            | ex c p h3 => simp only [e4] at e; cases e
            | bad => simp only [e4] at e; cases e
            | ok ys h3 =>
              simp only [e4] at e
              cases e
              exact ⟨env1, true, h1, rfl, e2, .inr ⟨rfl, y, h2, ys, e3, e4, rfl⟩⟩
  · rw [if_neg hg] at e; cases e
theorem wipe_wipe {vs : List Nat} {σ : L2.St} : ∀ {ws : List Nat}, (∀ w ∈ ws, w ∈ vs) → wipe (wipe σ ws) vs = wipe σ vs
  | [], _ => rfl
  | w :: ws, h => by
    show wipe ((wipe σ ws).set w none) vs = _
    rw [wipe_set (h w List.mem_cons_self)]
    exact wipe_wipe fun z hz => h z (List.mem_cons_of_mem _ hz)
/-- a list that nobody knows is changed -/
theorem HR.poke {D : Addr} {vs ws : List V} (hr : HR W φ H h) (e : H D = some (.lst vs)) (n : ∀ n, φ n ≠ some D) : Keep W φ H φ (upd H D (.lst ws)) ∧ HR W φ (upd H D (.lst ws)) h := by
  have k : Keep W φ H φ (upd H D (.lst ws)) := by
    refine ⟨fun _ _ e => e, fun a us s => ?_, fun a us s => ?_, fun a fs s => ?_⟩
    · rcases s with (s | ⟨o, s⟩) | s
      · exact .inl (.inl (by rw [upd_ne (ne_of s e (by intro z; cases z))]; exact s))
      · exact .inl (.inr ⟨o, by rw [upd_ne (ne_of s e (by intro z; cases z))]; exact s⟩)
      · exact .inr s
    · rcases s with ⟨o, s⟩ | s
      · exact .inl ⟨o, by rw [upd_ne (ne_of s e (by intro z; cases z))]; exact s⟩
      · exact .inr s
    · rw [upd_ne (ne_of s e (by intro z; cases z))]; exact s
  exact ⟨k, hr.dom, hr.cod, hr.inj, fun m o a e1 e2 => (hr.obj m o a e1 e2).mono k (upd_ne fun z => by subst z; exact n m e2)⟩
theorem lc_ok {src : Src} {g : TgP} {js own : List Nat} {env1 : Sl} {h1 : PH} {J : It} (hj : ∀ j ∈ js, j ∈ own) (r1 : HR W φ H1 h1) (s1 : SR W φ H1 env1 σ) (w : Wk W J φ H1 src)
    (q : ResG W Wx (rE W) σ φ H1 ((lcL src g t m (wipeP env1 own) src.items h1).bind fun ys h2 => .ok (.lst ys) h2) Q) : ∀ D, H1 D = none →
    ∃ Wn : Nat → Nat → Hp → Prop, (∃ m, Wn 0 m (upd H1 D (.lst []))) ∧ ∀ i n H, Wn i n H → (J.stop i H ∧ Q (.ref D) H) ∨ (J.go i H ∧ ∃ Nx : Hp → Prop, (∀ H', Nx H' → ∃ n', n' < n ∧ Wn (i + 1) n' H') ∧
      ∀ x H', J.yld i H x H' → tGt W js g x (wipe σ own) H' fun σ2 H2 => wipe σ2 own = wipe σ own ∧ tT W Wx0 t σ2 H2 fun b H3 =>
        if b = true then tM W Wx0 (mM m) σ2 H3 fun y H4 => ∃ acc, H4 D = some (.lst acc) ∧ acc.length < sizeLine ∧ Nx (upd H4 D (.lst (acc ++ [y]))) else Nx H3) := by
  intro D hD
  cases el : lcL src g t m (wipeP env1 own) src.items h1 with
  | ex c p h2 =>
    -- a comprehension gives no error
    exfalso
    have no : ∀ (xs : List PV) (h : PH) c p h2, lcL src g t m (wipeP env1 own) xs h ≠ .ex c p h2 := by
      intro xs
      induction xs with
      | nil => intro h c p h2 e; unfold lcL at e; split at e <;> cases e
      | cons x r ih =>
        intro h c p h2 e
        unfold lcL at e
        split at e
        · split at e
          · cases e
          · split at e
            · split at e
              · split at e
                · cases e
                · cases e
              · cases e
            · exact ih _ _ _ _ e
            · cases e
        · cases e
    exact no _ _ _ _ _ el
  | bad => rw [el] at q; exact q.elim
  | ok zs hf =>
    rw [el] at q
    have q : ∀ φ' v H', Post φ H1 φ' H' → HR W φ' H' hf → RR W φ' H1 H' (.lst zs) v → Q v H' := q
    have sw := SR.wipe s1 own
    let St := fun (i : Nat) (H : Hp) => ∃ φ' h acc accV ys, Post φ H1 φ' H ∧ HR W φ' H h ∧ H D = some (.lst accV) ∧ (∀ n, φ' n ≠ some D) ∧ RepL W φ' H acc accV ∧ accV.length ≤ i ∧
      lcL src g t m (wipeP env1 own) (src.items.drop i) h = .ok ys hf ∧ zs = acc ++ ys
    refine ⟨fun i n H => n = src.items.length - i ∧ i ≤ src.items.length ∧ St i H, ⟨_, rfl, Nat.zero_le _, φ, h1, [], [], zs, .add hD, r1.add hD, upd_same, r1.free hD, .nil, Nat.le_refl _, el, rfl⟩, ?_⟩
    rintro i n H ⟨rfl, hi, φ', h, acc, accV, ys, p, r, eD, nD, ra, hl, ey, rfl⟩
    by_cases hlt : i < src.items.length
    · have ex := List.getElem?_eq_getElem hlt
      rw [drop_cons ex] at ey
      obtain ⟨hg, env2, c, h2, eg, et, rest⟩ := lcL_step ey
      refine .inr ⟨w.go i φ' H h p r hg hlt, fun H' => St (i + 1) H', fun H' n => ⟨_, by omega, rfl, hlt, n⟩, fun v H' y => ?_⟩
      obtain ⟨x, ex', e, rx⟩ := w.yld i φ' H h v H' p r hg hlt y
      subst e
      rw [ex] at ex'; cases ex'
      refine ⟨φ', wipeP env1 own, h, _, env2, sw.mono (p.k r1), r, rx, eg, fun σ2 s2 w2 => ⟨(w2 own hj).trans (wipe_wipe fun _ z => z), φ', env2, h, s2, r, ?_⟩⟩
      rw [et]
      intro φ3 b H3 p3 r3 eb
      cases eb
      have eD3 := p3.keep D _ eD nD
      have nD3 := p3.out eD nD
      have ra3 := ra.mono (p3.k r)
      rcases rest with ⟨rfl, ey'⟩ | ⟨rfl, z, h4, ys', em, ey', rfl⟩
      · rw [if_neg (by simp)]
        exact ⟨φ3, h2, acc, accV, ys, p.trans r p3, r3, eD3, nD3, ra3, by omega, ey', rfl⟩
      · rw [if_pos rfl]
        refine ⟨φ3, env2, h2, s2.mono (p3.k r), r3, ?_⟩
        rw [em]
        intro φ4 zv H4 p4 r4 rz
        have eD4 := p4.keep D _ eD3 nD3
        have nD4 := p4.out eD3 nD3
        have ra4 := ra3.mono (p4.k r3)
        obtain ⟨k5, r5⟩ := HR.poke (ws := accV ++ [zv]) r4 eD4 nD4
        have p6 : Post φ H1 φ4 (upd H4 D (.lst (accV ++ [zv]))) := by
          have p := (p.trans r p3).trans r3 p4
          refine ⟨p.sub, fun a o e n => ?_, p.new, fun a o u e => ?_⟩
          · rw [upd_ne (ne_of_none e hD)]
            exact p.keep a o e n
          · rw [upd_ne (ne_of_none e hD)]
            exact p.frz a o u e
        have sz := w.sz
        refine ⟨accV, eD4, by omega, φ4, h4, acc ++ [z], accV ++ [zv], ys', p6, r5, upd_same, nD4, (ra4.mono k5).append (.cons (Rep.mono k5 rz) .nil), by rw [List.length_append, List.length_singleton]; omega, ey', by simp⟩
    · have e : i = src.items.length := by omega
      subst e
      rw [List.drop_length] at ey
      unfold lcL at ey
      by_cases hg : gd src h
      · rw [if_pos hg] at ey
        cases ey
        refine .inl ⟨w.stop _ φ' H _ p r hg (Nat.le_refl _), q φ' _ H p r (.inr ⟨_, D, accV, rfl, rfl, eD, hD, nD, by rw [List.append_nil]; exact ra⟩)⟩
      · rw [if_neg hg] at ey; cases ey
theorem z_lc {elt iter : Expr} {ifs : List Expr} {scope : Scope} {own : List (Str × Nat)} {mi : MG Src} {g : TgP} {js : List Nat} (hc : X.calm = true) (hN : X.N.Nodup) (hi : PI X tg iter (tI W Wx mi)) (ok : BlkOk X.N X.env.scope scope own)
    (hg : ∀ (s : Shared) (H : Hp) (C : Addr) (cl : List (Str × Addr)) (fp : List Addr), PG (X.blk s H scope (compEnvC scope cl C X.env) fp) tg (tGt W js g)) (ht : ∀ (s : Shared) (H : Hp) (C : Addr) (cl : List (Str × Addr)) (fp : List Addr), PTs (X.blk s H scope (compEnvC scope cl C X.env) fp) ifs (tT W Wx0 t))
    (he : ∀ (s : Shared) (H : Hp) (C : Addr) (cl : List (Str × Addr)) (fp : List Addr), PE (X.blk s H scope (compEnvC scope cl C X.env) fp) elt (tE W Wx0 m)) (hs : ∀ x, foldedSetIterable iter X.env x = pure x) (hj : ∀ j ∈ js, j ∈ own.map (·.2)) :
    PE X (.ListComp elt [⟨tg, iter, ifs, 0⟩] scope pos) (tE W Wx (mLC mi g (own.map (·.2)) t m)) :=
  PE.imp (pe_lc hc hN hi ok hg ht (fun s H C cl fp => PE.m (he s H C cl fp)) hs) fun σ H Q ⟨φ, env, h, s, r, q⟩ =>
    (tb (R := rI W) s r q).mono fun J H1 ⟨φ1, h1, src, p1, s1, r1, w, q⟩ => lc_ok hj r1 s1 w q
theorem z_setLc {i : Nat} {y : Str} {py spos : Pos} {elt iter : Expr} {ifs : List Expr} {scope : Scope} {own : List (Str × Nat)} {mi : MG Src} {g : TgP} {js : List Nat} (hc : X.calm = true) (hN : X.N.Nodup) (hy : X.N[i]? = some y) (hyl : X.env.scope.names.lookup y = some .local)
    (hsw : swapsWith (.ListComp elt [⟨tg, iter, ifs, 0⟩] scope pos) (some (.Name y py)) spos.line X.env = pure true) (hi : PI X tg iter (tI W Wx mi)) (ok : BlkOk X.N X.env.scope scope own)
    (hg : ∀ (s : Shared) (H : Hp) (C : Addr) (cl : List (Str × Addr)) (fp : List Addr), PG (X.blk s H scope (compEnvC scope cl C X.env) fp) tg (tGt W js g)) (ht : ∀ (s : Shared) (H : Hp) (C : Addr) (cl : List (Str × Addr)) (fp : List Addr), PTs (X.blk s H scope (compEnvC scope cl C X.env) fp) ifs (tT W Wx0 t))
    (he : ∀ (s : Shared) (H : Hp) (C : Addr) (cl : List (Str × Addr)) (fp : List Addr), PE (X.blk s H scope (compEnvC scope cl C X.env) fp) elt (tE W Wx0 m)) (hs : ∀ x, foldedSetIterable iter X.env x = pure x) (hj : ∀ j ∈ js, j ∈ own.map (·.2)) :
    L2.PS X (.Assign [.Name y py] (.ListComp elt [⟨tg, iter, ifs, 0⟩] scope pos) spos) (tS W Wx (sSet i (mLC mi g (own.map (·.2)) t m))) :=
  PS.imp (ps_setLc (i := i) hc hN hy hyl hsw hi ok hg ht (fun s H C cl fp => PE.m (he s H C cl fp)) hs) fun D σ H ⟨φ, env, h, s, r, q⟩ => by
    have : tE W Wx (mLC mi g (own.map (·.2)) t m) σ H (fun x H1 => gName i x σ H1 D.nx) := by
      refine tE.mat ((sb (R := rM W) s r q).mono fun v H1 ⟨φ1, h1, a, p1, s1, r1, e1, q⟩ => q φ1 _ H1 .refl r1 (s1.set e1 i))
    obtain ⟨φ, env, h, s, r, q⟩ := this
    exact (tb (R := rI W) s r q).mono fun J H1 ⟨φ1, h1, src, p1, s1, r1, w, q⟩ => lc_ok hj r1 s1 w q
end
end Z
namespace Z
open PySem PySem.Spec PyProof.Rows L2
/-! ### [e for x in xs for y in ys]: the list that is made stands in the heap -/
open Classical in
noncomputable def lcI (k : Nat) (src : Src) (g : TgP) (t : MG Bool) (m : MG PV) (env : Sl) : List PV → PH → Option PH
  | [], h => if gd src h then some h else none
  | x :: r, h => if gd src h then (match g x env with
    | none => none
    | some env1 => match t env1 h with
      | .ok true h1 => (match mM m env1 h1 with
        | .ok y h2 => (match h2[k]? with
          | some (.lst acc) => if acc.length < SZ then lcI k src g t m env r (h2.set k (.lst (acc ++ [y]))) else none
          | _ => none)
        | _ => none)
      | .ok false h1 => lcI k src g t m env r h1
      | _ => none) else none
open Classical in
noncomputable def lcO (k : Nat) (src : Src) (g : TgP) (t : MG Bool) (mi1 : MG Src) (g1 : TgP) (vs1 : List Nat) (t1 : MG Bool) (m : MG PV) (env : Sl) : List PV → PH → Option PH
  | [], h => if gd src h then some h else none
  | x :: r, h => if gd src h then (match g x env with
    | none => none
    | some env1 => match t env1 h with
      | .ok true h1 => (match mi1 env1 h1 with
        | .ok src1 h2 => (match lcI k src1 g1 t1 m (wipeP env1 vs1) src1.items h2 with
          | some h3 => lcO k src g t mi1 g1 vs1 t1 m env r h3
          | none => none)
        | _ => none)
      | .ok false h1 => lcO k src g t mi1 g1 vs1 t1 m env r h1
      | _ => none) else none
noncomputable def mLC2 (mi : MG Src) (g : TgP) (own : List Nat) (t : MG Bool) (mi1 : MG Src) (g1 : TgP) (vs1 : List Nat) (t1 : MG Bool) (m : MG PV) : MG PV := fun env h => (mi env h).bind fun src h1 =>
  match lcO h1.length src g t mi1 g1 vs1 t1 m (wipeP env own) src.items (h1 ++ [.lst []]) with
  | some h2 => .ok (.ref h1.length) h2
  | none => .bad
section
variable {W : Wd} {Wx : WX} {X : Cx} {σ : L2.St} {φ : Emb} {H H0 H1 H2 : Hp} {h : PH} {tg tg1 : Expr} {m : MG PV} {t t1 : MG Bool} {pos : Pos} {Q : VK}
theorem lcI_step {k : Nat} {src : Src} {g : TgP} {env : Sl} {x : PV} {r : List PV} {h hf : PH} (e : lcI k src g t m env (x :: r) h = some hf) : gd src h ∧ ∃ env1 c h1, g x env = some env1 ∧ t env1 h = .ok c h1 ∧
    ((c = false ∧ lcI k src g t m env r h1 = some hf) ∨ (c = true ∧ ∃ y h2 acc, mM m env1 h1 = .ok y h2 ∧ h2[k]? = some (.lst acc) ∧ acc.length < SZ ∧ lcI k src g t m env r (h2.set k (.lst (acc ++ [y]))) = some hf)) := by
  unfold lcI at e
  split at e
  · rename_i hg
    refine ⟨hg, ?_⟩
    split at e
    · cases e
    · rename_i env1 eg
      split at e
      · rename_i h1 et
        split at e
        · rename_i y h2 em
          split at e
          · rename_i acc ek
            split at e
            · rename_i hl
              exact ⟨env1, true, h1, eg, et, .inr ⟨rfl, y, h2, acc, em, ek, hl, e⟩⟩
            · cases e
          · cases e
        · cases e
      · rename_i h1 et
        exact ⟨env1, false, h1, eg, et, .inl ⟨rfl, e⟩⟩
      · cases e
  · cases e
theorem lcO_step {k : Nat} {src : Src} {g : TgP} {mi1 : MG Src} {g1 : TgP} {vs1 : List Nat} {env : Sl} {x : PV} {r : List PV} {h hf : PH} (e : lcO k src g t mi1 g1 vs1 t1 m env (x :: r) h = some hf) :
    gd src h ∧ ∃ env1 c h1, g x env = some env1 ∧ t env1 h = .ok c h1 ∧ ((c = false ∧ lcO k src g t mi1 g1 vs1 t1 m env r h1 = some hf) ∨
      (c = true ∧ ∃ src1 h2 h3, mi1 env1 h1 = .ok src1 h2 ∧ lcI k src1 g1 t1 m (wipeP env1 vs1) src1.items h2 = some h3 ∧ lcO k src g t mi1 g1 vs1 t1 m env r h3 = some hf)) := by
  unfold lcO at e
  split at e
  · rename_i hg
    refine ⟨hg, ?_⟩
    split at e
    · cases e
    · rename_i env1 eg
      split at e
      · rename_i h1 et
        split at e
        · rename_i src1 h2 em
          split at e
          · rename_i h3 el
            exact ⟨env1, true, h1, eg, et, .inr ⟨rfl, src1, h2, h3, em, el, e⟩⟩
          · cases e
        · cases e
      · rename_i h1 et
        exact ⟨env1, false, h1, eg, et, .inl ⟨rfl, e⟩⟩
      · cases e
  · cases e
theorem put_lst' {n : Nat} {a : Addr} {ys : List PV} {us : List V} (hr : HR W φ H h) (e : φ n = some a) (nf : NF H a) (ru : RepL W φ H ys us) : HR W φ (upd H a (.lst us)) (h.set n (.lst ys)) ∧ Post φ H φ (upd H a (.lst us)) := by
  have p : Post φ H φ (upd H a (.lst us)) := .put e nf
  exact hr.put (u := .lst us) (o := .lst ys) e nf True.intro ⟨_, upd_same, ru.mono (p.k hr)⟩
theorem lc2_ok {src : Src} {g : TgP} {js own : List Nat} {mi1 : MG Src} {g1 : TgP} {vs1 : List Nat} {env1 : Sl} {h1 : PH} {J : It} (hj : ∀ j ∈ js, j ∈ own) (r1 : HR W φ H1 h1) (s1 : SR W φ H1 env1 σ) (w : Wk W J φ H1 src)
    (q : ResG W Wx (rE W) σ φ H1 (match lcO h1.length src g t mi1 g1 vs1 t1 m (wipeP env1 own) src.items (h1 ++ [.lst []]) with
      | some h2 => .ok (.ref h1.length) h2
      | none => .bad) Q) : ∀ D, H1 D = none →
    ∃ Wn : Nat → Nat → Hp → Prop, (∃ m, Wn 0 m (upd H1 D (.lst []))) ∧ ∀ i n H, Wn i n H → (J.stop i H ∧ Q (.ref D) H) ∨ (J.go i H ∧ ∃ Nx : Hp → Prop, (∀ H', Nx H' → ∃ n', n' < n ∧ Wn (i + 1) n' H') ∧
      ∀ x H', J.yld i H x H' → tGt W js g x (wipe σ own) H' fun σ2 H2 => wipe σ2 own = wipe σ own ∧ tT W Wx0 t σ2 H2 fun b H3 =>
        if b = true then tI W Wx0 mi1 σ2 H3 fun J1 H4 => ∃ W1 : Nat → Nat → Hp → Prop, (∃ m, W1 0 m H4) ∧ ∀ j k H, W1 j k H →
          (J1.stop j H ∧ Nx H) ∨ (J1.go j H ∧ ∃ Nx1 : Hp → Prop, (∀ H', Nx1 H' → ∃ k', k' < k ∧ W1 (j + 1) k' H') ∧ ∀ x H', J1.yld j H x H' → tGt W vs1 g1 x (wipe σ2 vs1) H' fun σ3 H5 => wipe σ3 vs1 = wipe σ2 vs1 ∧ tT W Wx0 t1 σ3 H5 fun b H6 =>
            if b = true then tM W Wx0 (mM m) σ3 H6 fun y H7 => ∃ acc, H7 D = some (.lst acc) ∧ acc.length < sizeLine ∧ Nx1 (upd H7 D (.lst (acc ++ [y]))) else Nx1 H6)
        else Nx H3) := by
  intro D hD
  cases el : lcO h1.length src g t mi1 g1 vs1 t1 m (wipeP env1 own) src.items (h1 ++ [.lst []]) with
  | none => rw [el] at q; exact q.elim
  | some hf =>
    rw [el] at q
    have q : ∀ φ' v H', Post φ H1 φ' H' → HR W φ' H' hf → RR W φ' H1 H' (.ref h1.length) v → Q v H' := q
    have sw := SR.wipe s1 own
    let K := h1.length
    let φ1 := ext φ h1.length D
    have a1 : HR W φ (upd H1 D (.lst [])) h1 := r1.add hD
    have b1 : Post φ H1 φ (upd H1 D (.lst [])) := .add hD
    have p1 : Post φ H1 φ1 (upd H1 D (.lst [])) := b1.know a1 hD
    have r1' : HR W φ1 (upd H1 D (.lst [])) (h1 ++ [.lst []]) := a1.know (r1.free hD) ⟨[], upd_same, .nil⟩
    let St := fun (i : Nat) (H : Hp) => ∃ φ' h, Post φ H1 φ' H ∧ HR W φ' H h ∧ φ' h1.length = some D ∧ lcO h1.length src g t mi1 g1 vs1 t1 m (wipeP env1 own) (src.items.drop i) h = some hf
    refine ⟨fun i n H => n = src.items.length - i ∧ i ≤ src.items.length ∧ St i H, ⟨_, rfl, Nat.zero_le _, φ1, _, p1, r1', ext_same, el⟩, ?_⟩
    rintro i n H ⟨rfl, hi, φ', h, p, r, eD, ey⟩
    by_cases hlt : i < src.items.length
    · have ex := List.getElem?_eq_getElem hlt
      rw [drop_cons ex] at ey
      obtain ⟨hg, env2, c, h2, eg, et, rest⟩ := lcO_step ey
      refine .inr ⟨w.go i φ' H h p r hg hlt, fun H' => St (i + 1) H', fun H' n => ⟨_, by omega, rfl, hlt, n⟩, fun v H' y => ?_⟩
      obtain ⟨x, ex', e, rx⟩ := w.yld i φ' H h v H' p r hg hlt y
      subst e
      rw [ex] at ex'; cases ex'
      refine ⟨φ', wipeP env1 own, h, _, env2, sw.mono (p.k r1), r, rx, eg, fun σ2 s2 w2 => ⟨(w2 own hj).trans (wipe_wipe fun _ z => z), φ', env2, h, s2, r, ?_⟩⟩
      rw [et]
      intro φ3 b H3 p3 r3 eb
      cases eb
      have s3 := s2.mono (p3.k r)
      have q3 := p.trans r p3
      have eD3 := p3.sub _ _ eD
      rcases rest with ⟨rfl, ey'⟩ | ⟨rfl, src1, h4, h5, em, ely, ey'⟩
      · rw [if_neg (by simp)]
        exact ⟨φ3, h2, q3, r3, eD3, ey'⟩
      · rw [if_pos rfl]
        refine ⟨φ3, env2, h2, s3, r3, ?_⟩
        rw [em]
        intro φ4 J1 H4 p4 r4 w1
        have w1 : Wk W J1 φ4 H4 src1 := w1
        have s4 := s3.mono (p4.k r3)
        have q4 := q3.trans r3 p4
        have eD4 := p4.sub _ _ eD3
        have sw4 := SR.wipe s4 vs1
        let St1 := fun (j : Nat) (H : Hp) => ∃ φ' h, Post φ4 H4 φ' H ∧ HR W φ' H h ∧ lcI h1.length src1 g1 t1 m (wipeP env2 vs1) (src1.items.drop j) h = some h5
        refine ⟨fun j k H => k = src1.items.length - j ∧ j ≤ src1.items.length ∧ St1 j H, ⟨_, rfl, Nat.zero_le _, φ4, h4, .refl, r4, ely⟩, ?_⟩
        rintro j k H ⟨rfl, hj1, φ5, h6, p5, r5, ez⟩
        by_cases hlt1 : j < src1.items.length
        · have ex1 := List.getElem?_eq_getElem hlt1
          rw [drop_cons ex1] at ez
          obtain ⟨hg1, env3, c1, h7, eg1, et1, rest1⟩ := lcI_step ez
          refine .inr ⟨w1.go j φ5 H h6 p5 r5 hg1 hlt1, fun H' => St1 (j + 1) H', fun H' n => ⟨_, by omega, rfl, hlt1, n⟩, fun v1 H' y1 => ?_⟩
          obtain ⟨x1, ex1', e1, rx1⟩ := w1.yld j φ5 H h6 v1 H' p5 r5 hg1 hlt1 y1
          subst e1
          rw [ex1] at ex1'; cases ex1'
          refine ⟨φ5, wipeP env2 vs1, h6, _, env3, sw4.mono (p5.k r4), r5, rx1, eg1, fun σ3 s5 w5 => ⟨(w5 vs1 fun _ z => z).trans (wipe_wipe fun _ z => z), φ5, env3, h6, s5, r5, ?_⟩⟩
          rw [et1]
          intro φ6 b1 H6 p6 r6 eb1
          cases eb1
          rcases rest1 with ⟨rfl, ez'⟩ | ⟨rfl, z, h8, acc, emm, eacc, hl, ez'⟩
          · rw [if_neg (by simp)]
            exact ⟨φ6, h7, p5.trans r5 p6, r6, ez'⟩
          · rw [if_pos rfl]
            refine ⟨φ6, env3, h7, s5.mono (p6.k r5), r6, ?_⟩
            rw [emm]
            intro φ7 zv H7 p7 r7 rz
            have q7 := (p5.trans r5 p6).trans r6 p7
            have eD7 := q7.sub _ _ eD4
            obtain ⟨accV, eV, rl⟩ := r7.obj _ _ _ eacc eD7
            obtain ⟨r8, p8⟩ := put_lst' r7 eD7 (nf_lst eV) (rl.append (.cons rz .nil))
            exact ⟨accV, eV, by rw [← rl.length, sizeLine_eq]; exact hl, φ7, _, q7.trans r7 p8, r8, ez'⟩
        · have e : j = src1.items.length := by omega
          subst e
          rw [List.drop_length] at ez
          unfold lcI at ez
          by_cases hg1 : gd src1 h6
          · rw [if_pos hg1] at ez
            cases ez
            exact .inl ⟨w1.stop _ φ5 H _ p5 r5 hg1 (Nat.le_refl _), φ5, _, q4.trans r4 p5, r5, p5.sub _ _ eD4, ey'⟩
          · rw [if_neg hg1] at ez; cases ez
    · have e : i = src.items.length := by omega
      subst e
      rw [List.drop_length] at ey
      unfold lcO at ey
      by_cases hg : gd src h
      · rw [if_pos hg] at ey
        cases ey
        refine .inl ⟨w.stop _ φ' H _ p r hg (Nat.le_refl _), q φ' _ H p r (.inl ?_)⟩
        rw [Rep]
        exact ⟨D, rfl, eD⟩
      · rw [if_neg hg] at ey; cases ey
theorem z_lc2 {elt iter iter1 : Expr} {ifs ifs1 : List Expr} {scope : Scope} {own : List (Str × Nat)} {mi mi1 : MG Src} {g g1 : TgP} {js vs1 : List Nat} (hc : X.calm = true) (hN : X.N.Nodup) (hi : PI X tg iter (tI W Wx mi)) (ok : BlkOk X.N X.env.scope scope own) (hv : ∀ i ∈ vs1, i ∈ own.map (·.2))
    (hg : ∀ (s : Shared) (H : Hp) (C : Addr) (cl : List (Str × Addr)) (fp : List Addr), PG (X.blk s H scope (compEnvC scope cl C X.env) fp) tg (tGt W js g)) (ht : ∀ (s : Shared) (H : Hp) (C : Addr) (cl : List (Str × Addr)) (fp : List Addr), PTs (X.blk s H scope (compEnvC scope cl C X.env) fp) ifs (tT W Wx0 t))
    (hi1 : ∀ (s : Shared) (H : Hp) (C : Addr) (cl : List (Str × Addr)) (fp : List Addr), PI (X.blk s H scope (compEnvC scope cl C X.env) fp) tg1 iter1 (tI W Wx0 mi1))
    (hg1 : ∀ (s : Shared) (H : Hp) (C : Addr) (cl : List (Str × Addr)) (fp : List Addr), PG (X.blk s H scope (compEnvC scope cl C X.env) fp) tg1 (tGt W vs1 g1)) (ht1 : ∀ (s : Shared) (H : Hp) (C : Addr) (cl : List (Str × Addr)) (fp : List Addr), PTs (X.blk s H scope (compEnvC scope cl C X.env) fp) ifs1 (tT W Wx0 t1))
    (he : ∀ (s : Shared) (H : Hp) (C : Addr) (cl : List (Str × Addr)) (fp : List Addr), PE (X.blk s H scope (compEnvC scope cl C X.env) fp) elt (tE W Wx0 m)) (hs : ∀ x, foldedSetIterable iter X.env x = pure x) (hs1 : ∀ env x, foldedSetIterable iter1 env x = pure x) (hj : ∀ j ∈ js, j ∈ own.map (·.2)) :
    PE X (.ListComp elt [⟨tg, iter, ifs, 0⟩, ⟨tg1, iter1, ifs1, 0⟩] scope pos) (tE W Wx (mLC2 mi g (own.map (·.2)) t mi1 g1 vs1 t1 m)) :=
  PE.imp (pe_lc2 hc hN hi ok hv hg ht hi1 hg1 ht1 (fun s H C cl fp => PE.m (he s H C cl fp)) hs hs1) fun σ H Q ⟨φ, env, h, s, r, q⟩ =>
    (tb (R := rI W) s r q).mono fun J H1 ⟨φ1, h1, src, p1, s1, r1, w, q⟩ => lc2_ok hj r1 s1 w q
end
end Z
namespace Z
open PySem PySem.Spec PyProof.Rows L2
/-! ### a loop over a dict's keys: the dict is locked while it runs -/
def ItF (d : Addr) (o : Obj) (u : HO) (vs : List V) : It :=
  ⟨fun i H => H d = some (.frz o u) ∧ i < vs.length, fun i H v H' => H' = H ∧ vs[i]? = some v, fun i H => H d = some (.frz o u) ∧ vs.length ≤ i⟩
theorem pairG {α β : Type} {F : α → β → Prop} {xs : List α} {ys : List β} (r : Paired F xs ys) : ∀ {i : Nat} {x : α}, xs[i]? = some x → ∃ y, ys[i]? = some y ∧ F x y := by
  induction r with
  | nil => intro i x e; simp at e
  | cons h t ih =>
    intro i x e
    cases i with
    | zero => simp at e; subst e; exact ⟨_, rfl, h⟩
    | succ i => exact ih (by simpa using e)
theorem turn_keysF {P : Program} {w : World} {K : PySem.W.Frag} {tg : Expr} {d : Addr} {o : Obj} {u : HO} {es : Array DictEntry} {ep : Nat} {rs : List (NestedKey × V × V)} {w' : World} (it : Addr) (hod : o.data = .dict es ep) (hsz : es.size = rs.length)
    (pr : Paired (fun (r : NestedKey × V × V) (e : DictEntry) => e.hash = r.1.hash w' ∧ RelV r.2.1 e.key ∧ RelV r.2.2 e.val) rs es.toList) :
    Turn P w K tg (ItF d o u (rs.map (·.2.1))) [it] it (fun i h => h.IsKeyIter it d i rs.length ep) where
  mem := by simp
  obj := fun i h st b hb => by
    have e : b = it := by simpa using hb
    subst e
    obtain ⟨oi, e, c, dd⟩ := st
    exact ⟨oi, e, fun v z => by rw [dd] at z; cases z⟩
  keep := fun i h h' st k => st.at fun oi e => k it (by simp) oi e
  item := by
    intro X hP hw hK hc i pins s σ H E I hf st hg
    subst hP hw hK
    obtain ⟨hd, hi⟩ := hg
    obtain ⟨f0, f1, f2, f3, f4, f5⟩ := hf it (by simp)
    obtain ⟨hgd, _⟩ := (show ObjOk X.prog X.w H s.heap d (.frz o u) from I.hok d _ hd)
    rw [List.length_map] at hi
    have er := List.getElem?_eq_getElem hi
    obtain ⟨en, hen, _, hk, _⟩ := pairG pr er
    refine next_key_item st hgd hod hsz (by rw [← Array.getElem?_toList]; exact hen) fun h' st' sb => ?_
    have I1 : Inv X pins σ H { s with heap := h' } := I.turned (t' := s.toks) (fun b ob hb e => (sb.2 b hb).trans e) f0 f1 f3 f4 f5
    obtain ⟨oi, e, c, dd⟩ := id st'
    exact ⟨en.key, rfl, go_of (s := { s with heap := h' }) e c dd (by decide) ⟨rs[i].2.1, H, I1, hk, ⟨rfl, by rw [List.getElem?_map, er]; rfl⟩, st', fun b hb => (hf b hb).1⟩⟩
  done := by
    intro X hP hw hK hc i pins s σ H E I hf st hg
    subst hP hw hK
    obtain ⟨hd, hi⟩ := hg
    obtain ⟨f0, f1, f2, f3, f4, f5⟩ := hf it (by simp)
    obtain ⟨hgd, _⟩ := (show ObjOk X.prog X.w H s.heap d (.frz o u) from I.hok d _ hd)
    rw [List.length_map] at hi
    exact next_key_end (I.ok.hd hc) st hgd hod hsz hi fun h' eb => ⟨rfl, I.turned (t' := s.toks) (fun b ob hb e => eb b ob hb e) f0 f1 f3 f4 f5⟩
  self := fun A i s Q E st h => wpAny_pyIter_keyiter st h
def iKeys (m : MG PV) : MG Src := fun env h => (m env h).bind fun x h1 => match x with
  | .ref n => (match h1[n]? with
    | some (.fdc kvs) => .ok ⟨kvs.map (·.1), none⟩ h1
    | _ => .bad)
  | _ => .bad
/-- unlocked at the end -/
def thawS (n : Nat) (kvs : List (PV × PV)) : RS → RS
  | .nx env h => (match h[n]? with
    | some (.fdc _) => .nx env (h.set n (.dct kvs))
    | _ => .bad)
  | .rt x h => (match h[n]? with
    | some (.fdc _) => .rt x (h.set n (.dct kvs))
    | _ => .bad)
  | _ => .bad
noncomputable def sForD (m : MG PV) (g : TgP) (b : MS) : MS := fun env h => match m env h with
  | .ok (.ref n) _ => (match h[n]? with
    | some (.dct kvs) => thawS n kvs (sFor (iKeys m) g b env (h.set n (.fdc kvs)))
    | _ => .bad)
  | _ => .bad
section
variable {W : Wd} {Wx : WX} {X : Cx} {σ : L2.St} {φ φ' : Emb} {H H' H0 H1 H2 : Hp} {h h' : PH} {e e1 e2 tg : Expr} {m m1 m2 : MG PV} {t t1 t2 : MG Bool} {pos : Pos} {Q : VK} {D : Ends} {a b : MS}
theorem z_ikeys (hK : X.K = W.K) (hw : X.w = W.w) (he : PE X e (tE W Wx m)) : PI X tg e (tI W Wx (iKeys m)) := by
  refine ⟨fun pins s σ H R I ⟨φ, env, h, sr, r, q⟩ => ?_⟩
  refine thn (he.run pins s σ H _ I (tb (R := rE W) sr r q)) fun u s1 ⟨v, H1, I1, ru, φ1, h1, x, p1, s1', r1, e1, q⟩ => ?_
  cases x with
  | ref n =>
    have e1 := e1.rep (fun _ => by simp)
    rw [Rep] at e1
    obtain ⟨d, rfl, hn⟩ := e1
    cases ru
    dsimp only at q
    split at q
    · rename_i kvs eo
      obtain ⟨od, rs, hd, nd, hl, pr⟩ := r1.obj n _ d eo hn
      obtain ⟨hgd, ⟨h0, o', es, ep, ho, hx, hdt, pe⟩, _⟩ := I1.hok d _ hd
      rw [hgd] at ho; cases ho
      have hsz : es.size = rs.length := by
        have := Paired.length pe
        rw [Array.length_toList] at this
        exact this.symm
      have hkr : kvs.length = rs.length := Paired.length pr
      refine iter_keys h0 hgd hx hdt (pi_one (tk := s1.toks) I1 _ (turn_keysF (u := .ext (DF W.w d rs)) _ hdt hsz pe) ⟨_, Heap.get?_push_size _ rfl, rfl, by rw [hsz] <;> rfl⟩ ?_)
      refine q φ1 _ H1 .refl r1 ?_
      have e0 : (kvs.map fun p => p.1).length = kvs.length := List.length_map ..
      refine ⟨fun i φ' H' h' p r' _ hi => ⟨p.frz _ _ _ hd, ?_⟩, fun i φ' H' h' v H'' p r' _ hi y => ?_, fun i φ' H' h' p r' _ hi => ⟨p.frz _ _ _ hd, ?_⟩, ?_⟩
      · rw [List.length_map]
        have hi : i < (kvs.map fun p => p.1).length := hi
        omega
      · obtain ⟨rfl, ev⟩ := y
        have hi : i < (kvs.map fun p => p.1).length := hi
        have ek := List.getElem?_eq_getElem (l := kvs) (i := i) (by omega)
        obtain ⟨r0, er0, z⟩ := pairG pr ek
        rw [List.getElem?_map, er0] at ev
        cases ev
        exact ⟨kvs[i].1, by rw [List.getElem?_map, ek]; rfl, rfl, z.2.1.mono (p.k r1)⟩
      · rw [List.length_map]
        have hi : (kvs.map fun p => p.1).length ≤ i := hi
        omega
      · rw [e0, sizeLine_eq]; omega
    · exact q.elim
  | _ => exact q.elim
theorem keep_lock {d : Addr} {n : Nat} {u : HO} (r : HR W φ H h) (e : φ n = some d) (k : ∀ b, b ≠ d → H' b = H b) : Keep W φ H φ H' := by
  obtain ⟨u0, hu0, c0⟩ := r.chg e
  have ne : ∀ b w, H b = some w → ¬ Chg w → b ≠ d := fun b w q c z => by
    subst z
    rw [hu0] at q; cases q; exact c c0
  refine ⟨fun _ _ q => q, fun b vs s => ?_, fun b vs s => ?_, fun b fs s => ?_⟩
  · rcases s with (s | ⟨o, s⟩) | s
    · exact .inl (.inl ((k b (ne b _ s (fun z => z))).trans s))
    · exact .inl (.inr ⟨o, (k b (ne b _ s (fun z => z))).trans s⟩)
    · exact .inr s
  · rcases s with ⟨o, s⟩ | s
    · exact .inl ⟨o, (k b (ne b _ s (fun z => z))).trans s⟩
    · exact .inr s
  · exact (k b (ne b _ s (fun z => z))).trans s
/-- another object at d, the rest as it was -/
theorem HR.swap {d : Addr} {n : Nat} {o : OB} (r : HR W φ H h) (e : φ n = some d) (k : ∀ b, b ≠ d → H' b = H b) (x : OR W φ H' d o) : HR W φ H' (h.set n o) := by
  have kp := keep_lock (u := .own 0) r e k
  refine ⟨fun m hm => r.dom m (by rwa [List.length_set] at hm), fun m b q => by rw [List.length_set]; exact r.cod m b q, r.inj, fun m w b e1 e2 => ?_⟩
  by_cases q : m = n
  · subst q
    rw [e] at e2; cases e2
    rw [List.getElem?_set_self (r.cod m _ e)] at e1
    cases e1
    exact x
  · rw [List.getElem?_set_ne (Ne.symm q)] at e1
    refine (r.obj m w b e1 e2).mono kp (k b fun z => ?_)
    subst z
    exact q (r.inj m n _ e2 e)
theorem lock_ok {n : Nat} {env : Sl} {kvs : List (PV × PV)} {mb : MS} (s : SR W φ H env σ) (r : HR W φ H h) (eo : h[n]? = some (.dct kvs)) (q : ResS W Wx φ H (thawS n kvs (mb env (h.set n (.fdc kvs)))) D) : tLock (tS W Wx mb) D σ H := by
  have hn : n < h.length := by
    by_cases c : n < h.length
    · exact c
    · rw [List.getElem?_eq_none (by omega)] at eo; cases eo
  obtain ⟨d, hd⟩ := r.dom n hn
  obtain ⟨rs, e0, x1, x2, x3⟩ := r.obj n _ d eo hd
  refine ⟨d, _, e0, True.intro, fun od => ?_⟩
  have kf : ∀ b, b ≠ d → (upd H d (.frz od (.ext (DF W.w d rs)))) b = H b := fun b hb => upd_ne hb
  have kp := keep_lock (u := .own 0) r hd kf
  have rf : HR W φ (upd H d (.frz od (.ext (DF W.w d rs)))) (h.set n (.fdc kvs)) := r.swap hd kf ⟨od, rs, upd_same, x1, x2, Paired.mapP x3 fun _ _ z => ⟨z.1, z.2.1.mono kp, z.2.2.mono kp⟩⟩
  refine ⟨φ, env, _, s.mono kp, rf, ?_⟩
  -- back
  have back : ∀ {φ' : Emb} {H' : Hp} {h2 : PH} {x : List (PV × PV)}, h2[n]? = some (.fdc x) → Post φ (upd H d (.frz od (.ext (DF W.w d rs)))) φ' H' → HR W φ' H' h2 →
      H' d = some (.frz od (.ext (DF W.w d rs))) ∧ Post φ H φ' (upd H' d (.ext (DF W.w d rs))) ∧ HR W φ' (upd H' d (.ext (DF W.w d rs))) (h2.set n (.dct kvs)) ∧ Keep W φ' H' φ' (upd H' d (.ext (DF W.w d rs))) := by
    intro φ' H' h2 x ex p r'
    have hd' := p.sub n d hd
    have hH : H' d = some (.frz od (.ext (DF W.w d rs))) := p.frz d _ _ upd_same
    have kb : ∀ b, b ≠ d → (upd H' d (.ext (DF W.w d rs))) b = H' b := fun b hb => upd_ne hb
    have kk := keep_lock (u := .own 0) r' hd' kb
    have pp : Post φ H φ' (upd H' d (.ext (DF W.w d rs))) := by
      refine ⟨p.sub, fun b w e z => ?_, fun m b e => ?_, fun b o w e => ?_⟩
      · have nb : b ≠ d := fun y => z n (by rw [y]; exact hd)
        rw [kb b nb]
        exact p.keep b w ((kf b nb).trans e) z
      · rcases p.new m b e with z | z
        · exact .inl z
        · refine .inr ?_
          have nb : b ≠ d := fun y => by rw [y, upd_same] at z; cases z
          rw [← kf b nb]; exact z
      · have nb : b ≠ d := fun y => by rw [y, e0] at e; cases e
        rw [kb b nb]
        exact p.frz b o w ((kf b nb).trans e)
    refine ⟨hH, pp, r'.swap hd' kb ⟨rs, upd_same, x1, x2, Paired.mapP x3 fun _ _ z => ⟨z.1, z.2.1.mono (pp.k r), z.2.2.mono (pp.k r)⟩⟩, kk⟩
  revert q
  cases mb env (h.set n (.fdc kvs)) with
  | nx env2 h2 =>
    intro q
    unfold thawS at q
    dsimp only at q
    split at q
    · rename_i x ex
      intro φ' σ' H' p r' s'
      obtain ⟨b1, b2, b3, b4⟩ := back ex p r'
      exact ⟨b1, q φ' σ' _ b2 b3 (s'.mono b4)⟩
    · exact q.elim
  | rt y h2 =>
    intro q
    unfold thawS at q
    dsimp only at q
    split at q
    · rename_i x ex
      intro φ' v H' p r' rv
      obtain ⟨b1, b2, b3, b4⟩ := back ex p r'
      refine ⟨b1, q φ' v _ b2 b3 ?_⟩
      rcases rv with rv | ⟨xs, a, vs, e1, e2, e3, e4, e5, e6⟩
      · exact .inl (rv.mono b4)
      · have na : a ≠ d := fun z => e5 n (by rw [z]; exact p.sub n d hd)
        exact .inr ⟨xs, a, vs, e1, e2, (upd_ne na).trans e3, (kf a na).symm.trans e4, e5, e6.mono b4⟩
    · exact q.elim
  | _ => intro q; exact q.elim
theorem z_forD {iter : Expr} {body : List Stmt} {g : TgP} {js : List Nat} (hK : X.K = W.K) (hw : X.w = W.w) (hp : PassesOwn (model X.prog X.w) X.A X.env X.xe) (hc : X.calm = true) (he : PE X iter (tE W Wx m)) (hg : PG X tg (tGt W js g)) (hb : PSs X body (tS W Wx b))
    (hs : ∀ x, foldedSetIterable iter X.env x = pure x) : L2.PS X (.For tg iter body [] pos) (tS W Wx (sForD m g b)) := by
  refine PS.imp (ps_lock (z_for (pos := pos) hp hc (z_ikeys hK hw he) hg hb hs)) fun D σ H ⟨φ, env, h, s, r, q⟩ => ?_
  unfold sForD at q
  split at q
  · rename_i n _ _
    split at q
    · rename_i kvs eo
      exact lock_ok s r eo q
    · exact q.elim
  · exact q.elim
end
end Z
namespace Z
open PySem PySem.Spec PyProof.Rows L2

/-! ### what a call leaves behind is forgotten -/
mutual
def clV (n : Nat) : PV → Bool
  | .non => true
  | .bl _ => true
  | .int _ => true
  | .str _ => true
  | .tup xs => clL n xs
  | .ro xs => clL n xs
  | .lst xs => clL n xs
  | .ref m => decide (m < n)
  | .exn _ p => clV n p
def clL (n : Nat) : List PV → Bool
  | [] => true
  | x :: xs => clV n x && clL n xs
end
def clF (n : Nat) : List (Nat × PV) → Bool
  | [] => true
  | p :: xs => clV n p.2 && clF n xs
def clO (n : Nat) : OB → Bool
  | .lst xs => clL n xs
  | .ins _ fs => clF n fs
  | .dct kvs => kvs.all fun p => clV n p.1 && clV n p.2
  | .fdc kvs => kvs.all fun p => clV n p.1 && clV n p.2
def gcC (h h' : PH) : Prop := h.length ≤ h'.length ∧ ∀ m, m < h.length → h'[m]? = h[m]? ∨ ∃ o, h'[m]? = some o ∧ clO h.length o = true
/-- a new list that is handed back -/
def gcX (n : Nat) (x : PV) (h' : PH) : Option PV :=
  if clV n x = true then some x else match x with
    | .ref k => (match h'[k]? with
      | some (.lst xs) => if n ≤ k ∧ clL n xs = true then some (.lst xs) else none
      | _ => none)
    | _ => none
open Classical in
noncomputable def gcR (h : PH) (r : RG PV) : RG PV := match r with
  | .ok x h' => if gcC h h' then (match gcX h.length x h' with
    | some y => .ok y (h'.take h.length)
    | none => .ok x h') else .ok x h'
  | .ex c p h' => if gcC h h' ∧ clV h.length p = true then .ex c p (h'.take h.length) else .ex c p h'
  | .bad => .bad
def startP (n : Nat) (xs : List PV) : Sl := xs.map some ++ List.replicate (n - xs.length) none
def fin (r : RS) : RG PV := match r with
  | .nx _ h => .ok .non h
  | .rt x h => .ok x h
  | .ex c p _ h => .ex c p h
  | _ => .bad
/-- what a def computes: n names, the body b -/
noncomputable def semD (n : Nat) (b : MS) (xs : List PV) (h : PH) : RG PV := gcR h (fin (b (startP n xs) h))
def Wd.spZ (W : Wd) (n : Nat) (sem : List PV → PH → RG PV) : Sp := fun vs H Q E => ∃ φ h xs, xs.length = n ∧ RepL W φ H xs vs ∧ HR W φ H h ∧ ResG W (fun cls d _ H => E cls d H) (rE W) [] φ H (sem xs h) Q
structure FnI where
  name : Str
  ps : List Str
  dvs : List PV
  k : Nat
  sem : List PV → PH → RG PV
section
variable {W : Wd} {Wx : WX} {X : Cx} {σ : L2.St} {φ φ' φ'' : Emb} {H H' H0 H1 H2 : Hp} {h h' : PH} {e e1 e2 tg : Expr} {m m1 m2 : MG PV} {t t1 t2 : MG Bool} {pos : Pos} {Q : VK} {D : Ends} {a b : MS}
mutual
theorem Rep.cl (hr : HR W φ H h) : ∀ {x : PV} {v : V}, Rep W φ H x v → clV h.length x = true
  | .non, v, _ => rfl
  | .bl _, v, _ => rfl
  | .int _, v, _ => rfl
  | .str _, v, _ => rfl
  | .tup xs, v, r => by
    rw [Rep] at r
    obtain ⟨_, _, _, _, r⟩ := r
    rw [clV]; exact RepL.cl hr r
  | .ro xs, v, r => by
    rw [Rep] at r
    obtain ⟨_, _, _, _, r⟩ := r
    rw [clV]; exact RepL.cl hr r
  | .lst xs, v, r => by rw [Rep] at r; exact r.elim
  | .ref n, v, r => by
    rw [Rep] at r
    obtain ⟨a, _, r⟩ := r
    rw [clV]; exact decide_eq_true (hr.cod n a r)
  | .exn c p, v, r => by
    rw [Rep] at r
    obtain ⟨_, _, _, _, _, _, r⟩ := r
    rw [clV]; exact Rep.cl hr r
theorem RepL.cl (hr : HR W φ H h) : ∀ {x : List PV} {v : List V}, RepL W φ H x v → clL h.length x = true
  | [], v, _ => rfl
  | x :: xs, v, r => by
    rw [RepL] at r
    obtain ⟨_, _, _, r1, r2⟩ := r
    rw [clL, Rep.cl hr r1, RepL.cl hr r2]; rfl
end
theorem RepF.cl (hr : HR W φ H h) : ∀ {x : List (Nat × PV)} {v : List (Str × V)}, RepF W φ H x v → clF h.length x = true
  | [], v, _ => rfl
  | (k, x) :: xs, v, r => by
    unfold RepF at r
    obtain ⟨_, _, _, r1, r2⟩ := r
    unfold clF
    rw [Rep.cl hr r1, RepF.cl hr r2]; rfl
theorem OR.cl (hr : HR W φ H h) {a : Addr} {o : OB} (x : OR W φ H a o) : clO h.length o = true := by
  cases o with
  | lst xs => obtain ⟨_, _, r⟩ := x; exact r.cl hr
  | ins c fs => obtain ⟨_, _, _, r⟩ := x; exact r.cl hr
  | dct kvs =>
    obtain ⟨_, _, _, _, r⟩ := x
    refine List.all_eq_true.mpr fun p hp => ?_
    obtain ⟨q, z⟩ := pairedL r p hp
    rw [z.2.1.cl hr, z.2.2.cl hr]; rfl
  | fdc kvs =>
    obtain ⟨_, _, _, _, _, r⟩ := x
    refine List.all_eq_true.mpr fun p hp => ?_
    obtain ⟨q, z⟩ := pairedL r p hp
    rw [z.2.1.cl hr, z.2.2.cl hr]; rfl
mutual
theorem Rep.low {n : Nat} (k : ∀ m, m < n → φ'' m = φ' m) : ∀ {x : PV} {v : V}, clV n x = true → Rep W φ' H x v → Rep W φ'' H x v
  | .non, v, _, r => by rw [Rep] at r ⊢; exact r
  | .bl _, v, _, r => by rw [Rep] at r ⊢; exact r
  | .int _, v, _, r => by rw [Rep] at r ⊢; exact r
  | .str _, v, _, r => by rw [Rep] at r ⊢; exact r
  | .tup xs, v, c, r => by
    rw [clV] at c
    rw [Rep] at r ⊢
    obtain ⟨x1, x2, x3, x4, r⟩ := r
    exact ⟨x1, x2, x3, x4, RepL.low k c r⟩
  | .ro xs, v, c, r => by
    rw [clV] at c
    rw [Rep] at r ⊢
    obtain ⟨x1, x2, x3, x4, r⟩ := r
    exact ⟨x1, x2, x3, x4, RepL.low k c r⟩
  | .lst xs, v, _, r => by rw [Rep] at r; exact r.elim
  | .ref n, v, c, r => by
    rw [clV] at c
    rw [Rep] at r ⊢
    obtain ⟨a, x, r⟩ := r
    exact ⟨a, x, by rw [k _ (of_decide_eq_true c)]; exact r⟩
  | .exn c p, v, cc, r => by
    rw [clV] at cc
    rw [Rep] at r ⊢
    obtain ⟨x1, x2, x3, x4, x5, x6, r⟩ := r
    exact ⟨x1, x2, x3, x4, x5, x6, Rep.low k cc r⟩
theorem RepL.low {n : Nat} (k : ∀ m, m < n → φ'' m = φ' m) : ∀ {x : List PV} {v : List V}, clL n x = true → RepL W φ' H x v → RepL W φ'' H x v
  | [], v, _, r => by rw [RepL] at r ⊢; exact r
  | x :: xs, v, c, r => by
    rw [clL] at c
    rw [RepL] at r ⊢
    obtain ⟨x1, x2, x3, r1, r2⟩ := r
    have c := Bool.and_eq_true_iff.mp c
    exact ⟨x1, x2, x3, Rep.low k c.1 r1, RepL.low k c.2 r2⟩
end
theorem RepF.low {n : Nat} (k : ∀ m, m < n → φ'' m = φ' m) : ∀ {x : List (Nat × PV)} {v : List (Str × V)}, clF n x = true → RepF W φ' H x v → RepF W φ'' H x v
  | [], v, _, r => by unfold RepF at r ⊢; exact r
  | (i, x) :: xs, v, c, r => by
    unfold clF at c
    unfold RepF at r ⊢
    obtain ⟨x1, x2, x3, r1, r2⟩ := r
    have c := Bool.and_eq_true_iff.mp c
    exact ⟨x1, x2, x3, r1.low k c.1, RepF.low k c.2 r2⟩
theorem OR.low {n : Nat} (k : ∀ m, m < n → φ'' m = φ' m) {a : Addr} {o : OB} (c : clO n o = true) (x : OR W φ' H a o) : OR W φ'' H a o := by
  cases o with
  | lst xs => obtain ⟨x1, x2, r⟩ := x; exact ⟨x1, x2, r.low k c⟩
  | ins c fs => obtain ⟨x1, x2, x3, r⟩ := x; exact ⟨x1, x2, x3, r.low k c⟩
  | dct kvs =>
    obtain ⟨x1, x2, x3, x4, r⟩ := x
    refine ⟨x1, x2, x3, x4, pairedM r fun p q hp z => ?_⟩
    have c := Bool.and_eq_true_iff.mp (List.all_eq_true.mp c p hp)
    exact ⟨z.1, z.2.1.low k c.1, z.2.2.low k c.2⟩
  | fdc kvs =>
    obtain ⟨x0, x1, x2, x3, x4, r⟩ := x
    refine ⟨x0, x1, x2, x3, x4, pairedM r fun p q hp z => ?_⟩
    have c := Bool.and_eq_true_iff.mp (List.all_eq_true.mp c p hp)
    exact ⟨z.1, z.2.1.low k c.1, z.2.2.low k c.2⟩
/-- φ below n -/
def low (φ : Emb) (n : Nat) : Emb := fun m => if m < n then φ m else none
theorem low_lt {n m : Nat} (hm : m < n) : low φ n m = φ m := if_pos hm
theorem low_some {n m : Nat} {a : Addr} (e : low φ n m = some a) : m < n ∧ φ m = some a := by
  unfold low at e
  by_cases hm : m < n
  · rw [if_pos hm] at e; exact ⟨hm, e⟩
  · rw [if_neg hm] at e; cases e
theorem gc_keep (hr : HR W φ H h) (p : Post φ H φ' H') (r' : HR W φ' H' h') (c : gcC h h') : Post φ H (low φ' h.length) H' ∧ HR W (low φ' h.length) H' (h'.take h.length) := by
  have hl : (h'.take h.length).length = h.length := by rw [List.length_take]; exact Nat.min_eq_left c.1
  refine ⟨⟨fun m a e => ?_, p.keep, fun m a e => p.new m a (low_some e).2, p.frz⟩, ⟨fun m hm => ?_, fun m a e => ?_, fun m k a e1 e2 => r'.inj m k a (low_some e1).2 (low_some e2).2, fun m o a e1 e2 => ?_⟩⟩
  · rw [low_lt (hr.cod m a e)]; exact p.sub m a e
  · rw [hl] at hm
    rw [low_lt hm]
    exact r'.dom m (Nat.lt_of_lt_of_le hm c.1)
  · rw [hl]; exact (low_some e).1
  · obtain ⟨hm, e3⟩ := low_some e2
    rw [List.getElem?_take_of_lt hm] at e1
    have x := r'.obj m o a e1 e3
    refine x.low (fun k hk => low_lt hk) ?_
    rcases c.2 m hm with q | ⟨o', q, q2⟩
    · rw [e1] at q
      obtain ⟨b, hb⟩ := hr.dom m hm
      exact (hr.obj m o b q.symm hb).cl hr
    · rw [e1] at q; cases q; exact q2
theorem gc_ok {r : RG PV} (hr : HR W φ H h) (q : ResG W Wx (rE W) σ φ H (gcR h r) Q) : ResG W Wx (rE W) σ φ H r Q := by
  cases r with
  | bad => exact q
  | ok x h' =>
    unfold gcR at q
    dsimp only at q
    by_cases c : gcC h h'
    · rw [if_pos c] at q
      cases e : gcX h.length x h' with
      | none => rw [e] at q; exact q
      | some y =>
        rw [e] at q
        intro φ' v H' p r' rv
        obtain ⟨p2, r2⟩ := gc_keep hr p r' c
        refine q _ v H' p2 r2 ?_
        unfold gcX at e
        by_cases hc : clV h.length x = true
        · rw [if_pos hc] at e
          cases e
          rcases rv with rv | ⟨xs, a, vs, rfl, rfl, e3, e4, e5, e6⟩
          · exact .inl (rv.low (fun k hk => low_lt hk) hc)
          · exact .inr ⟨xs, a, vs, rfl, rfl, e3, e4, fun n z => e5 n (low_some z).2, e6.low (fun k hk => low_lt hk) (by rw [clV] at hc; exact hc)⟩
        · rw [if_neg hc] at e
          cases x with
          | ref k =>
            dsimp only at e
            cases eo : h'[k]? with
            | none => rw [eo] at e; cases e
            | some o =>
              rw [eo] at e
              cases o with
              | lst xs =>
                dsimp only at e
                by_cases hk : h.length ≤ k ∧ clL h.length xs = true
                · rw [if_pos hk] at e
                  cases e
                  have rv := rv.rep (fun _ => by simp)
                  rw [Rep] at rv
                  obtain ⟨a, rfl, ha⟩ := rv
                  obtain ⟨vs, e3, rl⟩ := r'.obj k _ a eo ha
                  refine .inr ⟨xs, a, vs, rfl, rfl, e3, ?_, fun n z => ?_, rl.low (fun k hk => low_lt hk) hk.2⟩
                  · rcases p.new k a ha with z | z
                    · exact absurd (hr.cod k a z) (Nat.not_lt.mpr hk.1)
                    · exact z
                  · obtain ⟨z1, z2⟩ := low_some z
                    have := r'.inj n k a z2 ha
                    omega
                · rw [if_neg hk] at e; cases e
              | ins c fs => cases e
              | dct kvs => cases e
              | fdc kvs => cases e
          | _ => cases e
    · rw [if_neg c] at q; exact q
  | ex c p h' =>
    unfold gcR at q
    dsimp only at q
    by_cases hc : gcC h h' ∧ clV h.length p = true
    · rw [if_pos hc] at q
      intro φ' d pv H' p' r' rv ed
      obtain ⟨p2, r2⟩ := gc_keep hr p' r' hc.1
      exact q _ d pv H' p2 r2 (rv.low (fun k hk => low_lt hk) hc.2) ed
    · rw [if_neg hc] at q; exact q
/-! ### defs -/
theorem sr_start {N : List Str} {xs : List PV} {vs : List V} (r : RepL W φ H xs vs) : SR W φ H (startP N.length xs) (start N vs) := by
  have hl := r.length
  refine ⟨by unfold startP L2.start; simp [hl], fun i x e => ?_⟩
  unfold startP at e
  unfold L2.start
  by_cases hi : i < xs.length
  · rw [List.getElem?_append_left (by simpa using hi), List.getElem?_map] at e
    cases ex : xs[i]? with
    | none => rw [ex] at e; cases e
    | some y =>
      rw [ex] at e; cases e
      obtain ⟨v, e1, e2⟩ := r.get ex
      exact ⟨v, by rw [List.getElem?_append_left (by rw [List.length_map]; omega), List.getElem?_map, e1]; rfl, e2⟩
  · rw [List.getElem?_append_right (by simpa using hi), List.getElem?_replicate] at e
    split at e <;> cases e
theorem fin_ok {E : XK} {H : Hp} {r : RS} (q : ResG W (fun cls d _ H => E cls d H) (rE W) [] φ H (fin r) Q) : ResS W (fun cls d _ H => E cls d H) φ H r { nx := fun _ H' => Q .non H', rt := Q } := by
  cases r with
  | nx env h' => exact fun φ' σ' H' p r s => q φ' _ H' p r (.inl (by rw [Rep]))
  | rt x h' => exact q
  | bk env h' => exact q.elim
  | ct env h' => exact q.elim
  | ex c p env h' => exact fun φ' σ' d pv H' p r s e f => q φ' d pv H' p r e f
  | bad => exact q
section
variable {P : Program} {w : World} {mg : Str → Option Value} {base : Heap}
theorem _root_.L2.Fun.okN {P : Program} {w : World} {K : PySem.W.Frag} {mg : Str → Option Value} {base : Heap} {x qual : Str} {st : Stmt} {f : Addr} {fd : FuncData} {N ps : List Str} {k : Nat} {sp : Sp} (F : Fun K x qual st f fd) (S : FnScope N ps (defScope st)) (len : ∀ vs H Q E, sp vs H Q E → vs.length = ps.length)
    (hbody : ∀ (cdv : Value) (A : Around) (outer : List Env) (s : Shared) (H : Hp) (vs : List V) (Q : VK) (E : XK), Room k (A.deeper (envOfC qual (defScope st) s.heap.objs.size f cdv)) → sp vs H Q E →
      ∃ t, PSs (cxOf (L2N.CX P w) P w K mg base N qual (defScope st) f cdv A outer s H E) (defBody st) t ∧ t { nx := fun _ H' => Q .non H', rt := Q } (start N vs) H) : FnOk P w K mg base (L2N.CX P w) (k + 1) f fd ps sp := by
  obtain ⟨oc, od, kV, doc, pm, an, cdv, ct, osl, rfl, lk, hcd⟩ := F.ex
  exact fn_of lk hcd S len fun A outer s H vs Q E hr hsp => hbody cdv A outer s H vs Q E hr hsp
theorem z_def {x qual : Str} {st : Stmt} {f : Addr} {fd : FuncData} {N ps : List Str} {k : Nat} {bd : MS} (F : Fun W.K x qual st f fd) (S : FnScope N ps (defScope st))
    (hb : ∀ (cdv : Value) (A : Around) (outer : List Env) (s : Shared) (H : Hp) (E : XK), Room k (A.deeper (envOfC qual (defScope st) s.heap.objs.size f cdv)) →
      PSs (cxOf (L2N.CX P w) P w W.K mg base N qual (defScope st) f cdv A outer s H E) (defBody st) (tS W (fun cls d _ H => E cls d H) bd)) :
    FnOk P w W.K mg base (L2N.CX P w) (k + 1) f fd ps (W.spZ ps.length (semD N.length bd)) := by
  refine F.okN S (fun vs H Q E ⟨φ, h, xs, e, r, _, _⟩ => by rw [← r.length]; exact e) fun cdv A outer s H vs Q E hr ⟨φ, h, xs, e, r, hr', q⟩ => ?_
  exact ⟨_, hb cdv A outer s H E hr, φ, startP N.length xs, h, sr_start r, hr', fin_ok (gc_ok hr' q)⟩
/-- a def that may be called -/
structure FnT (P : Program) (w : World) (mg : Str → Option Value) (base : Heap) (W : Wd) (F : FnI) : Prop where
  ex : ∃ (f : Addr) (fd : FuncData) (ds : List Value) (dV : List V), mg F.name = some (.ref f) ∧ PySem.W.keepIn W.K (.ref f) = true ∧ Binds W.K fd F.ps ds ∧ Vals dV ds ∧ (∀ φ H, RepL W φ H F.dvs dV) ∧
    FnOk P w W.K mg base (L2N.CX P w) F.k f fd F.ps (W.spZ F.ps.length F.sem)
def oCall (F : FnI) (xs : List PV) (h : PH) : RG PV := if xs.length + F.dvs.length = F.ps.length then F.sem (xs ++ F.dvs) h else .bad
theorem call_sp {F : FnI} {dV : List V} {xs : List PV} {vs : List V} (hd : RepL W φ H F.dvs dV) (r : RepL W φ H xs vs) (hr : HR W φ H h) (q : ResG W Wx (rE W) σ φ H (oCall F xs h) Q) : W.spZ F.ps.length F.sem (vs ++ dV) H Q (WE Wx σ) := by
  unfold oCall at q
  split at q
  · rename_i hl
    refine ⟨φ, h, xs ++ F.dvs, by rw [List.length_append]; exact hl, r.append hd, hr, ?_⟩
    cases e : F.sem (xs ++ F.dvs) h with
    | ok x h' => rw [e] at q; exact q
    | ex c p h' => rw [e] at q; exact q
    | bad => rw [e] at q; exact q
  · exact q.elim
theorem z_call {F : FnI} {p : Pos} {es : List Expr} {as : MG (List PV)} (T : FnT X.prog X.w X.mg X.base W F) (hK : X.K = W.K) (hr : Room F.k X.A) (tk : L2N.Takes X Wx) (hg : Gl X F.name) (ha : PA X (e :: es) (tA W Wx as))
    (hdb : (F.name == ("__debug__" : Str)) = false) (he : starEach (e :: es) X.env = (false, eval e X.env) :: starEach es X.env) (hpl : (backTo pos (starEach es X.env)).any (·.1) = false) : PE X (.Call (.Name F.name p) (e :: es) [] pos) (tE W Wx (mC (oCall F) as)) := by
  obtain ⟨f, fd, ds, dV, h1, h2, h3, h4, h5, h6⟩ := T.ex
  rw [← hK] at h2 h3 h6
  refine PE.imp (pe_callSD h6 hr hg h1 h2 h3 h4 (fun σ => L2N.passAt tk σ) ha hdb he hpl) fun σ H Q ⟨φ, env, h, s, r, q⟩ => ?_
  refine (tb (R := rA W) s r q).mono fun vs H1 ⟨φ1, h1', xs, p1, s1, r1, e1, q⟩ => ?_
  exact call_sp (h5 _ _) e1 r1 q
theorem z_call0 {F : FnI} {p : Pos} (T : FnT X.prog X.w X.mg X.base W F) (hK : X.K = W.K) (hr : Room F.k X.A) (tk : L2N.Takes X Wx) (hg : Gl X F.name)
    (hdb : (F.name == ("__debug__" : Str)) = false) : PE X (.Call (.Name F.name p) [] [] pos) (tE W Wx (mC (oCall F) aNil)) := by
  obtain ⟨f, fd, ds, dV, h1, h2, h3, h4, h5, h6⟩ := T.ex
  rw [← hK] at h2 h3 h6
  refine ⟨fun pins s σ H Q I ⟨φ, env, h, sr, r, q⟩ => ?_⟩
  refine wpAny_Call_Name_kw (ld_glob I hg h1 ?_ hdb)
  exact PySem.W.callWith_K0 I.kIn h2 (run_fnSD (us := []) (vs := []) h6 hr h3 h4 (L2N.passAt tk σ) I .nil (call_sp (h5 _ _) .nil r q))
end
end
end Z
namespace Z
open PySem PySem.Spec PyProof.Rows L2

/-! ### looks at the text -/
def notStar : Expr → Bool
  | .Starred .. => false
  | _ => true
def notComp : Expr → Bool
  | .ListComp .. | .SetComp .. | .DictComp .. => false
  | _ => true
def notSl : Expr → Bool
  | .Slice .. => false
  | _ => true
def notSet : Expr → Bool
  | .Set .. => false
  | _ => true
def notTup : Expr → Bool
  | .Tuple .. | .List .. => false
  | _ => true
def plainT : Expr → Bool
  | .UnaryOp .Not _ _ => false
  | .BoolOp .. => false
  | .IfExp .. => false
  | .Compare .. => false
  | _ => true
def notSup : Expr → Bool
  | .Call (.Name id _) [] [] _ => decide (id ≠ ("super" : Str))
  | _ => true
theorem star_cons {e : Expr} {es : List Expr} {env : Env} (h : notStar e = true) : starEach (e :: es) env = (false, eval e env) :: starEach es env := by
  cases e <;> first | rfl | cases h
theorem star_any {es : List Expr} {env : Env} {pos : Pos} (h : es.all notStar = true) : (backTo pos (starEach es env)).any (·.1) = false := by
  induction es with
  | nil => rfl
  | cons e es ih =>
    rw [List.all_cons, Bool.and_eq_true] at h
    rw [star_cons h.1]
    show (false || (backTo pos (starEach es env)).any (·.1)) = false
    rw [ih h.2]; rfl
theorem asg_cons {e : Expr} {es : List Expr} {env : Env} (h : notStar e = true) : (assignEach (e :: es) env).map (·.2) = assign e env :: (assignEach es env).map (·.2) := by
  cases e <;> first | rfl | cases h
theorem asg_len {es : List Expr} {env : Env} : (assignEach es env).length = es.length := by
  induction es with
  | nil => rfl
  | cons e es ih => cases e <;> (show (assignEach es env).length + 1 = es.length + 1; rw [ih])
theorem asg_find {es : List Expr} {env : Env} (h : es.all notStar = true) : (assignEach es env).findIdx? (·.1) = none := by
  induction es with
  | nil => rfl
  | cons e es ih =>
    rw [List.all_cons, Bool.and_eq_true] at h
    have e1 : assignEach (e :: es) env = (false, assign e env) :: assignEach es env := by
      have h := h.1
      cases e <;> first | rfl | cases h
    rw [e1, List.findIdx?_cons, ih h.2]; rfl
theorem swaps_no {e : Expr} {t : Option Expr} {l : Nat} {env : Env} (h : notComp e = true) : swapsWith e t l env = pure false := by
  cases e <;> first | rfl | cases h
theorem swapped_no {t e : Expr} {env : Env} (h : notTup t = true ∨ notTup e = true) : swappedStores [t] e env = pure none := by
  rcases h with h | h
  · cases t <;> first | rfl | cases h
  · cases t <;> cases e <;> first | rfl | cases h
theorem plain_ix {b : Expr} (h : notSl b = true) : PlainIx b := by
  intro o i
  cases b <;> first | rfl | cases h
theorem behind_no {op : CmpOp} {b : Expr} (h : notSet b = true) : behindInMarks op b = false := by
  cases b <;> first | rfl | cases h
theorem folded_no {e : Expr} {env : Env} {x : Value} (h : notSet e = true) : foldedSetIterable e env x = pure x := by
  cases e <;> first | rfl | cases h
theorem isTrue_pl {e : Expr} {env : Env} (h : plainT e = true) : ∀ whole, isTrue e env whole = (do let v ← whole; standAt e.pos; holding [v] (truthy v)) := by
  intro whole
  cases e <;> first
    | rfl
    | cases h
    | (rename_i op a p; cases op <;> first | rfl | cases h)
theorem base_no {o : Expr} {attr : Str} {env : Env} {whole : Sem Value} (h : notSup o = true) : attributeBase o attr env whole = whole := by
  unfold attributeBase
  split
  · rename_i id p pos
    have h : decide (id ≠ ("super" : Str)) = true := h
    have h := of_decide_eq_true h
    have e : (id != "super") = true := by simpa using h
    simp [e]
  · rfl
end Z
namespace Z
open PySem PySem.Spec PyProof.Rows L2
/-! ### instances -/
def putN (k : Nat) (x : PV) : List (Nat × PV) → List (Nat × PV)
  | [] => [(k, x)]
  | (g, y) :: r => if g = k then (g, x) :: r else (g, y) :: putN k x r
def getN (k : Nat) : List (Nat × PV) → Option PV
  | [] => none
  | (g, y) :: r => if g = k then some y else getN k r
/-- names of attributes and methods tell one another apart -/
def AtInj (W : Wd) : Prop := ∀ i j, W.at_ i = W.at_ j → i = j
/-- attributes that may be read and written: class, name -/
def FldsT (W : Wd) (tab : List (Nat × Nat)) : Prop := ∀ p ∈ tab, Cls W.K (W.cA p.1) ∧ NoAttr W.K (W.cA p.1) (W.at_ p.2)
def inB (tab : List (Nat × Nat)) (c k : Nat) : Bool := tab.any fun p => p.1 == c && p.2 == k
def oGet (tab : List (Nat × Nat)) (k : Nat) (x : PV) (h : PH) : RG PV := match x with
  | .ref n => (match h[n]? with
    | some (.ins c fs) => (match getN k fs with
      | some y => if inB tab c k = true then .ok y h else .bad
      | none => .bad)
    | _ => .bad)
  | _ => .bad
def putA (tab : List (Nat × Nat)) (k : Nat) (o x : PV) (env : Sl) (h : PH) : RS := match o with
  | .ref n => (match h[n]? with
    | some (.ins c fs) => if inB tab c k = true ∧ fs.length < 1000 then .nx env (h.set n (.ins c (putN k x fs))) else .bad
    | _ => .bad)
  | _ => .bad
def sPut (tab : List (Nat × Nat)) (k : Nat) (mo mv : MG PV) : MS := fun env h => (mM mv env h).toS env fun x h1 => (mo env h1).toS env fun o h2 => putA tab k o x env h2
def clsN (h : PH) (o : PV) : Option Nat := match o with
  | .ref n => (match h[n]? with
    | some (.ins c _) => some c
    | _ => none)
  | _ => none
/-- o.f += e, of ints -/
def sPutAug (tab : List (Nat × Nat)) (k : Nat) (f : PV → PV → PH → RG PV) (mo mv : MG PV) : MS := fun env h => (mo env h).toS env fun o h1 => (oGet tab k o h1).toS env fun x _ => (mv env h1).toS env fun y h2 => (f x y h2).toS env fun z h3 => if clsN h1 o = clsN h3 o then putA tab k o z env h3 else .bad
structure MetI where
  cls : Nat
  mid : Nat
  F : FnI
def metOf (ms : List MetI) (mid n : Nat) (h : PH) (o : PV) : Option FnI := match o with
  | .ref k => (match h[k]? with
    | some (.ins c fs) => (match getN mid fs with
      | none => (ms.find? fun M => M.cls == c && M.mid == mid && n + 1 + M.F.dvs.length == M.F.ps.length).map (·.F)
      | some _ => none)
    | _ => none)
  | _ => none
def mMet (ms : List MetI) (mid n : Nat) (mo : MG PV) (as : MG (List PV)) : MG PV := fun env h => (mo env h).bind fun o h1 => match metOf ms mid n h1 o with
  | some F => (as env h1).bind fun xs h2 => oCall F (o :: xs) h2
  | none => .bad
structure MkI where
  name : Str
  cls : Nat
  F : FnI
  n : Nat := 0
  ks : List Str := []
  ix : List (Bool × Nat) := []
  dv : List PV := []
/-- keyword values ws and defaults mv in the parameters' order -/
def fill {α : Type} (ix : List (Bool × Nat)) (mv ws : List α) : List α := ix.filterMap fun p => if p.1 then ws[p.2]? else mv[p.2]?
def mkR (n : Nat) (r : RG PV) : RG PV := match r with
  | .ok .non h => .ok (.ref n) h
  | .ok _ _ => .bad
  | r => r
def oMk (M : MkI) (xs : List PV) (h : PH) : RG PV := mkR h.length (oCall M.F (.ref h.length :: xs) (h ++ [.ins M.cls []]))
/-- C(a, .., k = v, ..) -/
def oMkK (M : MkI) (xs zs : List PV) (h : PH) : RG PV := if xs.length = M.n ∧ zs.length = M.ks.length then oMk M (xs ++ fill M.ix M.dv zs) h else .bad
def mCK (M : MkI) (as zs : MG (List PV)) : MG PV := fun env h => (as env h).bind fun xs h1 => (zs env h1).bind fun ws h2 => oMkK M xs ws h2
/-- what a def must have to be called -/
structure CalT (P : Program) (w : World) (mg : Str → Option Value) (base : Heap) (W : Wd) (F : FnI) (f : Addr) : Prop where
  ex : ∃ (fd : FuncData) (ds : List Value) (dV : List V), Binds W.K fd F.ps ds ∧ Vals dV ds ∧ (∀ φ H, RepL W φ H F.dvs dV) ∧ FnOk P w W.K mg base (L2N.CX P w) F.k f fd F.ps (W.spZ F.ps.length F.sem)
structure MetT (P : Program) (w : World) (mg : Str → Option Value) (base : Heap) (W : Wd) (M : MetI) : Prop where
  ex : ∃ f, Cls W.K (W.cA M.cls) ∧ Meth W.K (W.cA M.cls) (W.at_ M.mid) f ∧ CalT P w mg base W M.F f
structure MkT (P : Program) (w : World) (mg : Str → Option Value) (base : Heap) (W : Wd) (M : MkI) : Prop where
  ex : M.ks = [] → ∃ f, mg M.name = some (.ref (W.cA M.cls)) ∧ L2.Mk W.K (W.cA M.cls) f ∧ CalT P w mg base W M.F f
  exk : M.ks ≠ [] → ∃ (f : Addr) (fd : FuncData) (g : List Value → List Value → List Value) (dV : List V), mg M.name = some (.ref (W.cA M.cls)) ∧ L2.Mk W.K (W.cA M.cls) f ∧ M.F.dvs = [] ∧ (∀ φ H, RepL W φ H M.dv dV) ∧ L2.KBn W.K fd M.F.ps (M.n + 1) M.ks g (fun vs zs => vs ++ fill M.ix dV zs) ∧ FnOk P w W.K mg base (L2N.CX P w) M.F.k f fd M.F.ps (W.spZ M.F.ps.length M.F.sem)
section
variable {W : Wd} {Wx : WX} {X : Cx} {pos p : Pos} {x : Str} {H H0 H1 : Hp} {φ : Emb} {h : PH} {σ : L2.St} {Q : VK}
theorem RepF.get (inj : AtInj W) {k : Nat} {y : PV} : ∀ {fs : List (Nat × PV)} {vs : List (Str × V)}, RepF W φ H fs vs → getN k fs = some y → ∃ v, vs.lookup (W.at_ k) = some v ∧ Rep W φ H y v
  | [], _, _, e => by cases e
  | (g, z) :: fs, vs, r, e => by
    unfold RepF at r
    obtain ⟨v, vs', rfl, r1, r2⟩ := r
    unfold getN at e
    split at e
    · rename_i q
      cases e; subst q
      exact ⟨v, by simp [List.lookup], r1⟩
    · rename_i q
      obtain ⟨u, e1, e2⟩ := RepF.get inj r2 e
      refine ⟨u, ?_, e2⟩
      have : (W.at_ k == W.at_ g) = false := by
        rw [beq_eq_false_iff_ne]
        exact fun z => q (inj _ _ z).symm
      simp only [List.lookup, this]
      exact e1
theorem RepF.no (inj : AtInj W) {k : Nat} : ∀ {fs : List (Nat × PV)} {vs : List (Str × V)}, RepF W φ H fs vs → getN k fs = none → vs.lookup (W.at_ k) = none
  | [], _, r, _ => by
    unfold RepF at r
    subst r; rfl
  | (g, z) :: fs, vs, r, e => by
    unfold RepF at r
    obtain ⟨v, vs', rfl, r1, r2⟩ := r
    unfold getN at e
    split at e
    · cases e
    · rename_i q
      have : (W.at_ k == W.at_ g) = false := by
        rw [beq_eq_false_iff_ne]
        exact fun z => q (inj _ _ z).symm
      simp only [List.lookup, this]
      exact RepF.no inj r2 e
theorem RepF.put (inj : AtInj W) {k : Nat} {y : PV} {v : V} (ry : Rep W φ H y v) : ∀ {fs : List (Nat × PV)} {vs : List (Str × V)}, RepF W φ H fs vs → RepF W φ H (putN k y fs) (putF (W.at_ k) v vs)
  | [], vs, r => by
    unfold RepF at r
    subst r
    show RepF W φ H [(k, y)] [(W.at_ k, v)]
    unfold RepF
    exact ⟨v, [], rfl, ry, by unfold RepF; rfl⟩
  | (g, z) :: fs, vs, r => by
    unfold RepF at r
    obtain ⟨u, vs', rfl, r1, r2⟩ := r
    unfold putN putF
    by_cases q : g = k
    · subst q
      rw [if_pos rfl, if_pos rfl]
      unfold RepF
      exact ⟨v, vs', rfl, ry, r2⟩
    · rw [if_neg q, if_neg fun z => q (inj _ _ z)]
      unfold RepF
      exact ⟨u, _, rfl, r1, RepF.put inj ry r2⟩
theorem RepF.len : ∀ {fs : List (Nat × PV)} {vs : List (Str × V)}, RepF W φ H fs vs → fs.length = vs.length
  | [], _, r => by unfold RepF at r; subst r; rfl
  | _ :: _, _, r => by
    unfold RepF at r
    obtain ⟨v, vs', rfl, r1, r2⟩ := r
    rw [List.length_cons, List.length_cons, r2.len]
theorem inB_ok {tab : List (Nat × Nat)} {c k : Nat} (T : FldsT W tab) (e : inB tab c k = true) : Cls W.K (W.cA c) ∧ NoAttr W.K (W.cA c) (W.at_ k) := by
  obtain ⟨p, hp, e⟩ := List.any_eq_true.mp e
  rw [Bool.and_eq_true, beq_iff_eq, beq_iff_eq] at e
  obtain ⟨rfl, rfl⟩ := e
  exact T p hp
theorem ref_ins {n : Nat} {v : V} {c : Nat} {fs : List (Nat × PV)} (hr : HR W φ H h) (r : RR W φ H0 H (.ref n) v) (e : h[n]? = some (.ins c fs)) : ∃ a dx vs, v = .ref a ∧ φ n = some a ∧ H a = some (.ins (W.cA c) dx vs) ∧ RepF W φ H fs vs := by
  have r := r.rep (fun _ => by simp)
  rw [Rep] at r
  obtain ⟨a, rfl, ha⟩ := r
  obtain ⟨dx, vs, h1, h2⟩ := hr.obj n _ a e ha
  exact ⟨a, dx, vs, rfl, ha, h1, h2⟩
/-- o.f of an instance -/
theorem get_ok (inj : AtInj W) {tab : List (Nat × Nat)} {k : Nat} {x : PV} {v : V} (T : FldsT W tab) (hr : HR W φ H h) (r : RR W φ H0 H x v) (q : ResG W Wx (rE W) σ φ H (oGet tab k x h) Q) :
    ∃ a C dx fs y, v = .ref a ∧ H a = some (.ins C dx fs) ∧ Cls W.K C ∧ NoAttr W.K C (W.at_ k) ∧ fs.lookup (W.at_ k) = some y ∧ Q y H := by
  cases x with
  | ref n =>
    unfold oGet at q
    dsimp only at q
    cases e : h[n]? with
    | none => rw [e] at q; exact q.elim
    | some o =>
      rw [e] at q
      cases o with
      | ins c fs =>
        obtain ⟨a, dx, vs, rfl, ha, hH, rf⟩ := ref_ins hr r e
        dsimp only at q
        cases eg : getN k fs with
        | none => rw [eg] at q; exact q.elim
        | some y =>
          rw [eg] at q
          dsimp only at q
          by_cases hb : inB tab c k = true
          · rw [if_pos hb] at q
            obtain ⟨u, e1, e2⟩ := rf.get inj eg
            obtain ⟨c1, c2⟩ := inB_ok T hb
            exact ⟨a, _, dx, vs, u, rfl, hH, c1, c2, e1, q φ u H .refl hr (.inl e2)⟩
          · rw [if_neg hb] at q; exact q.elim
      | _ => exact q.elim
  | _ => exact q.elim
theorem z_fld {e : Expr} {m : MG PV} {k : Nat} {tab : List (Nat × Nat)} (hK : X.K = W.K) (inj : AtInj W) (T : FldsT W tab) (he : PE X e (tE W Wx m)) (hs : notSup e = true) (hx : W.at_ k = x) : PE X (.Attribute e x pos) (tE W Wx (mU (oGet tab k) m)) := by
  subst hx
  refine PE.imp (pe_fld he (base_no hs)) fun σ H Q ⟨φ, env, h, s, r, q⟩ => ?_
  refine (tb (R := rE W) s r q).mono fun v H1 ⟨φ1, h1, a, p1, s1, r1, e1, q⟩ => ?_
  rw [hK]
  exact get_ok inj T r1 e1 q
/-- o.f = e -/
theorem put_ok (inj : AtInj W) {tab : List (Nat × Nat)} {k : Nat} {o x : PV} {ov v : V} {env : Sl} {D : Ends} (T : FldsT W tab) (hr : HR W φ H h) (s : SR W φ H env σ) (ro : RR W φ H0 H o ov) (rx : Rep W φ H x v) (q : ResS W Wx φ H (putA tab k o x env h) D) :
    ∃ a C dx fs, ov = .ref a ∧ H a = some (.ins C dx fs) ∧ Cls W.K C ∧ NoAttr W.K C (W.at_ k) ∧ fs.length < 1000 ∧ D.nx σ (upd H a (.ins C dx (putF (W.at_ k) v fs))) := by
  cases o with
  | ref n =>
    unfold putA at q
    dsimp only at q
    cases e : h[n]? with
    | none => rw [e] at q; exact q.elim
    | some o =>
      rw [e] at q
      cases o with
      | ins c fs =>
        obtain ⟨a, dx, vs, rfl, ha, hH, rf⟩ := ref_ins hr ro e
        dsimp only at q
        by_cases hb : inB tab c k = true ∧ fs.length < 1000
        · rw [if_pos hb] at q
          obtain ⟨c1, c2⟩ := inB_ok T hb.1
          have p : Post φ H φ (upd H a (.ins (W.cA c) dx (putF (W.at_ k) v vs))) := .put ha (nf_ins hH)
          obtain ⟨hr', p'⟩ := hr.put (u := .ins (W.cA c) dx (putF (W.at_ k) v vs)) (o := .ins c (putN k x fs)) ha (nf_ins hH) True.intro ⟨dx, _, upd_same, RepF.put inj (rx.mono (p.k hr)) (rf.mono (p.k hr))⟩
          exact ⟨a, _, dx, vs, rfl, hH, c1, c2, by rw [← rf.len]; exact hb.2, q φ σ _ p' hr' (s.mono (p'.k hr))⟩
        · rw [if_neg hb] at q; exact q.elim
      | _ => exact q.elim
  | _ => exact q.elim
theorem z_put {o e : Expr} {mo mv : MG PV} {k : Nat} {tab : List (Nat × Nat)} {pos' : Pos} (hK : X.K = W.K) (inj : AtInj W) (T : FldsT W tab) (ho : PE X o (tE W Wx mo)) (hv : PE X e (tE W Wx mv)) (hx : W.at_ k = x)
    (hs : swapsWith e (some (.Attribute o x pos')) pos.line X.env = pure false) : L2.PS X (.Assign [.Attribute o x pos'] e pos) (tS W Wx (sPut tab k mo mv)) := by
  subst hx
  refine PS.imp (ps_fld ho (PE.m hv) hs) fun D σ H ⟨φ, env, h, s, r, q⟩ => ?_
  refine (sb (R := rM W) s r q).mono fun v H1 ⟨φ1, h1, x, p1, s1, r1, e1, q⟩ => ?_
  refine (sb (R := rE W) s1 r1 q).mono fun ov H2 ⟨φ2, h2, o', p2, s2, r2, e2, q⟩ => ?_
  rw [hK]
  exact put_ok inj T r2 s2 e2 (e1.mono (p2.k r1)) q
theorem z_putAug {o e : Expr} {mo mv : MG PV} {k : Nat} {tab : List (Nat × Nat)} {pos' : Pos} {op : Operator} {g : Int → Int → PV} {g' : Int → Int → V} {C : Int → Int → Bool} {rd : V → V → Hp → VK → Prop} (hK : X.K = W.K) (inj : AtInj W) (T : FldsT W tab) (ho : PE X o (tE W Wx mo)) (hv : PE X e (tE W Wx mv)) (hx : W.at_ k = x)
    (hop : InOp X op rd) (hrd : ∀ i j H Q, C i j = true → Q (g' i j) H → rd (.int i) (.int j) H Q) (hg : ∀ i j φ H, Rep W φ H (g i j) (g' i j)) : L2.PS X (.AugAssign (.Attribute o x pos') op e pos) (tS W Wx (sPutAug tab k (oII C g) mo mv)) := by
  subst hx
  refine PS.imp (ps_fldaug ho hv hop) fun D σ H ⟨φ, env, h, s, r, q⟩ => ?_
  refine (sb (R := rE W) s r q).mono fun ov H1 ⟨φ1, h1, o', p1, s1, r1, e1, q⟩ => ?_
  rw [hK]
  cases o' with
  | ref n =>
    cases e : h1[n]? with
    | none => simp only [oGet, e, RG.toS] at q; exact q.elim
    | some ob =>
      cases ob with
      | ins c fs =>
        obtain ⟨a, dx, vs, rfl, ha, hH, rf⟩ := ref_ins r1 e1 e
        cases eg : getN k fs with
        | none => simp only [oGet, e, eg, RG.toS] at q; exact q.elim
        | some y =>
          by_cases hb : inB tab c k = true
          · simp only [oGet, e, eg, if_pos hb, RG.toS_ok] at q
            obtain ⟨u, l1, l2⟩ := rf.get inj eg
            obtain ⟨c1, c2⟩ := inB_ok T hb
            refine ⟨a, _, dx, vs, u, rfl, hH, c1, c2, l1, ?_⟩
            refine (sb (R := rE W) s1 r1 q).mono fun w H2 ⟨φ2, h2, z, p2, s2, r2, e2, q⟩ => ?_
            cases y with
            | int i =>
              cases z with
              | int j =>
                rw [Rep] at l2
                subst l2
                have e2 := e2.rep (fun _ => by simp)
                rw [Rep] at e2
                subst e2
                by_cases hc : C i j = true
                · have : oII C g (.int i) (.int j) h2 = .ok (g i j) h2 := by unfold oII; dsimp only; rw [if_pos hc]
                  rw [this, RG.toS_ok] at q
                  refine hrd i j _ _ hc ?_
                  have e1' : RR W φ2 H H2 (.ref n) (.ref a) := RR.mono (H0 := H) r1 p2 e1
                  by_cases hcl : clsN h1 (.ref n) = clsN h2 (.ref n)
                  · rw [if_pos hcl] at q
                    obtain ⟨a', C', dx', fs', q1, q2, q3, q4, q5, q6⟩ := put_ok inj T r2 s2 e1' (hg i j φ2 H2) q
                    cases q1
                    have hc1 : clsN h1 (.ref n) = some c := by unfold clsN; dsimp only; rw [e]
                    rw [hc1] at hcl
                    unfold clsN at hcl
                    dsimp only at hcl
                    cases e' : h2[n]? with
                    | none => rw [e'] at hcl; cases hcl
                    | some ob =>
                      rw [e'] at hcl
                      cases ob with
                      | ins c' fs'' =>
                        cases hcl
                        obtain ⟨b, dx2, vs2, w1, w2, w3, w4⟩ := ref_ins r2 e1' e'
                        cases w1
                        rw [q2] at w3
                        cases w3
                        exact ⟨dx', fs', q2, q5, q6⟩
                      | _ => cases hcl
                  · rw [if_neg hcl] at q; exact q.elim
                · have : oII C g (.int i) (.int j) h2 = .bad := by unfold oII; dsimp only; rw [if_neg hc]
                  rw [this] at q; exact q.elim
              | _ => exact q.elim
            | _ => exact q.elim
          · simp only [oGet, e, eg, if_neg hb, RG.toS] at q; exact q.elim
      | _ => simp only [oGet, e, RG.toS] at q; exact q.elim
  | _ => simp only [oGet, RG.toS] at q; exact q.elim
/-! methods -/
def tMets (W : Wd) (X : Cx) (m : Str) (E : L2.St → XK) (ta : TE) (t : TA) : TE := fun σ H Q => ta σ H fun x H1 => ∃ a C dx fs f fd ps ds dvs sp k, x = .ref a ∧ H1 a = some (.ins C dx fs) ∧ fs.lookup m = none ∧ Cls X.K C ∧ Meth X.K C m f ∧
  FnOk X.prog X.w X.K X.mg X.base (L2N.CX X.prog X.w) k f fd ps sp ∧ Room k X.A ∧ Binds X.K fd ps ds ∧ Vals dvs ds ∧ t σ H1 fun vs H2 => sp (x :: (vs ++ dvs)) H2 Q (E σ)
theorem pe_mets {pl : Sem Bool} {o e : Expr} {es : List Expr} {m : Str} {apos : Pos} {ta : TE} {t : TA} {E : L2.St → XK} (he : PE X o ta) (hx : ∀ σ, PassesAt (L2N.CX X.prog X.w) X σ (E σ)) (ha : PA X (e :: es) t)
    (hst : starEach (e :: es) X.env = (false, eval e X.env) :: starEach es X.env) (hpl : (backTo pos (starEach es X.env)).any (·.1) = false)
    (ht : eval (.Call (.Attribute o m apos) (e :: es) [] pos) X.env = (do
      let ov ← eval o X.env
      standAt apos.atName
      let (f, first) ← holding [ov] (getMethod ov m pl)
      callWith pos f first (backTo pos (starEach (e :: es) X.env)) (backToKw pos (keywordEach [] X.env)))) :
    PE X (.Call (.Attribute o m apos) (e :: es) [] pos) (tMets W X m E ta t) := by
  refine ⟨fun pins s σ H Q I h => ?_⟩
  refine PySem.W.methodCall_KW (pl := pl) (thn (he.run pins s σ H _ I h) fun u s1 ⟨x, H1, I1, rx, a, C, dx, fs, f, fd, ps, ds, dvs, sp, k, ex, ea, l, c, hm, F, hr, hb, hd, q⟩ => ?_) ht
  subst ex
  obtain rfl : u = Value.ref a := rx
  refine getmeth_ok I1 ea c hm l ?_
  refine PySem.W.callWith_K (first := [.ref a]) (h₀ := X.base) I.ok.mod.kin hm.kp (thn (ha.run pos pins s1 σ H1 _ I1 q) fun us s2 ⟨vs, H2, I2, r, q2⟩ => ⟨I2.kIn, ?_⟩) hst hpl
  exact run_fnSD (us := .ref a :: us) (vs := .ref a :: vs) F hr hb hd (hx σ) I2 (.cons rfl r) q2
theorem pe_mets0 {pl : Sem Bool} {o : Expr} {m : Str} {apos : Pos} {ta : TE} {E : L2.St → XK} (he : PE X o ta) (hx : ∀ σ, PassesAt (L2N.CX X.prog X.w) X σ (E σ))
    (ht : eval (.Call (.Attribute o m apos) [] [] pos) X.env = (do
      let ov ← eval o X.env
      standAt apos.atName
      let (f, first) ← holding [ov] (getMethod ov m pl)
      callWith pos f first (backTo pos (starEach [] X.env)) (backToKw pos (keywordEach [] X.env)))) :
    PE X (.Call (.Attribute o m apos) [] [] pos) (tMets W X m E ta tNil) := by
  refine ⟨fun pins s σ H Q I h => ?_⟩
  refine PySem.W.methodCall_KW (pl := pl) (thn (he.run pins s σ H _ I h) fun u s1 ⟨x, H1, I1, rx, a, C, dx, fs, f, fd, ps, ds, dvs, sp, k, ex, ea, l, c, hm, F, hr, hb, hd, q⟩ => ?_) ht
  subst ex
  obtain rfl : u = Value.ref a := rx
  refine getmeth_ok I1 ea c hm l ?_
  exact PySem.W.callWith_K0 (first := [.ref a]) I1.kIn hm.kp (run_fnSD (us := [.ref a]) (vs := [.ref a]) F hr hb hd (hx σ) I1 (.cons rfl .nil) q)
def MetsT (P : Program) (w : World) (mg : Str → Option Value) (base : Heap) (W : Wd) (A : Around) (ms : List MetI) : Prop := ∀ M ∈ ms, MetT P w mg base W M ∧ Room M.F.k A
theorem metOf_ok (inj : AtInj W) {ms : List MetI} {mid n : Nat} {o : PV} {v : V} {F : FnI} {A : Around} {P : Program} {w : World} {mg : Str → Option Value} {base : Heap} (T : MetsT P w mg base W A ms) (hr : HR W φ H h) (r : RR W φ H0 H o v) (e : metOf ms mid n h o = some F) :
    ∃ a C dx fs f, v = .ref a ∧ H a = some (.ins C dx fs) ∧ fs.lookup (W.at_ mid) = none ∧ Cls W.K C ∧ Meth W.K C (W.at_ mid) f ∧ CalT P w mg base W F f ∧ Room F.k A ∧ ∃ k, o = .ref k := by
  cases o with
  | ref k =>
    unfold metOf at e
    dsimp only at e
    cases e1 : h[k]? with
    | none => rw [e1] at e; cases e
    | some ob =>
      rw [e1] at e
      cases ob with
      | ins c fs =>
        obtain ⟨a, dx, vs, rfl, ha, hH, rf⟩ := ref_ins hr r e1
        dsimp only at e
        cases e2 : getN mid fs with
        | some _ => rw [e2] at e; cases e
        | none =>
          rw [e2] at e
          dsimp only at e
          obtain ⟨M, e3, rfl⟩ := Option.map_eq_some_iff.mp e
          have hM := List.mem_of_find?_eq_some e3
          have hp := List.find?_some e3
          rw [Bool.and_eq_true, Bool.and_eq_true, beq_iff_eq, beq_iff_eq] at hp
          obtain ⟨⟨rfl, rfl⟩, _⟩ := hp
          obtain ⟨⟨f, c1, c2, c3⟩, hroom⟩ := T M hM
          exact ⟨a, _, dx, vs, f, rfl, hH, rf.no inj e2, c1, c2, c3, hroom, k, rfl⟩
      | _ => cases e
  | _ => cases e
theorem ht_of {o : Expr} {m : Str} {apos : Pos} {es : List Expr} {env : Env} (hsup : notSup o = true) (hs : es.all notStar = true) (hlen : es.length < 30) (hline : (apos.endLine == pos.line) = true) :
    eval (.Call (.Attribute o m apos) es [] pos) env = (do
      let ov ← eval o env
      standAt apos.atName
      let (f, first) ← holding [ov] (getMethod ov m (do return (← importBound o env).getD true))
      callWith pos f first (backTo pos (starEach es env)) (backToKw pos (keywordEach [] env))) := by
  have hform : methodCallForm (es.length + ([] : List Keyword).length) (backTo pos (starEach es env)) (backToKw pos (keywordEach [] env)) = true := by
    unfold methodCallForm
    have : (backTo pos (starEach es env)).all (fun x => !x.1) = true := by
      have := star_any (env := env) (pos := pos) hs
      rw [List.any_eq_false] at this
      rw [List.all_eq_true]
      intro y hy
      have := this y hy
      simpa using this
    rw [this, show backToKw pos (keywordEach [] env) = [] from rfl]
    simpa using hlen
  have hpos : methodCallPos true o env apos pos = pure pos := by unfold methodCallPos; simp [hline]
  rw [arm_eval_Call, base_no hsup]
  unfold methodCall
  rw [hform, hpos]
  rfl
theorem z_met {ms : List MetI} {mid : Nat} {o e : Expr} {es : List Expr} {mo : MG PV} {as : MG (List PV)} {apos : Pos} {n : Nat} (hK : X.K = W.K) (inj : AtInj W) (T : MetsT X.prog X.w X.mg X.base W X.A ms) (tk : L2N.Takes X Wx) (ho : PE X o (tE W Wx mo)) (ha : PA X (e :: es) (tA W Wx as)) (hx : W.at_ mid = x)
    (hs : (e :: es).all notStar = true) (hsup : notSup o = true) (hlen : (e :: es).length < 30) (hline : (apos.endLine == pos.line) = true) : PE X (.Call (.Attribute o x apos) (e :: es) [] pos) (tE W Wx (mMet ms mid n mo as)) := by
  subst hx
  have s1 : notStar e = true := (Bool.and_eq_true_iff.mp (show (notStar e && es.all notStar) = true from hs)).1
  have s2 : es.all notStar = true := (Bool.and_eq_true_iff.mp (show (notStar e && es.all notStar) = true from hs)).2
  refine PE.imp (pe_mets (W := W) ho (fun σ => L2N.passAt tk σ) ha (star_cons s1) (star_any s2) (ht_of hsup hs hlen hline)) fun σ H Q ⟨φ, env, h, s, r, q⟩ => ?_
  refine (tb (R := rE W) s r q).mono fun v H1 ⟨φ1, h1, o', p1, s1, r1, e1, q⟩ => ?_
  cases em : metOf ms mid n h1 o' with
  | none => rw [em] at q; exact q.elim
  | some F =>
    rw [em] at q
    obtain ⟨a, C, dx, fs, f, rfl, hH, hl, c1, c2, ⟨fd, ds, dV, b1, b2, b3, b4⟩, hroom, k, rfl⟩ := metOf_ok inj T r1 e1 em
    rw [← hK] at c1 c2 b1 b4
    refine ⟨a, C, dx, fs, f, fd, _, ds, dV, _, _, rfl, hH, hl, c1, c2, b4, hroom, b1, b2, ?_⟩
    refine (tb (R := rA W) s1 r1 q).mono fun vs H2 ⟨φ2, h2, xs, p2, s2, r2, e2, q⟩ => ?_
    have e1' := (RR.mono (H0 := H) r1 p2 e1).rep (fun _ => by simp)
    exact call_sp (xs := .ref k :: xs) (vs := .ref a :: vs) (b3 _ _) (.cons e1' e2) r2 q
theorem z_met0 {ms : List MetI} {mid : Nat} {o : Expr} {mo : MG PV} {apos : Pos} {n : Nat} (hK : X.K = W.K) (inj : AtInj W) (T : MetsT X.prog X.w X.mg X.base W X.A ms) (tk : L2N.Takes X Wx) (ho : PE X o (tE W Wx mo)) (hx : W.at_ mid = x)
    (hsup : notSup o = true) (hline : (apos.endLine == pos.line) = true) : PE X (.Call (.Attribute o x apos) [] [] pos) (tE W Wx (mMet ms mid n mo aNil)) := by
  subst hx
  refine PE.imp (pe_mets0 (W := W) ho (fun σ => L2N.passAt tk σ) (ht_of hsup rfl (by decide) hline)) fun σ H Q ⟨φ, env, h, s, r, q⟩ => ?_
  refine (tb (R := rE W) s r q).mono fun v H1 ⟨φ1, h1, o', p1, s1, r1, e1, q⟩ => ?_
  cases em : metOf ms mid n h1 o' with
  | none => rw [em] at q; exact q.elim
  | some F =>
    rw [em] at q
    obtain ⟨a, C, dx, fs, f, rfl, hH, hl, c1, c2, ⟨fd, ds, dV, b1, b2, b3, b4⟩, hroom, k, rfl⟩ := metOf_ok inj T r1 e1 em
    rw [← hK] at c1 c2 b1 b4
    refine ⟨a, C, dx, fs, f, fd, _, ds, dV, _, _, rfl, hH, hl, c1, c2, b4, hroom, b1, b2, ?_⟩
    have e1' := e1.rep (fun _ => by simp)
    exact call_sp (xs := [.ref k]) (vs := [.ref a]) (b3 _ _) (.cons e1' .nil) r1 q
/-! making -/
def tMakeSD (C : Addr) (sp : Sp) (dvs : List V) (E : L2.St → XK) (t : TA) : TE := fun σ H Q => t σ H fun vs H1 => ∀ x dx, H1 x = none → H1 dx = none → dx ≠ x →
  sp (.ref x :: (vs ++ dvs)) (upd (upd H1 dx (.own x)) x (.ins C dx [])) (fun v H2 => v = .non ∧ Q (.ref x) H2) (E σ)
theorem run_makeSD {k : Nat} {f C : Addr} {fd : FuncData} {ps : List Str} {sp : Sp} {dvs : List V} {ds : List Value} {E : L2.St → XK} {pins : List (Addr × Obj)} {s : Shared} {Q : VK} {us : List Value} {vs : List V} (M : L2.Mk X.K C f) (F : FnOk X.prog X.w X.K X.mg X.base (L2N.CX X.prog X.w) k f fd ps sp) (hr : Room (k + 1) X.A) (hb : Binds X.K fd ps ds) (hd : Vals dvs ds)
    (hx : PassesAt (L2N.CX X.prog X.w) X σ (E σ)) (I : L2.Inv X pins σ H s) (r : Vals vs us)
    (h : ∀ x dx, H x = none → H dx = none → dx ≠ x → sp (.ref x :: (vs ++ dvs)) (upd (upd H dx (.own x)) x (.ins C dx [])) (fun v H2 => v = .non ∧ Q (.ref x) H2) (E σ)) :
    wpAny (model X.prog X.w) X.A (call (.ref C) us) (EP X pins σ Q) X.xe s := by
  have hq := h (s.heap.objs.size + 1) s.heap.objs.size (I.hok.fresh (Nat.le_succ _)) (I.hok.fresh (Nat.le_refl _)) (Nat.ne_of_lt (Nat.lt_succ_self _))
  have I2 := Inv.made (C := C) I
  have r2 : Vals (V.ref (s.heap.objs.size + 1) :: (vs ++ dvs)) (Value.ref (s.heap.objs.size + 1) :: (us ++ ds)) := .cons rfl (r.append hd)
  have hl : (Value.ref (s.heap.objs.size + 1) :: us ++ ds).length = ps.length := by
    have e := r2.length
    rw [F.len _ _ _ _ hq] at e
    exact e.symm
  refine wpAny_call (make_map (f := f) I.kIn M.makes M.init (beq_iff_eq.mp M.fn) (codeAny_mono (F.run _ X.stack _ _ ⟨Value.ref (s.heap.objs.size + 1) :: us, []⟩ (Value.ref (s.heap.objs.size + 1) :: (us ++ ds)) _ _ (E σ) (hr.make C us []) (I2.env0.make C us []) (hb _ (Value.ref (s.heap.objs.size + 1) :: us) I2.kIn hl) r2 hq) fun r s' hq' => ?_))
  cases r with
  | error e => exact hx pins _ _ e s' I2 hq'
  | ok fl =>
    cases fl with
    | ret u =>
      obtain ⟨v, H', I3, rv, ev, q3⟩ := I2.after hq'
      subst ev
      exact ⟨rv, ⟨V.ref (s.heap.objs.size + 1), H', I3, rfl, q3⟩⟩
    | next => exact False.elim hq'
    | brk => exact False.elim hq'
    | cont => exact False.elim hq'
theorem pe_makeSD {k : Nat} {f C : Addr} {fd : FuncData} {ps : List Str} {sp : Sp} {dvs : List V} {ds : List Value} {E : L2.St → XK} {e : Expr} {es : List Expr} {t : TA} (M : L2.Mk X.K C f) (F : FnOk X.prog X.w X.K X.mg X.base (L2N.CX X.prog X.w) k f fd ps sp) (hr : Room (k + 1) X.A) (hg : Gl X x) (hm : X.mg x = some (.ref C)) (hb : Binds X.K fd ps ds) (hd : Vals dvs ds)
    (hx : ∀ σ, PassesAt (L2N.CX X.prog X.w) X σ (E σ)) (ha : PA X (e :: es) t) (hdb : (x == ("__debug__" : Str)) = false) (he : starEach (e :: es) X.env = (false, eval e X.env) :: starEach es X.env) (hpl : (backTo pos (starEach es X.env)).any (·.1) = false) :
    PE X (.Call (.Name x p) (e :: es) [] pos) (tMakeSD C sp dvs E t) := by
  refine ⟨fun pins s σ H Q I h => ?_⟩
  refine wpAny_Call_Name_kw (ld_glob I hg hm ?_ hdb)
  refine PySem.W.callWith_K (h₀ := X.base) I.ok.mod.kin M.kp (thn (ha.run pos pins s σ H _ I h) fun us s1 ⟨vs, H1, I1, r, q⟩ => ⟨I1.kIn, ?_⟩) he hpl
  exact run_makeSD M F hr hb hd (hx σ) I1 r q
theorem pe_makeSD0 {k : Nat} {f C : Addr} {fd : FuncData} {ps : List Str} {sp : Sp} {dvs : List V} {ds : List Value} {E : L2.St → XK} (M : L2.Mk X.K C f) (F : FnOk X.prog X.w X.K X.mg X.base (L2N.CX X.prog X.w) k f fd ps sp) (hr : Room (k + 1) X.A) (hg : Gl X x) (hm : X.mg x = some (.ref C)) (hb : Binds X.K fd ps ds) (hd : Vals dvs ds)
    (hx : ∀ σ, PassesAt (L2N.CX X.prog X.w) X σ (E σ)) (hdb : (x == ("__debug__" : Str)) = false) : PE X (.Call (.Name x p) [] [] pos) (tMakeSD C sp dvs E tNil) := by
  refine ⟨fun pins s σ H Q I h => ?_⟩
  refine wpAny_Call_Name_kw (ld_glob I hg hm ?_ hdb)
  exact PySem.W.callWith_K0 I.kIn M.kp (run_makeSD (us := []) M F hr hb hd (hx σ) I .nil h)
/-- what follows the arguments -/
theorem mk_sp {M : MkI} {dV : List V} {xs : List PV} {vs : List V} {x dx : Addr} (hd : ∀ φ H, RepL W φ H M.F.dvs dV) (r : RepL W φ H xs vs) (hr : HR W φ H h) (h1 : H x = none) (h2 : H dx = none) (h3 : dx ≠ x) (q : ResG W Wx (rE W) σ φ H (oMk M xs h) Q) :
    W.spZ M.F.ps.length M.F.sem (.ref x :: (vs ++ dV)) (upd (upd H dx (.own x)) x (.ins (W.cA M.cls) dx [])) (fun v H2 => v = .non ∧ Q (.ref x) H2) (WE Wx σ) := by
  have p1 : Post φ H φ (upd H dx (.own x)) := .add h2
  have r1 : HR W φ (upd H dx (.own x)) h := hr.add h2
  have hx1 : upd H dx (.own x) x = none := by rw [upd_ne h3.symm]; exact h1
  have p2 : Post φ (upd H dx (.own x)) φ (upd (upd H dx (.own x)) x (.ins (W.cA M.cls) dx [])) := .add hx1
  have r2 : HR W φ (upd (upd H dx (.own x)) x (.ins (W.cA M.cls) dx [])) h := r1.add hx1
  have p12 := Post.trans r1 p1 p2
  have nx : ∀ n, φ n ≠ some x := hr.free h1
  have r3 : HR W (ext φ h.length x) (upd (upd H dx (.own x)) x (.ins (W.cA M.cls) dx [])) (h ++ [.ins M.cls []]) := r2.know nx ⟨dx, [], upd_same, by unfold RepF; rfl⟩
  have p3 : Post φ H (ext φ h.length x) (upd (upd H dx (.own x)) x (.ins (W.cA M.cls) dx [])) := p12.know r2 h1
  have rx : RepL W (ext φ h.length x) (upd (upd H dx (.own x)) x (.ins (W.cA M.cls) dx [])) (.ref h.length :: xs) (.ref x :: vs) :=
    .cons (by rw [Rep]; exact ⟨x, rfl, ext_same⟩) (r.mono (p3.k hr))
  refine call_sp (xs := .ref h.length :: xs) (vs := .ref x :: vs) (hd _ _) rx r3 ?_
  unfold oMk at q
  cases e : oCall M.F (.ref h.length :: xs) (h ++ [.ins M.cls []]) with
  | ok y h' =>
    rw [e] at q
    cases y with
    | non =>
      intro φ' v H' p' r' rv
      have rv := rv.rep (fun _ => by simp)
      rw [Rep] at rv
      refine ⟨rv, q φ' _ H' (Post.trans r3 p3 p') r' (.inl ?_)⟩
      rw [Rep]
      exact ⟨x, rfl, p'.sub _ _ ext_same⟩
    | _ => exact q.elim
  | ex c p h' =>
    rw [e] at q
    exact fun φ' d pv H' p' r' a b => q φ' d pv H' (Post.trans r3 p3 p') r' a b
  | bad => rw [e] at q; exact q.elim
theorem z_make {M : MkI} {e : Expr} {es : List Expr} {as : MG (List PV)} (T : MkT X.prog X.w X.mg X.base W M) (hks : M.ks = []) (hK : X.K = W.K) (hr : Room (M.F.k + 1) X.A) (tk : L2N.Takes X Wx) (hg : Gl X M.name) (ha : PA X (e :: es) (tA W Wx as)) (hs : (e :: es).all notStar = true) (hdb : (M.name == ("__debug__" : Str)) = false) :
    PE X (.Call (.Name M.name p) (e :: es) [] pos) (tE W Wx (mC (oMk M) as)) := by
  have s1 : notStar e = true := (Bool.and_eq_true_iff.mp (show (notStar e && es.all notStar) = true from hs)).1
  have s2 : es.all notStar = true := (Bool.and_eq_true_iff.mp (show (notStar e && es.all notStar) = true from hs)).2
  obtain ⟨f, h1, h2, ⟨fd, ds, dV, b1, b2, b3, b4⟩⟩ := T.ex hks
  rw [← hK] at h2 b1 b4
  refine PE.imp (pe_makeSD h2 b4 hr hg h1 b1 b2 (fun σ => L2N.passAt tk σ) ha hdb (star_cons s1) (star_any s2)) fun σ H Q ⟨φ, env, h, s, r, q⟩ => ?_
  refine (tb (R := rA W) s r q).mono fun vs H1 ⟨φ1, h1', xs, p1, s1, r1, e1, q⟩ x dx w1 w2 w3 => ?_
  exact mk_sp b3 e1 r1 w1 w2 w3 q
theorem z_make0 {M : MkI} (T : MkT X.prog X.w X.mg X.base W M) (hks : M.ks = []) (hK : X.K = W.K) (hr : Room (M.F.k + 1) X.A) (tk : L2N.Takes X Wx) (hg : Gl X M.name) (hdb : (M.name == ("__debug__" : Str)) = false) :
    PE X (.Call (.Name M.name p) [] [] pos) (tE W Wx (mC (oMk M) aNil)) := by
  obtain ⟨f, h1, h2, ⟨fd, ds, dV, b1, b2, b3, b4⟩⟩ := T.ex hks
  rw [← hK] at h2 b1 b4
  refine PE.imp (pe_makeSD0 h2 b4 hr hg h1 b1 b2 (fun σ => L2N.passAt tk σ) hdb) fun σ H Q ⟨φ, env, h, s, r, q⟩ => ?_
  show ∀ x dx, H x = none → H dx = none → dx ≠ x → _
  intro x dx w1 w2 w3
  exact mk_sp (vs := []) b3 .nil r w1 w2 w3 q
/-! making with keywords -/
theorem Vals.fill {ix : List (Bool × Nat)} {ms zs : List V} {mv ws : List Value} (h1 : Vals ms mv) (h2 : Vals zs ws) : Vals (fill ix ms zs) (fill ix mv ws) := by
  have get : ∀ {xs : List V} {us : List Value} (i : Nat), Vals xs us → (xs[i]? = none ∧ us[i]? = none) ∨ ∃ x u, xs[i]? = some x ∧ us[i]? = some u ∧ RelV x u := by
    intro xs us i h
    induction h generalizing i with
    | nil => exact .inl ⟨rfl, rfl⟩
    | cons r _ ih =>
      cases i with
      | zero => exact .inr ⟨_, _, rfl, rfl, r⟩
      | succ i => exact ih i
  induction ix with
  | nil => exact .nil
  | cons p ix ih =>
    unfold Z.fill at ih ⊢
    rw [List.filterMap_cons, List.filterMap_cons]
    cases p.1 with
    | true =>
      rw [if_pos rfl, if_pos rfl]
      rcases get p.2 h2 with ⟨e1, e2⟩ | ⟨x, u, e1, e2, r⟩
      · rw [e1, e2]; exact ih
      · rw [e1, e2]; exact .cons r ih
    | false =>
      rw [if_neg (by simp), if_neg (by simp)]
      rcases get p.2 h1 with ⟨e1, e2⟩ | ⟨x, u, e1, e2, r⟩
      · rw [e1, e2]; exact ih
      · rw [e1, e2]; exact .cons r ih
theorem RepL.fill {ix : List (Bool × Nat)} {ms zs : List PV} {mv ws : List V} (h1 : RepL W φ H ms mv) (h2 : RepL W φ H zs ws) : RepL W φ H (fill ix ms zs) (fill ix mv ws) := by
  have get : ∀ {xs : List PV} {us : List V} (i : Nat), RepL W φ H xs us → (xs[i]? = none ∧ us[i]? = none) ∨ ∃ x u, xs[i]? = some x ∧ us[i]? = some u ∧ Rep W φ H x u := by
    intro xs
    induction xs with
    | nil => intro us i h; rw [h.unnil]; exact .inl ⟨rfl, rfl⟩
    | cons x xs ih =>
      intro us i h
      obtain ⟨v, r, rfl, q1, q2⟩ := h.uncons
      cases i with
      | zero => exact .inr ⟨_, _, rfl, rfl, q1⟩
      | succ i => exact ih i q2
  induction ix with
  | nil => exact .nil
  | cons p ix ih =>
    unfold Z.fill at ih ⊢
    rw [List.filterMap_cons, List.filterMap_cons]
    cases p.1 with
    | true =>
      rw [if_pos rfl, if_pos rfl]
      rcases get p.2 h2 with ⟨e1, e2⟩ | ⟨x, u, e1, e2, r⟩
      · rw [e1, e2]; exact ih
      · rw [e1, e2]; exact .cons r ih
    | false =>
      rw [if_neg (by simp), if_neg (by simp)]
      rcases get p.2 h1 with ⟨e1, e2⟩ | ⟨x, u, e1, e2, r⟩
      · rw [e1, e2]; exact ih
      · rw [e1, e2]; exact .cons r ih
def tMakeKD (C : Addr) (n m : Nat) (sp : Sp) (gV : List V → List V → List V) (E : L2.St → XK) (t tk : TA) : TE := fun σ H Q => t σ H fun vs H1 => tk σ H1 fun zs H2 => vs.length = n ∧ zs.length = m ∧ ∀ x dx, H2 x = none → H2 dx = none → dx ≠ x →
  sp (gV (.ref x :: vs) zs) (upd (upd H2 dx (.own x)) x (.ins C dx [])) (fun v H3 => v = .non ∧ Q (.ref x) H3) (E σ)
theorem pe_makeKD {k n : Nat} {f C : Addr} {fd : FuncData} {ps ks : List Str} {sp : Sp} {E : L2.St → XK} {e : Expr} {es : List Expr} {kws : List Keyword} {t tk : TA} {g : List Value → List Value → List Value} {gV : List V → List V → List V} (M : L2.Mk X.K C f) (F : FnOk X.prog X.w X.K X.mg X.base (L2N.CX X.prog X.w) k f fd ps sp) (hr : Room (k + 1) X.A) (hg : Gl X x) (hm : X.mg x = some (.ref C)) (hb : L2.KBn X.K fd ps (n + 1) ks g gV)
    (hx : ∀ σ, PassesAt (L2N.CX X.prog X.w) X σ (E σ)) (ha : PA X (e :: es) t) (hkw : PK X kws tk)
    (hall : (backToKw pos (keywordEach kws X.env)).all (·.1.isSome) = true) (hks : (backToKw pos (keywordEach kws X.env)).filterMap (·.1) = ks) (hdb : (x == ("__debug__" : Str)) = false)
    (he : starEach (e :: es) X.env = (false, eval e X.env) :: starEach es X.env) (hpl : ((backTo pos (starEach (e :: es) X.env)).any (·.1) || (backToKw pos (keywordEach kws X.env)).any (·.1.isNone)) = false) :
    PE X (.Call (.Name x p) (e :: es) kws pos) (tMakeKD C n ks.length sp gV E t tk) := by
  refine ⟨fun pins s σ H Q I h => ?_⟩
  refine wpAny_Call_Name_kw (ld_glob I hg hm ?_ hdb)
  refine PySem.W.callWith_KW (h₀ := X.base) I.ok.mod.kin M.kp hall (thn (ha.run pos pins s σ H _ I h) fun us s1 ⟨vs, H1, I1, r, q⟩ => ?_) hpl he
  refine thn (hkw.run pos pins s1 σ H1 _ I1 q) fun ws s2 ⟨zs, H2, I2, rz, l1, l2, q2⟩ => ⟨I2.kIn, ?_⟩
  rw [hks]
  have hq := q2 (s2.heap.objs.size + 1) s2.heap.objs.size (I2.hok.fresh (Nat.le_succ _)) (I2.hok.fresh (Nat.le_refl _)) (Nat.ne_of_lt (Nat.lt_succ_self _))
  have I3 := Inv.made (C := C) I2
  have r1 : Vals (V.ref (s2.heap.objs.size + 1) :: vs) (Value.ref (s2.heap.objs.size + 1) :: us) := .cons rfl r
  have r2 := hb.rel r1 rz
  have n1 : (Value.ref (s2.heap.objs.size + 1) :: us).length = n + 1 := by
    rw [List.length_cons, ← r.length, l1]
  refine wpAny_call (make_map (f := f) I2.kIn M.makes M.init (beq_iff_eq.mp M.fn) (codeAny_mono (F.run _ X.stack _ _ ⟨Value.ref (s2.heap.objs.size + 1) :: us, ks.zip ws⟩ (g (Value.ref (s2.heap.objs.size + 1) :: us) ws) _ _ (E σ) (hr.make C us (ks.zip ws))
    (I3.env0.make C us (ks.zip ws)) (hb.to _ (Value.ref (s2.heap.objs.size + 1) :: us) ws I3.kIn n1 (rz.length.symm.trans l2)) r2 hq) fun r s' hq' => ?_))
  cases r with
  | error e => exact hx σ pins _ _ e s' I3 hq'
  | ok fl =>
    cases fl with
    | ret u =>
      obtain ⟨v, H', I4, rv, ev, q3⟩ := I3.after hq'
      subst ev
      exact ⟨rv, ⟨V.ref (s2.heap.objs.size + 1), H', I4, rfl, q3⟩⟩
    | next => exact False.elim hq'
    | brk => exact False.elim hq'
    | cont => exact False.elim hq'
theorem PK.imp {X : Cx} {e : List Keyword} {t t' : TA} (h : PK X e t) (i : ∀ σ H Q, t' σ H Q → t σ H Q) : PK X e t' := ⟨fun pos pins s σ H Q I q => h.run pos pins s σ H Q I (i _ _ _ q)⟩
theorem z_knil {X : Cx} : PK X [] (tA W Wx aNil) := PK.imp pk_nil fun σ H Q x => by
  obtain ⟨φ, env, h, s, r, x⟩ := x
  exact x φ [] H .refl r .nil
theorem z_kcons {X : Cx} {nm : Option Str} {kpos : Pos} {e : Expr} {kws : List Keyword} {m : MG PV} {r : MG (List PV)} (h : PE X e (tE W Wx m)) (t : PK X kws (tA W Wx r)) : PK X (⟨nm, e, kpos⟩ :: kws) (tA W Wx (aCons m r)) := by
  refine PK.imp (pk_cons (PE.m h) t) fun σ H Q ⟨φ, env, h, s, r, q⟩ => ?_
  refine (tb (R := rM W) s r q).mono fun v H1 ⟨φ1, h1, a, p1, s1, r1, e1, q⟩ => ?_
  refine (tb (R := rA W) s1 r1 q).mono fun vs H2 ⟨φ2, h2, as, p2, s2, r2, e2, q⟩ => ?_
  exact q φ2 _ H2 .refl r2 (.cons (e1.mono (p2.k r1)) e2)
def kwN : Keyword → Option Str
  | ⟨n, _, _⟩ => n
theorem kw_names {env : Env} : ∀ {kws : List Keyword} {ks : List Str}, kws.map kwN = ks.map some → (backToKw pos (keywordEach kws env)).all (·.1.isSome) = true ∧ (backToKw pos (keywordEach kws env)).filterMap (·.1) = ks ∧ (backToKw pos (keywordEach kws env)).any (·.1.isNone) = false
  | [], [], _ => ⟨rfl, rfl, rfl⟩
  | [], _ :: _, e => nomatch e
  | _ :: _, [], e => nomatch e
  | ⟨n, v, kp⟩ :: kws, k :: ks, e => by
    rw [List.map_cons, List.map_cons] at e
    injection e with e1 e2
    have e1 : n = some k := e1
    subst e1
    obtain ⟨a, b, c⟩ := kw_names (env := env) e2
    refine ⟨a, ?_, c⟩
    show k :: (backToKw pos (keywordEach kws env)).filterMap (·.1) = _
    rw [b]
theorem z_makeK {M : MkI} {e : Expr} {es : List Expr} {kws : List Keyword} {as zs : MG (List PV)} (T : MkT X.prog X.w X.mg X.base W M) (hks : M.ks ≠ []) (hK : X.K = W.K) (hr : Room (M.F.k + 1) X.A) (tk : L2N.Takes X Wx) (hg : Gl X M.name) (ha : PA X (e :: es) (tA W Wx as)) (hkw : PK X kws (tA W Wx zs)) (hs : (e :: es).all notStar = true) (hn : kws.map kwN = M.ks.map some) (hdb : (M.name == ("__debug__" : Str)) = false) :
    PE X (.Call (.Name M.name p) (e :: es) kws pos) (tE W Wx (mCK M as zs)) := by
  have s1 : notStar e = true := (Bool.and_eq_true_iff.mp (show (notStar e && es.all notStar) = true from hs)).1
  have s2 : es.all notStar = true := (Bool.and_eq_true_iff.mp (show (notStar e && es.all notStar) = true from hs)).2
  obtain ⟨f, fd, g, dV, h1, h2, h3, h4, h5, h6⟩ := T.exk hks
  rw [← hK] at h2 h5 h6
  obtain ⟨k1, k2, k3⟩ := kw_names (pos := pos) (env := X.env) hn
  refine PE.imp (pe_makeKD h2 h6 hr hg h1 h5 (fun σ => L2N.passAt tk σ) ha hkw k1 k2 hdb (star_cons s1) (by
    rw [k3, Bool.or_false, star_cons s1]
    exact star_any s2)) fun σ H Q ⟨φ, env, h, s, r, q⟩ => ?_
  refine (tb (R := rA W) s r q).mono fun vs H1 ⟨φ1, h1', xs, p1, s1, r1, e1, q⟩ => ?_
  refine (tb (R := rA W) s1 r1 q).mono fun ws H2 ⟨φ2, h2', ys, p2, s2, r2, e2, q⟩ => ?_
  unfold oMkK at q
  by_cases c : xs.length = M.n ∧ ys.length = M.ks.length
  · rw [if_pos c] at q
    have e1' := e1.mono (p2.k r1)
    refine ⟨by rw [← e1.length]; exact c.1, by rw [← e2.length]; exact c.2, fun x dx w1 w2 w3 => ?_⟩
    have := mk_sp (M := M) (dV := []) (xs := xs ++ fill M.ix M.dv ys) (vs := vs ++ fill M.ix dV ws) (fun φ H => by rw [h3]; exact .nil) (e1'.append (RepL.fill (h4 _ _) e2)) r2 w1 w2 w3 q
    rw [List.append_nil] at this
    exact this
  · rw [if_neg c] at q; exact q.elim
end
end Z
namespace Z
open PySem PySem.Spec PyProof.Rows L2
/-! ### raise -/
theorem relO_place {v : V} {v' : Value} (r : RelV v v') (f : Str) : RelO (List.lookup f [(("place" : Str), v)]) (if f = "place" then some v' else none) := by
  by_cases hw : f = "place"
  · subst hw
    rw [if_pos rfl]
    have q : List.lookup ("place" : Str) [(("place" : Str), v)] = some v := by simp [List.lookup]
    rw [q]
    exact r
  · rw [if_neg hw]
    have qw : (f == ("place" : Str)) = false := by simpa using hw
    have q2 : List.lookup f [(("place" : Str), v)] = none := by simp [List.lookup, qw]
    rw [q2]
    trivial
/-- an own error of a law: its name, its class -/
structure ErrT (P : Program) (mg : Str → Option Value) (K : PySem.W.Frag) (x : Str) (C : Addr) : Prop where
  ex : ∃ D fI cc cda, mg x = some (.ref C) ∧ mg "super" = none ∧ PySem.ZX.ErrTxt K P C D fI cc cda
def tMkE (C : Addr) (ta : TA) : L2.St → Hp → XK → Prop := fun σ H Q => ta σ H fun vs H1 => ∃ v, vs = [v] ∧ ∀ d, H1 d = none → Q (.ref C) (some d) (upd H1 d (.xd [(("place" : Str), v)]))
section
variable {X : Cx} {C : Addr} {x : Str}
theorem pmk_err {a : Expr} {ta : TA} {p pos : Pos} {k : Nat} (T : ErrT X.prog X.mg X.K x C) (hr : Room (k + 1) X.A) (ha : PA X [a] ta) (hg : Gl X x) (hdb : (x == ("__debug__" : Str)) = false)
    (he : starEach (a :: []) X.env = (false, eval a X.env) :: starEach [] X.env) :
    L2N.PMk X (.Call (.Name x p) [a] [] pos) (tMkE C ta) := by
  intro pins s σ H Q I h
  obtain ⟨D, fI, cc, cda, gC, hsup, T⟩ := T.ex
  refine wpAny_Call_Name_kw (ld_glob I hg gC ?_ hdb)
  refine PySem.W.callWith_K (h₀ := X.base) I.ok.mod.kin T.kC (thn (ha.run pos pins s σ H _ I h) fun us s1 hh => ?_) he rfl
  obtain ⟨vs, H1, I1, r1, v, ev, q1⟩ := hh
  subst ev
  refine ⟨I1.kIn, ?_⟩
  cases r1 with
  | cons rv rn =>
    rename_i v' us'
    cases rn
    show wpAny _ _ (call (.ref C) [v']) _ _ _
    have hlim := I1.nolimit
    obtain ⟨mb, hbn, hbb⟩ := I.ok.mod.blt
    have kb := I1.bk
    obtain ⟨hp, g, dr, tk, os⟩ := s1
    refine wpAny_call (PySem.ZX.err_made T I1.kIn hlim (I.ok.mod.glob.keeps kb) hsup (hbn.keeps kb) hbb (by have := hr.dp; omega) fun h' tk' e d M => ?_)
    show L2N.MkP X pins σ Q (.ref e) ⟨h', g, dr, tk', os⟩
    obtain ⟨oe, fv, hoe, hc, hd, hdat, h1, h2⟩ := M.obj
    have hns := M.ns
    obtain ⟨G', g1, g2⟩ := restrict h' fun b => decide (b ≠ e)
    have gk : ∀ b, b ≠ e → G'.get? b = h'.get? b := fun b hb => g1 b (decide_eq_true hb)
    have ge : G'.get? e = none := g2 e (by simp)
    have old : ∀ b o, hp.get? b = some o → G'.get? b = some o := fun b o q => (gk b (Nat.ne_of_lt (Nat.lt_of_lt_of_le (Heap.lt_size q) M.new))).trans (M.keep b o q)
    have ob : ObjOk X.prog X.w (upd H1 d (.xd [(("place" : Str), v)])) G' d (.xd [(("place" : Str), v)]) :=
      ⟨_, hns.at (fun o q => (gk d M.dne).trans q), fun f => relO_place rv f⟩
    have J : L2.Inv X pins σ (upd H1 d (.xd [(("place" : Str), v)])) ⟨G', g, dr, tk', os⟩ := I1.laid (t' := tk') old M.dbig ob
    refine ⟨e, oe, fv, ⟨G', g, dr, tk', os⟩, _, .ref C, some d, rfl, J, fun b o q => ?_, ge, hoe, ⟨hc, hd, fun vs e => by rw [hdat] at e; cases e; exact h2⟩, hdat, h1, ?_, rfl, I1.bare, raises_own T.exC T.tyC, q1 d (I1.hok.fresh M.dbig)⟩
    · by_cases hb : b = e
      · have q' : G'.get? b = some o := q
        rw [hb, ge] at q'; cases q'
      · exact (gk b hb).symm.trans q
    · rw [upd_ne (Ne.symm M.dne)]
      exact I1.hok.fresh M.new
end
def sRaise (c : Nat) (as : MG (List PV)) : MS := fun env h => (as env h).toS env fun xs h1 => match xs with
  | [x] => .ex c x env h1
  | _ => .bad
section
variable {W : Wd} {Wx : WX} {X : Cx} {pos p : Pos} {x : Str} {H H0 H1 : Hp} {φ : Emb} {h : PH} {σ : L2.St} {Q : VK}
theorem z_raise {c k : Nat} {a : Expr} {as : MG (List PV)} {pos2 : Pos} (hc : X.calm = true) (hK : X.K = W.K) (tk : L2N.Takes X Wx) (T : ErrT X.prog X.mg W.K x (W.cA c)) (hr : Room (k + 1) X.A) (ha : PA X [a] (tA W Wx as)) (hg : Gl X x) (hdb : (x == ("__debug__" : Str)) = false) (hs : notStar a = true) :
    L2.PS X (.Raise (some (.Call (.Name x p) [a] [] pos)) none pos2) (tS W Wx (sRaise c as)) := by
  rw [← hK] at T
  refine PS.imp (L2N.ps_raise hc tk (pmk_err T hr ha hg hdb (star_cons hs))) fun D σ H ⟨φ, env, h, s, r, q⟩ => ?_
  refine (sb (R := rA W) s r q).mono fun vs H1 ⟨φ1, h1, xs, p1, s1, r1, e1, q⟩ => ?_
  match xs, q, e1 with
  | [], q, _ => exact q.elim
  | _ :: _ :: _, q, _ => exact q.elim
  | [y], q, e1 =>
    obtain ⟨v, r', rfl, q1, q2⟩ := RepL.uncons e1
    rw [q2.unnil]
    refine ⟨v, rfl, fun d hd => ?_⟩
    have pp : Post φ1 H1 φ1 (upd H1 d (.xd [(("place" : Str), v)])) := .add hd
    exact q φ1 σ d v _ pp (r1.add hd) (s1.mono (pp.k r1)) (q1.mono (pp.k r1)) upd_same
end
/-! ### an exception in hand: what is true of values without one -/
mutual
def nxV : PV → Bool
  | .tup xs => nxL xs
  | .ro xs => nxL xs
  | .lst xs => nxL xs
  | .exn _ _ => false
  | _ => true
def nxL : List PV → Bool
  | [] => true
  | x :: xs => nxV x && nxL xs
end
def nxF : List (Nat × PV) → Bool
  | [] => true
  | p :: r => nxV p.2 && nxF r
def nxO : OB → Bool
  | .lst xs => nxL xs
  | .ins _ fs => nxF fs
  | .dct kvs => kvs.all fun p => nxV p.1 && nxV p.2
  | .fdc kvs => kvs.all fun p => nxV p.1 && nxV p.2
abbrev Wd.ex (W : Wd) (e : Addr → Nat → Addr → Prop) : Wd := { W with exA := e }
section
variable {W : Wd} {φ : Emb} {H H0 : Hp} {h : PH} {e : Addr → Nat → Addr → Prop}
mutual
theorem Rep.wdn : ∀ {x : PV} {v : V}, nxV x = true → Rep W φ H x v → Rep (W.ex e) φ H x v
  | .non, v, _, r => by rw [Rep] at r ⊢; exact r
  | .bl _, v, _, r => by rw [Rep] at r ⊢; exact r
  | .int _, v, _, r => by rw [Rep] at r ⊢; exact r
  | .str _, v, _, r => by rw [Rep] at r ⊢; exact r
  | .tup xs, v, n, r => by
    rw [nxV] at n
    rw [Rep] at r ⊢
    obtain ⟨a, vs, h1, h2, h3⟩ := r
    exact ⟨a, vs, h1, h2, RepL.wdn n h3⟩
  | .ro xs, v, n, r => by
    rw [nxV] at n
    rw [Rep] at r ⊢
    obtain ⟨a, vs, h1, h2, h3⟩ := r
    exact ⟨a, vs, h1, h2, RepL.wdn n h3⟩
  | .lst xs, v, _, r => by rw [Rep] at r; exact r.elim
  | .ref n, v, _, r => by rw [Rep] at r ⊢; exact r
  | .exn c p, v, n, r => by rw [nxV] at n; cases n
theorem RepL.wdn : ∀ {x : List PV} {v : List V}, nxL x = true → RepL W φ H x v → RepL (W.ex e) φ H x v
  | [], v, _, r => by rw [RepL] at r ⊢; exact r
  | x :: xs, v, n, r => by
    rw [nxL, Bool.and_eq_true] at n
    rw [RepL] at r ⊢
    obtain ⟨a, vs, h1, h2, h3⟩ := r
    exact ⟨a, vs, h1, Rep.wdn n.1 h2, RepL.wdn n.2 h3⟩
end
mutual
theorem Rep.nx (n : ∀ a c d, ¬ W.exA a c d) : ∀ {x : PV} {v : V}, Rep W φ H x v → nxV x = true
  | .non, v, _ => rfl
  | .bl _, v, _ => rfl
  | .int _, v, _ => rfl
  | .str _, v, _ => rfl
  | .tup xs, v, r => by
    rw [Rep] at r
    obtain ⟨a, vs, h1, h2, h3⟩ := r
    rw [nxV]; exact RepL.nx n h3
  | .ro xs, v, r => by
    rw [Rep] at r
    obtain ⟨a, vs, h1, h2, h3⟩ := r
    rw [nxV]; exact RepL.nx n h3
  | .lst xs, v, r => by rw [Rep] at r; exact r.elim
  | .ref _, v, _ => rfl
  | .exn c p, v, r => by
    rw [Rep] at r
    obtain ⟨a, d, pv, h1, h2, h3⟩ := r
    exact absurd h2 (n _ _ _)
theorem RepL.nx (n : ∀ a c d, ¬ W.exA a c d) : ∀ {x : List PV} {v : List V}, RepL W φ H x v → nxL x = true
  | [], v, _ => rfl
  | x :: xs, v, r => by
    rw [RepL] at r
    obtain ⟨a, vs, h1, h2, h3⟩ := r
    rw [nxL, Rep.nx n h2, RepL.nx n h3]; rfl
end
theorem RepF.wdn : ∀ {x : List (Nat × PV)} {v : List (Str × V)}, nxF x = true → RepF W φ H x v → RepF (W.ex e) φ H x v
  | [], v, _, r => by unfold RepF at r ⊢; exact r
  | (k, x) :: xs, v, n, r => by
    unfold nxF at n
    rw [Bool.and_eq_true] at n
    unfold RepF at r ⊢
    obtain ⟨a, vs, h1, h2, h3⟩ := r
    exact ⟨a, vs, h1, Rep.wdn n.1 h2, RepF.wdn n.2 h3⟩
theorem RepF.nx (n : ∀ a c d, ¬ W.exA a c d) : ∀ {x : List (Nat × PV)} {v : List (Str × V)}, RepF W φ H x v → nxF x = true
  | [], v, _ => rfl
  | (k, x) :: xs, v, r => by
    unfold RepF at r
    obtain ⟨a, vs, h1, h2, h3⟩ := r
    unfold nxF
    rw [Rep.nx n h2, RepF.nx n h3]; rfl
theorem OR.wdn {a : Addr} {o : OB} (n : nxO o = true) (x : OR W φ H a o) : OR (W.ex e) φ H a o := by
  cases o with
  | lst xs => obtain ⟨vs, h1, r⟩ := x; exact ⟨vs, h1, RepL.wdn n r⟩
  | ins c fs => obtain ⟨dx, vs, h1, r⟩ := x; exact ⟨dx, vs, h1, RepF.wdn n r⟩
  | dct kvs =>
    obtain ⟨x1, x2, x3, x4, r⟩ := x
    refine ⟨x1, x2, x3, x4, pairedM r fun p q hp z => ?_⟩
    have n := Bool.and_eq_true_iff.mp (List.all_eq_true.mp n p hp)
    exact ⟨z.1, z.2.1.wdn n.1, z.2.2.wdn n.2⟩
  | fdc kvs =>
    obtain ⟨x0, x1, x2, x3, x4, r⟩ := x
    refine ⟨x0, x1, x2, x3, x4, pairedM r fun p q hp z => ?_⟩
    have n := Bool.and_eq_true_iff.mp (List.all_eq_true.mp n p hp)
    exact ⟨z.1, z.2.1.wdn n.1, z.2.2.wdn n.2⟩
theorem OR.nx (n : ∀ a c d, ¬ W.exA a c d) {a : Addr} {o : OB} (x : OR W φ H a o) : nxO o = true := by
  cases o with
  | lst xs => obtain ⟨vs, h1, r⟩ := x; exact RepL.nx n r
  | ins c fs => obtain ⟨dx, vs, h1, r⟩ := x; exact RepF.nx n r
  | dct kvs =>
    obtain ⟨_, _, _, _, r⟩ := x
    refine List.all_eq_true.mpr fun p hp => ?_
    obtain ⟨q, z⟩ := pairedL r p hp
    rw [z.2.1.nx n, z.2.2.nx n]; rfl
  | fdc kvs =>
    obtain ⟨_, _, _, _, _, r⟩ := x
    refine List.all_eq_true.mpr fun p hp => ?_
    obtain ⟨q, z⟩ := pairedL r p hp
    rw [z.2.1.nx n, z.2.2.nx n]; rfl
theorem HR.nx (n : ∀ a c d, ¬ W.exA a c d) (r : HR W φ H h) {m : Nat} {o : OB} (q : h[m]? = some o) : nxO o = true := by
  have hm : m < h.length := by
    by_cases c : m < h.length
    · exact c
    · rw [List.getElem?_eq_none (by omega)] at q; cases q
  obtain ⟨a, ha⟩ := r.dom m hm
  exact OR.nx n (r.obj m o a q ha)
theorem HR.wdn (n : ∀ (m : Nat) (o : OB), h[m]? = some o → nxO o = true) (r : HR W φ H h) : HR (W.ex e) φ H h :=
  ⟨r.dom, r.cod, r.inj, fun m o a h1 h2 => (r.obj m o a h1 h2).wdn (n m o h1)⟩
theorem RR.wdn {x : PV} {v : V} (n : nxV x = true) (r : RR W φ H0 H x v) : RR (W.ex e) φ H0 H x v := by
  rcases r with r | ⟨xs, a, vs, rfl, h2, h3, h4, h5, h6⟩
  · exact .inl (r.wdn n)
  · rw [nxV] at n
    exact .inr ⟨xs, a, vs, rfl, h2, h3, h4, h5, h6.wdn n⟩
theorem SR.wdn {env : Sl} {σ : L2.St} (n : ∀ a c d, ¬ W.exA a c d) (s : SR W φ H env σ) : SR (W.ex e) φ H env σ := ⟨s.len, fun i x q => by
  obtain ⟨v, h1, h2⟩ := s.at_ i x q
  exact ⟨v, h1, h2.wdn (h2.nx n)⟩⟩
end
/-! ### try -/
def okH (h1 h2 : PH) : Prop := ∀ (m : Nat) (o : OB), h2[m]? = some o → h1[m]? = some o ∨ nxO o = true
open Classical in
noncomputable def sufR (h1 : PH) (r : RS) : RS := match r with
  | .rt x h2 => if nxV x = true ∧ okH h1 h2 then .rt x h2 else .bad
  | _ => .bad
noncomputable def sTryAs (m : Nat → Option Bool) (i : Nat) (body suite : MS) : MS := fun env h => match body env h with
  | .ex c p env1 h1 => (match m c with
    | some true => sufR h1 (suite (env1.set i (some (.exn c p))) h1)
    | some false => .ex c p env1 h1
    | none => .bad)
  | r => r
/-- several clauses without a name -/
noncomputable def hdsR : List ((Nat → Option Bool) × MS) → Nat → PV → Sl → PH → RS
  | [], c, p, env1, h1 => .ex c p env1 h1
  | q :: r, c, p, env1, h1 => match q.1 c with
    | some true => sufR h1 (q.2 env1 h1)
    | some false => hdsR r c p env1 h1
    | none => .bad
noncomputable def sTryM (l : List ((Nat → Option Bool) × MS)) (body : MS) : MS := fun env h => match body env h with
  | .ex c p env1 h1 => hdsR l c p env1 h1
  | r => r
def exAt (W : Wd) (a : Addr) (cls : Value) (d : Option Addr) : Addr → Nat → Addr → Prop := fun a' c' d' => a' = a ∧ cls = .ref (W.cA c') ∧ d = some d'
section
variable {W : Wd} {Wx : WX} {X : Cx} {pos p : Pos} {x n : Str} {H H0 H1 : Hp} {φ : Emb} {h : PH} {σ : L2.St} {Q : VK}
theorem z_tryAs {c : Value} {i : Nat} {body suite : List Stmt} {b₀ : Stmt} {np pos' : Pos} {mb ms : MS} {m : Nat → Option Bool} (hK : X.K = W.K) (nE : ∀ a c d, ¬ W.exA a c d) (hs : X.stack = X.env :: X.outer) (hf : X.env.frame = some X.env.locals) (hN : X.N.Nodup) (hi : X.N[i]? = some n) (hln : X.env.kindOf n = some .local) (hc : Names X x c) (tk : L2N.Takes X Wx)
    (hm : ∀ k b, m k = some b → PySem.W.exmOne W.K (.ref (W.cA k)) c = some b)
    (hb : ∀ (W' : WX) (pn : List (Addr × Obj)) (xe : Value → Shared → Prop), L2N.Takes (X.tr pn xe) W' → PassesOwn (model X.prog X.w) X.A X.env xe → PSs (X.tr pn xe) body (tS W W' mb))
    (hsu : ∀ (a : Addr) (oe : Obj) (cls : Value) (d : Option Addr) (pn : List (Addr × Obj)), L2N.Zn cls d oe → (∃ vs, oe.data = .fields vs) → PSs (X.suite a ((a, oe) :: pn)) (b₀ :: suite) (tS (W.ex (exAt W a cls d)) (fun _ _ _ _ => False) ms)) :
    L2.PS X (.Try body [.ExceptHandler (some (.Name x np)) (some n) (b₀ :: suite) pos'] [] [] pos) (tS W Wx (sTryAs m i mb ms)) := by
  refine PS.imp (L2N.ps_try_as hs hf hN hi hln hc tk hb hsu) fun D σ H ⟨φ, env, h, s, r, q⟩ => ?_
  refine ⟨φ, env, h, s, r, ?_⟩
  unfold sTryAs at q
  cases e : mb env h with
  | nx env1 h1 => rw [e] at q; exact q
  | rt y h1 => rw [e] at q; exact q
  | bk env1 h1 => rw [e] at q; exact q
  | ct env1 h1 => rw [e] at q; exact q
  | bad => rw [e] at q; exact q
  | ex c' p' env1 h1 =>
    rw [e] at q
    dsimp only at q
    intro φ' σ' d pv H' p1 r1 s1 rp hd
    cases em : m c' with
    | none => rw [em] at q; exact q.elim
    | some b =>
      rw [em] at q
      refine ⟨b, by rw [hK]; exact hm _ _ em, fun hb1 => ?_, fun hb1 => ?_⟩
      · subst hb1
        intro a ha
        have r2 : HR (W.ex (exAt W a (.ref (W.cA c')) (some d))) φ' H' h1 := r1.wdn fun _ _ q => r1.nx nE q
        have rp2 : Rep (W.ex (exAt W a (.ref (W.cA c')) (some d))) φ' H' p' pv := rp.wdn (rp.nx nE)
        have s2 : SR (W.ex (exAt W a (.ref (W.cA c')) (some d))) φ' H' (env1.set i (some (.exn c' p'))) (σ'.set i (some (.ref a))) := (s1.wdn nE).set (by rw [Rep]; exact ⟨a, d, pv, rfl, ⟨rfl, rfl, rfl⟩, hd, rp2⟩) i
        refine ⟨φ', _, h1, s2, r2, ?_⟩
        cases e2 : ms (env1.set i (some (.exn c' p'))) h1 with
        | rt y h2 =>
          dsimp only at q
          rw [e2] at q
          unfold sufR at q
          dsimp only at q
          by_cases cc : nxV y = true ∧ okH h1 h2
          · rw [if_pos cc] at q
            intro φ'' v H'' p2 r3 rv
            have r4 : HR W φ'' H'' h2 := HR.wdn (W := W.ex (exAt W a (.ref (W.cA c')) (some d))) (e := W.exA) (fun k o hk => by
              rcases cc.2 k o hk with z | z
              · exact r1.nx nE z
              · exact z) r3
            have rv2 : RR W φ'' H' H'' y v := RR.wdn (W := W.ex (exAt W a (.ref (W.cA c')) (some d))) (e := W.exA) cc.1 rv
            exact q φ'' v H'' (Post.trans r1 p1 p2) r4 (RR.up r1 p1 rv2)
          · rw [if_neg cc] at q; exact q.elim
        | nx env2 h2 => dsimp only at q; rw [e2] at q; exact q.elim
        | bk env2 h2 => dsimp only at q; rw [e2] at q; exact q.elim
        | ct env2 h2 => dsimp only at q; rw [e2] at q; exact q.elim
        | ex c2 p2 env2 h2 => dsimp only at q; rw [e2] at q; exact q.elim
        | bad => dsimp only at q; rw [e2] at q; exact q.elim
      · subst hb1
        exact q φ' σ' d pv H' p1 r1 s1 rp hd
theorem z_tryMany {body : List Stmt} {h₀ : ExceptHandler} {hds : List ExceptHandler} {l : List (Value × (Nat → Option Bool) × MS)} {mb : MS} (hK : X.K = W.K) (nE : ∀ a c d, ¬ W.exA a c d) (hs : X.stack = X.env :: X.outer) (hf : X.env.frame = some X.env.locals) (tk : L2N.Takes X Wx)
    (hm : ∀ q ∈ l, ∀ k b, q.2.1 k = some b → PySem.W.exmOne W.K (.ref (W.cA k)) q.1 = some b)
    (hb : ∀ (W' : WX) (pn : List (Addr × Obj)) (xe : Value → Shared → Prop), L2N.Takes (X.tr pn xe) W' → PassesOwn (model X.prog X.w) X.A X.env xe → PSs (X.tr pn xe) body (tS W W' mb))
    (hh : L2N.HdsOk X (h₀ :: hds) (l.map fun q => (q.1, fun a cls d => tS (W.ex (exAt W a cls d)) (fun _ _ _ _ => False) q.2.2))) :
    L2.PS X (.Try body (h₀ :: hds) [] [] pos) (tS W Wx (sTryM (l.map fun q => q.2) mb)) := by
  refine PS.imp (L2N.ps_try_many hs hf tk hb hh) fun D σ H ⟨φ, env, h, s, r, q⟩ => ?_
  refine ⟨φ, env, h, s, r, ?_⟩
  unfold sTryM at q
  cases e : mb env h with
  | nx env1 h1 => rw [e] at q; exact q
  | rt y h1 => rw [e] at q; exact q
  | bk env1 h1 => rw [e] at q; exact q
  | ct env1 h1 => rw [e] at q; exact q
  | bad => rw [e] at q; exact q
  | ex c' p' env1 h1 =>
    rw [e] at q
    dsimp only at q
    intro φ' σ' d pv H' p1 r1 s1 rp hd
    have go : ∀ l' : List (Value × (Nat → Option Bool) × MS), (∀ q ∈ l', ∀ k b, q.2.1 k = some b → PySem.W.exmOne W.K (.ref (W.cA k)) q.1 = some b) → ResS W Wx φ H (hdsR (l'.map fun q => q.2) c' p' env1 h1) D →
        wMany X.K Wx D (l'.map fun q => (q.1, fun a cls d => tS (W.ex (exAt W a cls d)) (fun _ _ _ _ => False) q.2.2)) (.ref (W.cA c')) (some d) σ' H' := by
      intro l'
      induction l' with
      | nil => exact fun _ q => q φ' σ' d pv H' p1 r1 s1 rp hd
      | cons x l' ih =>
        intro hm q
        rw [List.map_cons] at q ⊢
        unfold hdsR at q
        cases em : x.2.1 c' with
        | none => rw [em] at q; exact q.elim
        | some b =>
          rw [em] at q
          refine ⟨b, by rw [hK]; exact hm x (List.mem_cons_self ..) _ _ em, fun hb1 => ?_, fun hb1 => ?_⟩
          · subst hb1
            intro a ha
            have r2 : HR (W.ex (exAt W a (.ref (W.cA c')) (some d))) φ' H' h1 := r1.wdn fun _ _ q => r1.nx nE q
            have s2 : SR (W.ex (exAt W a (.ref (W.cA c')) (some d))) φ' H' env1 σ' := s1.wdn nE
            refine ⟨φ', _, h1, s2, r2, ?_⟩
            cases e2 : x.2.2 env1 h1 with
            | rt y h2 =>
              dsimp only at q
              rw [e2] at q
              unfold sufR at q
              dsimp only at q
              by_cases cc : nxV y = true ∧ okH h1 h2
              · rw [if_pos cc] at q
                intro φ'' v H'' p2 r3 rv
                have r4 : HR W φ'' H'' h2 := HR.wdn (W := W.ex (exAt W a (.ref (W.cA c')) (some d))) (e := W.exA) (fun k o hk => by
                  rcases cc.2 k o hk with z | z
                  · exact r1.nx nE z
                  · exact z) r3
                have rv2 : RR W φ'' H' H'' y v := RR.wdn (W := W.ex (exAt W a (.ref (W.cA c')) (some d))) (e := W.exA) cc.1 rv
                exact q φ'' v H'' (Post.trans r1 p1 p2) r4 (RR.up r1 p1 rv2)
              · rw [if_neg cc] at q; exact q.elim
            | nx env2 h2 => dsimp only at q; rw [e2] at q; exact q.elim
            | bk env2 h2 => dsimp only at q; rw [e2] at q; exact q.elim
            | ct env2 h2 => dsimp only at q; rw [e2] at q; exact q.elim
            | ex c2 p2 env2 h2 => dsimp only at q; rw [e2] at q; exact q.elim
            | bad => dsimp only at q; rw [e2] at q; exact q.elim
          · subst hb1
            exact ih (fun y hy => hm y (List.mem_cons_of_mem _ hy)) q
    exact go l hm q
end
/-! ### where an exception is handled: calls, its place, its kind -/
structure FnHp (P : Program) (w : World) (K : PySem.W.Frag) (mg : Str → Option Value) (base : Heap) (CX : CXT) (k : Nat) (f : Addr) (fd : FuncData) (ps : List Str) (sp : Sp) (p : Addr × Obj) : Prop where
  len : ∀ vs H Q E, sp vs H Q E → vs.length = ps.length
  run : ∀ (A : Around) (outer : List Env) (s : Shared) (H : Hp) (args : Args) (us : List Value) (vs : List V) (Q : VK) (E : XK), L2H.RoomH k A → L2H.Hot1 A p → L2H.PinOk outer H s p → Env0 P w K mg base A outer s H → BindsTo s fd args (ps.zip us) → Vals vs us → sp vs H Q E →
    codeAny (model P w) A (.call (.ref f) args) (CR CX outer P w H s Q E) s
/-- the context handles the exception of the pin p; W tells of it -/
structure HotP (W : Wd) (X : Cx) (p : Addr × Obj) : Prop where
  hot : L2H.Hot1 X.A p
  pin : p ∈ X.pn
  exA : ∀ a c d, W.exA a c d → a = p.1 ∧ L2N.Zn (.ref (W.cA c)) (some d) p.2
  fld : ∃ vs, p.2.data = .fields vs
section
variable {X : Cx} {CX : CXT} {k : Nat} {f : Addr} {fd : FuncData} {ps : List Str} {sp : Sp} {E : L2.St → XK} {x : Str} {q pos : Pos} {e : Expr} {es : List Expr} {t : TA} {p : Addr × Obj}
theorem run_fnHp {pins : List (Addr × Obj)} {σ : L2.St} {H : Hp} {s : Shared} {Q : VK} {us : List Value} {vs : List V} (F : FnHp X.prog X.w X.K X.mg X.base CX k f fd ps sp p) (hr : L2H.RoomH k X.A) (hot : L2H.Hot1 X.A p) (hp : p ∈ X.pn) (hb : Binds X.K fd ps []) (hx : PassesAt CX X σ (E σ))
    (I : L2.Inv X pins σ H s) (r : Vals vs us) (h : sp vs H Q (E σ)) : wpAny (model X.prog X.w) X.A (call (.ref f) us) (EP X pins σ Q) X.xe s := by
  have hl : us.length = ps.length := by rw [← r.length]; exact F.len _ _ _ _ h
  have b := hb s us I.kIn (by rw [List.append_nil]; exact hl)
  rw [List.append_nil] at b
  have P1 := I.pin p (List.mem_append_left _ hp)
  have hpin : L2H.PinOk X.stack H s p := ⟨P1.1, P1.2.1, fun hm => (List.mem_cons.mp (I.stkSub p.1 hm)).elim P1.2.2.1 P1.2.2.2.1, P1.2.2.2.2⟩
  refine wpAny_call (codeAny_mono (F.run X.A X.stack s H ⟨us, []⟩ us vs Q (E σ) hr hot hpin I.env0 b r h) fun r s' hq => ?_)
  cases r with
  | error e => exact hx pins H s e s' I hq
  | ok fl =>
    cases fl with
    | ret u => exact I.after hq
    | next => exact False.elim hq
    | brk => exact False.elim hq
    | cont => exact False.elim hq
theorem pe_callHp (F : FnHp X.prog X.w X.K X.mg X.base CX k f fd ps sp p) (hr : L2H.RoomH k X.A) (hot : L2H.Hot1 X.A p) (hp : p ∈ X.pn) (hg : Gl X x) (hm : X.mg x = some (.ref f)) (hk : PySem.W.keepIn X.K (.ref f) = true) (hb : Binds X.K fd ps []) (hx : ∀ σ, PassesAt CX X σ (E σ))
    (ha : PA X (e :: es) t) (hdb : (x == ("__debug__" : Str)) = false) (he : starEach (e :: es) X.env = (false, eval e X.env) :: starEach es X.env) (hpl : (backTo pos (starEach es X.env)).any (·.1) = false) :
    PE X (.Call (.Name x q) (e :: es) [] pos) (tCallS sp E t) := by
  refine ⟨fun pins s σ H Q I h => ?_⟩
  refine wpAny_Call_Name_kw (ld_glob I hg hm ?_ hdb)
  refine PySem.W.callWith_K (h₀ := X.base) I.ok.mod.kin hk (thn (ha.run pos pins s σ H _ I h) fun us s1 ⟨vs, H1, I1, r, q⟩ => ⟨I1.kIn, ?_⟩) he hpl
  exact run_fnHp F hr hot hp hb (hx σ) I1 r q
/-- what an own error's class must have to be looked at -/
structure XcC (K : PySem.W.Frag) (D : Addr) : Prop where
  hg : PySem.W.findIn K (.ref D) "__getattribute__" = some (some (.builtin "BaseException.__getattribute__"))
  hk : PySem.W.findIn K (.ref D) "__getattr__" = some none
  hs : PySem.W.subIn K (.ref D) (.type "BaseException") = some true
  hd : PySem.W.hasDictIn K D = true
  hp : PySem.W.findIn K (.ref D) "place" = some none
  ha : PySem.W.findIn K (.ref D) "__class__" = some (some (.builtin "object.__class__"))
  hn : PySem.W.specialIn K (.builtin "object.__class__") "__get__" = some (some (.builtin "getset_descriptor.__get__"))
  ht : PySem.W.takesIn K (.builtin "object.__class__") = some true
  hm : PySem.W.mroIn K D (.type "object") = some true
theorem inst_pin {pins : List (Addr × Obj)} {σ : L2.St} {H : Hp} {s : Shared} {C d : Addr} {fs : List (Str × V)} (I : L2.Inv X pins σ H s) (hp : p ∈ X.pn) (hz : L2N.Zn (.ref C) (some d) p.2) (hf : ∃ vs, p.2.data = .fields vs) (ed : H d = some (.xd fs)) :
    ∃ (od : Obj) (mA : Str → Option Value), PySem.W.InstAt s.heap p.1 p.2 C (some od) ∧ (∀ f, RelO (fs.lookup f) (mA f)) ∧ ∀ n : Str, PySem.W.lookIn n od = some (mA n) := by
  obtain ⟨ha, _⟩ := I.pin p (List.mem_append_left _ hp)
  obtain ⟨vs, hd⟩ := hf
  have hx : ObjOk X.prog X.w H s.heap d (.xd fs) := I.hok d _ ed
  obtain ⟨mA, hns, hr⟩ := hx
  obtain ⟨od, ho, hl⟩ := lookIn_ns hns
  exact ⟨od, mA, ⟨ha, hz.1, by unfold PySem.W.notCls; rw [hd] <;> rfl, by rw [hz.2.1]; exact ho⟩, hr, hl⟩
/-- e.place -/
def tXp (K : PySem.W.Frag) (p : Addr × Obj) (te : TE) : TE := fun σ H Q => te σ H fun x H1 => x = .ref p.1 ∧ ∃ (C dd : Addr) (v : V), L2N.Zn (.ref C) (some dd) p.2 ∧ XcC K C ∧ H1 dd = some (.xd [(("place" : Str), v)]) ∧ Q v H1
theorem pe_xp {te : TE} (hp : p ∈ X.pn) (hf : ∃ vs, p.2.data = .fields vs) (he : PE X e te) (hb : attributeBase e "place" X.env (eval e X.env) = eval e X.env) : PE X (.Attribute e "place" pos) (tXp X.K p te) := by
  refine ⟨fun pins s σ H Q I h => ?_⟩
  refine attr_of hb (thn (he.run pins s σ H _ I h) fun u s1 hh => ?_)
  obtain ⟨x, H1, I1, rx, ex, C, dd, v, hz, T, ea, q⟩ := hh
  subst ex
  obtain rfl : u = Value.ref p.1 := rx
  obtain ⟨od, mA, J, hr, hl⟩ := inst_pin I1 hp hz hf ea
  have l : List.lookup ("place" : Str) [(("place" : Str), v)] = some v := by simp [List.lookup]
  obtain ⟨u, hu, ru⟩ := RelO.some_of (v := v) (o := mA "place") (by rw [← l]; exact hr "place")
  exact HandSPX.exc_get I1.kIn J T.hg T.hk T.hs (PySem.W.findObj_own T.hd T.hp rfl (by rw [hl, hu])) (handed_of ru) ⟨v, H1, I1.tok _, ru, q⟩
/-- isinstance(e, c) -/
def rIsX (K : PySem.W.Frag) (p : Addr × Obj) : List V → Hp → VK → Prop := fun xs H Q => ∃ (C dd : Addr) (fs : List (Str × V)) (c : V) (cv : Value) (b : Bool), xs = [.ref p.1, c] ∧ L2N.Zn (.ref C) (some dd) p.2 ∧ XcC K C ∧ H dd = some (.xd fs) ∧ (∀ u, RelV c u → u = cv) ∧ PySem.W.kitOne K (.ref C) cv = some b ∧ Q (.bl b) H
theorem call_isX (hp : p ∈ X.pn) (hf : ∃ vs, p.2.data = .fields vs) : CallR X (.builtin "isinstance") (rIsX X.K p) := by
  intro pins s σ H xs us Q I r h
  obtain ⟨C, dd, fs, c, cv, b, rfl, hz, T, ea, hcv, ek, q⟩ := h
  cases r with
  | cons rx rr =>
    cases rr with
    | cons rt rr =>
      cases rr
      cases rx
      have ec := hcv _ rt
      subst ec
      obtain ⟨od, mA, J, hr, hl⟩ := inst_pin I hp hz hf ea
      obtain ⟨cd, hc, _⟩ := PySem.W.any_some T.hd
      exact PySem.W.kia_one (PySem.W.kitx_exc (by rw [hc]; rfl) T.hg T.hk T.hs T.ha T.hn T.ht T.hm) I.kIn J ek (fun z => nomatch z) fun tk => ⟨.bl b, H, I.kept (t' := tk) fun _ _ z => z, rfl, q⟩
end
def oXp (errs : List Nat) (x : PV) (h : PH) : RG PV := match x with
  | .exn c q => if errs.contains c = true then .ok q h else .bad
  | _ => .bad
def oIsX (tab : List (Nat × Bool)) (x : PV) (h : PH) : RG PV := match x with
  | .exn c _ => (match tab.lookup c with
    | some b => .ok (.bl b) h
    | none => .bad)
  | _ => .bad
/-- the name y of a class, asked of an own error: the answers by the error's class -/
structure KindT (mg : Str → Option Value) (K : PySem.W.Frag) (cA : Nat → Addr) (y : Str) (tab : List (Nat × Bool)) : Prop where
  ex : ∃ (cV : V) (cv : Value), ((mg y = some cv) ∨ (mg y = none ∧ bootBuiltins y = some cv ∧ y ≠ "__name__")) ∧ RelV cV cv ∧ (∀ u, RelV cV u → u = cv) ∧ ∀ c b, tab.lookup c = some b → PySem.W.kitOne K (.ref (cA c)) cv = some b ∧ XcC K (cA c)
/-- a def that is called where an exception is handled -/
structure FnHT (P : Program) (w : World) (mg : Str → Option Value) (base : Heap) (W : Wd) (p : Addr × Obj) (F : FnI) : Prop where
  ex : ∃ (f : Addr) (fd : FuncData), mg F.name = some (.ref f) ∧ PySem.W.keepIn W.K (.ref f) = true ∧ F.dvs = [] ∧ Binds W.K fd F.ps [] ∧ FnHp P w W.K mg base (L2N.CX P w) F.k f fd F.ps (W.spZ F.ps.length F.sem) p
section
variable {W : Wd} {Wx : WX} {X : Cx} {pos q : Pos} {x y : Str} {p : Addr × Obj} {e : Expr} {m : MG PV}
theorem exn_rep {φ : Emb} {H H0 : Hp} {c : Nat} {z : PV} {v : V} (hp : HotP W X p) (r : RR W φ H0 H (.exn c z) v) : ∃ d pv, v = .ref p.1 ∧ L2N.Zn (.ref (W.cA c)) (some d) p.2 ∧ H d = some (.xd [("place", pv)]) ∧ Rep W φ H z pv := by
  have r := r.rep (fun _ => by simp)
  rw [Rep] at r
  obtain ⟨a, d, pv, rfl, h1, h2, h3⟩ := r
  obtain ⟨rfl, hz⟩ := hp.exA a c d h1
  exact ⟨d, pv, rfl, hz, h2, h3⟩
theorem z_xp {errs : List Nat} (hK : X.K = W.K) (hp : HotP W X p) (T : ∀ c ∈ errs, XcC W.K (W.cA c)) (he : PE X e (tE W Wx m)) (hs : notSup e = true) : PE X (.Attribute e "place" pos) (tE W Wx (mU (oXp errs) m)) := by
  refine PE.imp (pe_xp hp.pin hp.fld he (base_no hs)) fun σ H Q ⟨φ, env, h, s, r, q⟩ => ?_
  refine (tb (R := rE W) s r q).mono fun v H1 ⟨φ1, h1, z, p1, s1, r1, e1, q⟩ => ?_
  cases z with
  | exn c y =>
    unfold oXp at q
    dsimp only at q
    by_cases hc : errs.contains c = true
    · rw [if_pos hc] at q
      obtain ⟨d, pv, rfl, hz, h2, h3⟩ := exn_rep hp e1
      exact ⟨rfl, _, d, pv, hz, by rw [hK]; exact T c (by simpa using hc), h2, q φ1 pv H1 .refl r1 (.inl h3)⟩
    · rw [if_neg hc] at q; exact q.elim
  | _ => exact q.elim
theorem z_isX {tab : List (Nat × Bool)} {p0 p2 : Pos} (hK : X.K = W.K) (hp : HotP W X p) (T : KindT X.mg W.K W.cA y tab) (he : PE X e (tE W Wx m)) (hg : Gl X "isinstance") (hm : X.mg "isinstance" = none) (hg2 : Gl X y) (hdb : (y == ("__debug__" : Str)) = false)
    (hs : notStar e = true) : PE X (.Call (.Name "isinstance" p0) [e, .Name y p2] [] pos) (tE W Wx (mU (oIsX tab) m)) := by
  obtain ⟨cV, cv, h1, h2, h3, h4⟩ := T.ex
  have hn : PE X (.Name y p2) (tC cV) := by
    rcases h1 with h1 | ⟨h1, h5, h6⟩
    · exact pe_glob hg2 h1 h2 hdb
    · exact pe_bltn hg2 h1 h5 h2 h6 hdb
  refine PE.imp (pe_callB (call_isX hp.pin hp.fld) hg hm boot_isinstance (pa_cons he (pa_cons hn pa_nil) (star_cons hs)) (by decide) (by decide) (star_cons hs)) fun σ H Q ⟨φ, env, h, s, r, q⟩ => ?_
  refine (tb (R := rE W) s r q).mono fun v H1 ⟨φ1, h1, z, p1, s1, r1, e1, q⟩ => ?_
  cases z with
  | exn c y =>
    unfold oIsX at q
    dsimp only at q
    cases et : tab.lookup c with
    | none => rw [et] at q; exact q.elim
    | some b =>
      rw [et] at q
      obtain ⟨d, pv, rfl, hz, w2, w3⟩ := exn_rep hp e1
      obtain ⟨k1, k2⟩ := h4 c b et
      exact ⟨_, d, _, cV, cv, b, rfl, hz, by rw [hK]; exact k2, w2, h3, by rw [hK]; exact k1, q φ1 _ H1 .refl r1 (.inl (by rw [Rep]))⟩
  | _ => exact q.elim
theorem z_callH {F : FnI} {es : List Expr} {as : MG (List PV)} (T : FnHT X.prog X.w X.mg X.base W p F) (hK : X.K = W.K) (hp : HotP W X p) (hr : L2H.RoomH F.k X.A) (tk : L2N.Takes X Wx) (hg : Gl X F.name) (ha : PA X (e :: es) (tA W Wx as))
    (hdb : (F.name == ("__debug__" : Str)) = false) (he : starEach (e :: es) X.env = (false, eval e X.env) :: starEach es X.env) (hpl : (backTo pos (starEach es X.env)).any (·.1) = false) : PE X (.Call (.Name F.name q) (e :: es) [] pos) (tE W Wx (mC (oCall F) as)) := by
  obtain ⟨f, fd, h1, h2, h3, h4, h6⟩ := T.ex
  rw [← hK] at h2 h4 h6
  refine PE.imp (pe_callHp h6 hr hp.hot hp.pin hg h1 h2 h4 (fun σ => L2N.passAt tk σ) ha hdb he hpl) fun σ H Q ⟨φ, env, h, s, r, q⟩ => ?_
  refine (tb (R := rA W) s r q).mono fun vs H1 ⟨φ1, h1', xs, p1, s1, r1, e1, q⟩ => ?_
  have := call_sp (F := F) (dV := []) (by rw [h3, RepL]) e1 r1 q
  rw [List.append_nil] at this
  exact this
end
section
variable {P : Program} {w : World} {mg : Str → Option Value} {base : Heap} {W : Wd} {p : Addr × Obj}
end
end Z
namespace Z
open PySem PySem.Spec PyProof.Rows L2
/-! ### texts: lower, upper, split, join -/
def lowC (c : Nat) : Nat := if 65 ≤ c ∧ c ≤ 90 then c + 32 else c
def upC (c : Nat) : Nat := if 97 ≤ c ∧ c ≤ 122 then c - 32 else c
theorem lowerOf_ascii : ∀ c : Nat, c < 128 → PySem.Unicode.lowerOf c = [lowC c] := by
  have h : (List.range 128).all (fun c => decide (PySem.Unicode.lowerOf c = [lowC c])) = true := by decide +kernel
  intro c hc
  exact of_decide_eq_true (List.all_eq_true.mp h c (List.mem_range.mpr hc))
theorem upperOf_ascii : ∀ c : Nat, c < 128 → PySem.Unicode.upperOf c = [upC c] := by
  have h : (List.range 128).all (fun c => decide (PySem.Unicode.upperOf c = [upC c])) = true := by decide +kernel
  intro c hc
  exact of_decide_eq_true (List.all_eq_true.mp h c (List.mem_range.mpr hc))
def asciiB (s : List Nat) : Bool := s.all fun c => decide (c < 128)
theorem placed_map {s : List Nat} {f : Nat → Nat → List Nat} {g : Nat → Nat} (h : ∀ i c, s[i]? = some c → f i c = [g c]) : placed ⟨s.toArray⟩ f = (s.map g).toArray := by
  have key : ∀ (l : List Nat) (k : Nat), (∀ i c, l[i]? = some c → f (k + i) c = [g c]) → ((l.mapIdx fun i c => (f (k + i) c).toArray).map Array.toList).flatten = l.map g := by
    intro l
    induction l with
    | nil => intro k h; rfl
    | cons x r ih =>
      intro k h
      rw [List.mapIdx_cons, List.map_cons, List.flatten_cons, List.map_cons]
      have h0 := h 0 x rfl
      rw [h0]
      have := ih (k + 1) fun i c e => by
        have := h (i + 1) c (by simpa using e)
        rw [show k + 1 + i = k + (i + 1) by omega]
        exact this
      rw [show (r.mapIdx fun i c => (f (k + (i + 1)) c).toArray) = r.mapIdx fun i c => (f (k + 1 + i) c).toArray by
        congr 1
        funext i c
        rw [show k + (i + 1) = k + 1 + i by omega]]
      rw [this]; rfl
  have k0 := key s 0 fun i c e => by rw [Nat.zero_add]; exact h i c e
  unfold placed
  apply Array.ext'
  rw [Array.toList_flatten]
  simp only [Nat.zero_add] at k0
  rw [← k0]
  congr 1
  simp
theorem lower_ascii {s : List Nat} (h : asciiB s = true) : Txt.lower ⟨s.toArray⟩ = ⟨(s.map lowC).toArray⟩ := by
  unfold Txt.lower
  rw [placed_map (g := lowC)]
  intro i c e
  have hc : c < 128 := of_decide_eq_true (List.all_eq_true.mp h c (List.mem_of_getElem? e))
  unfold PySem.Unicode.lowerAt
  show (match s.toArray[i]? with
    | none => []
    | some c => if (c == 0x3A3 && PySem.Unicode.endsWord s.toArray i) = true then [0x3C2] else PySem.Unicode.lowerOf c) = _
  rw [List.getElem?_toArray, e]
  dsimp only
  have : (c == 0x3A3) = false := by
    rw [beq_eq_false_iff_ne]; omega
  rw [this, Bool.false_and, if_neg (by simp)]
  exact lowerOf_ascii c hc
theorem upper_ascii {s : List Nat} (h : asciiB s = true) : Txt.upper ⟨s.toArray⟩ = ⟨(s.map upC).toArray⟩ := by
  unfold Txt.upper
  rw [placed_map (g := upC)]
  intro i c e
  exact upperOf_ascii c (of_decide_eq_true (List.all_eq_true.mp h c (List.mem_of_getElem? e)))
def splC (c : Nat) : List Nat → List (List Nat)
  | [] => [[]]
  | x :: r => if x = c then [] :: splC c r else (match splC c r with
    | h :: t => (x :: h) :: t
    | [] => [[x]])
def joinL (sep : List Nat) : List (List Nat) → List Nat
  | [] => []
  | [x] => x
  | x :: r => x ++ sep ++ joinL sep r
theorem splC_ne (c : Nat) : ∀ s, splC c s ≠ []
  | [] => by simp [splC]
  | x :: r => by
    unfold splC
    split
    · simp
    · split <;> simp
theorem splC_free (c : Nat) : ∀ s, ∀ p ∈ splC c s, c ∉ p
  | [], p, hp => by
    simp [splC] at hp
    subst hp; simp
  | x :: r, p, hp => by
    unfold splC at hp
    have ih := splC_free c r
    split at hp
    · rcases List.mem_cons.mp hp with rfl | hp
      · simp
      · exact ih p hp
    · rename_i hx
      split at hp
      · rename_i h t e
        rcases List.mem_cons.mp hp with rfl | hp
        · have := ih h (by rw [e]; exact List.mem_cons_self ..)
          intro z
          rcases List.mem_cons.mp z with z | z
          · exact hx z.symm
          · exact this z
        · exact ih p (by rw [e]; exact List.mem_cons_of_mem _ hp)
      · rcases List.mem_cons.mp hp with rfl | hp
        · intro z
          rcases List.mem_cons.mp z with z | z
          · exact hx z.symm
          · cases z
        · cases hp
theorem joinL_cons {sep x : List Nat} {r : List (List Nat)} (h : r ≠ []) : joinL sep (x :: r) = x ++ sep ++ joinL sep r := by
  cases r with
  | nil => exact absurd rfl h
  | cons y t => rfl
theorem joinL_splC (c : Nat) : ∀ s, joinL [c] (splC c s) = s
  | [] => rfl
  | x :: r => by
    have ih := joinL_splC c r
    unfold splC
    split
    · rename_i hx
      subst hx
      rw [joinL_cons (splC_ne x r), ih]; rfl
    · split
      · rename_i h t e
        rw [e] at ih
        cases t with
        | nil =>
          have ih : h = r := ih
          subst ih; rfl
        | cons y t =>
          rw [joinL_cons (by simp)] at ih ⊢
          rw [← ih]; rfl
      · rename_i e
        exact absurd e (splC_ne c r)
/-- the parts without the sign are told by their joining -/
theorem joinL_inj {c : Nat} : ∀ {l m : List (List Nat)}, l ≠ [] → m ≠ [] → (∀ p ∈ l, c ∉ p) → (∀ p ∈ m, c ∉ p) → joinL [c] l = joinL [c] m → l = m := by
  -- first part: up to the first sign
  have first : ∀ {x y : List Nat} {r t : List Nat}, c ∉ x → c ∉ y → x ++ c :: r = y ++ c :: t → x = y ∧ r = t := by
    intro x
    induction x with
    | nil =>
      intro y r t hx hy e
      cases y with
      | nil => cases e; exact ⟨rfl, rfl⟩
      | cons b y =>
        have : c = b := by injection e
        subst this
        exact absurd (List.mem_cons_self ..) hy
    | cons a x ih =>
      intro y r t hx hy e
      cases y with
      | nil =>
        have : a = c := by injection e
        subst this
        exact absurd (List.mem_cons_self ..) hx
      | cons b y =>
        have e1 : a = b := by injection e
        have e2 : x ++ c :: r = y ++ c :: t := by injection e
        obtain ⟨h1, h2⟩ := ih (fun z => hx (List.mem_cons_of_mem _ z)) (fun z => hy (List.mem_cons_of_mem _ z)) e2
        exact ⟨by rw [e1, h1], h2⟩
  intro l
  induction l with
  | nil => intro m h; exact absurd rfl h
  | cons x r ih =>
    intro m _ hm hl hm' e
    cases m with
    | nil => exact absurd rfl hm
    | cons y t =>
      have hx := hl x (List.mem_cons_self ..)
      have hy := hm' y (List.mem_cons_self ..)
      cases r with
      | nil =>
        cases t with
        | nil =>
          have e : x = y := e
          rw [e]
        | cons y2 t =>
          have e : x = y ++ [c] ++ joinL [c] (y2 :: t) := e
          exact absurd (by rw [e]; simp) hx
      | cons x2 r =>
        cases t with
        | nil =>
          have e : x ++ [c] ++ joinL [c] (x2 :: r) = y := e
          exact absurd (by rw [← e]; simp) hy
        | cons y2 t =>
          have e : x ++ [c] ++ joinL [c] (x2 :: r) = y ++ [c] ++ joinL [c] (y2 :: t) := e
          rw [List.append_assoc, List.append_assoc] at e
          obtain ⟨h1, h2⟩ := first hx hy e
          rw [h1, ih (by simp) (by simp) (fun p hp => hl p (List.mem_cons_of_mem _ hp)) (fun p hp => hm' p (List.mem_cons_of_mem _ hp)) h2]
theorem join_list (sep : List Nat) : ∀ l : List (List Nat), (PySem.Str.join ⟨sep.toArray⟩ (l.map fun x => ⟨x.toArray⟩)).cps.toList = joinL sep l
  | [] => rfl
  | [x] => rfl
  | x :: y :: r => by
    have ih := join_list sep (y :: r)
    show ((⟨x.toArray⟩ ++ ⟨sep.toArray⟩ : Str) ++ PySem.Str.join ⟨sep.toArray⟩ ((y :: r).map fun x => ⟨x.toArray⟩) : Str).cps.toList = _
    rw [joinL_cons (by simp), ← ih]
    show ((x.toArray ++ sep.toArray) ++ (PySem.Str.join ⟨sep.toArray⟩ ((y :: r).map fun x => ⟨x.toArray⟩)).cps).toList = _
    simp
theorem strs_back (l : List Str) : (l.map fun s => s.cps.toList).map (fun x => (⟨x.toArray⟩ : Str)) = l := by
  rw [List.map_map]
  conv => rhs; rw [← List.map_id l]
  exact List.map_congr_left fun s _ => by simp
theorem split_is (s : List Nat) (c : Nat) : Txt.split ⟨s.toArray⟩ ⟨#[c]⟩ = (splC c s).map fun x => ⟨x.toArray⟩ := by
  have h1 := PySem.StrLaws.join_split ⟨s.toArray⟩ ⟨#[c]⟩
  have h2 := PySem.StrLaws.split_free ⟨s.toArray⟩ c
  have h3 := PyProof.Rows.split_pos ⟨s.toArray⟩ ⟨#[c]⟩
  have e : (Txt.split ⟨s.toArray⟩ ⟨#[c]⟩).map (fun x => x.cps.toList) = splC c s := by
    refine joinL_inj ?_ (splC_ne c s) (fun p hp => ?_) (splC_free c s) ?_
    · intro z
      have := congrArg List.length z
      rw [List.length_map] at this
      simp at this
      rw [this] at h3
      simp at h3
    · obtain ⟨y, hy, rfl⟩ := List.mem_map.mp hp
      exact h2 y hy
    · rw [joinL_splC, ← join_list, strs_back]
      have := congrArg (fun s : Str => s.cps.toList) h1
      simpa using this
  rw [← e, strs_back]
def oLow (x : PV) (h : PH) : RG PV := match x with
  | .str s => if asciiB s = true ∧ s.length ≤ 5592405 then .ok (.str (s.map lowC)) h else .bad
  | _ => .bad
def oUp (x : PV) (h : PH) : RG PV := match x with
  | .str s => if asciiB s = true ∧ s.length ≤ 5592405 then .ok (.str (s.map upC)) h else .bad
  | _ => .bad
def oSpl (x : PV) (xs : List PV) (h : PH) : RG PV := match x with
  | .str s => (match xs with
    | [.str [c]] => if s.length + 2 ≤ SZ then .ok (.lst ((splC c s).map .str)) h else .bad
    | _ => .bad)
  | _ => .bad
def strsV : List PV → Option (List (List Nat))
  | [] => some []
  | .str s :: r => (strsV r).map (s :: ·)
  | _ => none
def oJoin (x : PV) (xs : List PV) (h : PH) : RG PV := match x with
  | .str s => (match xs with
    | [y] => (match seqV h y with
      | some p => (match strsV p.2 with
        | some ys => if (ys.map List.length).sum + ys.length * s.length ≤ SZ then .ok (.str (joinL s ys)) h else .bad
        | none => .bad)
      | none => .bad)
    | _ => .bad)
  | _ => .bad
def oPop (o : PV) (h : PH) : RG PV := match o with
  | .ref n => (match h[n]? with
    | some (.lst xs) => (match xs[xs.length - 1]? with
      | some y => .ok y (h.set n (.lst xs.dropLast))
      | none => .bad)
    | _ => .bad)
  | _ => .bad
section
variable {W : Wd} {Wx : WX} {X : Cx} {σ : L2.St} {φ : Emb} {H H0 : Hp} {h : PH} {o e : Expr} {m m1 m2 : MG PV} {pos apos : Pos} {Q : VK}
theorem str_rep {s : List Nat} {v : V} (r : RR W φ H0 H (.str s) v) : v = .str ⟨s.toArray⟩ := by
  have r := r.rep (fun _ => by simp)
  rw [Rep] at r; exact r
theorem z_low (ho : PE X o (tE W Wx m)) (hs : notSup o = true) (hl : (apos.endLine == pos.line) = true) : PE X (.Call (.Attribute o "lower" apos) [] [] pos) (tE W Wx (mU oLow m)) := by
  refine PE.imp (pe_lower ho (base_no hs) hl) fun σ H Q ⟨φ, env, h, s, r, q⟩ => ?_
  refine (tb (R := rE W) s r q).mono fun v H1 ⟨φ1, h1, x, p1, s1, r1, e1, q⟩ => ?_
  cases x with
  | str t =>
    unfold oLow at q
    dsimp only at q
    by_cases c : asciiB t = true ∧ t.length ≤ 5592405
    · rw [if_pos c] at q
      have e1 := str_rep e1
      subst e1
      refine ⟨⟨_, rfl⟩, _, rfl, rfl, by simpa [Str.length] using c.2, ?_⟩
      rw [lower_ascii c.1]
      exact res_str r1 q
    · rw [if_neg c] at q; exact q.elim
  | _ => exact q.elim
theorem z_up (ho : PE X o (tE W Wx m)) (hs : notSup o = true) (hl : (apos.endLine == pos.line) = true) : PE X (.Call (.Attribute o "upper" apos) [] [] pos) (tE W Wx (mU oUp m)) := by
  refine PE.imp (pe_upper ho (base_no hs) hl) fun σ H Q ⟨φ, env, h, s, r, q⟩ => ?_
  refine (tb (R := rE W) s r q).mono fun v H1 ⟨φ1, h1, x, p1, s1, r1, e1, q⟩ => ?_
  cases x with
  | str t =>
    unfold oUp at q
    dsimp only at q
    by_cases c : asciiB t = true ∧ t.length ≤ 5592405
    · rw [if_pos c] at q
      have e1 := str_rep e1
      subst e1
      refine ⟨⟨_, rfl⟩, _, rfl, rfl, by simpa [Str.length] using c.2, ?_⟩
      rw [upper_ascii c.1]
      exact res_str r1 q
    · rw [if_neg c] at q; exact q.elim
  | _ => exact q.elim
theorem rep_strs (l : List (List Nat)) : RepL W φ H (l.map .str) (l.map fun s => V.str ⟨s.toArray⟩) := by
  induction l with
  | nil => exact .nil
  | cons x r ih => exact .cons (by rw [Rep]) ih
theorem strsV_ok : ∀ {xs : List PV} {ys : List (List Nat)}, strsV xs = some ys → xs = ys.map .str
  | [], ys, e => by cases e; rfl
  | .str s :: r, ys, e => by
    unfold strsV at e
    obtain ⟨t, e1, rfl⟩ := Option.map_eq_some_iff.mp e
    rw [List.map_cons, strsV_ok e1]
  | .non :: _, _, e => by cases e
  | .bl _ :: _, _, e => by cases e
  | .int _ :: _, _, e => by cases e
  | .tup _ :: _, _, e => by cases e
  | .ro _ :: _, _, e => by cases e
  | .lst _ :: _, _, e => by cases e
  | .ref _ :: _, _, e => by cases e
  | .exn _ _ :: _, _, e => by cases e
theorem rep_strs_is {l : List (List Nat)} {vs : List V} (r : RepL W φ H (l.map .str) vs) : vs = (l.map fun s => (⟨s.toArray⟩ : Str)).map V.str := by
  induction l generalizing vs with
  | nil => rw [List.map_nil, RepL] at r; exact r
  | cons x t ih =>
    rw [List.map_cons] at r
    obtain ⟨v, r', rfl, h1, h2⟩ := RepL.uncons r
    rw [Rep] at h1
    rw [ih h2, h1]; rfl
end
/-! ### repetition -/
def mulOk (a k : Int) : Bool := decide (0 ≤ k ∧ k ≤ 1000000 ∧ a * k ≤ 16777216)
def oMul (x y : PV) (h : PH) : RG PV := match x with
  | .int i => oII cMul (fun i j => .int (i * j)) (.int i) y h
  | .str s => (match y with
    | .int k => if mulOk s.length k = true then .ok (.str (List.replicate k.toNat s).flatten) h else .bad
    | _ => .bad)
  | x => (match lstV h x with
    | some xs => (match y with
      | .int k => if mulOk xs.length k = true then .ok (.lst (List.replicate k.toNat xs).flatten) h else .bad
      | _ => .bad)
    | none => .bad)
theorem foldl_app (l : List (List Nat)) (a : Array Nat) : ((l.map List.toArray).foldl (· ++ ·) a).toList = a.toList ++ l.flatten := by
  induction l generalizing a with
  | nil => simp
  | cons x r ih =>
    rw [List.map_cons, List.foldl_cons, ih]
    simp
theorem mul_is (s : List Nat) (k : Int) (hk : 0 ≤ k) : Txt.mul ⟨s.toArray⟩ k = ⟨(List.replicate k.toNat s).flatten.toArray⟩ := by
  unfold Txt.mul
  by_cases h1 : k < 1
  · rw [if_pos h1]
    have : k.toNat = 0 := by omega
    rw [this]; rfl
  · rw [if_neg h1]
    split
    · rename_i hc
      rw [Bool.or_eq_true] at hc
      rcases hc with hc | hc
      · have : k = 1 := by simpa using hc
        subst this
        show _ = (⟨(List.replicate 1 s).flatten.toArray⟩ : Str)
        simp
      · have hl : s.length = 0 := by simpa [Str.length] using hc
        have : s = [] := List.eq_nil_of_length_eq_zero hl
        subst this
        simp
    · have := foldl_app (List.replicate k.toNat s) #[]
      rw [List.map_replicate] at this
      congr 1
      apply Array.ext'
      rw [this]; simp
theorem op_mulS {X : Cx} : OpR X (binaryOp .Mult) (fun x y H Q => ∃ (s : Str) (k : Int), x = .str s ∧ y = .int k ∧ (0 ≤ k ∧ k ≤ 1000000 ∧ (s.length : Int) * k ≤ 16777216) ∧ Q (.str (Txt.mul s k)) H) := by
  intro pins s σ H x y v u Q I rx ry h
  obtain ⟨a, k, rfl, rfl, ⟨h1, h2, h3⟩, q⟩ := h
  obtain ⟨t, rfl⟩ := rx
  obtain ⟨t', rfl⟩ := ry
  refine PySem.SB.mul ⟨?_, fun h4 h5 => ?_, fun h4 h5 => ?_⟩ fun t' tk => ⟨.str (Txt.mul a k), H, I.tok _, ⟨_, rfl⟩, q⟩
  · rw [Bool.or_eq_false_iff]
    exact ⟨decide_eq_false (by omega), decide_eq_false (by omega)⟩
  · intro z
    have hk : 0 < k := by omega
    have z2 := (Int.ediv_lt_iff_lt_mul hk).mp z
    omega
  · have e : ((a.length * k.toNat : Nat) : Int) ≤ 16777216 := by
      rw [Int.natCast_mul, Int.toNat_of_nonneg h1]; exact h3
    show decide (_ > sizeLine) = false
    rw [decide_eq_false]
    rw [sizeLine_eq]
    omega
section
variable {W : Wd} {Wx : WX} {X : Cx} {e1 e2 : Expr} {m1 m2 : MG PV} {pos : Pos}
theorem z_mul (h1 : PE X e1 (tE W Wx m1)) (h2 : PE X e2 (tE W Wx m2)) : PE X (.BinOp e1 .Mult e2 pos) (tE W Wx (mB oMul m1 m2)) := by
  refine PE.imp (pe_op (op_mul.or (op_mulS.or op_rep)) h1 h2) fun σ H Q q => b2 (fun {φ H H1 H2 h x y v u σ Q} hr r1 r2 q => ?_) q
  have lists : (match lstV h x with
    | some xs => (match y with
      | .int k => if mulOk xs.length k = true then ResG W Wx (rE W) σ φ H (.ok (.lst (List.replicate k.toNat xs).flatten) h) Q else False
      | _ => False)
    | none => False) → rRep v u H Q := fun q => by
    cases ex : lstV h x with
    | none => rw [ex] at q; exact q.elim
    | some xs =>
      rw [ex] at q
      cases y with
      | int k =>
        dsimp only at q
        split at q
        · rename_i hm
          have hm := of_decide_eq_true hm
          have r2 := r2.rep (fun _ => by simp)
          rw [Rep] at r2; subst r2
          obtain ⟨a, vs, rfl, rl, ha⟩ := lstV_ok hr r1 ex
          refine ⟨a, k, vs, rfl, rfl, ha, by omega, by omega, ?_, fun p hp => res_lst hr q (rl.flat_rep _) hp⟩
          rw [← rl.length, sizeLine_eq]
          have e : ((xs.length * k.toNat : Nat) : Int) ≤ 16777216 := by
            rw [Int.natCast_mul, Int.toNat_of_nonneg hm.1]; exact hm.2.2
          omega
        · exact q.elim
      | _ => exact q.elim
  cases x with
  | int i =>
    obtain ⟨i', j, e1, rfl, hc, q⟩ := oII_ok r1 r2 (show ResG W Wx (rE W) σ φ H (oII cMul (fun i j => PV.int (i * j)) (.int i) y h) Q from q)
    have r1 := r1.rep (fun _ => by simp)
    rw [Rep] at r1; subst r1
    cases e1
    refine .inl ⟨i, j, rfl, rfl, ?_, res_same hr q (by rw [Rep])⟩
    have c : (-18446744073709551616 < i ∧ i < 18446744073709551616) ∨ (-18446744073709551616 < j ∧ j < 18446744073709551616) := of_decide_eq_true hc
    unfold CMul; omega
  | str s =>
    cases y with
    | int k =>
      have e1 := str_rep r1
      subst e1
      have r2 := r2.rep (fun _ => by simp)
      rw [Rep] at r2; subst r2
      unfold oMul at q
      dsimp only at q
      split at q
      · rename_i hm
        have hm := of_decide_eq_true hm
        refine .inr (.inl ⟨_, k, rfl, rfl, ⟨hm.1, hm.2.1, by simpa [Str.length] using hm.2.2⟩, ?_⟩)
        rw [mul_is s k hm.1]
        exact res_str hr q
      · exact q.elim
    | _ => exact q.elim
  | ref n =>
    refine .inr (.inr (lists ?_))
    unfold oMul at q
    dsimp only at q
    cases ex : lstV h (.ref n) with
    | none => rw [ex] at q; exact q.elim
    | some xs =>
      rw [ex] at q
      cases y with
      | int k => dsimp only at q ⊢; split at q <;> rename_i c <;> simp only [c, if_true, if_false] <;> exact q
      | _ => exact q.elim
  | lst ys =>
    refine .inr (.inr (lists ?_))
    unfold oMul at q
    dsimp only at q
    cases ex : lstV h (.lst ys) with
    | none => rw [ex] at q; exact q.elim
    | some xs =>
      rw [ex] at q
      cases y with
      | int k => dsimp only at q ⊢; split at q <;> rename_i c <;> simp only [c, if_true, if_false] <;> exact q
      | _ => exact q.elim
  | _ => exact q.elim
end
end Z
namespace Z
open PySem PySem.Spec PyProof.Rows L2
/-! ### an order of data: whole numbers, texts, tuples of them -/
structure TP {α : Type} (f : α → α → Ordering) : Prop where
  sw : ∀ x y, f y x = (f x y).swap
  tr : ∀ x y z, f x y ≠ .gt → f y z ≠ .gt → f x z = (f x y).then (f y z)
def cpI (i j : Int) : Ordering := if i < j then .lt else if i = j then .eq else .gt
theorem tp_I : TP cpI := by
  refine ⟨fun x y => ?_, fun x y z h1 h2 => ?_⟩
  · unfold cpI
    by_cases h : x < y
    · rw [if_pos h, if_neg (by omega), if_neg (by omega)]; rfl
    · by_cases h' : x = y
      · subst h'; simp
      · rw [if_neg h, if_neg h', if_pos (by omega)]; rfl
  · unfold cpI at *
    by_cases a : x < y
    · rw [if_pos a] at h1 ⊢
      by_cases b : y < z
      · rw [if_pos b, if_pos (by omega)]; rfl
      · by_cases b' : y = z
        · subst b'; rw [if_neg b, if_pos rfl, if_pos a]; rfl
        · rw [if_neg b, if_neg b'] at h2; exact absurd rfl h2
    · by_cases a' : x = y
      · subst a'; rw [if_neg a, if_pos rfl]; rfl
      · rw [if_neg a, if_neg a'] at h1; exact absurd rfl h1
theorem ord_then : ∀ {a b c d e : Ordering}, a.then c ≠ .gt → b.then d ≠ .gt → (c ≠ .gt → d ≠ .gt → e = c.then d) → (a.then b).then e = (a.then c).then (b.then d) := by
  intro a b c d e h1 h2 h3
  cases a <;> cases b <;> cases c <;> cases d <;> cases e <;> simp [Ordering.then] at h1 h2 h3 ⊢
theorem TP.on {α β : Type} {f : β → β → Ordering} (t : TP f) (g : α → β) : TP (fun x y => f (g x) (g y)) := ⟨fun x y => t.sw _ _, fun x y z => t.tr _ _ _⟩
theorem TP.and {α : Type} {f g : α → α → Ordering} (t : TP f) (u : TP g) : TP (fun x y => (f x y).then (g x y)) := by
  refine ⟨fun x y => ?_, fun x y z h1 h2 => ?_⟩
  · show (f y x).then (g y x) = _
    rw [t.sw x y, u.sw x y]
    cases f x y <;> rfl
  · have q1 : f x y ≠ .gt := fun e => h1 (by show (f x y).then _ = _; rw [e]; rfl)
    have q2 : f y z ≠ .gt := fun e => h2 (by show (f y z).then _ = _; rw [e]; rfl)
    have e := t.tr x y z q1 q2
    have e2 := u.tr x y z
    show (f x z).then (g x z) = ((f x y).then (g x y)).then ((f y z).then (g y z))
    rw [e]
    exact ord_then h1 h2 e2
def cpL {α : Type} (f : α → α → Ordering) : List α → List α → Ordering
  | [], [] => .eq
  | [], _ :: _ => .lt
  | _ :: _, [] => .gt
  | x :: xs, y :: ys => (f x y).then (cpL f xs ys)
theorem TP.list {α : Type} {f : α → α → Ordering} (t : TP f) : TP (cpL f) := by
  refine ⟨fun xs => ?_, fun xs => ?_⟩
  · induction xs with
    | nil => intro ys; cases ys <;> rfl
    | cons x xs ih =>
      intro ys
      cases ys with
      | nil => rfl
      | cons y ys =>
        show (f y x).then (cpL f ys xs) = ((f x y).then (cpL f xs ys)).swap
        rw [t.sw x y, ih ys]
        cases f x y <;> rfl
  · induction xs with
    | nil =>
      intro ys zs h1 h2
      cases ys <;> cases zs <;> first | rfl | exact absurd rfl h2 | (show Ordering.lt = Ordering.then .lt _; rfl)
    | cons x xs ih =>
      intro ys zs h1 h2
      cases ys with
      | nil => exact absurd rfl h1
      | cons y ys =>
        cases zs with
        | nil => exact absurd rfl h2
        | cons z zs =>
          have q1 : f x y ≠ .gt := fun e => h1 (by show (f x y).then _ = _; rw [e]; rfl)
          have q2 : f y z ≠ .gt := fun e => h2 (by show (f y z).then _ = _; rw [e]; rfl)
          have e := t.tr x y z q1 q2
          have e2 := ih ys zs
          show (f x z).then (cpL f xs zs) = ((f x y).then (cpL f xs ys)).then ((f y z).then (cpL f ys zs))
          rw [e]
          exact ord_then h1 h2 e2
def cpN (a b : Nat) : Ordering := cpI a b
theorem tp_N : TP cpN := tp_I.on fun n : Nat => (n : Int)
def rkP : PV → Int
  | .int _ => 0
  | .str _ => 1
  | .tup _ => 2
  | _ => 3
def ivP : PV → Int
  | .int i => i
  | _ => 0
def svP : PV → List Nat
  | .str s => s
  | _ => []
def tvP : PV → List PV
  | .tup s => s
  | _ => []
def cpS (x y : PV) : Ordering := (cpI (rkP x) (rkP y)).then ((cpI (ivP x) (ivP y)).then (cpL cpN (svP x) (svP y)))
theorem tp_S : TP cpS := (tp_I.on rkP).and ((tp_I.on ivP).and (tp_N.list.on svP))
def cpF : Nat → PV → PV → Ordering
  | 0, x, y => cpS x y
  | n + 1, x, y => (cpS x y).then (cpL (cpF n) (tvP x) (tvP y))
theorem tp_F : ∀ n, TP (cpF n)
  | 0 => tp_S
  | n + 1 => tp_S.and ((tp_F n).list.on tvP)
def ltD (x y : PV) : Bool := cpF 50 x y == .lt
theorem TP.swo {α : Type} {f : α → α → Ordering} (t : TP f) : SrtO.Swo fun x y => f x y == .lt := by
  refine ⟨fun x y h => ?_, fun x y z h1 h2 => ?_⟩
  · have h : f x y = .lt := by simpa using h
    show (f y x == .lt) = false
    rw [t.sw x y, h]; rfl
  · show (f z x == .lt) = false
    have h1 : (f y x == .lt) = false := h1
    have h2 : (f z y == .lt) = false := h2
    have q1 : f x y ≠ .gt := fun e => by
      have := t.sw x y
      rw [e] at this
      rw [this] at h1; cases h1
    have q2 : f y z ≠ .gt := fun e => by
      have := t.sw y z
      rw [e] at this
      rw [this] at h2; cases h2
    have e := t.tr x y z q1 q2
    rw [t.sw x z, e]
    revert q1 q2
    cases f x y <;> cases f y z <;> intro q1 q2 <;> first | rfl | exact absurd rfl q1 | exact absurd rfl q2
theorem cpI_eq {i j : Int} : cpI i j = .eq ↔ i = j := by
  unfold cpI
  by_cases h : i < j
  · rw [if_pos h]; simp; omega
  · by_cases h' : i = j
    · rw [if_neg h, if_pos h']; simp [h']
    · rw [if_neg h, if_neg h']; simp [h']
theorem cpI_lt {i j : Int} : cpI i j = .lt ↔ i < j := by
  unfold cpI
  by_cases h : i < j
  · rw [if_pos h]; simp [h]
  · by_cases h' : i = j
    · rw [if_neg h, if_pos h']; simp [h']
    · rw [if_neg h, if_neg h']; simp [h]
theorem then_eq {a b : Ordering} : a.then b = .eq ↔ a = .eq ∧ b = .eq := by cases a <;> simp [Ordering.then]
theorem cpL_eq {α : Type} {f : α → α → Ordering} : ∀ {xs ys : List α}, (∀ x ∈ xs, ∀ y ∈ ys, (f x y = .eq ↔ x = y)) → (cpL f xs ys = .eq ↔ xs = ys)
  | [], [], _ => by simp [cpL]
  | [], _ :: _, _ => by simp [cpL]
  | _ :: _, [], _ => by simp [cpL]
  | x :: xs, y :: ys, h => by
    rw [cpL, then_eq, h x (List.mem_cons_self ..) y (List.mem_cons_self ..), cpL_eq fun a ha b hb => h a (List.mem_cons_of_mem _ ha) b (List.mem_cons_of_mem _ hb), List.cons.injEq]
theorem cpNs_eq {s t : List Nat} : cpL cpN s t = .eq ↔ s = t := cpL_eq fun x _ y _ => by unfold cpN; rw [cpI_eq]; omega
theorem cpNs_lt : ∀ {s t : List Nat}, cpL cpN s t = .lt ↔ s < t
  | [], [] => by simp [cpL]
  | [], _ :: _ => by simp [cpL]
  | _ :: _, [] => by simp [cpL]
  | x :: xs, y :: ys => by
    rw [cpL, List.cons_lt_cons_iff, ← cpNs_lt (s := xs) (t := ys)]
    have h1 : cpN x y = .lt ↔ x < y := by unfold cpN; rw [cpI_lt]; omega
    have h2 : cpN x y = .eq ↔ x = y := by unfold cpN; rw [cpI_eq]; omega
    rw [← h1, ← h2]
    cases cpN x y <;> simp [Ordering.then]
/-- data -/
def sdF : Nat → PV → Bool
  | _, .int _ => true
  | _, .str _ => true
  | n + 1, .tup xs => xs.all (sdF n)
  | _, _ => false
theorem cpF_int {n : Nat} {i j : Int} : cpF n (.int i) (.int j) = cpI i j := by
  have : ∀ o : Ordering, (Ordering.eq.then (o.then .eq)) = o := fun o => by cases o <;> rfl
  cases n with
  | zero => exact this _
  | succ n => show (Ordering.eq.then ((cpI i j).then .eq)).then .eq = _; cases cpI i j <;> rfl
theorem cpF_str {n : Nat} {i j : List Nat} : cpF n (.str i) (.str j) = cpL cpN i j := by
  cases n with
  | zero => rfl
  | succ n => show (Ordering.eq.then (Ordering.eq.then (cpL cpN i j))).then .eq = _; cases cpL cpN i j <;> rfl
theorem cpF_tup {n : Nat} {i j : List PV} : cpF (n + 1) (.tup i) (.tup j) = cpL (cpF n) i j := rfl
theorem cpF_rk {n : Nat} {x y : PV} (h : rkP x ≠ rkP y) : cpF n x y ≠ .eq := fun e => by
  have : cpI (rkP x) (rkP y) = .eq := by
    cases n with
    | zero => exact (then_eq.mp (show (cpI (rkP x) (rkP y)).then _ = .eq from e)).1
    | succ n => exact (then_eq.mp (then_eq.mp (show ((cpI (rkP x) (rkP y)).then _).then _ = .eq from e)).1).1
  exact h (cpI_eq.mp this)
theorem cpF_eq : ∀ {n : Nat} {x y : PV}, sdF n x = true → sdF n y = true → (cpF n x y = .eq ↔ x = y) := by
  intro n
  induction n with
  | zero =>
    intro x y hx hy
    cases x <;> cases y <;> first
      | (rw [cpF_int, cpI_eq, PV.int.injEq]; done)
      | (rw [cpF_str, cpNs_eq, PV.str.injEq]; done)
      | (exact nomatch (show false = true from hx))
      | (exact nomatch (show false = true from hy))
      | (exact ⟨fun e => absurd e (cpF_rk (show _ ≠ _ from nofun)), nofun⟩)
  | succ n ih =>
    intro x y hx hy
    cases x <;> cases y <;> first
      | (rw [cpF_int, cpI_eq, PV.int.injEq]; done)
      | (rw [cpF_str, cpNs_eq, PV.str.injEq]; done)
      | (rw [cpF_tup, PV.tup.injEq]
         exact cpL_eq fun a ha b hb => ih (List.all_eq_true.mp hx a ha) (List.all_eq_true.mp hy b hb))
      | (exact nomatch (show false = true from hx))
      | (exact nomatch (show false = true from hy))
      | (exact ⟨fun e => absurd e (cpF_rk (show _ ≠ _ from nofun)), nofun⟩)
/-! which may be compared -/
def alL (f : PV → PV → Bool) : List PV → List PV → Bool
  | x :: xs, y :: ys => f x y && alL f xs ys
  | _, _ => true
def alF : Nat → PV → PV → Bool
  | _, .int _, .int _ => true
  | _, .str _, .str _ => true
  | n + 1, .tup xs, .tup ys => alL (alF n) xs ys
  | _, _, _ => false
/-- as far as the first difference -/
def okL (f : PV → PV → Bool) (g : PV → PV → Ordering) : List PV → List PV → Bool
  | x :: xs, y :: ys => if g x y = .eq then okL f g xs ys else f x y
  | _, _ => true
def okT : PV → PV → Bool
  | .tup xs, .tup ys => okL (alF 49) (cpF 49) xs ys
  | x, y => alF 50 x y
/-- a kind: the same for all that are sorted together -/
def kdP : PV → Nat
  | .int _ => 1
  | .str _ => 2
  | .tup (.int _ :: _) => 3
  | .tup (.str _ :: _) => 4
  | .tup (.tup _ :: _) => 5
  | _ => 0
def isTp : PV → Bool
  | .tup _ => true
  | _ => false
def isE : PV → Bool
  | .tup [] => true
  | _ => false
/-- tuples, some of them empty -/
def eTup (xs : List PV) : Bool := xs.all isTp && xs.any isE && xs.all fun x => xs.all fun y => alF 50 x y
def srtOk (xs : List PV) : Bool := xs.all (sdF 50) && ((match xs with
  | [] => true
  | x :: _ => kdP x != 0 && xs.all fun y => kdP y == kdP x) || eTup xs) && xs.all fun x => xs.all fun y => okT x y
def srt (xs : List PV) : List PV := xs.mergeSort fun x y => !ltD y x
theorem srt_perm {xs : List PV} : (srt xs).Perm xs := List.mergeSort_perm _ _
theorem srt_uniq {xs ys : List PV} (hs : ∀ x ∈ xs, sdF 50 x = true) (p : ys.Perm xs) (h : SrtO.Srtd ltD ys) : ys = srt xs := by
  have O : SrtO.Swo ltD := (tp_F 50).swo
  have h2 : (srt xs).Pairwise (fun x y => (!ltD y x) = true) := List.pairwise_mergeSort (fun a b c h1 h2 => by
    have h1 : ltD b a = false := by simpa using h1
    have h2 : ltD c b = false := by simpa using h2
    have := O.tr a b c h1 h2
    simp [this]) (fun a b => by
    cases e : ltD b a with
    | false => rfl
    | true => rw [O.asym _ _ e]; rfl) xs
  refine List.Perm.eq_of_pairwise (le := fun x y => (!ltD y x) = true) (fun a b ha hb h1 h2 => ?_) (h.imp fun {a b} q => by rw [q]; rfl) h2 (p.trans srt_perm.symm)
  have ha := hs a (p.mem_iff.mp ha)
  have hb := hs b (srt_perm.mem_iff.mp hb)
  have h1 : ltD b a = false := by simpa using h1
  have h2 : ltD a b = false := by simpa using h2
  have t := tp_F 50
  refine (cpF_eq ha hb).mp ?_
  have s := t.sw a b
  unfold ltD at h1 h2
  rw [s] at h1
  revert h1 h2
  cases cpF 50 a b <;> intro h1 h2 <;> first | rfl | (exact absurd h1 (by decide)) | (exact absurd h2 (by decide))
/-! ### data in the heap -/
def DV : Nat → Heap → PV → Value → Prop
  | _, h, .int i, v => ∃ t, v = .int i t
  | _, h, .str s, v => ∃ t, v = .str ⟨s.toArray⟩ t
  | n + 1, h, .tup xs, v => ∃ a its, v = .ref a ∧ h.IsTuple a its.toArray ∧ Paired (DV n h) xs its
  | _, _, _, _ => False
theorem pr_get {α β : Type} {F : α → β → Prop} : ∀ {xs : List α} {ys : List β} {i : Nat} {x : α}, Paired F xs ys → xs[i]? = some x → ∃ y, ys[i]? = some y ∧ F x y
  | _, _, i, x, .nil, e => by simp at e
  | _, _, 0, x, .cons r t, e => by simp at e; subst e; exact ⟨_, rfl, r⟩
  | _, _, i + 1, x, .cons r t, e => by
    obtain ⟨y, e1, e2⟩ := pr_get t (show _ = some x by simpa using e)
    exact ⟨y, by simpa using e1, e2⟩
theorem pr_len {α β : Type} {F : α → β → Prop} : ∀ {xs : List α} {ys : List β}, Paired F xs ys → xs.length = ys.length
  | _, _, .nil => rfl
  | _, _, .cons r t => by rw [List.length_cons, List.length_cons, pr_len t]
theorem dv_keep {h h' : Heap} (k : ∀ b o, h.get? b = some o → h'.get? b = some o) : ∀ {n : Nat} {x : PV} {v : Value}, DV n h x v → DV n h' x v := by
  intro n
  induction n with
  | zero => intro x v d; cases x <;> exact d
  | succ n ih =>
    intro x v d
    cases x <;> first
      | exact d
      | (obtain ⟨a, its, e, ⟨o, ho, hc, m, hd⟩, r⟩ := d
         exact ⟨a, its, e, ⟨o, k _ _ ho, hc, m, hd⟩, Paired.mapP r fun _ _ => ih⟩)
theorem tup_same {h : Heap} {a : Addr} {its its' : List Value} (p : h.IsTuple a its.toArray) (q : h.IsTuple a its'.toArray) : its = its' := by
  obtain ⟨o, ho, _, n, hd⟩ := p
  obtain ⟨o', ho', _, n', hd'⟩ := q
  rw [ho] at ho'; cases ho'
  rw [hd] at hd'
  injection hd' with e _
  simpa using congrArg Array.toList e
theorem dv_inj {h : Heap} : ∀ {n : Nat} {x y : PV} {v : Value}, DV n h x v → DV n h y v → x = y := by
  intro n
  induction n with
  | zero =>
    intro x y v d e
    cases x <;> cases y <;> first
      | exact d.elim
      | exact e.elim
      | (obtain ⟨t, d⟩ := d; obtain ⟨u, e⟩ := e; rw [d] at e; injection e with e1 e2
         first
           | rw [e1]
           | (have := congrArg (fun s : Str => s.cps.toList) e1; simp at this; rw [this])
           | cases e)
      | (obtain ⟨t, d⟩ := d; obtain ⟨u, e⟩ := e; rw [d] at e; cases e)
  | succ n ih =>
    intro x y v d e
    cases x with
    | tup xs =>
      obtain ⟨a, its, d, p, r⟩ := d
      cases y with
      | tup ys =>
        obtain ⟨a', its', e, p', r'⟩ := e
        rw [d] at e; cases e
        have := tup_same p p'
        subst this
        congr 1
        apply List.ext_getElem?
        intro i
        cases e1 : xs[i]? with
        | none =>
          rw [List.getElem?_eq_none_iff] at e1
          rw [List.getElem?_eq_none (by rw [pr_len r', ← pr_len r]; exact e1)]
        | some x =>
          obtain ⟨v1, g1, d1⟩ := pr_get r e1
          have hi : i < ys.length := by
            rw [pr_len r', ← pr_len r]
            by_cases c : i < xs.length
            · exact c
            · rw [List.getElem?_eq_none (by omega)] at e1; cases e1
          obtain ⟨v2, g2, d2⟩ := pr_get r' (List.getElem?_eq_getElem hi)
          rw [g1] at g2; cases g2
          rw [List.getElem?_eq_getElem hi, ih d1 d2]
      | int i => obtain ⟨u, e⟩ := e; rw [d] at e; cases e
      | str i => obtain ⟨u, e⟩ := e; rw [d] at e; cases e
      | _ => exact e.elim
    | int i =>
      obtain ⟨t, d⟩ := d
      cases y with
      | tup ys => obtain ⟨a, its, e, _⟩ := e; rw [d] at e; cases e
      | int i => obtain ⟨u, e⟩ := e; rw [d] at e; cases e; rfl
      | str i => obtain ⟨u, e⟩ := e; rw [d] at e; cases e
      | _ => exact e.elim
    | str i =>
      obtain ⟨t, d⟩ := d
      cases y with
      | tup ys => obtain ⟨a, its, e, _⟩ := e; rw [d] at e; cases e
      | int i => obtain ⟨u, e⟩ := e; rw [d] at e; cases e
      | str i =>
        obtain ⟨u, e⟩ := e
        rw [d] at e; injection e with e1 e2
        have := congrArg (fun s : Str => s.cps.toList) e1
        simp at this; rw [this]
      | _ => exact e.elim
    | _ => exact d.elim
section
variable {W : Wd} {φ : Emb} {H : Hp} {X : Cx} {pins : List (Addr × Obj)} {σ : L2.St} {s : Shared}
theorem dv_of (hK : X.K = W.K) (I : Inv X pins σ H s) : ∀ {n : Nat} {x : PV} {u : V} {v : Value}, sdF n x = true → Rep W φ H x u → RelV u v → DV n s.heap x v := by
  intro n
  have i0 : ∀ {i : Int} {u : V} {v : Value}, Rep W φ H (.int i) u → RelV u v → ∃ t, v = .int i t := fun r q => rep_int r q
  have s0 : ∀ {i : List Nat} {u : V} {v : Value}, Rep W φ H (.str i) u → RelV u v → ∃ t, v = .str ⟨i.toArray⟩ t := fun r q => rep_str r q
  induction n with
  | zero =>
    intro x u v hx r q
    cases x <;> first
      | exact nomatch (show false = true from hx)
      | exact i0 r q
      | exact s0 r q
  | succ n ih =>
    intro x u v hx r q
    cases x <;> first
      | exact nomatch (show false = true from hx)
      | exact i0 r q
      | exact s0 r q
      | (rename_i xs
         have hx : xs.all (sdF n) = true := hx
         rw [Rep] at r
         obtain ⟨a, vs, rfl, st, rl⟩ := r
         cases q
         rw [← hK] at st
         obtain ⟨its, rv, p, _⟩ := I.tuple st
         refine ⟨a, its, rfl, p, ?_⟩
         have go : ∀ {xs : List PV} {vs : List V} {its : List Value}, xs.all (sdF n) = true → RepL W φ H xs vs → Vals vs its → Paired (DV n s.heap) xs its := by
           intro xs
           induction xs with
           | nil => intro vs its _ rl rv; rw [rl.unnil] at rv; cases rv; exact .nil
           | cons x xs ihx =>
             intro vs its ha rl rv
             rw [List.all_cons, Bool.and_eq_true] at ha
             obtain ⟨w, r', rfl, h1, h2⟩ := rl.uncons
             cases rv with
             | cons q rv => exact .cons (ih ha.1 h1 q) (ihx ha.2 h2 rv)
         exact go hx rl rv)
end
/-! ### what Python's own comparisons give of data -/
theorem cpL_all {f : PV → PV → Ordering} : ∀ {xs ys : List PV}, (cpL f xs ys == .eq) = ((List.range (min xs.length ys.length)).all (fun j => f (xs.getD j .non) (ys.getD j .non) == .eq) && xs.length == ys.length)
  | [], [] => by simp [cpL]
  | [], _ :: _ => by simp [cpL]
  | _ :: _, [] => by simp [cpL]
  | x :: xs, y :: ys => by
    have ih := cpL_all (f := f) (xs := xs) (ys := ys)
    have e3 : min (x :: xs).length (y :: ys).length = min xs.length ys.length + 1 := by simp only [List.length_cons]; omega
    rw [e3, List.range_succ_eq_map, List.all_cons, List.all_map]
    show ((f x y).then (cpL f xs ys) == .eq) = _
    have e4 : ((x :: xs).length == (y :: ys).length) = (xs.length == ys.length) := by simp
    rw [e4, Bool.and_assoc]
    have e5 : ((fun j => f ((x :: xs).getD j .non) ((y :: ys).getD j .non) == .eq) ∘ Nat.succ) = fun j => f (xs.getD j .non) (ys.getD j .non) == .eq := rfl
    rw [e5, ← ih]
    show _ = ((f x y == .eq) && _)
    cases f x y <;> simp [Ordering.then]
theorem lexAt_shift {e r : Nat → Bool} {z : Bool} : ∀ (k i : Nat), Ob.lexAt e r z (i + 1) k = Ob.lexAt (fun j => e (j + 1)) (fun j => r (j + 1)) z i k
  | 0, _ => rfl
  | k + 1, i => by
    rw [Ob.lexAt_succ, Ob.lexAt_succ, lexAt_shift k (i + 1)]
theorem cpL_lex {f : PV → PV → Ordering} : ∀ {xs ys : List PV}, (cpL f xs ys == .lt) = Ob.lexAt (fun j => f (xs.getD j .non) (ys.getD j .non) == .eq) (fun j => f (xs.getD j .non) (ys.getD j .non) == .lt) (decide (xs.length < ys.length)) 0 (min xs.length ys.length)
  | [], [] => by simp [cpL, Ob.lexAt]
  | [], _ :: _ => by simp [cpL, Ob.lexAt]
  | _ :: _, [] => by simp [cpL, Ob.lexAt]
  | x :: xs, y :: ys => by
    have ih := cpL_lex (f := f) (xs := xs) (ys := ys)
    have e3 : min (x :: xs).length (y :: ys).length = min xs.length ys.length + 1 := by simp only [List.length_cons]; omega
    have e4 : decide ((x :: xs).length < (y :: ys).length) = decide (xs.length < ys.length) := by simp
    rw [e3, e4, Ob.lexAt_succ, lexAt_shift]
    show ((f x y).then (cpL f xs ys) == .lt) = if (f x y == .eq) = true then Ob.lexAt (fun j => f (xs.getD j .non) (ys.getD j .non) == .eq) (fun j => f (xs.getD j .non) (ys.getD j .non) == .lt) (decide (xs.length < ys.length)) 0 (min xs.length ys.length) else (f x y == .lt)
    rw [← ih]
    cases f x y <;> simp [Ordering.then]
theorem alL_get {f : PV → PV → Bool} : ∀ {xs ys : List PV} {j : Nat} {x y : PV}, alL f xs ys = true → xs[j]? = some x → ys[j]? = some y → f x y = true
  | [], _, j, x, y, _, e, _ => by simp at e
  | _ :: _, [], j, x, y, _, _, e => by simp at e
  | a :: xs, b :: ys, j, x, y, h, e1, e2 => by
    rw [alL, Bool.and_eq_true] at h
    cases j with
    | zero => simp at e1 e2; subst e1; subst e2; exact h.1
    | succ j => exact alL_get h.2 (by simpa using e1) (by simpa using e2)
section
variable {s : Shared}
open PySem.SeqAt in
theorem dv_eqAt : ∀ {n : Nat} {A : Around} {x y : PV} {a b : Value}, A.units + n < cLine → sdF n x = true → sdF n y = true → DV n s.heap x a → DV n s.heap y b → EqAt A s a b (cpF n x y == .eq) := by
  intro n
  have ii : ∀ {n : Nat} {A : Around} {i j : Int} {a b : Value}, DV n s.heap (.int i) a → DV n s.heap (.int j) b → EqAt A s a b (cpF n (.int i) (.int j) == .eq) := by
    intro n A i j a b d e
    obtain ⟨t, rfl⟩ : ∃ t, a = .int i t := by cases n <;> exact d
    obtain ⟨u, rfl⟩ : ∃ t, b = .int j t := by cases n <;> exact e
    rw [cpF_int]
    have : (cpI i j == .eq) = (i == j) := by
      rw [Bool.eq_iff_iff, beq_iff_eq, beq_iff_eq, cpI_eq]
    rw [this]
    exact EqAt.int_int _ _ _ _
  have ss : ∀ {n : Nat} {A : Around} {i j : List Nat} {a b : Value}, DV n s.heap (.str i) a → DV n s.heap (.str j) b → EqAt A s a b (cpF n (.str i) (.str j) == .eq) := by
    intro n A i j a b d e
    obtain ⟨t, rfl⟩ : ∃ t, a = .str ⟨i.toArray⟩ t := by cases n <;> exact d
    obtain ⟨u, rfl⟩ : ∃ t, b = .str ⟨j.toArray⟩ t := by cases n <;> exact e
    rw [cpF_str]
    have : (cpL cpN i j == .eq) = ((⟨i.toArray⟩ : Str) == ⟨j.toArray⟩) := by
      rw [Bool.eq_iff_iff, beq_iff_eq, cpNs_eq]
      simp
    rw [this]
    exact EqAt.str_str _ _ _ _
  have is : ∀ {n : Nat} {A : Around} {i : Int} {j : List Nat} {a b : Value}, DV n s.heap (.int i) a → DV n s.heap (.str j) b → EqAt A s a b (cpF n (.int i) (.str j) == .eq) ∧ EqAt A s b a (cpF n (.str j) (.int i) == .eq) := by
    intro n A i j a b d e
    obtain ⟨t, rfl⟩ : ∃ t, a = .int i t := by cases n <;> exact d
    obtain ⟨u, rfl⟩ : ∃ t, b = .str ⟨j.toArray⟩ t := by cases n <;> exact e
    have h1 : (cpF n (.int i) (.str j) == .eq) = false := by
      rw [beq_eq_false_iff_ne]; exact cpF_rk (show (0 : Int) ≠ 1 by decide)
    have h2 : (cpF n (.str j) (.int i) == .eq) = false := by
      rw [beq_eq_false_iff_ne]; exact cpF_rk (show (1 : Int) ≠ 0 by decide)
    rw [h1, h2]
    exact ⟨EqAt.int_str _ _ _ _, EqAt.str_int _ _ _ _⟩
  induction n with
  | zero =>
    intro A x y a b hu hx hy d e
    cases x <;> cases y <;> first
      | exact nomatch (show false = true from hx)
      | exact nomatch (show false = true from hy)
      | exact ii d e
      | exact ss d e
      | exact (is d e).1
      | exact (is e d).2
  | succ n ih =>
    intro A x y a b hu hx hy d e
    have hu0 : A.units < cLine := by omega
    cases x with
    | int i =>
      cases y with
      | int j => exact ii d e
      | str j => exact (is d e).1
      | tup ys =>
        obtain ⟨t, rfl⟩ := d
        obtain ⟨c, its, rfl, p, _⟩ := e
        have h1 : (cpF (n + 1) (.int i) (.tup ys) == .eq) = false := by
          rw [beq_eq_false_iff_ne]; exact cpF_rk (show (0 : Int) ≠ 2 by decide)
        rw [h1]; exact EqAt.int_tuple _ _ p hu0
      | _ => exact nomatch (show false = true from hy)
    | str i =>
      cases y with
      | int j => exact (is e d).2
      | str j => exact ss d e
      | tup ys =>
        obtain ⟨t, rfl⟩ := d
        obtain ⟨c, its, rfl, p, _⟩ := e
        have h1 : (cpF (n + 1) (.str i) (.tup ys) == .eq) = false := by
          rw [beq_eq_false_iff_ne]; exact cpF_rk (show (1 : Int) ≠ 2 by decide)
        rw [h1]; exact EqAt.str_tuple _ _ p hu0
      | _ => exact nomatch (show false = true from hy)
    | tup xs =>
      obtain ⟨c, its, rfl, p, r⟩ := d
      cases y with
      | int j =>
        obtain ⟨t, rfl⟩ := e
        have h1 : (cpF (n + 1) (.tup xs) (.int j) == .eq) = false := by
          rw [beq_eq_false_iff_ne]; exact cpF_rk (show (2 : Int) ≠ 0 by decide)
        rw [h1]; exact EqAt.tuple_int _ _ p hu0
      | str j =>
        obtain ⟨t, rfl⟩ := e
        have h1 : (cpF (n + 1) (.tup xs) (.str j) == .eq) = false := by
          rw [beq_eq_false_iff_ne]; exact cpF_rk (show (2 : Int) ≠ 1 by decide)
        rw [h1]; exact EqAt.tuple_str _ _ p hu0
      | tup ys =>
        obtain ⟨c', its', rfl, p', r'⟩ := e
        rw [cpF_tup]
        by_cases hl : c = c'
        · subst hl
          have := tup_same p p'
          subst this
          have ex : xs = ys := PV.tup.inj (dv_inj (n := n + 1) (h := s.heap) (v := .ref c) ⟨c, its, rfl, p, r⟩ ⟨c, its, rfl, p', r'⟩)
          subst ex
          have : (cpL (cpF n) xs xs == .eq) = true := by
            rw [beq_iff_eq]
            have q := (cpF_eq (n := n + 1) (x := .tup xs) (y := .tup xs) hx hx).mpr rfl
            exact q
          rw [this]
          exact EqAt.same _
        · refine EqAt.of_refs hl ?_
          have := RcAt.tuples (e := fun j => cpF n (xs.getD j .non) (ys.getD j .non) == .eq) p p' hu0 fun j h1 h2 => by
            have j1 : j < its.length := by simpa using h1
            have j2 : j < its'.length := by simpa using h2
            have k1 : j < xs.length := by rw [pr_len r]; exact j1
            have k2 : j < ys.length := by rw [pr_len r']; exact j2
            obtain ⟨v1, g1, d1⟩ := pr_get r (List.getElem?_eq_getElem k1)
            obtain ⟨v2, g2, d2⟩ := pr_get r' (List.getElem?_eq_getElem k2)
            have f1 : its.toArray[j] = v1 := by
              rw [List.getElem?_eq_getElem j1] at g1
              simpa using Option.some.inj g1
            have f2 : its'.toArray[j] = v2 := by
              rw [List.getElem?_eq_getElem j2] at g2
              simpa using Option.some.inj g2
            rw [f1, f2, show xs.getD j .non = xs[j] by simp [List.getD, List.getElem?_eq_getElem k1], show ys.getD j .non = ys[j] by simp [List.getD, List.getElem?_eq_getElem k2]]
            exact ih (by show A.units + 1 + n < cLine; omega) (List.all_eq_true.mp (show xs.all (sdF n) = true from hx) _ (List.getElem_mem k1)) (List.all_eq_true.mp (show ys.all (sdF n) = true from hy) _ (List.getElem_mem k2)) d1 d2
          rw [cpL_all]
          have n1 : its.toArray.size = xs.length := by rw [List.size_toArray, pr_len r]
          have n2 : its'.toArray.size = ys.length := by rw [List.size_toArray, pr_len r']
          rw [n1, n2] at this
          exact this
      | _ => exact nomatch (show false = true from hy)
    | _ => exact nomatch (show false = true from hx)
end
theorem beq_lt_int {i j : Int} : (cpI i j == .lt) = decide (i < j) := by
  rw [Bool.eq_iff_iff, beq_iff_eq, cpI_lt, decide_eq_true_iff]
theorem beq_lt_str {s t : List Nat} : (cpL cpN s t == .lt) = decide ((⟨s.toArray⟩ : Str).cps.toList < (⟨t.toArray⟩ : Str).cps.toList) := by
  rw [Bool.eq_iff_iff, beq_iff_eq, cpNs_lt, decide_eq_true_iff]
section
variable {s : Shared}
theorem dv_rc : ∀ {n : Nat} {A : Around} {x y : PV} {a b : Value}, A.units + n < cLine → sdF n x = true → sdF n y = true → alF n x y = true → DV n s.heap x a → DV n s.heap y b → Ob.RcOp .Lt A s a b (cpF n x y == .lt) := by
  intro n
  have ii : ∀ {n : Nat} {A : Around} {i j : Int} {a b : Value}, DV n s.heap (.int i) a → DV n s.heap (.int j) b → Ob.RcOp .Lt A s a b (cpF n (.int i) (.int j) == .lt) := by
    intro n A i j a b d e
    obtain ⟨t, rfl⟩ : ∃ t, a = .int i t := by cases n <;> exact d
    obtain ⟨u, rfl⟩ : ∃ t, b = .int j t := by cases n <;> exact e
    rw [cpF_int, beq_lt_int]
    exact Ob.RcOp.lt_int _ _ _ _
  have ss : ∀ {n : Nat} {A : Around} {i j : List Nat} {a b : Value}, DV n s.heap (.str i) a → DV n s.heap (.str j) b → Ob.RcOp .Lt A s a b (cpF n (.str i) (.str j) == .lt) := by
    intro n A i j a b d e
    obtain ⟨t, rfl⟩ : ∃ t, a = .str ⟨i.toArray⟩ t := by cases n <;> exact d
    obtain ⟨u, rfl⟩ : ∃ t, b = .str ⟨j.toArray⟩ t := by cases n <;> exact e
    rw [cpF_str, beq_lt_str]
    exact fun _ _ _ _ h => PySem.P.lt_str h
  induction n with
  | zero =>
    intro A x y a b hu hx hy hal d e
    cases x <;> cases y <;> first
      | exact nomatch (show false = true from hal)
      | exact ii d e
      | exact ss d e
  | succ n ih =>
    intro A x y a b hu hx hy hal d e
    have hu0 : A.units < cLine := by omega
    cases x <;> cases y <;> first
      | exact nomatch (show false = true from hal)
      | exact ii d e
      | exact ss d e
      | skip
    rename_i xs ys
    have hal : alL (alF n) xs ys = true := hal
    obtain ⟨c, its, rfl, p, r⟩ := d
    obtain ⟨c', its', rfl, p', r'⟩ := e
    rw [cpF_tup, cpL_lex]
    have n1 : its.toArray.size = xs.length := by rw [List.size_toArray, pr_len r]
    have n2 : its'.toArray.size = ys.length := by rw [List.size_toArray, pr_len r']
    have items : ∀ j (h1 : j < its.toArray.size) (h2 : j < its'.toArray.size), ∃ x y, xs[j]? = some x ∧ ys[j]? = some y ∧ xs.getD j .non = x ∧ ys.getD j .non = y ∧ DV n s.heap x its.toArray[j] ∧ DV n s.heap y its'.toArray[j] ∧ sdF n x = true ∧ sdF n y = true := fun j h1 h2 => by
      have j1 : j < its.length := by simpa using h1
      have j2 : j < its'.length := by simpa using h2
      have k1 : j < xs.length := by rw [pr_len r]; exact j1
      have k2 : j < ys.length := by rw [pr_len r']; exact j2
      obtain ⟨v1, g1, d1⟩ := pr_get r (List.getElem?_eq_getElem k1)
      obtain ⟨v2, g2, d2⟩ := pr_get r' (List.getElem?_eq_getElem k2)
      have f1 : its.toArray[j] = v1 := by
        rw [List.getElem?_eq_getElem j1] at g1
        simpa using Option.some.inj g1
      have f2 : its'.toArray[j] = v2 := by
        rw [List.getElem?_eq_getElem j2] at g2
        simpa using Option.some.inj g2
      rw [f1, f2]
      exact ⟨xs[j], ys[j], List.getElem?_eq_getElem k1, List.getElem?_eq_getElem k2, by simp [List.getD, List.getElem?_eq_getElem k1], by simp [List.getD, List.getElem?_eq_getElem k2], d1, d2, List.all_eq_true.mp (show xs.all (sdF n) = true from hx) _ (List.getElem_mem k1), List.all_eq_true.mp (show ys.all (sdF n) = true from hy) _ (List.getElem_mem k2)⟩
    have := Ob.RcOp.tuples_lt (A := A) (e := fun j => cpF n (xs.getD j .non) (ys.getD j .non) == .eq) (r := fun j => cpF n (xs.getD j .non) (ys.getD j .non) == .lt) p p' hu0 (fun j h1 h2 => by
      obtain ⟨x, y, _, _, e1, e2, d1, d2, s1, s2⟩ := items j h1 h2
      rw [e1, e2]
      exact dv_eqAt (by show A.units + 1 + n < cLine; omega) s1 s2 d1 d2) (fun j h1 h2 _ => by
      obtain ⟨x, y, g1, g2, e1, e2, d1, d2, s1, s2⟩ := items j h1 h2
      rw [e1, e2]
      exact ih (by show A.units + 1 + n < cLine; omega) s1 s2 (alL_get hal g1 g2) d1 d2)
    rw [n1, n2] at this
    exact this
end
section
variable {prog : Program} {w : World} {A : Around} {E : Value → Shared → Prop} {s : Shared}
open PyProof.Rows in
theorem oneLtZ {n : Nat} {f : Bool} {x y : PV} {a b : Value} {Q : Bool → Shared → Prop} (hu : A.units + n < cLine) (hx : sdF n x = true) (hy : sdF n y = true) (hal : alF n x y = true) (d : DV n s.heap x a) (e : DV n s.heap y b) (hf : f = true → rkP x ≠ 2)
    (h : Q (cpF n x y == .lt) s) : wpAny (model prog w) A (oneLt' f a b) Q E s := by
  cases f with
  | false => exact PySem.W.kat_one _ _ (dv_rc hu hx hy hal d e prog w E (PySem.W.BoolBack Q) h)
  | true =>
    have hf := hf rfl
    cases x with
    | int i =>
      cases y with
      | int j =>
        obtain ⟨t, rfl⟩ : ∃ t, a = .int i t := by cases n <;> exact d
        obtain ⟨u, rfl⟩ : ∃ t, b = .int j t := by cases n <;> exact e
        rw [cpF_int, beq_lt_int] at h
        exact oneLt_int h
      | _ => cases n <;> exact nomatch (show false = true from hal)
    | str i =>
      cases y with
      | str j =>
        obtain ⟨t, rfl⟩ : ∃ t, a = .str ⟨i.toArray⟩ t := by cases n <;> exact d
        obtain ⟨u, rfl⟩ : ∃ t, b = .str ⟨j.toArray⟩ t := by cases n <;> exact e
        rw [cpF_str, beq_lt_str] at h
        exact oneLt_str h
      | _ => cases n <;> exact nomatch (show false = true from hal)
    | tup xs => exact absurd rfl hf
    | _ => cases n <;> exact nomatch (show false = true from hx)
theorem katZ {n : Nat} {b fin : Bool} {Q : Bool → Shared → Prop} (hu : A.units + n < cLine) : ∀ {xs ys : List PV} {vs us : List Value} (i : Nat), (∀ x ∈ xs, sdF n x = true) → (∀ x ∈ ys, sdF n x = true) → Paired (DV n s.heap) xs vs → Paired (DV n s.heap) ys us → okL (alF n) (cpF n) xs ys = true →
    (b = true → i = 0 → ∀ x, xs[0]? = some x → rkP x ≠ 2) → fin = decide (xs.length < ys.length) → Q (cpL (cpF n) xs ys == .lt) s → PySem.W.KatLex prog w A b fin Q (vs.zip us) i s
  | [], [], _, _, i, _, _, .nil, .nil, _, _, hf, q => by
    have : fin = (cpL (cpF n) ([] : List PV) [] == .lt) := by rw [hf]; rfl
    rw [← this] at q
    exact PySem.W.kat_nil q
  | [], y :: ys, _, _, i, _, _, .nil, .cons _ _, _, _, hf, q => by
    have : fin = (cpL (cpF n) ([] : List PV) (y :: ys) == .lt) := by rw [hf]; simp [cpL]
    rw [← this] at q
    exact PySem.W.kat_nil q
  | x :: xs, [], _, _, i, _, _, .cons _ _, .nil, _, _, hf, q => by
    have : fin = (cpL (cpF n) (x :: xs) [] == .lt) := by rw [hf]; simp [cpL]
    rw [← this] at q
    exact PySem.W.kat_nil q
  | x :: xs, y :: ys, _, _, i, hx, hy, .cons d r, .cons e r', hok, hb, hf, q => by
    have sx := hx x (List.mem_cons_self ..)
    have sy := hy y (List.mem_cons_self ..)
    refine PySem.W.kat_cons (dv_eqAt hu sx sy d e prog w _ _ ?_)
    have hok : (if cpF n x y = .eq then okL (alF n) (cpF n) xs ys else alF n x y) = true := hok
    refine PySem.W.kat_go (fun e1 => ?_) (fun e1 => ?_)
    · have e1 : cpF n x y = .eq := by simpa using e1
      rw [if_pos e1] at hok
      refine PySem.W.kat_yes (katZ hu (i + 1) (fun z hz => hx z (List.mem_cons_of_mem _ hz)) (fun z hz => hy z (List.mem_cons_of_mem _ hz)) r r' hok (fun _ z => by omega) (by rw [hf]; simp) ?_)
      have : cpL (cpF n) (x :: xs) (y :: ys) = cpL (cpF n) xs ys := by rw [cpL, e1]; rfl
      rw [this] at q
      exact q
    · have e1 : ¬ cpF n x y = .eq := by simpa using e1
      rw [if_neg e1] at hok
      refine PySem.W.kat_no (oneLtZ hu sx sy hok d e (fun z => ?_) ?_)
      · rw [Bool.and_eq_true] at z
        exact hb z.1 (by simpa using z.2) x rfl
      · have : (cpL (cpF n) (x :: xs) (y :: ys) == .lt) = (cpF n x y == .lt) := by
          rw [cpL]
          revert e1
          cases cpF n x y <;> simp [Ordering.then]
        rw [this] at q
        exact q
end
end Z
namespace Z
open PySem PySem.Spec PyProof.Rows L2
/-! ### sorted, as a rule -/
theorem pr_mem {α β : Type} {F : α → β → Prop} : ∀ {xs : List α} {ys : List β} {y : β}, Paired F xs ys → y ∈ ys → ∃ x, x ∈ xs ∧ F x y
  | _, _, y, .nil, h => by cases h
  | _, _, y, .cons r t, h => by
    rcases List.mem_cons.mp h with rfl | h
    · exact ⟨_, List.mem_cons_self .., r⟩
    · obtain ⟨x, h1, h2⟩ := pr_mem t h
      exact ⟨x, List.mem_cons_of_mem _ h1, h2⟩
theorem ty_ne {a b : String} (h : a ≠ b) : ((Value.type a) != (Value.type b)) = true := by
  rw [bne_iff_ne]
  intro z
  injection z with z
  exact h z
section
variable {prog : Program} {w : World} {A : Around} {E : Value → Shared → Prop} {s : Shared}
open PyProof.Rows in
theorem kindZ {n : Nat} {xs : List PV} {vs : List Value} {k : Nat} (h2 : 2 ≤ vs.length) (hk : k ≠ 0) (hall : ∀ x ∈ xs, kdP x = k) (r : Paired (DV (n + 1) s.heap) xs vs) :
    ∃ κ, (∀ (Q : SortKind → Shared → Prop) (E : Value → Shared → Prop), Q κ s → wpAny (model prog w) A (keyKind' vs.toArray) Q E s) ∧ ((κ = oneType' ∧ (k = 1 ∨ k = 2)) ∨ (κ = tuples' true ∧ (k = 3 ∨ k = 4)) ∨ (κ = tuples' false ∧ k = 5)) := by
  have one : ∀ T : String, T ≠ "tuple" → (∀ v ∈ vs, PySem.W.Looks (model prog w) s.heap (typeOf v) (.type T)) → ∀ (Q : SortKind → Shared → Prop) (E : Value → Shared → Prop), Q oneType' s → wpAny (model prog w) A (keyKind' vs.toArray) Q E s := fun T hT h Q E q =>
    PySem.W.kas_kind h2 h (ty_ne hT) (by simp) q
  have firsts : ∀ {xs : List PV} {vs : List Value} (P : Value → Prop), Paired (DV (n + 1) s.heap) xs vs → (∀ x ∈ xs, ∃ y r, x = .tup (y :: r) ∧ ∀ v, DV n s.heap y v → P v) → ∃ fs, PySem.W.KatTups s.heap vs fs ∧ fs.length = vs.length ∧ ∀ f ∈ fs, P f := by
    intro xs vs P r
    induction r with
    | nil => intro _; exact ⟨[], PySem.W.KatTups.nil, rfl, fun _ z => nomatch z⟩
    | @cons x v xs vs d r ih =>
      intro h
      obtain ⟨fs, h1, h3, h4⟩ := ih fun z hz => h z (List.mem_cons_of_mem _ hz)
      obtain ⟨y, t, rfl, hy⟩ := h x (List.mem_cons_self ..)
      obtain ⟨a, its, rfl, ⟨o, ho, hc, m, hd⟩, rr⟩ := d
      cases rr with
      | @cons _ f _ its' d' _ =>
        exact ⟨f :: fs, PySem.W.KatTups.cons ho hc hd (by simp) h1, by simp [h3], fun z hz => by
          rcases List.mem_cons.mp hz with rfl | hz
          · exact hy _ d'
          · exact h4 z hz⟩
  have tups : ∀ T : String, (∀ x ∈ xs, ∃ y r, x = .tup (y :: r) ∧ ∀ v, DV n s.heap y v → PySem.W.Looks (model prog w) s.heap (typeOf v) (.type T)) → ∀ (Q : SortKind → Shared → Prop) (E : Value → Shared → Prop), Q (tuples' (Value.type T != Value.type "tuple")) s → wpAny (model prog w) A (keyKind' vs.toArray) Q E s := fun T h Q E q => by
    obtain ⟨fs, h1, h3, h4⟩ := firsts _ r h
    exact PySem.W.kat_kind h1 (by omega) h4 (by simp) q
  have lk : ∀ {T : String} {a : Addr} {its : Array Value}, s.heap.IsTuple a its → PySem.W.Looks (model prog w) s.heap (typeOf (.ref a)) (.type "tuple") := fun {T a its} ⟨o, ho, hc, _⟩ => by
    rw [← hc]
    exact (PySem.W.Looks.ld ho).andThen .now
  have k1 : ∀ {x : PV}, kdP x = 1 → ∃ i, x = .int i := fun {x} h => by
    unfold kdP at h
    split at h <;> first | exact ⟨_, rfl⟩ | (exfalso; revert h; decide)
  have k2 : ∀ {x : PV}, kdP x = 2 → ∃ i, x = .str i := fun {x} h => by
    unfold kdP at h
    split at h <;> first | exact ⟨_, rfl⟩ | (exfalso; revert h; decide)
  have k3 : ∀ {x : PV}, kdP x = 3 → ∃ i r, x = .tup (.int i :: r) := fun {x} h => by
    unfold kdP at h
    split at h <;> first | exact ⟨_, _, rfl⟩ | (exfalso; revert h; decide)
  have k4 : ∀ {x : PV}, kdP x = 4 → ∃ i r, x = .tup (.str i :: r) := fun {x} h => by
    unfold kdP at h
    split at h <;> first | exact ⟨_, _, rfl⟩ | (exfalso; revert h; decide)
  have k5 : ∀ {x : PV}, kdP x = 5 → ∃ i r, x = .tup (.tup i :: r) := fun {x} h => by
    unfold kdP at h
    split at h <;> first | exact ⟨_, _, rfl⟩ | (exfalso; revert h; decide)
  have k6 : ∀ {x : PV}, kdP x < 6 := fun {x} => by
    unfold kdP
    split <;> decide
  have ds : ∀ {i : List Nat} {n : Nat} {v : Value}, DV n s.heap (.str i) v → ∃ t, v = .str ⟨i.toArray⟩ t := fun {i n v} d => by cases n <;> exact d
  have di : ∀ {i : Int} {n : Nat} {v : Value}, DV n s.heap (.int i) v → ∃ t, v = .int i t := fun {i n v} d => by cases n <;> exact d
  have hk6 : k < 6 := by
    obtain ⟨v, hv⟩ : ∃ v, v ∈ vs := by
      cases vs with
      | nil => simp at h2
      | cons v _ => exact ⟨v, List.mem_cons_self ..⟩
    obtain ⟨x, hx, d⟩ := pr_mem r hv
    rw [← hall x hx]
    exact k6
  have hcases : k = 1 ∨ k = 2 ∨ k = 3 ∨ k = 4 ∨ k = 5 := by omega
  rcases hcases with rfl | rfl | rfl | rfl | rfl
  · refine ⟨_, one "int" (by decide) fun v hv => ?_, .inl ⟨rfl, .inl rfl⟩⟩
    obtain ⟨x, hx, d⟩ := pr_mem r hv
    obtain ⟨i, rfl⟩ := k1 (hall x hx)
    obtain ⟨t, rfl⟩ := di d
    exact PySem.W.Looks.now
  · refine ⟨_, one "str" (by decide) fun v hv => ?_, .inl ⟨rfl, .inr rfl⟩⟩
    obtain ⟨x, hx, d⟩ := pr_mem r hv
    obtain ⟨i, rfl⟩ := k2 (hall x hx)
    obtain ⟨t, rfl⟩ := ds d
    exact PySem.W.Looks.now
  · refine ⟨_, fun Q E q => tups "int" (fun x hx => ?_) Q E (by rw [ty_ne (by decide)]; exact q), .inr (.inl ⟨rfl, .inl rfl⟩)⟩
    obtain ⟨i, r, rfl⟩ := k3 (hall x hx)
    exact ⟨_, r, rfl, fun v d => by
        obtain ⟨t, rfl⟩ := di d
        exact PySem.W.Looks.now⟩
  · refine ⟨_, fun Q E q => tups "str" (fun x hx => ?_) Q E (by rw [ty_ne (by decide)]; exact q), .inr (.inl ⟨rfl, .inr rfl⟩)⟩
    obtain ⟨i, r, rfl⟩ := k4 (hall x hx)
    exact ⟨_, r, rfl, fun v d => by
        obtain ⟨t, rfl⟩ := ds d
        exact PySem.W.Looks.now⟩
  · refine ⟨_, fun Q E q => tups "tuple" (fun x hx => ?_) Q E (by rw [show ((Value.type "tuple") != (Value.type "tuple")) = false by simp]; exact q), .inr (.inr ⟨rfl, rfl⟩)⟩
    obtain ⟨i, r, rfl⟩ := k5 (hall x hx)
    exact ⟨_, r, rfl, fun v d => by
        cases n with
        | zero => exact d.elim
        | succ n =>
          obtain ⟨a, its, rfl, p, _⟩ := d
          exact lk (T := "") p⟩
/-! tuples of which some are empty -/
theorem first_tup {M : Model} {a : Addr} {its : Array Value} {Q : Option Value → Shared → Prop} (p : s.heap.IsTuple a its) (q : Q its[0]? s) : wpAny M A (PyProof.Rows.firstOfTuple' (.ref a)) Q E s := by
  obtain ⟨o, ho, hc, n, hd⟩ := p
  rw [PySem.W.kas_first_eq]
  refine wpAny_bind (PySem.W.Looks.here (show PySem.W.Looks M s.heap (typeOf (.ref a)) o.cls from (PySem.W.Looks.ld ho).andThen .now) ?_)
  rw [hc, if_neg (by first | decide | simp)]
  exact wpAny_bind (PyProof.Rows.listItems_at ho hd (wpAny_pure q))
theorem firsts_tup {M : Model} {n : Nat} : ∀ {xs : List PV} {vs : List Value} {Q : List (Option Value) → Shared → Prop}, Paired (DV (n + 1) s.heap) xs vs → (∀ x ∈ xs, isTp x = true) → (∀ fs, Paired (fun x f => f.isSome = !isE x) xs fs → Q fs s) → wpAny M A (vs.mapM PyProof.Rows.firstOfTuple') Q E s
  | _, _, Q, .nil, _, q => by rw [List.mapM_nil]; exact wpAny_pure (q _ .nil)
  | _, _, Q, .cons (a := x) (l₁ := xs) (l₂ := vs) d r, h, q => by
    rw [List.mapM_cons]
    have hx := h x (List.mem_cons_self ..)
    cases x with
    | tup ys =>
      obtain ⟨a, its, rfl, p, rr⟩ := d
      refine wpAny_bind (first_tup p (wpAny_bind (firsts_tup r (fun z hz => h z (List.mem_cons_of_mem _ hz)) fun fs hf => wpAny_pure (q _ (.cons ?_ hf)))))
      cases rr with
      | nil => rfl
      | cons _ _ => rfl
    | _ => cases hx
theorem kindE {n : Nat} {xs : List PV} {vs : List Value} (h2 : 2 ≤ vs.length) (hall : xs.all isTp = true) (hany : xs.any isE = true) (r : Paired (DV (n + 1) s.heap) xs vs) :
    ∃ κ, (∀ (Q : SortKind → Shared → Prop) (E : Value → Shared → Prop), Q κ s → wpAny (model prog w) A (keyKind' vs.toArray) Q E s) ∧ (κ = oneType' ∨ κ = general') := by
  have hall' : ∀ x ∈ xs, isTp x = true := fun x hx => List.all_eq_true.mp hall x hx
  have nall : ∀ fs : List (Option Value), Paired (fun x f => f.isSome = !isE x) xs fs → (fs.toArray.all fun x => x.isSome) = false := fun fs hf => by
    obtain ⟨x, hx, ex⟩ := List.any_eq_true.mp hany
    have : ∀ {xs : List PV} {fs : List (Option Value)}, Paired (fun x f => f.isSome = !isE x) xs fs → x ∈ xs → ∃ f ∈ fs, f.isSome = false := by
      intro xs fs r
      induction r with
      | nil => intro h; cases h
      | @cons a b _ _ h t ih =>
        intro hx
        rcases List.mem_cons.mp hx with rfl | hx
        · exact ⟨b, List.mem_cons_self .., by rw [h, ex]; rfl⟩
        · obtain ⟨f, h1, h2⟩ := ih hx
          exact ⟨f, List.mem_cons_of_mem _ h1, h2⟩
    obtain ⟨f, h1, h2⟩ := this hf hx
    rw [List.all_toArray, List.all_eq_false]
    exact ⟨f, h1, by rw [h2]; simp⟩
  have types : ∀ v ∈ vs, PySem.W.Looks (model prog w) s.heap (typeOf v) (.type "tuple") := fun v hv => by
    obtain ⟨x, hx, d⟩ := pr_mem r hv
    have := hall' x hx
    cases x with
    | tup ys =>
      obtain ⟨a, its, rfl, ⟨o, ho, hc, _⟩, _⟩ := d
      rw [← hc]
      exact (PySem.W.Looks.ld ho).andThen .now
    | _ => cases this
  obtain ⟨x0, xr, v0, vr, rfl, rfl, d0, rr⟩ : ∃ x0 xr v0 vr, xs = x0 :: xr ∧ vs = v0 :: vr ∧ DV (n + 1) s.heap x0 v0 ∧ Paired (DV (n + 1) s.heap) xr vr := by
    cases r with
    | nil => simp at h2
    | cons d rr => exact ⟨_, _, _, _, rfl, rfl, d, rr⟩
  by_cases c : isE x0 = true
  · refine ⟨oneType', fun Q E q => ?_, .inl rfl⟩
    rw [PyProof.Rows.kat_kind_eq, List.mapM_toArray, map_eq_pure_bind]
    refine wpAny_bind (wpAny_bind (firsts_tup (.cons d0 rr) hall' fun fs hf => wpAny_pure ?_))
    rw [if_neg (by rw [nall fs hf]; simp)]
    cases hf with
    | @cons _ f _ fr h t =>
      rw [c] at h
      have hf0 : f = none := by cases f with
        | none => rfl
        | some _ => cases h
      subst hf0
      rw [if_neg (by simp)]
      rw [PyProof.Rows.oneTypeOnly'_eq, List.mapM_toArray, map_eq_pure_bind]
      refine wpAny_bind (wpAny_bind (wpAny_bind (PySem.W.kas_mapM (r := Value.type "tuple") _ (fun v hv Q' hq => (types v hv).here hq) (wpAny_pure ?_))))
      have hall2 : ((List.map (fun _ => Value.type "tuple") (v0 :: vr)).toArray.all fun x => x == Value.type "tuple") = true := by
        simp only [List.all_toArray, List.all_map, List.all_eq_true]
        intro _ _
        simp
      have h0 : (List.map (fun _ => Value.type "tuple") (v0 :: vr)).toArray[0]? = some (Value.type "tuple") := by simp
      rw [h0]
      simp only [hall2, if_true]
      exact wpAny_pure (wpAny_pure q)
  · refine ⟨general', fun Q E q => ?_, .inr rfl⟩
    rw [PyProof.Rows.kat_kind_eq, List.mapM_toArray, map_eq_pure_bind]
    refine wpAny_bind (wpAny_bind (firsts_tup (.cons d0 rr) hall' fun fs hf => wpAny_pure ?_))
    rw [if_neg (by rw [nall fs hf]; simp)]
    cases hf with
    | @cons _ f _ fr h t =>
      have hf1 : f.isSome = true := by rw [h]; simpa using c
      obtain ⟨g, rfl⟩ := Option.isSome_iff_exists.mp hf1
      rw [if_pos (by simp)]
      exact wpAny_pure q
end
end Z
namespace Z
open PySem PySem.Spec PyProof.Rows L2
section
variable {prog : Program} {w : World} {A : Around} {E : Value → Shared → Prop} {s : Shared}
theorem kd_tup {x : PV} (h : 3 ≤ kdP x) : ∃ l, x = .tup l := by
  unfold kdP at h
  split at h <;> first | exact ⟨_, rfl⟩ | (exfalso; revert h; decide)
theorem kd_sc {x : PV} (h : kdP x < 3) (h0 : kdP x ≠ 0) : rkP x ≠ 2 := by
  revert h h0
  unfold kdP
  split <;> intro h h0 <;> first | (show (0 : Int) ≠ 2; decide) | (show (1 : Int) ≠ 2; decide) | exact absurd h (by decide) | exact absurd rfl h0
/-- what the value is -/
noncomputable def kV (h : Heap) (v : Value) : PV := open Classical in if q : ∃ x, sdF 50 x = true ∧ DV 50 h x v then Classical.choose q else .non
theorem kV_eq {h : Heap} {v : Value} {x : PV} (hs : sdF 50 x = true) (d : DV 50 h x v) : kV h v = x := by
  have q : ∃ x, sdF 50 x = true ∧ DV 50 h x v := ⟨x, hs, d⟩
  unfold kV
  rw [dif_pos q]
  exact dv_inj (Classical.choose_spec q).2 d
/-- t < u of two tuples by t's own method -/
theorem call_tup_lt {n : Nat} {x y : List PV} {a b : Value} {Q : Value → Shared → Prop} (hu : A.units + n + 1 < cLine) (hx : sdF (n + 1) (.tup x) = true) (hy : sdF (n + 1) (.tup y) = true) (hal : alF (n + 1) (.tup x) (.tup y) = true) (d : DV (n + 1) s.heap (.tup x) a) (e : DV (n + 1) s.heap (.tup y) b)
    (q : Q (.bool (cpF (n + 1) (.tup x) (.tup y) == .lt)) s) : wpAny (model prog w) A (call (.builtin "tuple.__lt__") [a, b]) Q E s := by
  obtain ⟨l, its, rfl, p, r⟩ := d
  obtain ⟨l', its', rfl, p', r'⟩ := e
  have n1 : its.toArray.size = x.length := by rw [List.size_toArray, pr_len r]
  have n2 : its'.toArray.size = y.length := by rw [List.size_toArray, pr_len r']
  have items : ∀ j (h1 : j < its.toArray.size) (h2 : j < its'.toArray.size), ∃ u v, x[j]? = some u ∧ y[j]? = some v ∧ x.getD j .non = u ∧ y.getD j .non = v ∧ DV n s.heap u its.toArray[j] ∧ DV n s.heap v its'.toArray[j] ∧ sdF n u = true ∧ sdF n v = true := fun j h1 h2 => by
    have j1 : j < its.length := by simpa using h1
    have j2 : j < its'.length := by simpa using h2
    have k1 : j < x.length := by rw [pr_len r]; exact j1
    have k2 : j < y.length := by rw [pr_len r']; exact j2
    obtain ⟨v1, g1, d1⟩ := pr_get r (List.getElem?_eq_getElem k1)
    obtain ⟨v2, g2, d2⟩ := pr_get r' (List.getElem?_eq_getElem k2)
    have f1 : its.toArray[j] = v1 := by
      rw [List.getElem?_eq_getElem j1] at g1
      simpa using Option.some.inj g1
    have f2 : its'.toArray[j] = v2 := by
      rw [List.getElem?_eq_getElem j2] at g2
      simpa using Option.some.inj g2
    rw [f1, f2]
    exact ⟨x[j], y[j], List.getElem?_eq_getElem k1, List.getElem?_eq_getElem k2, by simp [List.getD, List.getElem?_eq_getElem k1], by simp [List.getD, List.getElem?_eq_getElem k2], d1, d2, List.all_eq_true.mp (show x.all (sdF n) = true from hx) _ (List.getElem_mem k1), List.all_eq_true.mp (show y.all (sdF n) = true from hy) _ (List.getElem_mem k2)⟩
  obtain ⟨⟨cls, dd, data, sl⟩, ho, hc, m, hd⟩ := id p
  obtain ⟨⟨cls2, dd2, data2, sl2⟩, ho2, hc2, m2, hd2⟩ := id p'
  simp only at hc hd hc2 hd2
  subst hc hd hc2 hd2
  refine call_meets PySem.F.slot_tuple_lt ⟨_, ho, rfl⟩ PySem.F.entry_tuple_lt (PySem.F.args_tuple_lt_2 _ _) (Ob.tuple_ltAt l l' its.toArray its'.toArray m m2 dd dd2 sl sl2 (fun j => cpF n (x.getD j .non) (y.getD j .non) == .eq) (fun j => cpF n (x.getD j .non) (y.getD j .non) == .lt))
    ⟨ho, ho2, fun j h1 h2 => ?_, fun j h1 h2 _ => ?_, ?_⟩
  · obtain ⟨u, v, _, _, e1, e2, d1, d2, s1, s2⟩ := items j h1 h2
    rw [e1, e2]
    exact dv_eqAt (by show A.units + 1 + n < cLine; omega) s1 s2 d1 d2
  · obtain ⟨u, v, g1, g2, e1, e2, d1, d2, s1, s2⟩ := items j h1 h2
    rw [e1, e2]
    exact dv_rc (by show A.units + 1 + n < cLine; omega) s1 s2 (alL_get hal g1 g2) d1 d2
  · have e0 : (cpF (n + 1) (.tup x) (.tup y) == .lt) = Ob.lexAt (fun j => cpF n (x.getD j .non) (y.getD j .non) == .eq) (fun j => cpF n (x.getD j .non) (y.getD j .non) == .lt) (decide (x.length < y.length)) 0 (min x.length y.length) := by
      rw [cpF_tup]
      exact cpL_lex
    rw [e0] at q
    rw [n1, n2]
    exact q
theorem oneLtE {f : Bool} {x y : List PV} {a b : Value} {Q : Bool → Shared → Prop} (hu : A.units + 50 < cLine) (hx : sdF 50 (.tup x) = true) (hy : sdF 50 (.tup y) = true) (hal : alF 50 (.tup x) (.tup y) = true) (d : DV 50 s.heap (.tup x) a) (e : DV 50 s.heap (.tup y) b)
    (q : Q (cpF 50 (.tup x) (.tup y) == .lt) s) : wpAny (model prog w) A (PyProof.Rows.oneLt' f a b) Q E s := by
  cases f with
  | false => exact PySem.W.kat_one _ _ (dv_rc hu hx hy hal d e prog w E (PySem.W.BoolBack Q) q)
  | true =>
    have d' := d
    obtain ⟨l, its, rfl, ⟨o, ho, hc, _⟩, r⟩ := d'
    rw [PyProof.Rows.oneLt'_eq]
    simp only [if_true]
    refine wpAny_bind (wpAny_cRoomFor (by omega) ?_)
    refine wpAny_bind (wpAny_callSpecialIfBound?_slot ⟨o, ho, hc⟩ PySem.F.slot_tuple_lt (call_tup_lt (n := 49) (by omega) hx hy hal d e ?_))
    exact wpAny_truthy_bool q
open PyProof.Rows in
theorem sortableZ {a : Addr} {xs : List PV} {vs : List Value} {h0 : Heap} (hu : A.units + 50 < cLine) (h2 : 2 ≤ vs.length) (r : Paired (DV 50 h0) xs vs) (ok : srtOk xs = true) (kk : ∀ h' : Heap, (∀ b o, b ≠ a → s.heap.get? b = some o → h'.get? b = some o) → ∀ b o, h0.get? b = some o → h'.get? b = some o) :
    SrtO.SortableO prog w A s a vs fun v u => ltD (kV h0 v) (kV h0 u) := by
  intro h' keep
  have k' := kk h' keep
  have r' : Paired (DV 50 h') xs vs := Paired.mapP r fun _ _ => dv_keep k'
  unfold srtOk at ok
  rw [Bool.and_eq_true, Bool.and_eq_true] at ok
  obtain ⟨⟨o1, o2⟩, o3⟩ := ok
  have hsd : ∀ x ∈ xs, sdF 50 x = true := fun x hx => List.all_eq_true.mp o1 x hx
  rw [Bool.or_eq_true] at o2
  rcases o2 with o2 | o2
  case inr =>
    unfold eTup at o2
    rw [Bool.and_eq_true, Bool.and_eq_true] at o2
    obtain ⟨κ, q1, q2⟩ := kindE (prog := prog) (w := w) (A := A) (s := { s with heap := h' }) (n := 49) h2 o2.1.1 o2.1.2 r'
    refine ⟨κ, q1, fun p q hp hq => ?_⟩
    obtain ⟨x, hx, dx⟩ := pr_mem r' hp
    obtain ⟨y, hy, dy⟩ := pr_mem r' hq
    obtain ⟨x0, hx0, dx0⟩ := pr_mem r hp
    obtain ⟨y0, hy0, dy0⟩ := pr_mem r hq
    have ex : x0 = x := dv_inj (dv_keep k' dx0) dx
    have ey : y0 = y := dv_inj (dv_keep k' dy0) dy
    subst ex ey
    have okk : alF 50 x0 y0 = true := List.all_eq_true.mp (List.all_eq_true.mp o2.2 x0 hx) y0 hy
    have tx := List.all_eq_true.mp o2.1.1 x0 hx
    have ty := List.all_eq_true.mp o2.1.1 y0 hy
    show wpAny (model prog w) A (keyLt' κ p.1 q.1) (fun r s' => s' = _ ∧ r = ltD (kV h0 p.1) (kV h0 q.1)) _ _
    rw [kV_eq (hsd _ hx) dx0, kV_eq (hsd _ hy) dy0]
    have hsx := hsd _ hx
    have hsy := hsd _ hy
    cases x0 with
    | tup xs1 =>
      cases y0 with
      | tup ys1 =>
        rcases q2 with rfl | rfl
        · exact oneLtE (f := true) hu hsx hsy okk dx dy ⟨rfl, rfl⟩
        · exact oneLtE (f := false) hu hsx hsy okk dx dy ⟨rfl, rfl⟩
      | _ => cases ty
    | _ => cases tx
  obtain ⟨k, hk, hall⟩ : ∃ k, k ≠ 0 ∧ ∀ x ∈ xs, kdP x = k := by
    cases xs with
    | nil => cases r; simp at h2
    | cons x xs =>
      rw [Bool.and_eq_true] at o2
      exact ⟨kdP x, by simpa using o2.1, fun y hy => by simpa using List.all_eq_true.mp o2.2 y hy⟩
  obtain ⟨κ, q1, q2⟩ := kindZ (prog := prog) (w := w) (A := A) (s := { s with heap := h' }) (n := 49) h2 hk hall r'
  refine ⟨κ, q1, fun p q hp hq => ?_⟩
  obtain ⟨x, hx, dx⟩ := pr_mem r' hp
  obtain ⟨y, hy, dy⟩ := pr_mem r' hq
  obtain ⟨x0, hx0, dx0⟩ := pr_mem r hp
  obtain ⟨y0, hy0, dy0⟩ := pr_mem r hq
  have ex : x0 = x := dv_inj (dv_keep k' dx0) dx
  have ey : y0 = y := dv_inj (dv_keep k' dy0) dy
  subst ex ey
  have okk : okT x0 y0 = true := List.all_eq_true.mp (List.all_eq_true.mp o3 x0 hx) y0 hy
  show wpAny (model prog w) A (keyLt' κ p.1 q.1) (fun r s' => s' = _ ∧ r = ltD (kV h0 p.1) (kV h0 q.1)) _ _
  rw [kV_eq (hsd _ hx) dx0, kV_eq (hsd _ hy) dy0]
  have hkx := hall x0 hx
  have hky := hall y0 hy
  have tups : ∀ b : Bool, (k = 3 ∨ k = 4 ∨ k = 5) → (b = true → k = 3 ∨ k = 4) → wpAny (model prog w) A (keyLt' (tuples' b) p.1 q.1) (fun r s' => s' = { s with heap := h' } ∧ r = ltD x0 y0) (fun _ _ => False) { s with heap := h' } := fun b hk' hb => by
    obtain ⟨xs1, rfl⟩ := kd_tup (x := x0) (by omega)
    obtain ⟨ys1, rfl⟩ := kd_tup (x := y0) (by omega)
    obtain ⟨a1, its1, e1, ⟨o, ho, hc, m, hd⟩, rr1⟩ := dx
    obtain ⟨a2, its2, e2, ⟨o', ho', hc', m', hd'⟩, rr2⟩ := dy
    rw [e1, e2]
    refine PySem.W.kat_lt ho hd ho' hd' ?_
    show PySem.W.KatLex prog w A b _ _ (its1.zip its2) 0 _
    refine katZ (n := 49) (by omega) 0 (fun z hz => List.all_eq_true.mp (show xs1.all (sdF 49) = true from hsd _ hx) z hz) (fun z hz => List.all_eq_true.mp (show ys1.all (sdF 49) = true from hsd _ hy) z hz) rr1 rr2 okk (fun hb' _ z hz => ?_) ?_ ⟨rfl, rfl⟩
    · match xs1, hz, hkx with
      | z1 :: rest, hz, hkx =>
        have : z1 = z := by simpa using hz
        subst this
        have hz3 : kdP (.tup (z1 :: rest)) = 3 ∨ kdP (.tup (z1 :: rest)) = 4 := by rw [hkx]; exact hb hb'
        cases z1 <;> first | (show (0 : Int) ≠ 2; decide) | (show (1 : Int) ≠ 2; decide) | (show (3 : Int) ≠ 2; decide) | (exfalso; revert hz3; show (5 : Nat) = 3 ∨ (5 : Nat) = 4 → False; decide)
    · rw [List.size_toArray, List.size_toArray, pr_len rr1, pr_len rr2]
  rcases q2 with ⟨rfl, hk'⟩ | ⟨rfl, hk'⟩ | ⟨rfl, hk'⟩
  · rw [keyLt'_oneType]
    have nt : ∀ z, kdP z = k → rkP z ≠ 2 := fun z hz => kd_sc (by omega) (by omega)
    refine oneLtZ hu (hsd _ hx) (hsd _ hy) ?_ dx dy (fun _ => nt _ hkx) ⟨rfl, rfl⟩
    unfold okT at okk
    split at okk
    · exact absurd rfl (nt _ hkx)
    · exact okk
  · exact tups true (by omega) fun _ => hk'
  · exact tups false (by omega) fun z => nomatch z
end
/-- sorted(xs): data that may be compared -/
def rSortedZ (W : Wd) : List V → Hp → VK → Prop := fun vs H Q => ∃ φ h x v H0 xs, vs = [v] ∧ HR W φ H h ∧ RR W φ H0 H x v ∧ seqV h x = some (false, xs) ∧ srtOk xs = true ∧ ∀ (ys : List V) p, RepL W φ H (srt xs) ys → H p = none → Q (.ref p) (upd H p (.lst ys))
def vV (v : Value) : V := (absV v).getD .non
section
variable {W : Wd} {φ : Emb} {H : Hp} {X : Cx} {pins : List (Addr × Obj)} {σ : L2.St} {s : Shared}
theorem dvs_of (hK : X.K = W.K) (I : Inv X pins σ H s) {n : Nat} : ∀ {xs : List PV} {vs : List V} {its : List Value}, xs.all (sdF n) = true → RepL W φ H xs vs → Vals vs its → Paired (DV n s.heap) xs its
  | [], vs, its, _, rl, rv => by rw [rl.unnil] at rv; cases rv; exact .nil
  | x :: xs, vs, its, ha, rl, rv => by
    rw [List.all_cons, Bool.and_eq_true] at ha
    obtain ⟨w, r', rfl, h1, h2⟩ := rl.uncons
    cases rv with
    | cons q rv => exact .cons (dv_of hK I ha.1 h1 q) (dvs_of hK I ha.2 h2 rv)
theorem rep_each (hK : X.K = W.K) (I : Inv X pins σ H s) : ∀ {xs : List PV} {vs : List V} {its : List Value}, xs.all (sdF 50) = true → RepL W φ H xs vs → Vals vs its → its.map (kV s.heap) = xs ∧ ∀ u ∈ its, Rep W φ H (kV s.heap u) (vV u) ∧ RelV (vV u) u
  | [], vs, its, _, rl, rv => by rw [rl.unnil] at rv; cases rv; exact ⟨rfl, fun _ z => nomatch z⟩
  | x :: xs, vs, its, ha, rl, rv => by
    rw [List.all_cons, Bool.and_eq_true] at ha
    obtain ⟨w, r', rfl, h1, h2⟩ := rl.uncons
    cases rv with
    | @cons _ u _ us q rv =>
      obtain ⟨e, f⟩ := rep_each hK I ha.2 h2 rv
      have ek := kV_eq ha.1 (dv_of hK I ha.1 h1 q)
      refine ⟨by rw [List.map_cons, e, ek], fun u' hu => ?_⟩
      rcases List.mem_cons.mp hu with rfl | hu
      · have ev : vV u' = w := by unfold vV; rw [q.abs]; rfl
        rw [ek, ev]
        exact ⟨h1, q⟩
      · exact f u' hu
theorem rep_back {h : Heap} : ∀ {out : List Value}, (∀ u ∈ out, Rep W φ H (kV h u) (vV u) ∧ RelV (vV u) u) → RepL W φ H (out.map (kV h)) (out.map vV) ∧ Vals (out.map vV) out
  | [], _ => ⟨.nil, .nil⟩
  | u :: out, q => by
    obtain ⟨h1, h2⟩ := q u (List.mem_cons_self ..)
    obtain ⟨r1, r2⟩ := rep_back fun v hv => q v (List.mem_cons_of_mem _ hv)
    exact ⟨.cons h1 r1, .cons h2 r2⟩
theorem cr_sortedZ (hK : X.K = W.K) (hu : X.A.units + 64 < cLine) : CallR X (.builtin "sorted") (rSortedZ W) := by
  intro pins s σ H vs us Q I r h
  obtain ⟨φ, h, x, v, H0, xs, rfl, hr, rx, es, ok, q⟩ := h
  obtain ⟨a, ws, rfl, rl, sq⟩ := seqV_ok hr rx es
  have sq : SqL X.K H a ws := hK ▸ sq
  obtain ⟨its, rv, hl, hz⟩ := I.list sq
  rw [Vals.ref1 r]
  have hsd : xs.all (sdF 50) = true := by
    unfold srtOk at ok
    rw [Bool.and_eq_true, Bool.and_eq_true] at ok
    exact ok.1.1
  have rd := dvs_of hK I hsd rl rv
  obtain ⟨ek, ev⟩ := rep_each hK I hsd rl rv
  have O : SrtO.Swo fun v u => ltD (kV s.heap v) (kV s.heap u) := ((tp_F 50).on (kV s.heap)).swo
  refine SrtO.sorted_ord O hl.isList (by rw [← rv.length]; exact hz) (fun h2 h₁ a' ha' kk => ?_) fun out h1 h2 => ?_
  · refine sortableZ (h0 := s.heap) (by show X.A.units + 1 + 1 + 50 < cLine; omega) h2 rd ok fun h' k b o e => k b o (kk b o e).1 (kk b o e).2
  obtain ⟨ep, he'⟩ := PyProof.Rows.sortedAll_at s.heap its out.toArray
  have hp := h2.perm
  have eo : out.map (kV s.heap) = srt xs := by
    refine srt_uniq (fun x hx => List.all_eq_true.mp hsd x hx) ?_ (SrtO.srtd_map h1)
    have := hp.map (kV s.heap)
    rw [ek] at this
    exact this
  obtain ⟨r1, r2⟩ := rep_back (W := W) (φ := φ) (H := H) (h := s.heap) (out := out) fun u hu => ev u (hp.mem_iff.mp hu)
  rw [eo] at r1
  have hlen : (out.map vV).length ≤ sizeLine := by
    rw [List.length_map, hp.length_eq, ← rv.length]
    exact hz
  exact ⟨.ref _, upd H (s.heap.objs.size + 1) (.lst (out.map vV)), I.laid (t' := s.toks) (fun _ _ => PyProof.Rows.sortedAll_old) (Nat.le_succ _) ⟨hlen, out, ep, r2, he'⟩, rfl, q _ _ r1 (I.hok.fresh (Nat.le_succ _))⟩
end
def oSorted (xs : List PV) (h : PH) : RG PV := match xs with
  | [x] => (match seqV h x with
    | some (false, xs) => if srtOk xs = true then .ok (.lst (srt xs)) h else .bad
    | _ => .bad)
  | _ => .bad
theorem c_sorted {W : Wd} {Wx : WX} : COk W Wx oSorted (rSortedZ W) := by
  intro φ H h xs vs σ Q hr ra q
  match xs, q, ra with
  | [x], q, ra =>
    obtain ⟨v, rfl, H0, r1⟩ := RVL.one ra
    unfold oSorted at q
    dsimp only at q
    split at q
    · rename_i xs es
      split at q
      · rename_i ok
        exact ⟨φ, h, x, v, H0, xs, rfl, hr, r1, es, ok, fun ys p rl hp => res_lst hr q rl hp⟩
      · exact q.elim
    · exact q.elim
  | [], q, _ => exact q.elim
  | _ :: _ :: _, q, _ => exact q.elim
end Z
namespace Z
open PySem PySem.Spec PyProof.Rows L2
/-! ### str of an int -/
def strI (i : Int) : List Nat := (Str.ofString (toString i)).cps.toList
def oStr (xs : List PV) (h : PH) : RG PV := match xs with
  | [.int i] => if i.natAbs.log2 < 1920 then .ok (.str (strI i)) h else .bad
  | _ => .bad
theorem c_str {W : Wd} {Wx : WX} : COk W Wx oStr (fun xs H Q => ∃ i, xs = [.int i] ∧ i.natAbs.log2 < 1920 ∧ Q (.str (toString i)) H) := by
  intro φ H h xs vs σ Q hr ra q
  match xs, q, ra with
  | [.int i], q, ra =>
    obtain ⟨v, rfl, r1⟩ := ra.one
    have r1 := r1.rep (fun _ => by simp)
    rw [Rep] at r1; subst r1
    dsimp only [oStr] at q
    split at q
    · rename_i hl
      refine ⟨i, rfl, hl, ?_⟩
      have := res_str hr q
      unfold strI at this
      rw [Array.toArray_toList] at this
      exact this
    · exact q.elim
  | [], q, _ => exact q.elim
  | _ :: _ :: _, q, _ => simp only [oStr] at q; exact q.elim
  | [.str _], q, _ => exact q.elim
  | [.non], q, _ => exact q.elim
  | [.bl _], q, _ => exact q.elim
  | [.tup _], q, _ => exact q.elim
  | [.ro _], q, _ => exact q.elim
  | [.lst _], q, _ => exact q.elim
  | [.ref _], q, _ => exact q.elim
  | [.exn _ _], q, _ => exact q.elim
/-! ### isinstance of an own class -/
def tyL : List String := ["int", "bool", "str", "tuple", "list", "NoneType"]
/-- an own class D, as isinstance asks an instance of it -/
structure IsA (K : PySem.W.Frag) (D : Addr) : Prop where
  cl : Cls K D
  ha : PySem.W.findIn K (.ref D) "__class__" = some (some (.builtin "object.__class__"))
  hn : PySem.W.specialIn K (.builtin "object.__class__") "__get__" = some (some (.builtin "getset_descriptor.__get__"))
  ht : PySem.W.takesIn K (.builtin "object.__class__") = some true
  hm : PySem.W.mroIn K D (.type "object") = some true
structure IsoT (mg : Str → Option Value) (K : PySem.W.Frag) (cA : Nat → Addr) (y : Str) (tab : List (Nat × Bool)) : Prop where
  ex : ∃ C, mg y = some (.ref C) ∧ (∀ t ∈ tyL, PySem.W.kitOne K (.type t) (.ref C) = some false) ∧ ∀ k b, tab.lookup k = some b → IsA K (cA k) ∧ PySem.W.kitOne K (.ref (cA k)) (.ref C) = some b
def oIsiC (tab : List (Nat × Bool)) (x : PV) (h : PH) : RG PV := match clsN h x with
  | some k => oB (tab.lookup k) h
  | none => (match tyName h x with
    | some t => if tyL.contains t = true then .ok (.bl false) h else .bad
    | none => .bad)
theorem z_isiC {W : Wd} {Wx : WX} {X : Cx} {e : Expr} {m : MG PV} {pos p p2 : Pos} {y : Str} {tab : List (Nat × Bool)} (h1 : PE X e (tE W Wx m)) (hK : W.K = X.K) (T : IsoT X.mg W.K W.cA y tab) (hg : Gl X "isinstance") (hm : X.mg "isinstance" = none) (hg2 : Gl X y) (hdb : (y == ("__debug__" : Str)) = false)
    (hs : starEach [e, .Name y p2] X.env = (false, eval e X.env) :: starEach [.Name y p2] X.env) : PE X (.Call (.Name "isinstance" p) [e, .Name y p2] [] pos) (tE W Wx (mU (oIsiC tab) m)) := by
  obtain ⟨C, hy, hT, hC⟩ := T.ex
  refine PE.imp (pe_callB call_isi hg hm boot_isinstance (pa_cons h1 (pa_cons (pe_glob (v := .ref C) hg2 hy rfl hdb) pa_nil) hs) (by decide) (by decide) hs) fun σ H Q ⟨φ, env, h, s, r, q⟩ => ?_
  refine (tb (R := rE W) s r q).mono fun v H1 ⟨φ1, h1, x, p1, s1, r1, e1, q⟩ => ?_
  unfold oIsiC at q
  cases ec : clsN h1 x with
  | some k =>
    rw [ec] at q
    obtain ⟨b, eb, q2⟩ := oB_ok r1 q
    cases x with
    | ref n =>
      unfold clsN at ec
      dsimp only at ec
      cases e2 : h1[n]? with
      | none => rw [e2] at ec; cases ec
      | some ob =>
        rw [e2] at ec
        cases ob with
        | ins c fs =>
          cases ec
          obtain ⟨a, dx, vs, rfl, ha, hH, rf⟩ := ref_ins r1 e1 e2
          obtain ⟨A, kk⟩ := hC k b eb
          rw [hK] at A kk
          exact ⟨.ref a, .ref C, .ref (W.cA k), .ref C, b, rfl, .own C, .base (.ins hH A.cl A.ha A.hn A.ht A.hm), kk, q2⟩
        | _ => cases ec
    | _ => cases ec
  | none =>
    rw [ec] at q
    dsimp only at q
    cases et : tyName h1 x with
    | none => rw [et] at q; exact q.elim
    | some t =>
      rw [et] at q
      dsimp only at q
      split at q
      · rename_i ht
        have ht : t ∈ tyL := by simpa using ht
        have := hT t ht
        rw [hK] at this
        exact ⟨v, .ref C, .type t, .ref C, false, rfl, .own C, tyName_ok hK r1 e1 et, this, res_bl r1 q⟩
      · exact q.elim
end Z
namespace PySem
namespace ZQ
open PySem.W PySem.Calls PyProof.Rows
open Sem (wp)
open Builtin
section
variable {prog : Program} {w : World} {A : Around} {E : Value → Shared → Prop} {s : Shared} {K : Frag} {x C f : Addr} {ox : Obj} {od : Option Obj} {b tb : Value}
theorem rc_own {op : CmpOp} {Q : Value → Shared → Prop} (hu : A.units < cLine) (X : K.In s.heap) (I : InstAt s.heap x ox C od) (hb : Looks (model prog w) s.heap (typeOf b) tb) (hn : notFirst K C tb = true)
    (one : wpAny (model prog w) A (tryCompare (.ref x) (cmpInfo op).2.1 b) (fun r s' => ∃ v, r = some v ∧ Q v s') E s) : wpAny (model prog w) A (richCompare op (.ref x) b) Q E s := by
  unfold richCompare
  simp only [oneThing_ref]
  refine wpAny_holding (wpAny_bind (wpAny_cRoomFor hu ?_))
  refine wpAny_bind (I.type.here (wpAny_bind (hb.here ?_)))
  split
  · rename_i q
    have e : subIn K tb (.ref C) = some false := by
      rcases Bool.or_eq_true_iff.mp hn with e | e
      · rw [beq_iff_eq.mp e] at q; simp at q
      · exact beq_iff_eq.mp e
    refine wpAny_bind ((looks_subIn X e).here ?_)
    simp only [Bool.false_eq_true, if_false]
    refine wpAny_bind (wpAny_mono one (fun r s' z => ?_) fun _ _ e => e)
    obtain ⟨v, rfl, hq⟩ := z
    exact wpAny_pure hq
  · refine wpAny_bind (wpAny_pure ?_)
    simp only [Bool.false_eq_true, if_false]
    refine wpAny_bind (wpAny_mono one (fun r s' z => ?_) fun _ _ e => e)
    obtain ⟨v, rfl, hq⟩ := z
    exact wpAny_pure hq
/-- == by an own __eq__ that answers a bool -/
theorem eq_own {Q : Value → Shared → Prop} (hu : A.units < cLine) (X : K.In s.heap) (I : InstAt s.heap x ox C od) (hb : Looks (model prog w) s.heap (typeOf b) tb) (hn : notFirst K C tb = true)
    (hs : findIn K (.ref C) "__eq__" = some (some (.ref f))) (hf : isFn K (.ref f) = true) (h : wpAny (model prog w) A (call (.ref f) [.ref x, b]) (fun v s' => ∃ k, v = .bool k ∧ Q (.bool k) s') E s) :
    wpAny (model prog w) A (compareOp .Eq (.ref x) b) Q E s := by
  show wpAny _ _ (richCompare .Eq (.ref x) b) _ _ _
  refine rc_own hu X I hb hn ?_
  show wpAny _ _ (tryCompare (.ref x) "__eq__" b) _ _ _
  unfold tryCompare
  refine wpAny_bind (ifBound_K X I hs hf (wpAny_mono h (fun v s' hv => ?_) fun _ _ e => e))
  obtain ⟨k, rfl, hq⟩ := hv
  exact wpAny_pure ⟨_, rfl, hq⟩
theorem ne_own {Q : Value → Shared → Prop} (hu : A.units + 1 < cLine) (X : K.In s.heap) (I : InstAt s.heap x ox C od) (hb : Looks (model prog w) s.heap (typeOf b) tb) (hn : notFirst K C tb = true)
    (hne : findIn K (.ref C) "__ne__" = some (some (.builtin "object.__ne__"))) (hm : mroIn K C (.type "object") = some true)
    (hs : findIn K (.ref C) "__eq__" = some (some (.ref f))) (hf : isFn K (.ref f) = true) (h : wpAny (model prog w) A.in1 (call (.ref f) [.ref x, b]) (fun v s' => ∃ k, v = .bool k ∧ Q (.bool (!k)) s') E s) :
    wpAny (model prog w) A (compareOp .NotEq (.ref x) b) Q E s := by
  show wpAny _ _ (richCompare .NotEq (.ref x) b) _ _ _
  refine rc_own (Nat.lt_of_succ_lt hu) X I hb hn ?_
  show wpAny _ _ (tryCompare (.ref x) "__ne__" b) _ _ _
  have sub : Looks (model prog w) s.heap (isInstance (.ref x) (.type "object")) true := I.type.andThen (looks_mroIn X hm)
  have fin : wpAny (model prog w) A (call (.builtin "object.__ne__") [.ref x, b]) (fun v s' => v ≠ .notImplemented ∧ Q v s') E s := by
    refine wpAny_call (codeAny_call_builtin PySem.F.cmp_object.ne.plain PySem.F.cmpEntry_ne (@check_slot (model prog w) _ _ s "object.__ne__" "object" "__ne__" (.ref x) [b] [] _ PySem.F.cmpKind_ne PySem.F.cmpSplit_ne sub (PySem.F.cmpArgs_ne (.ref x) b) ?_))
    unfold Builtin.«object.__ne__»
    repeat (first
      | with_reducible refine wpAny_cRoomFor hu ?_
      | (refine wpAny_bind (m := callSpecialIfBound? (.ref x) (Str.ofString "__eq__") [b]) (ifBound_K X I hs hf (wpAny_mono h (fun r s' hr => by
          obtain ⟨k, rfl, hq⟩ := hr
          repeat (first | exact ⟨(fun z => nomatch z), hq⟩ | exact ⟨_, rfl, (fun z => nomatch z), hq⟩ | exact wpAny_pure ⟨_, rfl, (fun z => nomatch z), hq⟩ | (refine wpAny_bind (m := truthy (.bool _)) (wpAny_truthy_bool ?_)) | wp_step)) fun _ _ e => e)))
      | wp_step)
  unfold tryCompare
  refine wpAny_bind ?_
  simp only [callSpecialIfBound?, bindSpecialIfBound?]
  refine wpAny_holding (wpAny_bind (wpAny_bind (wpAny_bind (I.type.here ((looks_findIn X hne).here ?_)))))
  simp only [PySem.F.cmp_object.ne.bind]
  refine wpAny_bind (wpAny_askSetting (wpAny_ite ?_))
  have fin2 : ∀ QQ : Option Value → Shared → Prop, (∀ v s', v ≠ .notImplemented → Q v s' → QQ (some v) s') → wpAny (model prog w) A (call (.builtin "object.__ne__") ([.ref x] ++ [b]) >>= fun v => pure (some v)) QQ E s := fun QQ hQQ => wpAny_bind (wpAny_mono fin (fun v s' hv => wpAny_pure (hQQ v s' hv.1 hv.2)) fun _ _ e => e)
  split
  · exact wpAny_bind (wpAny_pure (wpAny_pure (fin2 _ fun v s' h1 h2 => by cases v <;> first | exact absurd rfl h1 | exact wpAny_pure ⟨_, rfl, h2⟩)))
  · exact wpAny_tryCatch (wpAny_bind (wpAny_pure (wpAny_pure (fin2 _ fun v s' h1 h2 => by cases v <;> first | exact absurd rfl h1 | exact wpAny_pure ⟨_, rfl, h2⟩))))
end
end ZQ
end PySem
namespace PySem
namespace ZQ
open PySem.W PySem.Calls PyProof.Rows
open Sem (wp)
open Builtin
section
variable {prog : Program} {w : World} {A : Around} {E : Value → Shared → Prop} {s : Shared} {K : Frag} {x C f : Addr} {ox : Obj} {od : Option Obj} {b tb : Value}
/-! ### == and != of one thing, of a class without an own __eq__ -/
theorem isSame_self {M : Model} {R : Bool → Shared → Prop} (h : R true s) : wpAny M A (isSame (.ref x) (.ref x)) R E s :=
  wpAny_of_eq (show isSame (.ref x) (.ref x) = pure true by unfold isSame; simp) h
theorem entry_self {M : Model} {Q : Fin → Shared → Prop} (hq : Q (.done (.ret (.bool true))) s) : wpAny M A (Builtin.«object.__eq__» ⟨[.ref x, .ref x], []⟩) Q E s := by
  unfold Builtin.«object.__eq__»
  repeat (first | with_reducible refine isSame_self ?_ | wp_step)
  exact hq
theorem call_self {Q : Value → Shared → Prop} (X : K.In s.heap) (I : InstAt s.heap x ox C od) (hm : mroIn K C (.type "object") = some true) (hq : Q (.bool true) s) :
    wpAny (model prog w) A (call (.builtin "object.__eq__") [.ref x, .ref x]) Q E s :=
  wpAny_call (codeAny_call_builtin F.cmp_object.eq.plain F.cmpEntry_eq (check_slot F.cmpKind_eq F.cmpSplit_eq (I.type.andThen (looks_mroIn X hm)) (F.cmpArgs_eq _ _) (entry_self hq)))
theorem eq_self {Q : Value → Shared → Prop} (hu : A.units < cLine) (X : K.In s.heap) (I : InstAt s.heap x ox C od) (hm : mroIn K C (.type "object") = some true)
    (hs : findIn K (.ref C) "__eq__" = some (some (.builtin "object.__eq__"))) (h : Q (.bool true) s) : wpAny (model prog w) A (compareOp .Eq (.ref x) (.ref x)) Q E s := by
  show wpAny _ _ (richCompare .Eq (.ref x) (.ref x)) _ _ _
  refine rc_own hu X I I.type (by unfold notFirst; simp) ?_
  show wpAny _ _ (tryCompare (.ref x) "__eq__" (.ref x)) _ _ _
  unfold tryCompare
  exact wpAny_bind (HN.ifBound_objEq X I hs (call_self X I hm (wpAny_pure ⟨_, rfl, h⟩)))
theorem ne_self {Q : Value → Shared → Prop} (hu : A.units + 1 < cLine) (X : K.In s.heap) (I : InstAt s.heap x ox C od) (hm : mroIn K C (.type "object") = some true)
    (hs : findIn K (.ref C) "__eq__" = some (some (.builtin "object.__eq__"))) (hne : findIn K (.ref C) "__ne__" = some (some (.builtin "object.__ne__"))) (h : Q (.bool false) s) : wpAny (model prog w) A (compareOp .NotEq (.ref x) (.ref x)) Q E s := by
  show wpAny _ _ (richCompare .NotEq (.ref x) (.ref x)) _ _ _
  refine rc_own (Nat.lt_of_succ_lt hu) X I I.type (by unfold notFirst; simp) ?_
  show wpAny _ _ (tryCompare (.ref x) "__ne__" (.ref x)) _ _ _
  have sub : Looks (model prog w) s.heap (isInstance (.ref x) (.type "object")) true := I.type.andThen (looks_mroIn X hm)
  have fin : wpAny (model prog w) A (call (.builtin "object.__ne__") [.ref x, .ref x]) (fun v s' => v ≠ .notImplemented ∧ Q v s') E s := by
    refine wpAny_call (codeAny_call_builtin PySem.F.cmp_object.ne.plain PySem.F.cmpEntry_ne (@check_slot (model prog w) _ _ s "object.__ne__" "object" "__ne__" (.ref x) [.ref x] [] _ PySem.F.cmpKind_ne PySem.F.cmpSplit_ne sub (PySem.F.cmpArgs_ne (.ref x) (.ref x)) ?_))
    unfold Builtin.«object.__ne__»
    repeat (first
      | with_reducible refine wpAny_cRoomFor hu ?_
      | (refine wpAny_bind (m := callSpecialIfBound? (.ref x) (Str.ofString "__eq__") [.ref x]) (HN.ifBound_objEq X I hs (call_self X I hm (by
          repeat (first | exact ⟨(fun z => nomatch z), h⟩ | exact ⟨_, rfl, (fun z => nomatch z), h⟩ | exact wpAny_pure ⟨_, rfl, (fun z => nomatch z), h⟩ | (refine wpAny_bind (m := truthy (.bool _)) (wpAny_truthy_bool ?_)) | wp_step)))))
      | wp_step)
  unfold tryCompare
  refine wpAny_bind ?_
  simp only [callSpecialIfBound?, bindSpecialIfBound?]
  refine wpAny_holding (wpAny_bind (wpAny_bind (wpAny_bind (I.type.here ((looks_findIn X hne).here ?_)))))
  simp only [PySem.F.cmp_object.ne.bind]
  refine wpAny_bind (wpAny_askSetting (wpAny_ite ?_))
  have fin2 : ∀ QQ : Option Value → Shared → Prop, (∀ v s', v ≠ .notImplemented → Q v s' → QQ (some v) s') → wpAny (model prog w) A (call (.builtin "object.__ne__") ([.ref x] ++ [.ref x]) >>= fun v => pure (some v)) QQ E s := fun QQ hQQ => wpAny_bind (wpAny_mono fin (fun v s' hv => wpAny_pure (hQQ v s' hv.1 hv.2)) fun _ _ e => e)
  split
  · exact wpAny_bind (wpAny_pure (wpAny_pure (fin2 _ fun v s' h1 h2 => by cases v <;> first | exact absurd rfl h1 | exact wpAny_pure ⟨_, rfl, h2⟩)))
  · exact wpAny_tryCatch (wpAny_bind (wpAny_pure (wpAny_pure (fin2 _ fun v s' h1 h2 => by cases v <;> first | exact absurd rfl h1 | exact wpAny_pure ⟨_, rfl, h2⟩))))
end
end ZQ
end PySem
namespace Z
open PySem PySem.Spec PyProof.Rows L2
/-! ### == and != by an own __eq__ -/
structure EqTo (P : Program) (w : World) (mg : Str → Option Value) (base : Heap) (W : Wd) (c : Nat) (F : FnI) : Prop where
  ex : ∃ f, IsA W.K (W.cA c) ∧ PySem.W.findIn W.K (.ref (W.cA c)) "__eq__" = some (some (.ref f)) ∧ PySem.W.isFn W.K (.ref f) = true ∧ PySem.W.findIn W.K (.ref (W.cA c)) "__ne__" = some (some (.builtin "object.__ne__")) ∧
    (∀ t ∈ tyL, PySem.W.notFirst W.K (W.cA c) (.type t) = true) ∧ CalT P w mg base W F f
/-- an own class without __eq__: one thing is equal to itself -/
def idF : FnI := ⟨"", ["a", "b"], [], 0, fun xs h => match xs with
  | [.ref a, .ref b] => if a = b then .ok (.bl true) h else .bad
  | _ => .bad⟩
structure IdT (W : Wd) (c : Nat) (F : FnI) : Prop where
  e : F = idF
  m : PySem.W.mroIn W.K (W.cA c) (.type "object") = some true
  eq : PySem.W.findIn W.K (.ref (W.cA c)) "__eq__" = some (some (.builtin "object.__eq__"))
  ne : PySem.W.findIn W.K (.ref (W.cA c)) "__ne__" = some (some (.builtin "object.__ne__"))
inductive EqT (P : Program) (w : World) (mg : Str → Option Value) (base : Heap) (W : Wd) (c : Nat) (F : FnI) : Prop
  | own : EqTo P w mg base W c F → EqT P w mg base W c F
  | one : IdT W c F → EqT P w mg base W c F
def noLst : PV → Bool
  | .lst _ => false
  | _ => true
/-- what may stand on the right -/
def okY (c : Nat) (h : PH) (y : PV) : Bool := noLst y && (match clsN h y with
  | some k => k == c
  | none => (match tyName h y with
    | some t => tyL.contains t
    | none => false))
def oEqO (eqs : List (Nat × FnI)) (neg : Bool) (x y : PV) (h : PH) : RG PV := match clsN h x with
  | some c => (match eqs.lookup c with
    | some F => if okY c h y = true then (match oCall F [x, y] h with
      | .ok (.bl k) h' => .ok (.bl (if neg then !k else k)) h'
      | _ => .bad) else .bad
    | none => if neg then oNe x y h else oEq x y h)
  | none => if neg then oNe x y h else oEq x y h
def rEqO (W : Wd) (eqs : List (Nat × FnI)) (neg : Bool) : R2 := fun v u H Q => ∃ φ h x y H1 H2, HR W φ H h ∧ RR W φ H1 H x v ∧ RR W φ H2 H y u ∧ ResG W (fun _ _ _ _ => False) (rE W) [] φ H (oEqO eqs neg x y h) Q
def EqsT (P : Program) (w : World) (mg : Str → Option Value) (base : Heap) (W : Wd) (A : Around) (eqs : List (Nat × FnI)) : Prop := ∀ p ∈ eqs, EqT P w mg base W p.1 p.2 ∧ Room (p.2.k + 1) A
theorem no_pass {X : Cx} : Passes (L2N.CX X.prog X.w) X (fun _ _ _ => False) := fun pins σ H s e s' I c => by
  obtain ⟨a, B, H', cls, d, e1, e2, e3, e4, e5, e6, e7, w⟩ := c
  exact w.elim
theorem cls_ins {W : Wd} {φ : Emb} {H H0 : Hp} {h : PH} {x : PV} {v : V} {c : Nat} (hr : HR W φ H h) (r : RR W φ H0 H x v) (e : clsN h x = some c) : ∃ n a dx fs, x = .ref n ∧ v = .ref a ∧ H a = some (.ins (W.cA c) dx fs) := by
  cases x with
  | ref n =>
    unfold clsN at e
    dsimp only at e
    cases e2 : h[n]? with
    | none => rw [e2] at e; cases e
    | some ob =>
      rw [e2] at e
      cases ob with
      | ins k fs =>
        cases e
        obtain ⟨a, dx, vs, rfl, ha, hH, rf⟩ := ref_ins hr r e2
        exact ⟨n, a, dx, vs, rfl, rfl, hH⟩
      | _ => cases e
  | _ => cases e
theorem op_eqO {W : Wd} {X : Cx} {eqs : List (Nat × FnI)} {neg : Bool} (hK : X.K = W.K) (hu : X.A.units + 64 < cLine) (T : EqsT X.prog X.w X.mg X.base W X.A eqs) : OpR X (compareOp (if neg then .NotEq else .Eq)) (rEqO W eqs neg) := by
  intro pins s σ H v u a b Q I ra rb ⟨φ, h, x, y, H1, H2, hr, r1, r2, q⟩
  have plain : ResG W (fun _ _ _ _ => False) (rE W) [] φ H (if neg then oNe x y h else oEq x y h) Q → wpAny (model X.prog X.w) X.A (compareOp (if neg then .NotEq else .Eq) a b) (EP X pins σ Q) X.xe s := fun q => by
    cases neg with
    | true => exact op_neZ hu hK pins s σ H v u a b Q I ra rb (neZ hr r1 r2 q)
    | false => exact op_eqZ hu hK pins s σ H v u a b Q I ra rb (eqZ hr r1 r2 q)
  unfold oEqO at q
  cases ec : clsN h x with
  | none => rw [ec] at q; exact plain q
  | some c =>
    rw [ec] at q
    dsimp only at q
    cases ef : eqs.lookup c with
    | none => rw [ef] at q; exact plain q
    | some F =>
      rw [ef] at q
      dsimp only at q
      have hm : (c, F) ∈ eqs := by
        clear q plain T
        induction eqs with
        | nil => cases ef
        | cons p r ih =>
          rw [List.lookup_cons] at ef
          by_cases z : c = p.1
          · have : (c == p.1) = true := by simpa using z
            rw [this] at ef
            cases ef
            rw [z]; exact List.mem_cons_self ..
          · have : (c == p.1) = false := by simpa using z
            rw [this] at ef
            exact List.mem_cons_of_mem _ (ih ef)
      obtain ⟨T1, hroom⟩ := T _ hm
      rcases T1 with T1 | T1
      rotate_left
      · obtain ⟨eF, hM, hE, hN⟩ := T1
        have eF : F = idF := eF
        subst eF
        split at q
        · obtain ⟨n, ad, dx, fs, rfl, rfl, hH⟩ := cls_ins hr r1 ec
          cases ra
          rw [← hK] at hM hE hN
          obtain ⟨mA, O, _⟩ := ins_get I.hok hH
          obtain ⟨od, J, _⟩ := O.look
          have ey : y = .ref n := by
            cases y with
            | ref m =>
              by_cases z : n = m
              · rw [z]
              · exfalso
                revert q
                unfold oCall idF
                simp only [List.length_cons, List.length_nil, List.append_nil]
                rw [if_pos (by decide), if_neg z]
                exact fun q => q
            | _ =>
              exfalso
              revert q
              unfold oCall idF
              simp only [List.length_cons, List.length_nil, List.append_nil]
              rw [if_pos (by decide)]
              exact fun q => q
          subst ey
          have q : ResG W (fun _ _ _ _ => False) (rE W) [] φ H (.ok (.bl (if neg then !true else true)) h) Q := by
            revert q
            unfold oCall idF
            simp only [List.length_cons, List.length_nil, List.append_nil]
            rw [if_pos (by decide), if_pos trivial]
            exact fun q => q
          have hu0 : u = .ref ad := by
            have r1' := r1.rep (fun _ => by simp)
            have r2' := r2.rep (fun _ => by simp)
            rw [Rep] at r1' r2'
            obtain ⟨a1, e1, f1⟩ := r1'
            obtain ⟨a2, e2, f2⟩ := r2'
            cases e1
            rw [f1] at f2
            rw [e2]
            exact congrArg _ (Option.some.inj f2).symm
          subst hu0
          cases rb
          have q := q φ (.bl (if neg then !true else true)) H (.refl) hr (.inl (by rw [Rep]))
          cases neg with
          | false => exact ZQ.eq_self (by omega) I.kIn J hM hE ⟨.bl true, H, I, rfl, q⟩
          | true => exact ZQ.ne_self (by omega) I.kIn J hM hE hN ⟨.bl false, H, I, rfl, q⟩
        · exact q.elim
      obtain ⟨f, A1, hs, hf, hne, hT, fd, ds, dV, b1, b2, b3, b4⟩ := T1
      split at q
      · rename_i hy
        obtain ⟨n, ad, dx, fs, rfl, rfl, hH⟩ := cls_ins hr r1 ec
        cases ra
        rw [← hK] at A1 hs hf hne hT b1 b4
        obtain ⟨mA, O, _⟩ := ins_get I.hok hH
        obtain ⟨od, J, _⟩ := O.look
        unfold okY at hy
        rw [Bool.and_eq_true] at hy
        obtain ⟨hy0, hy⟩ := hy
        have hnl : ∀ xs, y ≠ .lst xs := fun xs z => by subst z; cases hy0
        have tb : ∃ tb, PySem.W.Looks (model X.prog X.w) s.heap (typeOf b) tb ∧ PySem.W.notFirst X.K (W.cA c) tb = true := by
          cases ey : clsN h y with
          | some k =>
            rw [ey] at hy
            have hk : k = c := by simpa using hy
            subst hk
            obtain ⟨n', ad', dx', fs', rfl, rfl, hH'⟩ := cls_ins hr r2 ey
            cases rb
            obtain ⟨mA', O', _⟩ := ins_get I.hok hH'
            obtain ⟨od', J', _⟩ := O'.look
            exact ⟨_, J'.type, by unfold PySem.W.notFirst; simp⟩
          | none =>
            rw [ey] at hy
            dsimp only at hy
            cases et : tyName h y with
            | none => rw [et] at hy; cases hy
            | some t =>
              rw [et] at hy
              have ht : t ∈ tyL := by simpa using hy
              have ty := tyName_ok hK.symm hr r2 et
              obtain ⟨PP, Z, p, _⟩ := kit_of I rb ty
              exact ⟨_, Z.ty _ _ I.kIn p, hT t ht⟩
        obtain ⟨tb, h1, h2⟩ := tb
        have rq : ResG W (fun _ _ _ _ => False) (rE W) [] φ H (oCall F [.ref n, y] h) (fun v H' => ∃ k, v = .bl k ∧ Q (.bl (if neg then !k else k)) H') := by
          revert q
          cases oCall F [.ref n, y] h with
          | ok z h' =>
            cases z with
            | bl k =>
              intro q φ' v' H' p' r' e'
              have e' := e'.rep (fun _ => by simp)
              rw [Rep] at e'
              exact ⟨k, e', q φ' _ H' p' r' (.inl (by rw [Rep]))⟩
            | _ => exact fun q => q.elim
          | ex c p h' => exact fun q => q.elim
          | bad => exact fun q => q.elim
        have r1' := r1.rep (fun _ => by simp)
        have r2' := r2.rep hnl
        have sp := call_sp (xs := [.ref n, y]) (vs := [.ref ad, u]) (b3 _ _) (.cons r1' (.cons r2' .nil)) hr rq
        have FR := FnOk.raw b4 b1 b2
        have hroom1 : Room F.k X.A := hroom.mono (Nat.le_succ _)
        cases neg with
        | false =>
          refine ZQ.eq_own (tb := tb) hroom1.units0 I.kIn J h1 h2 hs hf ?_
          refine wpAny_mono (wpAny_call (run_fnR (us := [.ref ad, b]) (vs := [.ref ad, u]) FR hroom1 no_pass I (.cons rfl (.cons rb .nil)) sp)) (fun w s' z => ?_) fun _ _ x => x
          obtain ⟨z', H', I', rz, k, rfl, qz⟩ := z
          exact ⟨k, rz, .bl k, H', I', rfl, qz⟩
        | true =>
          refine ZQ.ne_own (tb := tb) (by omega) I.kIn J h1 h2 hne A1.hm hs hf ?_
          refine wpAny_mono (wpAny_call (SlX.run_at (us := [.ref ad, b]) (ws := [.ref ad, u]) FR (show Room F.k X.A.in1 from Room.in1 hroom) I.env0.in1 no_pass I (.cons rfl (.cons rb .nil)) sp)) (fun w s' z => ?_) fun _ _ x => x
          obtain ⟨z', H', I', rz, k, rfl, qz⟩ := z
          exact ⟨k, rz, .bl (!k), H', I', rfl, qz⟩
      · exact q.elim
end Z
namespace Z
open PySem PySem.Spec PyProof.Rows L2

/-! ### the context -/
/-- what all defs of a law share -/
structure Lw where
  free : List Str
  cons : List (Str × PV)
  ats : List Str
  flds : List (Nat × Nat)
  errs : List (Str × Nat)
  isx : List (Str × List (Nat × Bool))
  exm : List (Str × List (Nat × Bool))
  iso : List (Str × List (Nat × Bool))
  dcs : List (Str × List (List Nat × Int))
/-- the name y of a class in an except clause -/
structure ExmT (mg : Str → Option Value) (K : PySem.W.Frag) (cA : Nat → Addr) (y : Str) (tab : List (Nat × Bool)) : Prop where
  ex : ∃ c, ((mg y = some c) ∨ (mg y = none ∧ bootBuiltins y = some c ∧ y ≠ "__name__")) ∧ ∀ k b, tab.lookup k = some b → PySem.W.exmOne K (.ref (cA k)) c = some b
structure LwT (P : Program) (mg : Str → Option Value) (W : Wd) (l : Lw) : Prop where
  free : ∀ x ∈ l.free, mg x = none
  cons : ∀ p ∈ l.cons, ∃ u v, mg p.1 = some u ∧ RelV v u ∧ ∀ φ H, Rep W φ H p.2 v
  inj : AtInj W
  ats : ∀ (i : Nat) (x : Str), l.ats[i]? = some x → W.at_ i = x
  flds : FldsT W l.flds
  errs : ∀ p ∈ l.errs, ErrT P mg W.K p.1 (W.cA p.2) ∧ XcC W.K (W.cA p.2)
  isx : ∀ p ∈ l.isx, KindT mg W.K W.cA p.1 p.2
  exm : ∀ p ∈ l.exm, ExmT mg W.K W.cA p.1 p.2
  iso : ∀ p ∈ l.iso, IsoT mg W.K W.cA p.1 p.2
  dcs : ∀ p ∈ l.dcs, DcT P W.w mg W.K p.1 p.2
theorem LwT.ex {P : Program} {mg : Str → Option Value} {W : Wd} {l : Lw} (T : LwT P mg W l) (n : ∀ a c d, ¬ W.exA a c d) (e : Addr → Nat → Addr → Prop) : LwT P mg (W.ex e) l :=
  ⟨T.free, fun p hp => by
    obtain ⟨u, v, h1, h2, h3⟩ := T.cons p hp
    exact ⟨u, v, h1, h2, fun φ H => (h3 φ H).wdn ((h3 φ H).nx n)⟩, T.inj, T.ats, T.flds, T.errs, T.isx, T.exm, T.iso, T.dcs⟩
structure Ct where
  N : List Str
  sc : Scope
  fns : List FnI
  hfns : List FnI
  mets : List MetI
  mks : List MkI
  eqs : List (Nat × FnI)
  lw : Lw
  lvl : Nat
  dfn : Bool
  hot : Bool
structure At (W : Wd) (Wx : WX) (c : Ct) (X : Cx) : Prop where
  hN : X.N = c.N
  sc : X.env.scope = c.sc
  hK : X.K = W.K
  hw : X.w = W.w
  calm : c.hot = false → X.calm = true
  nE : c.hot = false → ∀ a k d, ¬ W.exA a k d
  units : X.A.units + 64 < cLine
  room : c.hot = false → Room c.lvl X.A
  own : PassesOwn (model X.prog X.w) X.A X.env X.xe
  tk : L2N.Takes X Wx
  lw : LwT X.prog X.mg W c.lw
  fns : ∀ F ∈ c.fns, FnT X.prog X.w X.mg X.base W F ∧ F.k ≤ c.lvl
  mets : ∀ M ∈ c.mets, MetT X.prog X.w X.mg X.base W M ∧ M.F.k ≤ c.lvl
  mks : ∀ M ∈ c.mks, MkT X.prog X.w X.mg X.base W M ∧ M.F.k + 1 ≤ c.lvl
  eqs : ∀ p ∈ c.eqs, EqT X.prog X.w X.mg X.base W p.1 p.2 ∧ p.2.k + 1 ≤ c.lvl
  hfns : c.hot = false → ∀ F ∈ c.hfns, F.k ≤ c.lvl ∧ ∀ a oe cls d, L2N.Zn cls d oe → (∃ vs, oe.data = .fields vs) → FnHT X.prog X.w X.mg X.base (W.ex (exAt W a cls d)) (a, oe) F
  hotR : c.hot = true → ∃ p, HotP W X p ∧ L2H.RoomH c.lvl X.A ∧ ∀ F ∈ c.hfns, F.k ≤ c.lvl ∧ FnHT X.prog X.w X.mg X.base W p F
  nd : c.N.Nodup
  dfn : c.dfn = true → (∀ x, X.fn x = true) ∧ X.stack = X.env :: X.outer ∧ X.env.frame = some X.env.locals
  kind : X.env.scope.kind = .function
def ixOf (N : List Str) (x : Str) : Option Nat := N.findIdx? fun y => decide (y = x)
theorem ixOf_ok {N : List Str} {x : Str} {i : Nat} (e : ixOf N x = some i) : N[i]? = some x := by
  unfold ixOf at e
  rw [List.findIdx?_eq_some_iff_getElem] at e
  obtain ⟨h, e1, _⟩ := e
  rw [List.getElem?_eq_getElem h]
  exact congrArg some (of_decide_eq_true e1)
def visB (sc : Scope) (x : Str) : Bool := match sc.names.lookup x with
  | some .local => true
  | some .cell => true
  | some .free => true
  | _ => false
theorem visB_ok {sc : Scope} {x : Str} (e : visB sc x = true) : Vis sc x := by
  unfold visB at e
  unfold Vis
  split at e
  · rename_i q; exact .inl q
  · rename_i q; exact .inr (.inl q)
  · rename_i q; exact .inr (.inr q)
  · cases e
def locB (c : Ct) (x : Str) : Bool := match c.sc.names.lookup x with
  | some .local => true
  | some .cell => c.dfn
  | _ => false
def glB (c : Ct) (x : Str) : Bool := match c.sc.names.lookup x with
  | some .globalImplicit => true
  | _ => false
def nmB (x : Str) : Bool := !(x == ("__debug__" : Str)) && !(x == ("__classdict__" : Str)) && decide (x ≠ ("__name__" : Str))
section
variable {W : Wd} {Wx : WX} {X : Cx} {c : Ct} {x : Str}
theorem At.loc (A : At W Wx c X) (e : locB c x = true) : Loc X.env.scope x ∧ (X.fn x = true ∨ X.env.scope.names.lookup x = some .local) := by
  unfold locB at e
  rw [← A.sc] at e
  split at e
  · rename_i q; exact ⟨.inl q, .inr q⟩
  · rename_i q; exact ⟨.inr q, .inl ((A.dfn e).1 x)⟩
  · cases e
theorem At.gl (A : At W Wx c X) (e : glB c x = true) : Gl X x := by
  unfold glB at e
  rw [← A.sc] at e
  split at e
  · rename_i q; exact q
  · cases e
theorem nmB_ok (e : nmB x = true) : (x == ("__debug__" : Str)) = false ∧ (x == ("__classdict__" : Str)) = false ∧ x ≠ ("__name__" : Str) := by
  unfold nmB at e
  rw [Bool.and_eq_true, Bool.and_eq_true] at e
  exact ⟨by simpa using e.1.1, by simpa using e.1.2, of_decide_eq_true e.2⟩
end
/-! ### expressions -/
structure Den where
  E : Expr → Option (MG PV)
  T : Expr → Option (MG Bool)
  S : Stmt → Option MS
def Den.no : Den := ⟨fun _ => none, fun _ => none, fun _ => none⟩
structure DenOk (W : Wd) (Wx : WX) (X : Cx) (D : Den) : Prop where
  E : ∀ e m, D.E e = some m → PE X e (tE W Wx m)
  T : ∀ e m, D.T e = some m → PT X e (tT W Wx m)
  S : ∀ s m, D.S s = some m → L2.PS X s (tS W Wx m)
def eConst : Const → Option (MG PV)
  | .none => some (mK .non)
  | .bool b => some (mK (.bl b))
  | .int i => some (mK (.int i))
  | .str s => some (mK (.str s.cps.toList))
  | _ => none
def eName (c : Ct) (x : Str) : Option (MG PV) :=
  if nmB x = false then none
  else if visB c.sc x then (ixOf c.N x).map mV
  else if glB c x then (c.lw.cons.lookup x).map mK
  else none
def eBin (op : Operator) (a b : MG PV) : Option (MG PV) := match op with
  | .Add => some (mB oAdd a b)
  | .Sub => some (mB oSub a b)
  | .Mult => some (mB oMul a b)
  | .FloorDiv => some (mB oFdiv a b)
  | .Mod => some (mB oMod a b)
  | .Pow => some (mB oPow a b)
  | .BitAnd => some (mB oBAnd a b)
  | .BitOr => some (mB oBOr a b)
  | .BitXor => some (mB oBXor a b)
  | .RShift => some (mB oShr a b)
  | _ => none
/-- in: a sign in a text, else an item -/
def oInA (x y : PV) (h : PH) : RG PV := match y with
  | .str _ => oInS x y h
  | _ => oIn x y h
def oNotInA (x y : PV) (h : PH) : RG PV := match y with
  | .str _ => oNotInS x y h
  | _ => oNotIn x y h
noncomputable def eCmp (op : CmpOp) (a b : MG PV) : Option (MG PV) := match op with
  | .Eq => some (mB oEq a b)
  | .NotEq => some (mB oNe a b)
  | .Lt => some (mB oLt a b)
  | .LtE => some (mB oLe a b)
  | .Gt => some (mB oGt a b)
  | .GtE => some (mB oGe a b)
  | .Is => some (mB oIs a b)
  | .IsNot => some (mB oIsNot a b)
  | .In => some (mB oInA a b)
  | .NotIn => some (mB oNotInA a b)
def eAs (f : Expr → Option (MG PV)) : List Expr → Option (MG (List PV))
  | [] => some aNil
  | e :: es => if notStar e then (f e).bind fun m => (eAs f es).map fun r => aCons m r else none
def eRs (f : Expr → Option (MG PV)) : List Expr → Option (MG (List PV))
  | [] => some aNil
  | e :: es => if notStar e then (f e).bind fun m => (eRs f es).map fun r => aConsR m r else none
def eBoolV (op : BoolOp) (f : Expr → Option (MG PV)) : List Expr → Option (MG PV)
  | [] => none
  | [e] => f e
  | e :: es => (f e).bind fun t => (eBoolV op f es).map fun r => match op with
    | .And => mAndV t r
    | .Or => mOrV t r
def eBoolT (op : BoolOp) (f : Expr → Option (MG Bool)) : List Expr → Option (MG Bool)
  | [] => none
  | [e] => f e
  | e :: es => (f e).bind fun t => (eBoolT op f es).map fun r => match op with
    | .And => mAnd t r
    | .Or => mOr t r
def ePart (f : Expr → Option (MG PV)) : Option Expr → Option (MG (Option Int))
  | none => some mNo
  | some e => (f e).map mSo
section
variable {W : Wd} {Wx : WX} {X : Cx} {c : Ct} {pos : Pos} {f : Expr → Option (MG PV)} {ft : Expr → Option (MG Bool)}
theorem eConst_ok {k : Const} {j : Nat} {m : MG PV} (e : eConst k = some m) : PE X (.Constant k j pos) (tE W Wx m) := by
  cases k <;> first
    | (cases e; first | exact z_non | exact z_bl | exact z_int | exact z_str)
    | cases e
theorem eName_ok (A : At W Wx c X) {x : Str} {m : MG PV} (e : eName c x = some m) : PE X (.Name x pos) (tE W Wx m) := by
  unfold eName at e
  split at e
  · cases e
  · rename_i hn
    obtain ⟨h1, h2, h3⟩ := nmB_ok (by simpa using hn)
    split at e
    · rename_i hv
      obtain ⟨i, e1, rfl⟩ := Option.map_eq_some_iff.mp e
      exact z_var (by rw [A.hN]; exact ixOf_ok e1) (by rw [A.sc]; exact visB_ok hv) h1 h2
    · split at e
      · rename_i hg
        obtain ⟨p, e1, rfl⟩ := Option.map_eq_some_iff.mp e
        obtain ⟨u, v, q1, q2, q3⟩ := A.lw.cons _ (PySem.mem_of_lookup e1)
        exact z_const (pe_glob (A.gl hg) q1 q2 h1) q3
      · cases e
theorem eBin_ok (hK : X.K = W.K) {op : Operator} {a b : Expr} {ma mb m : MG PV} (ha : PE X a (tE W Wx ma)) (hb : PE X b (tE W Wx mb)) (e : eBin op ma mb = some m) : PE X (.BinOp a op b pos) (tE W Wx m) := by
  cases op <;> first
    | (cases e; first | exact z_add ha hb hK | exact z_sub ha hb | exact z_mul ha hb | exact z_fdiv ha hb | exact z_mod ha hb | exact z_pow ha hb | exact z_band ha hb | exact z_bor ha hb | exact z_xor ha hb | exact z_shr ha hb)
    | cases e
theorem inA {φ : Emb} {H H1 H2 : Hp} {h : PH} {x y : PV} {v u : V} {σ : L2.St} {Q : VK} (hr : HR W φ H h) (r1 : RR W φ H1 H x v) (r2 : RR W φ H2 H y u) (q : ResG W Wx (rE W) σ φ H (oInA x y h) Q) :
    (fun x y H Q => (fun x y H Q => ∃ (c : Nat) (z : Str), x = V.str ⟨#[c]⟩ ∧ y = V.str z ∧ Q (V.bl (decide (c ∈ z.cps.toList))) H) x y H Q ∨ rInZ W false x y H Q) v u H Q := by
  cases y with
  | str t =>
    have e := r2.rep (fun _ => by simp)
    rw [Rep] at e; subst e
    cases x with
    | str s =>
      match s, q with
      | [c], q =>
        have e := r1.rep (fun _ => by simp)
        rw [Rep] at e; subst e
        exact .inl ⟨c, _, rfl, rfl, by simpa using res_bl hr q⟩
      | [], q => exact q.elim
      | _ :: _ :: _, q => exact q.elim
    | _ => exact q.elim
  | _ => exact .inr (inZ hr r1 r2 q)
theorem notInA {φ : Emb} {H H1 H2 : Hp} {h : PH} {x y : PV} {v u : V} {σ : L2.St} {Q : VK} (hr : HR W φ H h) (r1 : RR W φ H1 H x v) (r2 : RR W φ H2 H y u) (q : ResG W Wx (rE W) σ φ H (oNotInA x y h) Q) :
    (fun x y H Q => (fun x y H Q => ∃ (c : Nat) (z : Str), x = V.str ⟨#[c]⟩ ∧ y = V.str z ∧ Q (V.bl (!decide (c ∈ z.cps.toList))) H) x y H Q ∨ rInZ W true x y H Q) v u H Q := by
  cases y with
  | str t =>
    have e := r2.rep (fun _ => by simp)
    rw [Rep] at e; subst e
    cases x with
    | str s =>
      match s, q with
      | [c], q =>
        have e := r1.rep (fun _ => by simp)
        rw [Rep] at e; subst e
        exact .inl ⟨c, _, rfl, rfl, by simpa using res_bl hr q⟩
      | [], q => exact q.elim
      | _ :: _ :: _, q => exact q.elim
    | _ => exact q.elim
  | _ => exact .inr (notInZ hr r1 r2 q)
/-- a comparison's rule and its reading -/
theorem eCmp_r (hK : X.K = W.K) (hw : X.w = W.w) (hu : X.A.units + 64 < cLine) {op : CmpOp} {ma mb m : MG PV} (e : eCmp op ma mb = some m) : ∃ (g : PV → PV → PH → RG PV) (r : R2), m = mB g ma mb ∧ OpR X (compareOp op) r ∧
    ∀ {φ H H1 H2 h x y v u σ Q}, HR W φ H h → RR W φ H1 H x v → RR W φ H2 H y u → ResG W Wx (rE W) σ φ H (g x y h) Q → r v u H Q := by
  cases op <;> cases e
  · exact ⟨_, _, rfl, op_eqZ hu hK, eqZ⟩
  · exact ⟨_, _, rfl, op_neZ hu hK, neZ⟩
  · exact ⟨_, _, rfl, op_lt, cmpI⟩
  · exact ⟨_, _, rfl, op_le, cmpI⟩
  · exact ⟨_, _, rfl, op_gt, cmpI⟩
  · exact ⟨_, _, rfl, op_ge, cmpI⟩
  · exact ⟨_, _, rfl, op_isN.or op_isBl, isZ⟩
  · exact ⟨_, _, rfl, op_notN.or op_notBl, isNotZ⟩
  · exact ⟨_, _, rfl, op_in_sign.or (op_inZ hu hK hw), inA⟩
  · exact ⟨_, _, rfl, op_notIn_sign.or (op_notInZ hu hK hw), notInA⟩
theorem eAs_ok (hf : ∀ e m, f e = some m → PE X e (tE W Wx m)) : ∀ {es : List Expr} {m : MG (List PV)}, eAs f es = some m → PA X es (tA W Wx m) ∧ es.all notStar = true
  | [], m, e => by cases e; exact ⟨z_nil, rfl⟩
  | x :: es, m, e => by
    unfold eAs at e
    split at e
    · rename_i hs
      obtain ⟨m1, e1, e⟩ := Option.bind_eq_some_iff.mp e
      obtain ⟨r, e2, rfl⟩ := Option.map_eq_some_iff.mp e
      obtain ⟨h1, h2⟩ := eAs_ok hf e2
      exact ⟨z_cons (hf _ _ e1) h1 (star_cons hs), by rw [List.all_cons, hs, h2]; rfl⟩
    · cases e
theorem eRs_ok (hf : ∀ e m, f e = some m → PE X e (tE W Wx m)) : ∀ {es : List Expr} {m : MG (List PV)}, eRs f es = some m → PA X es (tR W Wx m) ∧ es.all notStar = true
  | [], m, e => by cases e; exact ⟨z_nilR, rfl⟩
  | x :: es, m, e => by
    unfold eRs at e
    split at e
    · rename_i hs
      obtain ⟨m1, e1, e⟩ := Option.bind_eq_some_iff.mp e
      obtain ⟨r, e2, rfl⟩ := Option.map_eq_some_iff.mp e
      obtain ⟨h1, h2⟩ := eRs_ok hf e2
      exact ⟨z_consR (hf _ _ e1) h1 (star_cons hs), by rw [List.all_cons, hs, h2]; rfl⟩
    · cases e
theorem eBoolV_ok (hf : ∀ e m, f e = some m → PE X e (tE W Wx m)) {op : BoolOp} : ∀ {es : List Expr} {m : MG PV}, eBoolV op f es = some m → PE X (.BoolOp op es pos) (tE W Wx m)
  | [], m, e => by cases e
  | [x], m, e => z_oneV (hf _ _ e)
  | x :: y :: es, m, e => by
    unfold eBoolV at e
    obtain ⟨m1, e1, e⟩ := Option.bind_eq_some_iff.mp e
    obtain ⟨r, e2, rfl⟩ := Option.map_eq_some_iff.mp e
    have ih := eBoolV_ok hf (op := op) e2
    cases op with
    | And => exact z_andV (hf _ _ e1) ih
    | Or => exact z_orV (hf _ _ e1) ih
theorem eBoolT_ok (hf : ∀ e m, ft e = some m → PT X e (tT W Wx m)) {op : BoolOp} : ∀ {es : List Expr} {m : MG Bool}, eBoolT op ft es = some m → PW X (.BoolOp op es pos) (tT W Wx m)
  | [], m, e => by cases e
  | [x], m, e => by
    cases op with
    | And => exact z_and1 (hf _ _ e)
    | Or => exact z_or1 (hf _ _ e)
  | x :: y :: es, m, e => by
    unfold eBoolT at e
    obtain ⟨m1, e1, e⟩ := Option.bind_eq_some_iff.mp e
    obtain ⟨r, e2, rfl⟩ := Option.map_eq_some_iff.mp e
    have ih := eBoolT_ok hf (op := op) e2
    cases op with
    | And => exact z_and (hf _ _ e1) ih
    | Or => exact z_or (hf _ _ e1) ih
theorem ePart_ok (hf : ∀ e m, f e = some m → PE X e (tE W Wx m)) {a : Option Expr} {m : MG (Option Int)} (e : ePart f a = some m) : L2.PO X a (tO W Wx m) := by
  cases a with
  | none => cases e; exact z_no
  | some x =>
    obtain ⟨m1, e1, rfl⟩ := Option.map_eq_some_iff.mp e
    exact z_so (hf _ _ e1)
end
end Z
namespace Z
open PySem PySem.Spec PyProof.Rows L2

/-! ### built-in functions by name -/
def oOrd (xs : List PV) (h : PH) : RG PV := match xs with
  | [.str [c]] => .ok (.int c) h
  | _ => .bad
section
variable {W : Wd} {Wx : WX}
theorem c_ord : COk W Wx oOrd (fun xs H Q => ∃ x, xs = [.str x] ∧ x.length = 1 ∧ Q (.int (x.cps.getD 0 0 : Nat)) H) := by
  intro φ H h xs vs σ Q hr ra q
  match xs, q, ra with
  | [.str [c]], q, ra =>
    obtain ⟨v, rfl, H0, r1⟩ := RVL.one ra
    have e2 := str_rep r1
    subst e2
    exact ⟨_, rfl, rfl, res_int hr q⟩
  | [], q, _ => exact q.elim
  | _ :: _ :: _, q, _ => simp only [oOrd] at q; exact q.elim
  | [.str []], q, _ => exact q.elim
  | [.str (_ :: _ :: _)], q, _ => exact q.elim
  | [.non], q, _ => exact q.elim
  | [.bl _], q, _ => exact q.elim
  | [.int _], q, _ => exact q.elim
  | [.tup _], q, _ => exact q.elim
  | [.ro _], q, _ => exact q.elim
  | [.lst _], q, _ => exact q.elim
  | [.ref _], q, _ => exact q.elim
  | [.exn _ _], q, _ => exact q.elim
end
/-- these ask for no room of their own -/
def coolB (x : Str) : Bool := decide (x = "len") || decide (x = "int") || decide (x = "tuple")
def biF0 (x : Str) (n : Nat) : Option (List PV → PH → RG PV) :=
  if x = "len" ∧ n = 1 then some oLen
  else if x = "int" ∧ n = 1 then some oInt
  else if x = "tuple" ∧ n = 1 then some oTuple
  else if x = "list" ∧ n = 1 then some oList
  else if x = "sum" ∧ n = 1 then some oSum
  else if x = "all" ∧ n = 1 then some oAll
  else if x = "any" ∧ n = 1 then some oAny
  else if x = "min" ∧ n = 1 then some oMinL
  else if x = "min" ∧ n = 2 then some oMin2
  else if x = "max" ∧ n = 2 then some oMax2
  else if x = "ord" ∧ n = 1 then some oOrd
  else none
section
variable {W : Wd} {Wx : WX} {X : Cx} {c : Ct} {pos p : Pos} {x : Str}
theorem biF0_ok (A : At W Wx c X) (hh : (!c.hot || coolB x) = true) {e : Expr} {es : List Expr} {f : List PV → PH → RG PV} {n : Nat} {as : MG (List PV)} (hf : biF0 x n = some f) (hg : Gl X x) (hm : X.mg x = none) (hnm : nmB x = true)
    (ha : PA X (e :: es) (tR W Wx as)) (hs : (e :: es).all notStar = true) : PE X (.Call (.Name x p) (e :: es) [] pos) (tE W Wx (mC f as)) := by
  have hK := A.hK.symm
  have calm : coolB x = false → X.calm = true := fun z => by
    rw [z, Bool.or_false] at hh
    exact A.calm (by simpa using hh)
  obtain ⟨n1, _, n2⟩ := nmB_ok hnm
  have s1 : notStar e = true := (Bool.and_eq_true_iff.mp (show (notStar e && es.all notStar) = true from hs)).1
  have s2 : es.all notStar = true := (Bool.and_eq_true_iff.mp (show (notStar e && es.all notStar) = true from hs)).2
  have go : ∀ {id : String} {r}, CallR X (.builtin id) r → COk W Wx f r → bootBuiltins x = some (.builtin id) → PE X (.Call (.Name x p) (e :: es) [] pos) (tE W Wx (mC f as)) := fun h1 h2 h3 => z_callB h1 h2 hg hm h3 ha n2 n1 (star_cons s1) (star_any s2)
  have goT : ∀ {id : String} {r}, CallR X (.type id) r → COk W Wx f r → bootBuiltins x = some (.type id) → PE X (.Call (.Name x p) (e :: es) [] pos) (tE W Wx (mC f as)) := fun h1 h2 h3 => z_callTy h1 h2 hg hm h3 ha n2 n1 (star_cons s1) (star_any s2)
  unfold biF0 at hf
  split at hf
  · rename_i q; cases hf; obtain ⟨rfl, _⟩ := q; exact go (call_lenX A.hK A.hw) (c_len hK) PySem.boot_len
  split at hf
  · rename_i q; cases hf; obtain ⟨rfl, _⟩ := q; exact goT call_int1 c_int PyProof.Rows.boot_int
  split at hf
  · rename_i q; cases hf; obtain ⟨rfl, _⟩ := q; exact goT call_tuple_of (c_tuple hK) PyProof.Rows.boot_tuple
  split at hf
  · rename_i q; cases hf; obtain ⟨rfl, _⟩ := q; exact goT (call_listX A.hK A.hw (calm (by decide +kernel))) (c_list hK) PyProof.Rows.boot_list
  split at hf
  · rename_i q; cases hf; obtain ⟨rfl, _⟩ := q; exact go (cr_sum (calm (by decide +kernel))) (c_sum hK) (by decide +kernel)
  split at hf
  · rename_i q; cases hf; obtain ⟨rfl, _⟩ := q; exact go (cr_all (calm (by decide +kernel))) (c_all hK) (by decide +kernel)
  split at hf
  · rename_i q; cases hf; obtain ⟨rfl, _⟩ := q; exact go (cr_any (calm (by decide +kernel))) (c_any hK) (by decide +kernel)
  split at hf
  · rename_i q; cases hf; obtain ⟨rfl, _⟩ := q; exact go (cr_min (calm (by decide +kernel))) (c_minL hK) (by decide +kernel)
  split at hf
  · rename_i q; cases hf; obtain ⟨rfl, _⟩ := q; exact go (call_min2 (calm (by decide +kernel))) c_min2 (by decide +kernel)
  split at hf
  · rename_i q; cases hf; obtain ⟨rfl, _⟩ := q; exact go (call_max2 (calm (by decide +kernel))) c_max2 (by decide +kernel)
  split at hf
  · rename_i q; cases hf; obtain ⟨rfl, _⟩ := q; exact go call_ord c_ord (by decide +kernel)
  · cases hf
def biF (x : Str) (n : Nat) : Option (List PV → PH → RG PV) :=
  if x = "sorted" ∧ n = 1 then some oSorted else if x = "str" ∧ n = 1 then some oStr else biF0 x n
theorem biF_ok (A : At W Wx c X) (hh : (!c.hot || coolB x) = true) {e : Expr} {es : List Expr} {f : List PV → PH → RG PV} {n : Nat} {as : MG (List PV)} (hf : biF x n = some f) (hg : Gl X x) (hm : X.mg x = none) (hnm : nmB x = true)
    (ha : PA X (e :: es) (tR W Wx as)) (hs : (e :: es).all notStar = true) : PE X (.Call (.Name x p) (e :: es) [] pos) (tE W Wx (mC f as)) := by
  unfold biF at hf
  split at hf
  · rename_i q
    cases hf
    obtain ⟨rfl, _⟩ := q
    obtain ⟨n1, _, n2⟩ := nmB_ok hnm
    have s1 : notStar e = true := (Bool.and_eq_true_iff.mp (show (notStar e && es.all notStar) = true from hs)).1
    have s2 : es.all notStar = true := (Bool.and_eq_true_iff.mp (show (notStar e && es.all notStar) = true from hs)).2
    exact z_callB (cr_sortedZ A.hK A.units) c_sorted hg hm (by decide +kernel) ha n2 n1 (star_cons s1) (star_any s2)
  split at hf
  · rename_i q
    cases hf
    obtain ⟨rfl, _⟩ := q
    obtain ⟨n1, _, n2⟩ := nmB_ok hnm
    have s1 : notStar e = true := (Bool.and_eq_true_iff.mp (show (notStar e && es.all notStar) = true from hs)).1
    have s2 : es.all notStar = true := (Bool.and_eq_true_iff.mp (show (notStar e && es.all notStar) = true from hs)).2
    exact z_callTy call_str_int c_str hg hm (by decide +kernel) ha n2 n1 (star_cons s1) (star_any s2)
  · exact biF0_ok A hh hf hg hm hnm ha hs
end
/-- the built-in classes that isinstance is asked about -/
def tyF (x : Str) : Option String :=
  if x = "int" then some "int" else if x = "bool" then some "bool" else if x = "str" then some "str" else if x = "list" then some "list" else if x = "tuple" then some "tuple" else none
theorem tyF_ok {x : Str} {T : String} (e : tyF x = some T) : bootBuiltins x = some (.type T) := by
  unfold tyF at e
  split at e
  · rename_i q; cases e; subst q; exact PyProof.Rows.boot_int
  split at e
  · rename_i q; cases e; subst q; exact PyProof.Rows.boot_bool
  split at e
  · rename_i q; cases e; subst q; exact PyProof.Rows.boot_str
  split at e
  · rename_i q; cases e; subst q; exact PyProof.Rows.boot_list
  split at e
  · rename_i q; cases e; subst q; exact PyProof.Rows.boot_tuple
  · cases e
/-! ### methods of built-in types -/
inductive Tm where
  | str | lst | dct
def Tm.nm : Tm → String
  | .str => "str"
  | .lst => "list"
  | .dct => "dict"
def tyB (t : Tm) (h : PH) (x : PV) : Bool := match t with
  | .str => (match x with
    | .str _ => true
    | _ => false)
  | .lst => (lstV h x).isSome
  | .dct => (dctV h x).isSome
def mMeth (t : Tm) (f : PV → List PV → PH → RG PV) (mo : MG PV) (as : MG (List PV)) : MG PV := fun env h => (mo env h).bind fun o h1 => if tyB t h1 o = true then (as env h1).bind fun xs h2 => f o xs h2 else .bad
def oApp (o : PV) (xs : List PV) (h : PH) : RG PV := match o with
  | .ref n => (match h[n]? with
    | some (.lst ys) => (match xs with
      | [x] => if ys.length < SZ then .ok .non (h.set n (.lst (ys ++ [x]))) else .bad
      | _ => .bad)
    | _ => .bad)
  | _ => .bad
def oExt (o : PV) (xs : List PV) (h : PH) : RG PV := match o with
  | .ref n => (match h[n]? with
    | some (.lst ys) => (match xs with
      | [x] => (match lstV h x with
        | some zs => if ys.length + zs.length ≤ SZ then .ok .non (h.set n (.lst (ys ++ zs))) else .bad
        | none => .bad)
      | _ => .bad)
    | _ => .bad)
  | _ => .bad
section
variable {W : Wd} {Wx : WX} {X : Cx} {c : Ct} {pos p : Pos} {x : Str} {H H0 H1 : Hp} {φ : Emb} {h : PH} {σ : L2.St} {Q : VK}
theorem tyB_ok (hK : W.K = X.K) {t : Tm} (ht : t ≠ .dct) {x : PV} {v : V} (hr : HR W φ H h) (r : RR W φ H0 H x v) (e : tyB t h x = true) : tyV X.K t.nm v H := by
  cases t with
  | dct => exact absurd rfl ht
  | str =>
    cases x with
    | str s => have r := r.rep (fun _ => by simp); rw [Rep] at r; subst r; rfl
    | _ => cases e
  | lst =>
    obtain ⟨xs, e⟩ := Option.isSome_iff_exists.mp e
    obtain ⟨a, vs, rfl, _, ha⟩ := lstV_ok hr r e
    exact .inl ⟨rfl, vs, .of ha⟩
/-- a method's value rule: args as A says -/
def MOk (W : Wd) (Wx : WX) (A : RL (List PV) (List V)) (f : PV → List PV → PH → RG PV) (r : V → List V → Hp → VK → Prop) : Prop :=
  ∀ {φ H H1 h o ov xs vs σ Q}, HR W φ H h → RR W φ H1 H o ov → A H φ H xs vs → ResG W Wx (rE W) σ φ H (f o xs h) Q → r ov vs H Q
theorem z_meth {t : Tm} {A : RL (List PV) (List V)} {f : PV → List PV → PH → RG PV} {r : V → List V → Hp → VK → Prop} {id : String} {name : Str} {o e : Expr} {es : List Expr} {mo : MG PV} {as : MG (List PV)} {apos : Pos} (hK : W.K = X.K) (hA : ∀ {H0 H1 φ H xs vs}, A H0 φ H xs vs → A H1 φ H xs vs)
    (pa : PlainAttrs t.nm) (slot : Slot t.nm name id) (hd : t ≠ .dct) (hty : typeOf (.builtin id) = pure (.type "method_descriptor")) (hm : MtR X id r) (hf : MOk W Wx A f r) (ho : PE X o (tE W Wx mo)) (ha : PA X (e :: es) (tG W Wx A as)) (hs : (e :: es).all notStar = true) (hsup : notSup o = true) (hlen : (e :: es).length < 30) (hline : (apos.endLine == pos.line) = true) :
    PE X (.Call (.Attribute o name apos) (e :: es) [] pos) (tE W Wx (mMeth t f mo as)) := by
  have s1 : notStar e = true := (Bool.and_eq_true_iff.mp (show (notStar e && es.all notStar) = true from hs)).1
  have s2 : es.all notStar = true := (Bool.and_eq_true_iff.mp (show (notStar e && es.all notStar) = true from hs)).2
  have few : ∀ l : List Expr, l.all notStar = true → (backTo pos (starEach l X.env)).all (fun x => !x.1) = true := fun l hl => by
    have := star_any (env := X.env) (pos := pos) hl
    rw [List.any_eq_false] at this
    rw [List.all_eq_true]
    intro y hy
    have := this y hy
    simpa using this
  refine PE.imp (pe_bm pa slot hty hm ho ha (base_no hsup) (by rw [few _ hs, show backToKw pos (keywordEach [] X.env) = [] from rfl]; simpa using hlen) hline (star_cons s1) (star_any s2)) fun σ H Q ⟨φ, env, h, s, r, q⟩ => ?_
  refine (tb (R := rE W) s r q).mono fun v H1 ⟨φ1, h1, x, p1, s1, r1, e1, q⟩ => ?_
  by_cases ht : tyB t h1 x = true
  · rw [if_pos ht] at q
    refine ⟨tyB_ok hK hd r1 e1 ht, (tb (R := A) s1 r1 q).mono fun vs H2 ⟨φ2, h2, xs, p2, s2, r2, e2, q⟩ => ?_⟩
    exact hf r2 (RR.mono (H0 := H) r1 p2 e1) (hA e2) q
  · rw [if_neg ht] at q; exact q.elim
theorem put_lst {n : Nat} {a : Addr} {xs ys : List PV} {vs us : List V} (hr : HR W φ H h) (e : φ n = some a) (ha : H a = some (.lst vs)) (ru : RepL W φ H ys us) : HR W φ (upd H a (.lst us)) (h.set n (.lst ys)) ∧ Post φ H φ (upd H a (.lst us)) := by
  have p : Post φ H φ (upd H a (.lst us)) := .put e (nf_lst ha)
  exact hr.put (u := .lst us) (o := .lst ys) e (nf_lst ha) True.intro ⟨_, upd_same, ru.mono (p.k hr)⟩
theorem m_app : MOk W Wx (rA W) oApp rAppend := by
  intro φ H H1 h o ov xs vs σ Q hr ro ra q
  cases o with
  | ref n =>
    have ro := ro.rep (fun _ => by simp)
    rw [Rep] at ro
    obtain ⟨a, rfl, ha⟩ := ro
    cases eo : h[n]? with
    | none => simp only [oApp, eo] at q; exact q.elim
    | some ob =>
      cases ob with
      | lst ys =>
        obtain ⟨us, hv, rl⟩ := hr.obj n _ a eo ha
        match xs, q, ra with
        | [], q, _ => simp only [oApp, eo] at q; exact q.elim
        | _ :: _ :: _, q, _ => simp only [oApp, eo] at q; exact q.elim
        | [x], q, ra =>
          obtain ⟨v, r', rfl, r1, r2⟩ := RepL.uncons ra
          rw [r2.unnil]
          simp only [oApp, eo] at q
          split at q
          · rename_i hl
            obtain ⟨hr', p'⟩ := put_lst (xs := ys) hr ha hv (rl.append (.cons r1 .nil))
            refine ⟨a, us, v, rfl, rfl, hv, by rw [← rl.length, SZ_eq]; exact hl, q φ _ _ p' hr' (.inl (by rw [Rep]))⟩
          · exact q.elim
      | ins c fs => simp only [oApp, eo] at q; exact q.elim
      | dct kvs => simp only [oApp, eo] at q; exact q.elim
      | fdc kvs => simp only [oApp, eo] at q; exact q.elim
  | _ => exact q.elim
theorem m_ext : MOk W Wx (rR W) oExt rExtend := by
  intro φ H H1 h o ov xs vs σ Q hr ro ra q
  cases o with
  | ref n =>
    have ro := ro.rep (fun _ => by simp)
    rw [Rep] at ro
    obtain ⟨a, rfl, ha⟩ := ro
    cases eo : h[n]? with
    | none => simp only [oExt, eo] at q; exact q.elim
    | some ob =>
      cases ob with
      | lst ys =>
        obtain ⟨us, hv, rl⟩ := hr.obj n _ a eo ha
        match xs, q, ra with
        | [], q, _ => simp only [oExt, eo] at q; exact q.elim
        | _ :: _ :: _, q, _ => simp only [oExt, eo] at q; exact q.elim
        | [x], q, ra =>
          obtain ⟨v, rfl, H0, r1⟩ := RVL.one ra
          simp only [oExt, eo] at q
          cases el : lstV h x with
          | none => rw [el] at q; exact q.elim
          | some zs =>
            rw [el] at q
            simp only [] at q
            split at q
            · rename_i hl
              obtain ⟨b, ws, rfl, rl2, hb⟩ := lstV_ok hr r1 el
              obtain ⟨hr', p'⟩ := put_lst (xs := ys) hr ha hv (rl.append rl2)
              refine ⟨a, b, us, ws, rfl, rfl, hv, hb, by rw [← rl.length, ← rl2.length, SZ_eq]; exact hl, q φ _ _ p' hr' (.inl (by rw [Rep]))⟩
            · exact q.elim
      | ins c fs => simp only [oExt, eo] at q; exact q.elim
      | dct kvs => simp only [oExt, eo] at q; exact q.elim
      | fdc kvs => simp only [oExt, eo] at q; exact q.elim
  | _ => exact q.elim
theorem m_spl : MOk W Wx (rR W) oSpl (fun x xs H Q => ∃ a b, x = .str a ∧ xs = [.str b] ∧ (b.length == 0) = false ∧ a.length + 2 ≤ sizeLine ∧ rNewStrs (Txt.split a b) H Q) := by
  intro φ H H1 h o ov xs vs σ Q hr ro ra q
  cases o with
  | str t =>
    have e1 := str_rep ro
    subst e1
    match xs, q, ra with
    | [.str [c]], q, ra =>
      obtain ⟨v, rfl, H0, r1⟩ := RVL.one ra
      have e2 := str_rep r1
      subst e2
      unfold oSpl at q
      dsimp only at q
      by_cases c : t.length + 2 ≤ SZ
      · rw [if_pos c] at q
        refine ⟨_, _, rfl, rfl, rfl, by rw [SZ_eq]; simpa [Str.length] using c, fun p hp => ?_⟩
        rw [split_is, List.map_map]
        exact res_lst hr q (rep_strs _) hp
      · rw [if_neg c] at q; exact q.elim
    | [], q, _ => exact q.elim
    | _ :: _ :: _, q, _ => simp only [oSpl] at q; exact q.elim
    | [.str []], q, _ => exact q.elim
    | [.str (_ :: _ :: _)], q, _ => exact q.elim
    | [.non], q, _ => exact q.elim
    | [.bl _], q, _ => exact q.elim
    | [.int _], q, _ => exact q.elim
    | [.tup _], q, _ => exact q.elim
    | [.ro _], q, _ => exact q.elim
    | [.lst _], q, _ => exact q.elim
    | [.ref _], q, _ => exact q.elim
    | [.exn _ _], q, _ => exact q.elim
  | _ => exact q.elim
theorem m_join (hK : W.K = X.K) : MOk W Wx (rR W) oJoin (fun x xs H Q => ∃ a p, ∃ ys : List Str, x = .str a ∧ xs = [.ref p] ∧ (SqL X.K H p (ys.map V.str) ∨ SqT X.K H p (ys.map V.str)) ∧
      (ys.map (·.length)).sum + ys.length * a.length ≤ 16777216 ∧ Q (.str (Txt.join a ys)) H) := by
  intro φ H H1 h o ov xs vs σ Q hr ro ra q
  cases o with
  | str t =>
    have e1 := str_rep ro
    subst e1
    match xs, q, ra with
    | [y], q, ra =>
      obtain ⟨v, rfl, H0, r1⟩ := RVL.one ra
      unfold oJoin at q
      dsimp only at q
      cases es : seqV h y with
      | none => rw [es] at q; exact q.elim
      | some p =>
        obtain ⟨tb, ps⟩ := p
        rw [es] at q
        dsimp only at q
        cases ey : strsV ps with
        | none => rw [ey] at q; exact q.elim
        | some ys =>
          rw [ey] at q
          dsimp only at q
          by_cases c : (ys.map List.length).sum + ys.length * t.length ≤ SZ
          · rw [if_pos c] at q
            obtain ⟨a, ws, rfl, rl, hs⟩ := seqV_ok hr r1 es
            rw [strsV_ok ey] at rl
            have ew := rep_strs_is rl
            subst ew
            refine ⟨_, a, ys.map fun s => ⟨s.toArray⟩, rfl, rfl, ?_, ?_, ?_⟩
            · rw [hK] at hs
              cases tb with
              | true => exact .inr (by simpa using hs)
              | false => exact .inl (by simpa using hs)
            · rw [List.map_map, List.length_map]
              simpa [Str.length, Function.comp_def] using c
            · have e : Txt.join ⟨t.toArray⟩ (ys.map fun s => ⟨s.toArray⟩) = ⟨(joinL t ys).toArray⟩ := by
                have h1 := join_list t ys
                show Builtin.Str.glued _ _ = _
                rw [PySem.StrLaws.glued_eq_join, ← h1]
              rw [e]
              exact res_str hr q
          · rw [if_neg c] at q; exact q.elim
    | [], q, _ => exact q.elim
    | _ :: _ :: _, q, _ => exact q.elim
  | _ => exact q.elim
end
section
variable {W : Wd} {Wx : WX} {X : Cx} {pos apos : Pos} {o : Expr} {m : MG PV}
theorem z_pop (hK : W.K = X.K) (ho : PE X o (tE W Wx m)) (hs : notSup o = true) (hl : (apos.endLine == pos.line) = true) : PE X (.Call (.Attribute o "pop" apos) [] [] pos) (tE W Wx (mU oPop m)) := by
  refine PE.imp (pe_bm0 PySem.F.plainAttrs_list PySem.F.slot_list_pop PySem.F.type_list_pop mt_pop ho (base_no hs) hl) fun σ H Q ⟨φ, env, h, s, r, q⟩ => ?_
  refine (tb (R := rE W) s r q).mono fun v H1 ⟨φ1, h1, x, p1, s1, r1, e1, q⟩ => ?_
  cases x with
  | ref n =>
    unfold oPop at q
    dsimp only at q
    cases eo : h1[n]? with
    | none => rw [eo] at q; exact q.elim
    | some ob =>
      rw [eo] at q
      cases ob with
      | lst xs =>
        dsimp only at q
        have ro := e1.rep (fun _ => by simp)
        rw [Rep] at ro
        obtain ⟨a, rfl, ha⟩ := ro
        obtain ⟨us, hv, rl⟩ := r1.obj n _ a eo ha
        cases ey : xs[xs.length - 1]? with
        | none => rw [ey] at q; exact q.elim
        | some y =>
          rw [ey] at q
          obtain ⟨yv, g1, g2⟩ := rl.get ey
          rw [rl.length] at g1
          obtain ⟨hr', p'⟩ := put_lst (xs := xs) r1 ha hv (show RepL W φ1 H1 xs.dropLast us.dropLast by
            rw [List.dropLast_eq_take, List.dropLast_eq_take, ← rl.length]; exact rl.take _)
          exact ⟨.inl ⟨rfl, us, .of hv⟩, a, us, yv, rfl, rfl, hv, g1, q φ1 yv _ p' hr' (.inl (g2.mono (p'.k r1)))⟩
      | _ => exact q.elim
  | _ => exact q.elim
end
/-! a op b op' c -/
noncomputable def fCmp (op : CmpOp) : PV → PV → PH → RG PV := match op with
  | .Eq => oEq
  | .NotEq => oNe
  | .Lt => oLt
  | .LtE => oLe
  | .Gt => oGt
  | .GtE => oGe
  | .Is => oIs
  | .IsNot => oIsNot
  | .In => oInA
  | .NotIn => oNotInA
noncomputable def mCh (f g : PV → PV → PH → RG PV) (a b c : MG PV) : MG PV := fun env h => (a env h).bind fun x h1 => (b env h1).bind fun y h2 => (f x y h2).bind fun z h3 => match z with
  | .bl k => if k = true then (c env h3).bind fun w h4 => g y w h4 else .ok (.bl false) h3
  | _ => .bad
section
variable {W : Wd} {Wx : WX} {X : Cx} {σ : L2.St} {φ : Emb} {H H0 H1 H2 : Hp} {h : PH} {e e1 e2 e3 : Expr} {m m1 m2 m3 : MG PV} {t t1 t2 : MG Bool} {pos : Pos} {Q : VK} {α β γ δ : Type} {R : RL α β} {R' : RL γ δ}
theorem tb0 [Up R'] {r0 : RG α} {k : α → PH → RG γ} {Q : δ → Hp → Prop} (x : ResG W Wx R' σ φ H (r0.bind k) Q) :
    ResG W Wx R σ φ H r0 fun v H1 => ∃ φ1 h1 a, Post φ H φ1 H1 ∧ HR W φ1 H1 h1 ∧ R H φ1 H1 a v ∧ ResG W Wx R' σ φ1 H1 (k a h1) Q := by
  cases r0 with
  | ok a h1 => exact fun φ' v H' p' r' q => ⟨φ', h1, a, p', r', q, ResG.later x p' r'⟩
  | ex c p h1 => exact x
  | bad => exact x
theorem z_chainQ {f g : PV → PV → PH → RG PV} {r r' : R2}
    (hr : ∀ {φ H H1 H2 h x y v u σ Q}, HR W φ H h → RR W φ H1 H x v → RR W φ H2 H y u → ResG W Wx (rE W) σ φ H (f x y h) Q → r v u H Q)
    (hr' : ∀ {φ H H1 H2 h x y v u σ Q}, HR W φ H h → RR W φ H1 H x v → RR W φ H2 H y u → ResG W Wx (rE W) σ φ H (g x y h) Q → r' v u H Q)
    (q : tE W Wx (mCh f g m1 m2 m3) σ H Q) : tChain r r' (tE W Wx m1) (tE W Wx m2) (tE W Wx m3) σ H Q := by
  obtain ⟨φ, env, h, s, r0, q⟩ := q
  refine (tb (R := rE W) s r0 q).mono fun v H1 ⟨φ1, h1, a, p1, s1, r1, e1, q⟩ => ?_
  refine (tb (R := rE W) s1 r1 q).mono fun u H2 ⟨φ2, h2, b, p2, s2, r2, e2, q⟩ => ?_
  refine hr (σ := σ) r2 (RR.mono (H0 := H) r1 p2 e1) e2 (ResG.mono (tb0 (R := rE W) q) fun z H3 ⟨φ3, h3, c, p3, r3, e3, q⟩ => ?_)
  cases c with
  | bl k =>
    have e3 := e3.rep (fun _ => by simp)
    rw [Rep] at e3; subst e3
    refine ⟨k, rfl, ?_⟩
    dsimp only at q
    by_cases hk : k = true
    · rw [if_pos hk] at q ⊢
      refine (tb (R := rE W) (s2.mono (p3.k r2)) r3 q).mono fun w' H4 ⟨φ4, h4, d, p4, s4, r4, e4, q⟩ => ?_
      exact hr' r4 (RR.mono (H0 := H1) r3 p4 (RR.mono (H0 := H1) r2 p3 e2)) e4 q
    · rw [if_neg hk] at q ⊢
      exact q φ3 _ H3 .refl r3 (.inl (by rw [Rep]))
  | _ => exact q.elim
theorem last_no {op op' : CmpOp} {b c : Expr} (h : notSet c = true) : lastMarks [op, op'] [b, c] = false := by
  show behindInMarks op' c = false
  exact behind_no h
theorem fCmp_r (hK : X.K = W.K) (hw : X.w = W.w) (hu : X.A.units + 64 < cLine) (op : CmpOp) : ∃ r : R2, OpR X (compareOp op) r ∧
    ∀ {φ H H1 H2 h x y v u σ Q}, HR W φ H h → RR W φ H1 H x v → RR W φ H2 H y u → ResG W Wx (rE W) σ φ H (fCmp op x y h) Q → r v u H Q := by
  cases op
  · exact ⟨_, op_eqZ hu hK, eqZ⟩
  · exact ⟨_, op_neZ hu hK, neZ⟩
  · exact ⟨_, op_lt, cmpI⟩
  · exact ⟨_, op_le, cmpI⟩
  · exact ⟨_, op_gt, cmpI⟩
  · exact ⟨_, op_ge, cmpI⟩
  · exact ⟨_, op_isN.or op_isBl, isZ⟩
  · exact ⟨_, op_notN.or op_notBl, isNotZ⟩
  · exact ⟨_, op_in_sign.or (op_inZ hu hK hw), inA⟩
  · exact ⟨_, op_notIn_sign.or (op_notInZ hu hK hw), notInA⟩
theorem z_chain (hK : X.K = W.K) (hw : X.w = W.w) (hu : X.A.units + 64 < cLine) {op op' : CmpOp} (h1 : PE X e1 (tE W Wx m1)) (h2 : PE X e2 (tE W Wx m2)) (h3 : PE X e3 (tE W Wx m3)) (hs : notSet e3 = true) :
    PE X (.Compare e1 [op, op'] [e2, e3] pos) (tE W Wx (mCh (fCmp op) (fCmp op') m1 m2 m3)) := by
  obtain ⟨r, o1, q1⟩ := fCmp_r (Wx := Wx) hK hw hu op
  obtain ⟨r', o2, q2⟩ := fCmp_r (Wx := Wx) hK hw hu op'
  exact PE.imp (pe_chain o1 o2 h1 h2 h3 (last_no hs)) fun σ H Q q => z_chainQ q1 q2 q
theorem z_chainT (hK : X.K = W.K) (hw : X.w = W.w) (hu : X.A.units + 64 < cLine) {op op' : CmpOp} (h1 : PE X e1 (tE W Wx m1)) (h2 : PE X e2 (tE W Wx m2)) (h3 : PE X e3 (tE W Wx m3)) (hs : notSet e3 = true) :
    PT X (.Compare e1 [op, op'] [e2, e3] pos) (tT W Wx (mTb (mCh (fCmp op) (fCmp op') m1 m2 m3))) := by
  obtain ⟨r, o1, q1⟩ := fCmp_r (Wx := Wx) hK hw hu op
  obtain ⟨r', o2, q2⟩ := fCmp_r (Wx := Wx) hK hw hu op'
  exact PT.imp (pt_chain o1 o2 h1 h2 h3 (last_no hs)) fun σ H Q q => z_chainQ q1 q2 (tb_bl' q)
end
end Z
namespace Z
open PySem PySem.Spec PyProof.Rows L2
/-! ### {}, d.get(k), d.pop(k), xs.index(x) -/
def mDnew : MG PV := fun _ h => .ok (.ref h.length) (h ++ [.dct []])
def oDget (o : PV) (xs : List PV) (h : PH) : RG PV := match xs with
  | [y] => (match dctV h o, keyT y with
    | some kvs, some k => .ok ((kget kvs k).getD .non) h
    | _, _ => .bad)
  | _ => .bad
def oDpop (o : PV) (xs : List PV) (h : PH) : RG PV := match o with
  | .ref n => (match xs with
    | [y] => (match wdV h n, keyT y with
      | some kvs, some k => (match kget kvs k with
        | some z => .ok z (h.set n (.dct (kdel kvs k)))
        | none => .bad)
      | _, _ => .bad)
    | _ => .bad)
  | _ => .bad
def oIdx (o : PV) (xs : List PV) (h : PH) : RG PV := match xs with
  | [x] => (match seqV h o with
    | some (false, ys) => (match inF (eqF h 50) x ys, ys.findIdx? (fun y => eqF h 50 y x == some true) with
      | some _, some j => .ok (.int j) h
      | _, _ => .bad)
    | _ => .bad)
  | _ => .bad
section
variable {W : Wd} {Wx : WX} {X : Cx} {c : Ct} {pos p : Pos} {x : Str} {H H0 H1 : Hp} {φ : Emb} {h : PH} {σ : L2.St} {Q : VK}
theorem z_dnew (hw : X.w = W.w) : PE X (.Dict [] [] pos) (tE W Wx mDnew) := ⟨fun pins s σ H Q I ⟨φ, env, h, sr, r, q⟩ => by
  have hn : H s.heap.objs.size = none := I.hok.fresh (Nat.le_refl _)
  have lo : (s.heap.objs.size == sysModules) = false := beq_eq_false_iff_ne.mpr (Ne.symm (Nat.ne_of_lt I.big))
  refine wpAny_Dict_empty ⟨.ref s.heap.objs.size, _, I.laid (a := s.heap.objs.size) (o := .ext (DF X.w s.heap.objs.size [])) (t' := s.toks) (fun _ _ q => Heap.get?_push_of_some _ q) (Nat.le_refl _) ?_, rfl, ?_⟩
  · refine ⟨⟨lo, _, #[], 0, Heap.get?_push_size _ rfl, ⟨rfl, rfl, rfl⟩, rfl, .nil⟩, ⟨_, Heap.get?_push_size _ rfl⟩, ?_⟩
    rintro h1 h2 ⟨z0, o, es, ep, ho, z⟩ k
    exact ⟨z0, o, es, ep, k _ ho, z⟩
  · have r1 := r.add (o := .ext (DF X.w s.heap.objs.size [])) hn
    have p1 : Post φ H φ (upd H s.heap.objs.size (.ext (DF X.w s.heap.objs.size []))) := .add hn
    refine q (ext φ h.length s.heap.objs.size) _ _ (p1.know r1 hn) (r1.know (o := .dct []) (r.free hn) ⟨[], ?_, List.nodup_nil, Nat.zero_le _, .nil⟩) (.inl ?_)
    · rw [hw]; exact upd_same
    · rw [Rep]; exact ⟨_, rfl, ext_same⟩⟩
/-- a method of a type that is found in whichever way -/
theorem pe_bmP {T id : String} {name : Str} {o e : Expr} {es : List Expr} {apos cpos : Pos} {to : TE} {t : TA} {r : V → List V → Hp → VK → Prop} {tyP : V → Hp → Prop}
    (hty' : ∀ {pins : List (Addr × Obj)} {s : Shared} {σ : L2.St} {H : Hp} {x : V} {v : Value}, Inv X pins σ H s → RelV x v → tyP x H → s.TypeIs v T ∧ ∀ a, v = .ref a → ∃ ob, s.heap.get? a = some ob ∧ ob.dict = none)
    (pa : PlainAttrs T) (slot : Slot T name id) (hty : typeOf (.builtin id) = pure (.type "method_descriptor")) (hm : MtR X id r) (ho : PE X o to) (ha : PA X (e :: es) t)
    (hbase : attributeBase o name X.env (eval o X.env) = eval o X.env)
    (hfew : ((backTo cpos (starEach (e :: es) X.env)).all (fun x => !x.1) && (backToKw cpos (keywordEach [] X.env)).all (fun x => x.1.isSome)
      && decide ((e :: es).length + ([] : List Keyword).length + (if ([] : List Keyword).isEmpty then 0 else 1) < 30)) = true)
    (hline : (apos.endLine == cpos.line) = true) (hs : starEach (e :: es) X.env = (false, eval e X.env) :: starEach es X.env) (hplain : (backTo cpos (starEach es X.env)).any (·.1) = false) :
    PE X (.Call (.Attribute o name apos) (e :: es) [] cpos) (fun σ H Q => to σ H fun x H1 => tyP x H1 ∧ t σ H1 fun xs H2 => r x xs H2 Q) := by
  refine ⟨fun pins s σ H Q I h => ?_⟩
  refine wpAny_Call_method_late hbase hfew hline rfl (thn (ho.run pins s σ H _ I h) fun v s1 ⟨x, H1, I1, r1, ty, q1⟩ => ?_)
  obtain ⟨h1, h2⟩ := hty' I1 r1 ty
  refine ⟨T, id, pa, slot, hty, h1, h2, ?_⟩
  have hA := ha.run cpos pins s1 σ H1 _ I1 q1
  rw [hs] at hA ⊢
  refine Calls.callWith_builtin (by show (false || (backTo cpos (starEach es X.env)).any (·.1)) = false; rw [hplain] <;> rfl) (Calls.evalArgs_plain ?_)
  exact thn hA fun us s2 ⟨vs, H2, I2, r2, q2⟩ => hm pins s2 σ H2 x vs v us Q I2 r1 r2 q2
def dctP (W : Wd) (x : V) (H : Hp) : Prop := ∃ a rs, x = .ref a ∧ (H a = some (.ext (DF W.w a rs)) ∨ ∃ o, H a = some (.frz o (.ext (DF W.w a rs))))
theorem dctP_is {pins : List (Addr × Obj)} {s : Shared} {σ : L2.St} {H : Hp} {x : V} {v : Value} (I : Inv X pins σ H s) (r : RelV x v) (q : dctP W x H) : s.TypeIs v "dict" ∧ ∀ a, v = .ref a → ∃ ob, s.heap.get? a = some ob ∧ ob.dict = none := by
  obtain ⟨a, rs, rfl, e⟩ := q
  cases r
  obtain ⟨h0, o, es, ep, ho, hc, hd, pe⟩ : DF W.w a rs s.heap := by
    rcases e with e | ⟨o, e⟩
    · obtain ⟨d, _⟩ := I.hok a _ e
      exact d
    · obtain ⟨_, d, _⟩ := I.hok a _ e
      exact d
  refine ⟨⟨o, ho, hc.1⟩, fun b q => ?_⟩
  cases q
  exact ⟨o, ho, hc.2.1⟩
theorem z_methD {f : PV → List PV → PH → RG PV} {r : V → List V → Hp → VK → Prop} {id : String} {name : Str} {o e : Expr} {es : List Expr} {mo : MG PV} {as : MG (List PV)} {apos : Pos}
    (slot : Slot "dict" name id) (hty : typeOf (.builtin id) = pure (.type "method_descriptor")) (hm : MtR X id r) (hf : MOk W Wx (rA W) f r) (ho : PE X o (tE W Wx mo)) (ha : PA X (e :: es) (tA W Wx as)) (hs : (e :: es).all notStar = true) (hsup : notSup o = true) (hlen : (e :: es).length < 30) (hline : (apos.endLine == pos.line) = true) :
    PE X (.Call (.Attribute o name apos) (e :: es) [] pos) (tE W Wx (mMeth .dct f mo as)) := by
  have s1 : notStar e = true := (Bool.and_eq_true_iff.mp (show (notStar e && es.all notStar) = true from hs)).1
  have s2 : es.all notStar = true := (Bool.and_eq_true_iff.mp (show (notStar e && es.all notStar) = true from hs)).2
  have few : ∀ l : List Expr, l.all notStar = true → (backTo pos (starEach l X.env)).all (fun x => !x.1) = true := fun l hl => by
    have := star_any (env := X.env) (pos := pos) hl
    rw [List.any_eq_false] at this
    rw [List.all_eq_true]
    intro y hy
    have := this y hy
    simpa using this
  refine PE.imp (pe_bmP (tyP := dctP W) (fun I r q => dctP_is I r q) PySem.F.plainAttrs_dict slot hty hm ho ha (base_no hsup) (by rw [few _ hs, show backToKw pos (keywordEach [] X.env) = [] from rfl]; simpa using hlen) hline (star_cons s1) (star_any s2)) fun σ H Q ⟨φ, env, h, s, r, q⟩ => ?_
  refine (tb (R := rE W) s r q).mono fun v H1 ⟨φ1, h1, x, p1, s1, r1, e1, q⟩ => ?_
  by_cases ht : tyB .dct h1 x = true
  · rw [if_pos ht] at q
    refine ⟨?_, (tb (R := rA W) s1 r1 q).mono fun vs H2 ⟨φ2, h2, xs, p2, s2, r2, e2, q⟩ => ?_⟩
    · obtain ⟨kvs, ek⟩ := Option.isSome_iff_exists.mp ht
      obtain ⟨n, a, _, rfl, _, _, ⟨rs, e0, _⟩ | ⟨o, rs, e0, _⟩⟩ := dctV_ok r1 e1 ek
      · exact ⟨a, rs, rfl, .inl e0⟩
      · exact ⟨a, rs, rfl, .inr ⟨o, e0⟩⟩
    · exact hf r2 (RR.mono (H0 := H) r1 p2 e1) e2 q
  · rw [if_neg ht] at q; exact q.elim
def rDget (W : Wd) : V → List V → Hp → VK → Prop := fun ov vs H Q => ∃ φ h o y yv H1 kvs k, HR W φ H h ∧ RR W φ H1 H o ov ∧ vs = [yv] ∧ Rep W φ H y yv ∧ dctV h o = some kvs ∧ keyT y = some k ∧ ∀ v, Rep W φ H ((kget kvs k).getD .non) v → Q v H
theorem mt_dget (hu : X.A.units + 64 < cLine) (hK : X.K = W.K) (hw : X.w = W.w) : MtR X "dict.get" (rDget W) := by
  intro pins s σ H x xs v us Q I rx rxs hx0
  obtain ⟨φ, h, o, y, yv, H1, kvs, k, hr, ro, rfl, ry, e, ek, q⟩ := hx0
  obtain ⟨n, d, rfl, rfl, _, _, oo⟩ := dctV_ok hr ro e
  cases rx
  cases rxs with
  | cons ru rt =>
    cases rt
    obtain ⟨b, rfl, rfl, _, hk⟩ := keyT_at (H0 := H) hK I (.inl ry) ru ek
    obtain ⟨h0, _, xs, r, dd, _⟩ := dct_at hw hK I oo
    refine call_meetsIn PySem.F.slot_dict_get dd.typeIs PySem.F.entry_dict_get (PySem.F.args_dict_get_2 _ _) (meetsH_dict_get (nestedKind X.prog X.w) d b h0) ⟨nk_room hu, k, xs, hk, dd, ?_⟩
    cases ez : kget kvs k with
    | none =>
      rw [(kvX_get r k).2 ez]
      rw [ez] at q
      exact ⟨.non, H, I.tok _, rfl, q _ (by rw [Option.getD_none, Rep])⟩
    | some z =>
      rw [ez] at q
      obtain ⟨p, v', ep, rz, rv⟩ := (kvX_get r k).1 z ez
      rw [ep]
      exact ⟨v', H, I.tok _, rv, q _ rz⟩
theorem m_dget : MOk W Wx (rA W) oDget (rDget W) := by
  intro φ H H1 h o ov xs vs σ Q hr ro ra q
  match xs, q, ra with
  | [], q, _ => exact q.elim
  | _ :: _ :: _, q, _ => exact q.elim
  | [y], q, ra =>
    obtain ⟨yv, r', rfl, ry, rn⟩ := RepL.uncons ra
    rw [rn.unnil]
    unfold oDget at q
    dsimp only at q
    cases e : dctV h o with
    | none => rw [e] at q; exact q.elim
    | some kvs =>
      cases ek : keyT y with
      | none => rw [e, ek] at q; exact q.elim
      | some k =>
        rw [e, ek] at q
        exact ⟨φ, h, o, y, yv, H1, kvs, k, hr, ro, rfl, ry, e, ek, fun v rv => res_same hr q rv⟩
def rDpop (W : Wd) : V → List V → Hp → VK → Prop := fun ov vs H Q => ∃ φ h n y yv H1 kvs k z, HR W φ H h ∧ RR W φ H1 H (.ref n) ov ∧ vs = [yv] ∧ Rep W φ H y yv ∧ h[n]? = some (.dct kvs) ∧ keyT y = some k ∧ kget kvs k = some z ∧
  ∀ v H', Rep W φ H' z v → HR W φ H' (h.set n (.dct (kdel kvs k))) → Post φ H φ H' → Q v H'
theorem mt_dpop (hu : X.A.units + 64 < cLine) (hK : X.K = W.K) (hw : X.w = W.w) : MtR X "dict.pop" (rDpop W) := by
  intro pins s σ H x xs v us Q I rx rxs hx0
  obtain ⟨φ, h, n, y, yv, H1, kvs, k, z, hr, ro, rfl, ry, e, ek, ez, q⟩ := hx0
  obtain ⟨d, rfl, en2, oo⟩ := dctW_ok hr ro e
  cases rx
  cases rxs with
  | cons ru rt =>
    cases rt
    obtain ⟨b, rfl, rfl, _, hk⟩ := keyT_at (H0 := H) hK I (.inl ry) ru ek
    obtain ⟨h0, hz, xs, r, dd, hx⟩ := dct_at hw hK I (.inl oo)
    obtain ⟨p, v', ep, rz, rv⟩ := (kvX_get r k).1 z ez
    refine call_pop_heap (more := []) (.inl rfl) (PySem.F.args_dict_pop_2 _ _) (hsz := by rw [hx]; exact hz) (nk_room hu) hk h0 dd ep fun h' dd' hs => ?_
    obtain ⟨U, I', hr', p'⟩ := dct_put hw hr en2 oo (kvs' := kdel kvs k) (t' := s.toks + (nestedKind X.prog X.w).draws k) I (Nat.le_trans (List.length_filter_le _ _) hz) (kvX_del r k) dd' hs
    exact ⟨v', _, I', rv, q v' _ (rz.mono (p'.k hr)) hr' p'⟩
theorem m_dpop : MOk W Wx (rA W) oDpop (rDpop W) := by
  intro φ H H1 h o ov xs vs σ Q hr ro ra q
  cases o with
  | ref n =>
    match xs, q, ra with
    | [], q, _ => exact q.elim
    | _ :: _ :: _, q, _ => exact q.elim
    | [y], q, ra =>
      obtain ⟨yv, r', rfl, ry, rn⟩ := RepL.uncons ra
      rw [rn.unnil]
      unfold oDpop at q
      dsimp only at q
      cases e : wdV h n with
      | none => rw [e] at q; exact q.elim
      | some kvs =>
        cases ek : keyT y with
        | none => rw [e, ek] at q; exact q.elim
        | some k =>
          rw [e, ek] at q
          dsimp only at q
          cases ez : kget kvs k with
          | none => rw [ez] at q; exact q.elim
          | some z =>
            rw [ez] at q
            exact ⟨φ, h, n, y, yv, H1, kvs, k, z, hr, ro, rfl, ry, wdV_iff.mp e, ek, ez, fun v H' rv hr' p' => q φ v H' p' hr' (.inl rv)⟩
  | _ => exact q.elim
def rIdx (W : Wd) : V → List V → Hp → VK → Prop := fun ov vs H Q => ∃ φ h o y yv H1 ys b j, HR W φ H h ∧ RR W φ H1 H o ov ∧ vs = [yv] ∧ Rep W φ H y yv ∧ seqV h o = some (false, ys) ∧ inF (eqF h 50) y ys = some b ∧ ys.findIdx? (fun z => eqF h 50 z y == some true) = some j ∧ Q (.int (j : Nat)) H
open PySem.SeqAt in
theorem mt_idx (hu : X.A.units + 64 < cLine) (hK : X.K = W.K) : MtR X "list.index" (rIdx W) := by
  intro pins s σ H x xs v us Q I rx rxs hx0
  obtain ⟨φ, h, o, y, yv, H1, ys, b, j, hr, ro, rfl, ry, e, ei, ej, q⟩ := hx0
  obtain ⟨a, vs, rfl, rl, sq⟩ := seqV_ok hr ro (t := false) (xs := ys) e
  cases rx
  cases rxs with
  | cons ru rt =>
    cases rt
    rename_i uy
    rw [← hK] at sq
    obtain ⟨its, rv, ⟨⟨cls, dd, data, sls⟩, ho, hc, n, hdt⟩⟩ := Inv.seq I sq
    simp only at hc hdt
    subst hc hdt
    obtain ⟨es, n1, _, q3⟩ := inF_get ei
    have n2 : its.length = ys.length := by rw [← rv.length, rl.length]
    obtain ⟨hj, jt, jn⟩ := List.findIdx?_eq_some_iff_getElem.mp ej
    have at_ : ∀ m (hm : m < its.toArray.size), EqAt X.A.in1 s its.toArray[m] uy (es.getD m false) := fun m hm => by
      have m0 : m < its.length := by simpa using hm
      have m1 : m < ys.length := by omega
      have m2 : m < es.length := by omega
      obtain ⟨w1, g1, p1⟩ := rl.get (List.getElem?_eq_getElem m1)
      obtain ⟨u1, k1, r1⟩ := rv.get g1
      rw [List.getElem?_eq_getElem m0] at k1
      have k1 := Option.some.inj k1
      have := (eqF_at hK hr I 50 X.A.in1 (H0 := H) (H0' := H) (by show X.A.units + 1 + 50 < cLine; omega) (.inl p1) (.inl ry) r1 ru (q3 m _ _ (List.getElem?_eq_getElem m1) (List.getElem?_eq_getElem m2))).1
      rw [show es.getD m false = es[m] by rw [List.getD_eq_getElem?_getD, List.getElem?_eq_getElem m2]; rfl]
      rw [show its.toArray[m] = u1 by rw [← k1]; simp]
      exact this
    have val : ∀ m (hm : m < ys.length), (eqF h 50 ys[m] y == some true) = es.getD m false := fun m hm => by
      have m2 : m < es.length := by omega
      have := q3 m _ _ (List.getElem?_eq_getElem hm) (List.getElem?_eq_getElem m2)
      rw [this, show es.getD m false = es[m] by rw [List.getD_eq_getElem?_getD, List.getElem?_eq_getElem m2]; rfl]
      cases es[m] <;> rfl
    have zl := I.list (H := H) (a := a) (xs := vs) sq
    obtain ⟨_, _, _, zl⟩ := zl
    have hsl := sizeLine_eq
    have hlen := rl.length
    refine call_meets PySem.F.slot_list_index ⟨_, ho, rfl⟩ PySem.F.entry_list_index (PySem.F.args_list_index_2 _ _)
      (PySem.SeqAt.list_index2_found a its.toArray n dd sls uy (fun m => es.getD m false) j (by simp; omega) (Nat.zero_le _) (by omega) (by rw [← val j hj]; exact jt) (fun m hm _ hmj => ?_)) ⟨ho, at_, ⟨.int (j : Nat), H, I.tok _, ⟨_, rfl⟩, q⟩⟩
    have := jn m hmj
    rw [val m (by omega)] at this
    simpa using this
theorem m_idx : MOk W Wx (rA W) oIdx (rIdx W) := by
  intro φ H H1 h o ov xs vs σ Q hr ro ra q
  match xs, q, ra with
  | [], q, _ => exact q.elim
  | _ :: _ :: _, q, _ => exact q.elim
  | [y], q, ra =>
    obtain ⟨yv, r', rfl, ry, rn⟩ := RepL.uncons ra
    rw [rn.unnil]
    unfold oIdx at q
    dsimp only at q
    split at q
    · rename_i ys e
      split at q
      · rename_i b j ei ej
        exact ⟨φ, h, o, y, yv, H1, ys, b, j, hr, ro, rfl, ry, e, ei, ej, res_int hr q⟩
      · exact q.elim
    · exact q.elim
end
end Z
namespace Z
open PySem PySem.Spec PyProof.Rows PyProof.V L2
def tget (tbl : List (List Nat × Int)) (s : List Nat) : Option Int := (tbl.find? fun p => decide (p.1 = s)).map (·.2)
theorem tget_ok {tbl : List (List Nat × Int)} {kvs : List (Str × Value)} (r : Paired (fun (p : List Nat × Int) (q : Str × Value) => q.1 = ⟨p.1.toArray⟩ ∧ ∃ t, q.2 = .int p.2 t) tbl kvs) (s : List Nat) :
    (∀ i, tget tbl s = some i → ∃ t, valueAt kvs ⟨s.toArray⟩ = some (.int i t)) ∧ (valueAt kvs ⟨s.toArray⟩).isSome = (tget tbl s).isSome := by
  induction r with
  | nil => exact ⟨fun i e => (nomatch e), rfl⟩
  | @cons p q tbl kvs h t ih =>
    obtain ⟨h1, u, h2⟩ := h
    have inj : ((⟨p.1.toArray⟩ : Str) = ⟨s.toArray⟩) ↔ p.1 = s := by simp
    by_cases c : p.1 = s
    · have e1 : tget (p :: tbl) s = some p.2 := by
        unfold tget
        rw [List.find?_cons_of_pos (by simp [c])]; rfl
      have e2 : valueAt (q :: kvs) ⟨s.toArray⟩ = some q.2 := by
        unfold valueAt
        rw [List.find?_cons_of_pos (by rw [h1]; exact decide_eq_true (inj.mpr c))]; rfl
      rw [e1, e2]
      exact ⟨fun i e => by cases e; exact ⟨u, by rw [h2]⟩, rfl⟩
    · have e1 : tget (p :: tbl) s = tget tbl s := by
        unfold tget
        rw [List.find?_cons_of_neg (by simp [c])]
      have e2 : valueAt (q :: kvs) ⟨s.toArray⟩ = valueAt kvs ⟨s.toArray⟩ := by
        unfold valueAt
        rw [List.find?_cons_of_neg (by rw [h1, decide_eq_true_iff]; exact fun z => c (inj.mp z))]
      rw [e1, e2]
      exact ih
def oDix (tbl : List (List Nat × Int)) (x : PV) (h : PH) : RG PV := match x with
  | .str s => (match tget tbl s with
    | some i => .ok (.int i) h
    | none => .bad)
  | _ => .bad
def oDin (tbl : List (List Nat × Int)) (neg : Bool) (x : PV) (h : PH) : RG PV := match x with
  | .str s => .ok (.bl (if neg then !(tget tbl s).isSome else (tget tbl s).isSome)) h
  | _ => .bad
def iDk (tbl : List (List Nat × Int)) : MG Src := fun _ h => if tbl.length ≤ 1000 then .ok ⟨tbl.map fun p => .str p.1, none⟩ h else .bad
section
variable {W : Wd} {Wx : WX} {X : Cx} {c : Ct} {pos p : Pos} {x : Str} {H H0 H1 : Hp} {φ : Emb} {h : PH} {σ : L2.St} {Q : VK} {tbl : List (List Nat × Int)} {e : Expr} {m : MG PV}
def rDix (d : Addr) (tbl : List (List Nat × Int)) : R2 := fun v u H Q => ∃ s i, v = .ref d ∧ u = .str ⟨s.toArray⟩ ∧ tget tbl s = some i ∧ Q (.int i) H
def rDin (d : Addr) (tbl : List (List Nat × Int)) (neg : Bool) : R2 := fun v u H Q => ∃ s, v = .str ⟨s.toArray⟩ ∧ u = .ref d ∧ Q (.bl (if neg then !(tget tbl s).isSome else (tget tbl s).isSome)) H
theorem ix_const {d : Addr} {o : Obj} {es : Array DictEntry} {ep : Nat} {kvs : List (Str × Value)} (h1 : X.K.lookup d = some o) (h2 : o.ExactDict) (h3 : o.data = .dict es ep) (h4 : KeysOf (strKind X.prog X.w) es) (h5 : Pairs (strKind X.prog X.w) es.toList kvs) (h6 : (kvs.map (·.1)).Nodup)
    (h7 : Paired (fun (p : List Nat × Int) (q : Str × Value) => q.1 = ⟨p.1.toArray⟩ ∧ ∃ t, q.2 = .int p.2 t) tbl kvs) : IxR X (rDix d tbl) := by
  intro value slice pins s σ H v u a b Q I ra rb hx hs
  obtain ⟨z, i, rfl, rfl, et, q⟩ := hx
  cases ra
  obtain ⟨t, rfl⟩ := rb
  have dd : s.heap.DictOf (strKind X.prog X.w) d kvs := ⟨o, es, ep, I.kIn _ _ h1, h2, h3, h4, h5, h6⟩
  have hT : s.TypeIs (.ref d) "dict" := dd.typeIs
  obtain ⟨t', ev⟩ := (tget_ok h7 z).1 i et
  unfold subscriptTail
  refine wpAny_bind ?_
  rw [getitemInPython_of_ne hT.not_modules]
  refine wpAny_bind (wpAny_specialOf hT PySem.F.slot_dict_getitem.lookup ?_)
  have fin : wpAny (model X.prog X.w) X.A (subscripted slice false (.ref d) (.str ⟨z.toArray⟩ t)) (fun r s₃ => wpAny (model X.prog X.w) X.A (letTemporaryGo value (.ref d) r >>= fun _ => pure r) (EP X pins σ Q) X.xe s₃) X.xe s := by
    rw [hs]
    refine wpAny_operating (wpAny_getItem_of (strKind_is _ _ _ _) dd.mapOf ev ?_)
    exact wpAny_bind (wpAny_letTemporaryGo (wpAny_pure ⟨.int i, H, I.tok _, ⟨_, rfl⟩, q⟩))
  first
    | exact wpAny_pure (wpAny_bind fin)
    | exact wpAny_bind (wpAny_pure (wpAny_bind fin))
    | exact wpAny_bind fin
theorem op_din {d : Addr} {o : Obj} {es : Array DictEntry} {ep : Nat} {kvs : List (Str × Value)} (h0 : (d == sysModules) = false) (h1 : X.K.lookup d = some o) (h2 : o.ExactDict) (h3 : o.data = .dict es ep) (h4 : KeysOf (strKind X.prog X.w) es) (h5 : Pairs (strKind X.prog X.w) es.toList kvs) (h6 : (kvs.map (·.1)).Nodup)
    (h7 : Paired (fun (p : List Nat × Int) (q : Str × Value) => q.1 = ⟨p.1.toArray⟩ ∧ ∃ t, q.2 = .int p.2 t) tbl kvs) : OpR X (compareOp .In) (rDin d tbl false) ∧ OpR X (compareOp .NotIn) (rDin d tbl true) := by
  constructor
  · intro pins s σ H v u a b Q I ra rb hx
    obtain ⟨z, rfl, rfl, q⟩ := hx
    obtain ⟨t, rfl⟩ := ra
    cases rb
    have dd : s.heap.DictOf (strKind X.prog X.w) d kvs := ⟨o, es, ep, I.kIn _ _ h1, h2, h3, h4, h5, h6⟩
    refine wpAny_in_of (strKind_is _ _ _ _) h0 dd.mapOf ?_
    rw [(tget_ok h7 z).2]
    exact ⟨.bl (tget tbl z).isSome, H, I.tok _, rfl, q⟩
  · intro pins s σ H v u a b Q I ra rb hx
    obtain ⟨z, rfl, rfl, q⟩ := hx
    obtain ⟨t, rfl⟩ := ra
    cases rb
    have dd : s.heap.DictOf (strKind X.prog X.w) d kvs := ⟨o, es, ep, I.kIn _ _ h1, h2, h3, h4, h5, h6⟩
    refine wpAny_notIn_of (strKind_is _ _ _ _) h0 dd.mapOf ?_
    rw [(tget_ok h7 z).2]
    exact ⟨.bl (!(tget tbl z).isSome), H, I.tok _, rfl, q⟩
theorem z_dix (hK : X.K = W.K) (T : DcT X.prog X.w X.mg X.K x tbl) (hg : Gl X x) (hd : (x == ("__debug__" : Str)) = false) (he : PE X e (tE W Wx m)) (hs : PlainIx e) : PE X (.Subscript (.Name x p) e pos) (tE W Wx (mU (oDix tbl) m)) := by
  obtain ⟨d, o, es, ep, kvs, hm, h0, h1, h2, h3, h4, h5, h6, h7⟩ := T.ex
  refine PE.imp (pe_ix (ix_const h1 h2 h3 h4 h5 h6 h7) (pe_glob (v := .ref d) hg hm rfl hd) he hs) fun σ H Q ⟨φ, env, h, s, r, q⟩ => ?_
  refine (tb (R := rE W) s r q).mono fun v H1 ⟨φ1, h1, a, p1, s1, r1, e1, q⟩ => ?_
  cases a with
  | str z =>
    have e1 := e1.rep (fun _ => by simp)
    rw [Rep] at e1; subst e1
    unfold oDix at q
    dsimp only at q
    cases et : tget tbl z with
    | none => rw [et] at q; exact q.elim
    | some i => rw [et] at q; exact ⟨z, i, rfl, rfl, et, res_int r1 q⟩
  | _ => exact q.elim
theorem z_din (hK : X.K = W.K) (T : DcT X.prog X.w X.mg X.K x tbl) (hg : Gl X x) (hd : (x == ("__debug__" : Str)) = false) (he : PE X e (tE W Wx m)) :
    PE X (.Compare e [.In] [.Name x p] pos) (tE W Wx (mU (oDin tbl false) m)) ∧ PE X (.Compare e [.NotIn] [.Name x p] pos) (tE W Wx (mU (oDin tbl true) m)) ∧
    PT X (.Compare e [.In] [.Name x p] pos) (tT W Wx (mTb (mU (oDin tbl false) m))) ∧ PT X (.Compare e [.NotIn] [.Name x p] pos) (tT W Wx (mTb (mU (oDin tbl true) m))) := by
  obtain ⟨d, o, es, ep, kvs, hm, h0, h1, h2, h3, h4, h5, h6, h7⟩ := T.ex
  obtain ⟨o1, o2⟩ := op_din h0 h1 h2 h3 h4 h5 h6 h7
  have hn : ∀ op, behindInMarks op (.Name x p) = false := fun op => behind_no rfl
  have key : ∀ neg σ H Q, tE W Wx (mU (oDin tbl neg) m) σ H Q → tOp (rDin d tbl neg) (tE W Wx m) (tC (.ref d)) σ H Q := fun neg σ H Q ⟨φ, env, h, s, r, q⟩ => by
    refine (tb (R := rE W) s r q).mono fun v H1 ⟨φ1, h1, a, p1, s1, r1, e1, q⟩ => ?_
    cases a with
    | str z =>
      have e1 := e1.rep (fun _ => by simp)
      rw [Rep] at e1; subst e1
      exact ⟨z, rfl, rfl, res_bl r1 q⟩
    | _ => exact q.elim
  refine ⟨PE.imp (pe_cmpR o1 he (pe_glob (v := .ref d) hg hm rfl hd) (hn _)) (key false), PE.imp (pe_cmpR o2 he (pe_glob (v := .ref d) hg hm rfl hd) (hn _)) (key true), ?_, ?_⟩
  · exact PT.imp (pt_cmpR o1 he (pe_glob (v := .ref d) hg hm rfl hd) (hn _)) fun σ H Q q => key false σ H _ (tb_bl' q)
  · exact PT.imp (pt_cmpR o2 he (pe_glob (v := .ref d) hg hm rfl hd) (hn _)) fun σ H Q q => key true σ H _ (tb_bl' q)
/-! the keys of it, one by one -/
def Itc (ks : List (List Nat)) : It := ⟨fun i _ => i < ks.length, fun i H v H' => H' = H ∧ ∃ k, ks[i]? = some k ∧ v = .str ⟨k.toArray⟩, fun i _ => ks.length ≤ i⟩
theorem turn_const {tg : Expr} {d : Addr} {o : Obj} {es : Array DictEntry} {ep : Nat} {kvs : List (Str × Value)} {P : Program} {w : World} {K : PySem.W.Frag} (it : Addr) (h1 : K.lookup d = some o) (h2 : o.ExactDict) (h3 : o.data = .dict es ep) (h4 : KeysOf (strKind P w) es) (h5 : Pairs (strKind P w) es.toList kvs) (h6 : (kvs.map (·.1)).Nodup)
    (h7 : Paired (fun (p : List Nat × Int) (q : Str × Value) => q.1 = ⟨p.1.toArray⟩ ∧ ∃ t, q.2 = .int p.2 t) tbl kvs) (hsz : es.size = kvs.length) : Turn P w K tg (Itc (tbl.map (·.1))) [it] it (fun i h => h.IsKeyIter it d i kvs.length ep) where
  mem := by simp
  obj := fun i h st b hb => by
    have e : b = it := by simpa using hb
    subst e
    obtain ⟨oi, e, c, dd⟩ := st
    exact ⟨oi, e, fun v z => by rw [dd] at z; cases z⟩
  keep := fun i h h' st k => st.at fun oi e => k it (by simp) oi e
  item := by
    intro X hP hw hK hc i pins s σ H E I hf st hg
    subst hP hw hK
    have hi : i < tbl.length := by simpa [Itc] using hg
    obtain ⟨f0, f1, f2, f3, f4, f5⟩ := hf it (by simp)
    have hl : tbl.length = kvs.length := Paired.length h7
    have hm : s.heap.DictAt (strKind X.prog X.w) d kvs ep := ⟨o, es, I.kIn _ _ h1, h2, h3, h4, h5, h6⟩
    have hi2 : i < kvs.length := by omega
    have hx : kvs[i]? = some (kvs[i].1, kvs[i].2) := List.getElem?_eq_getElem hi2
    refine wpAny_pyNext_dict_item st hm hx fun key h' hkey st' sb => ?_
    have I1 : Inv X pins σ H { s with heap := h' } := I.turned (t' := s.toks) (fun b ob hb e => (sb.2 b hb).trans e) f0 f1 f3 f4 f5
    obtain ⟨oi, e, c, dd⟩ := id st'
    have kk : ∀ {tbl : List (List Nat × Int)} {kvs : List (Str × Value)}, Paired (fun (p : List Nat × Int) (q : Str × Value) => q.1 = ⟨p.1.toArray⟩ ∧ ∃ t, q.2 = .int p.2 t) tbl kvs → ∀ (i : Nat) (a : i < tbl.length) (b : i < kvs.length), kvs[i].1 = ⟨tbl[i].1.toArray⟩ := by
      intro tbl kvs r
      induction r with
      | nil => intro i a; simp at a
      | cons h t ih =>
        intro i a b
        cases i with
        | zero => exact h.1
        | succ i => exact ih i (by simpa using a) (by simpa using b)
    have ek := kk h7 i hi hi2
    refine ⟨key, rfl, go_of (s := { s with heap := h' }) e c dd (by decide) ⟨.str kvs[i].1, H, I1, ?_, ⟨rfl, tbl[i].1, ?_, by rw [ek]⟩, st', fun b hb => (hf b hb).1⟩⟩
    · obtain ⟨t, rfl⟩ := Value.isStrOf_shape (show Value.isStrOf kvs[i].1 key = true from hkey)
      exact ⟨t, rfl⟩
    · rw [List.getElem?_map, List.getElem?_eq_getElem hi]; rfl
  done := by
    intro X hP hw hK hc i pins s σ H E I hf st hg
    subst hP hw hK
    have hi : tbl.length ≤ i := by simpa [Itc] using hg
    have hl : tbl.length = kvs.length := Paired.length h7
    obtain ⟨f0, f1, f2, f3, f4, f5⟩ := hf it (by simp)
    exact next_key_end (I.ok.hd hc) st (I.kIn _ _ h1) h3 hsz (by omega) fun h' eb => ⟨rfl, I.turned (t' := s.toks) (fun b ob hb e => eb b ob hb e) f0 f1 f3 f4 f5⟩
  self := fun A i s Q E st h => wpAny_pyIter_keyiter st h
theorem z_idk {tg : Expr} (hK : X.K = W.K) (T : DcT X.prog X.w X.mg X.K x tbl) (hg : Gl X x) (hd : (x == ("__debug__" : Str)) = false) : PI X tg (.Name x p) (tI W Wx (iDk tbl)) := by
  obtain ⟨d, o, es, ep, kvs, hm, h0, h1, h2, h3, h4, h5, h6, h7⟩ := T.ex
  refine ⟨fun pins s σ H R I ⟨φ, env, h, sr, r, q⟩ => ?_⟩
  refine thn ((pe_glob (v := .ref d) (pos := p) hg hm rfl hd).run pins s σ H (fun v H' => v = .ref d ∧ H' = H) I ⟨rfl, rfl⟩) fun u s1 ⟨v, H1, I1, rx, ev, eH⟩ => ?_
  subst ev eH
  obtain rfl : u = Value.ref d := rx
  have hsz : es.size = kvs.length := by
    have := (Pairs.length h5)
    simpa using this
  have hl : tbl.length = kvs.length := Paired.length h7
  refine iter_keys h0 (I1.kIn _ _ h1) h2 h3 (pi_one (tk := s1.toks) I1 _ (turn_const _ h1 h2 h3 h4 h5 h6 h7 hsz) ⟨_, Heap.get?_push_size _ rfl, rfl, by rw [hsz] <;> rfl⟩ ?_)
  unfold iDk at q
  by_cases hz : tbl.length ≤ 1000
  case neg => rw [if_neg hz] at q; exact q.elim
  rw [if_pos hz] at q
  refine q φ _ H1 .refl r ?_
  have e0 : (tbl.map fun p => PV.str p.1).length = tbl.length := List.length_map ..
  refine ⟨fun i φ' H' h' _ _ _ hi => ?_, fun i φ' H' h' v H'' _ _ _ hi y => ?_, fun i φ' H' h' _ _ _ hi => ?_, ?_⟩
  · show i < (tbl.map (·.1)).length
    simpa using hi
  · obtain ⟨rfl, k, ek, rfl⟩ := y
    refine ⟨.str k, ?_, rfl, by rw [Rep]⟩
    rw [List.getElem?_map] at ek ⊢
    obtain ⟨p, ep, rfl⟩ := Option.map_eq_some_iff.mp ek
    rw [ep]; rfl
  · show (tbl.map (·.1)).length ≤ i
    simpa using hi
  · rw [e0, sizeLine_eq]; omega
end
end Z
namespace Z
open PySem PySem.Spec PyProof.Rows L2

def freeB (c : Ct) (x : Str) : Bool := c.lw.free.any fun y => decide (y = x)
/-- the def that a call means -/
def fnOf (c : Ct) (x : Str) (n : Nat) : Option FnI := if c.hot then (if n = 0 then none else c.hfns.find? fun F => decide (F.name = x)) else c.fns.find? fun F => decide (F.name = x) && decide (n + F.dvs.length = F.ps.length) && decide (F.k ≤ c.lvl)
def mkOf (c : Ct) (x : Str) : Option MkI := c.mks.find? fun M => decide (M.name = x) && M.ks.isEmpty
def mkkOf (c : Ct) (x : Str) (kws : List Keyword) : Option MkI := c.mks.find? fun M => decide (M.name = x) && !M.ks.isEmpty && decide (kws.map kwN = M.ks.map some)
def kindOf (c : Ct) (y : Str) : Option (List (Nat × Bool)) := (c.lw.isx.find? fun q => decide (q.1 = y)).map (·.2)
def exmOf (c : Ct) (y : Str) : Option (List (Nat × Bool)) := (c.lw.exm.find? fun q => decide (q.1 = y)).map (·.2)
def isoOf (c : Ct) (y : Str) : Option (List (Nat × Bool)) := (c.lw.iso.find? fun q => decide (q.1 = y)).map (·.2)
def errOf (c : Ct) (y : Str) : Option Nat := (c.lw.errs.find? fun q => decide (q.1 = y)).map (·.2)
def dcOf (c : Ct) (x : Str) : Option (List (List Nat × Int)) := (c.lw.dcs.find? fun q => decide (q.1 = x)).map (·.2)
/-- a dict of the top -/
def dcN (c : Ct) (e : Expr) : Option (List (List Nat × Int)) := match e with
  | .Name x _ => if nmB x && glB c x then dcOf c x else none
  | _ => none
/-- == and != where an own __eq__ may answer -/
noncomputable def eCmpO (c : Ct) (op : CmpOp) (m1 m2 : MG PV) : Option (MG PV) := match op with
  | .Eq => if c.eqs.isEmpty || c.hot then eCmp .Eq m1 m2 else some (mB (oEqO c.eqs false) m1 m2)
  | .NotEq => if c.eqs.isEmpty || c.hot then eCmp .NotEq m1 m2 else some (mB (oEqO c.eqs true) m1 m2)
  | op => eCmp op m1 m2
/-! targets -/
mutual
def gOf (c : Ct) : Nat → Expr → Option (TgP × List Nat)
  | 0, _ => none
  | n + 1, .Name x _ => if locB c x then (ixOf c.N x).map fun i => (gN i, [i]) else none
  | n + 1, .Tuple es _ _ => if es.all notStar && !c.hot then (gsOf c n es).map fun p => (gT p.1, p.2) else none
  | _, _ => none
def gsOf (c : Ct) : Nat → List Expr → Option ((List PV → Sl → Option Sl) × List Nat)
  | 0, _ => none
  | n + 1, [] => some (gsNil, [])
  | n + 1, e :: es => (gOf c n e).bind fun p => (gsOf c n es).map fun q => (gsCons p.1 q.1, p.2 ++ q.2)
end
/-- an attribute that holds a dict -/
def dAttr : Expr → Bool
  | .Attribute _ a _ => decide (a = "entries")
  | _ => false
/-! iterables -/
def eIter (c : Ct) (f : Expr → Option (MG PV)) (e : Expr) : Option (MG Src) := match e with
  | .Call (.Name x _) args [] _ =>
    if x = "range" then
      if freeB c x && glB c x then (match args with
        | [_] => (eAs f args).map iRg1
        | [_, _] => (eAs f args).map iRg2
        | _ => none) else none
    else (f e).map iSeq
  | e => (match dcN c e with
    | some tbl => some (iDk tbl)
    | none => (f e).map iSeq)
/-! comprehensions -/
def ownOf (N : List Str) (sc : Scope) : List (Str × Nat) := (sc.names.filter fun y => match y.2 with
    | .local => true
    | .cell => true
    | _ => false).filterMap fun y => (ixOf N y.1).map fun i => (y.1, i)
def blkCt (c : Ct) (scope : Scope) : Ct := { c with sc := relS scope c.sc, dfn := false }
noncomputable def eComp (c : Ct) (D : Ct → Den) (elt : Expr) (gs : List Comprehension) (scope : Scope) : Option (MG PV) := match gs with
  | [⟨tg, iter, ifs, as⟩] =>
    if as = 0 ∧ c.hot = false ∧ blkC c.N c.sc scope (ownOf c.N scope) = true ∧ notSet iter = true then
      (gOf (blkCt c scope) 9 tg).bind fun g =>
      if g.2.all (fun j => (ownOf c.N scope).any fun (y : Str × Nat) => decide (y.2 = j)) then
        (eIter c (D c).E iter).bind fun mi =>
        (match ifs with
          | [] => some tTrue
          | [t] => (D (blkCt c scope)).T t
          | _ => none).bind fun mt =>
        ((D (blkCt c scope)).E elt).map fun m => mLC mi g.1 ((ownOf c.N scope).map (fun (y : Str × Nat) => y.2)) mt m
      else none
    else none
  | _ => none
noncomputable def eComp2 (c : Ct) (D : Ct → Den) (elt : Expr) (gs : List Comprehension) (scope : Scope) : Option (MG PV) := match gs with
  | [⟨tg, iter, ifs, as⟩, ⟨tg1, iter1, ifs1, as1⟩] =>
    if as = 0 ∧ as1 = 0 ∧ c.hot = false ∧ blkC c.N c.sc scope (ownOf c.N scope) = true ∧ notSet iter = true ∧ notSet iter1 = true then
      (gOf (blkCt c scope) 9 tg).bind fun g => (gOf (blkCt c scope) 9 tg1).bind fun g1 =>
      if g.2.all (fun j => (ownOf c.N scope).any fun (y : Str × Nat) => decide (y.2 = j)) && g1.2.all (fun j => (ownOf c.N scope).any fun (y : Str × Nat) => decide (y.2 = j)) then
        (eIter c (D c).E iter).bind fun mi => (eIter (blkCt c scope) (D (blkCt c scope)).E iter1).bind fun mi1 =>
        (match ifs with
          | [] => some tTrue
          | [t] => (D (blkCt c scope)).T t
          | _ => none).bind fun mt =>
        (match ifs1 with
          | [] => some tTrue
          | [t] => (D (blkCt c scope)).T t
          | _ => none).bind fun mt1 =>
        ((D (blkCt c scope)).E elt).map fun m => mLC2 mi g.1 ((ownOf c.N scope).map (fun (y : Str × Nat) => y.2)) mt mi1 g1.1 g1.2 mt1 m
      else none
    else none
  | _ => none
noncomputable def eCall (c : Ct) (f : Expr → Option (MG PV)) (fn : Expr) (args : List Expr) (pos : Pos) : Option (MG PV) := match fn with
  | .Name x _ =>
    if nmB x && glB c x then
      if freeB c x then
        (match args with
        | [a, .Name y _] => if x = "isinstance" then
            (if notStar a && nmB y && glB c y then (if c.hot && (kindOf c y).isSome then (kindOf c y).bind fun t => (f a).map fun m => mU (oIsX t) m
              else if (isoOf c y).isSome then (isoOf c y).bind fun t => (f a).map fun m => mU (oIsiC t) m
              else if freeB c y then (tyF y).bind fun T => (f a).map fun m => mU (oIsiB T) m else none) else none)
          else if !c.hot || coolB x then (biF x args.length).bind fun g => (eRs f args).map fun as => mC g as else none
        | _ :: _ => if !c.hot || coolB x then (biF x args.length).bind fun g => (eRs f args).map fun as => mC g as else none
        | [] => none)
      else if (mkOf c x).isSome then (if c.hot then none else (mkOf c x).bind fun M => (eAs f args).map fun as => mC (oMk M) as)
      else (fnOf c x args.length).bind fun F => (eAs f args).map fun as => mC (oCall F) as
    else none
  | .Attribute o m apos =>
    if notSup o && decide (args.length < 30) && (apos.endLine == pos.line) then
      if c.mets.any fun M => decide (c.lw.ats[M.mid]? = some m) then
        (if c.hot then none else if args.all notStar then (ixOf c.lw.ats m).bind fun k => (f o).bind fun mo => (eAs f args).map fun as => mMet c.mets k args.length mo as else none)
      else (match args with
      | _ :: _ =>
        if m = "append" then (f o).bind fun mo => (eAs f args).map fun as => mMeth .lst oApp mo as
        else if m = "extend" then (f o).bind fun mo => (eRs f args).map fun as => mMeth .lst oExt mo as
        else if m = "split" then (f o).bind fun mo => (eRs f args).map fun as => mMeth .str oSpl mo as
        else if m = "join" then (f o).bind fun mo => (eRs f args).map fun as => mMeth .str oJoin mo as
        else if m = "index" && args.all notStar then (f o).bind fun mo => (eAs f args).map fun as => mMeth .lst oIdx mo as
        else if m = "get" && args.all notStar then (f o).bind fun mo => (eAs f args).map fun as => mMeth .dct oDget mo as
        else if m = "pop" && args.all notStar then (f o).bind fun mo => (eAs f args).map fun as => mMeth .dct oDpop mo as
        else none
      | [] => if m = "pop" then (f o).map (mU oPop) else if m = "lower" then (f o).map (mU oLow) else if m = "upper" then (f o).map (mU oUp) else none)
    else none
  | _ => none
def eKs (f : Expr → Option (MG PV)) : List Keyword → Option (MG (List PV))
  | [] => some aNil
  | ⟨_, e, _⟩ :: r => (f e).bind fun m => (eKs f r).map fun ms => aCons m ms
noncomputable def stepE (c : Ct) (D : Ct → Den) (e : Expr) : Option (MG PV) := match e with
  | .Constant k _ _ => eConst k
  | .Name x _ => eName c x
  | .BinOp a op b _ => ((D c).E a).bind fun m1 => ((D c).E b).bind fun m2 => eBin op m1 m2
  | .UnaryOp .Not a _ => ((D c).E a).map mNotV
  | .UnaryOp .USub a _ => ((D c).E a).map (mU oNeg)
  | .BoolOp op es _ => eBoolV op (D c).E es
  | .Compare a [op] [b] _ => if notSet b then (match dcN c b, op with
    | some tbl, .In => ((D c).E a).map fun m => mU (oDin tbl false) m
    | some tbl, .NotIn => ((D c).E a).map fun m => mU (oDin tbl true) m
    | _, _ => ((D c).E a).bind fun m1 => ((D c).E b).bind fun m2 => eCmpO c op m1 m2) else none
  | .Compare a [op, op'] [b, d] _ => if notSet d then ((D c).E a).bind fun m1 => ((D c).E b).bind fun m2 => ((D c).E d).map fun m3 => mCh (fCmp op) (fCmp op') m1 m2 m3 else none
  | .IfExp t a b _ => ((D c).T t).bind fun mt => ((D c).E a).bind fun m1 => ((D c).E b).map fun m2 => mIf mt m1 m2
  | .Call fn args [] pos => eCall c (D c).E fn args pos
  | .Call (.Name x _) (a :: args) (k :: kws) _ => if nmB x && glB c x && !c.hot && (a :: args).all notStar then (mkkOf c x (k :: kws)).bind fun M => (eAs (D c).E (a :: args)).bind fun as => (eKs (D c).E (k :: kws)).map fun zs => mCK M as zs else none
  | .Attribute o a _ => if notSup o then (if c.hot && decide (a = "place") then ((D c).E o).map (mU (oXp (c.lw.errs.map (fun p => p.2)))) else (ixOf c.lw.ats a).bind fun k => ((D c).E o).map (mU (oGet c.lw.flds k))) else none
  | .Subscript a (.Slice lo hi none _) _ => ((D c).E a).bind fun m => (ePart (D c).E lo).bind fun l => (ePart (D c).E hi).map fun u => mSl m l u
  | .Subscript a (.Slice none none (some s) _) _ => ((D c).E a).bind fun m => (ePart (D c).E (some s)).map fun u => mRv m u
  | .Subscript a b _ => if notSl b then (match dcN c a with
    | some tbl => ((D c).E b).map fun m => mU (oDix tbl) m
    | none => ((D c).E a).bind fun m1 => ((D c).E b).map fun m2 => mB oIx m1 m2) else none
  | .Dict [] [] _ => some mDnew
  | .Tuple es _ _ => (eAs (D c).E es).map mTup
  | .List es _ => (eAs (D c).E es).map mLst
  | .ListComp elt gs scope _ => (match gs with
    | [_, _] => eComp2 c D elt gs scope
    | _ => eComp c D elt gs scope)
  | _ => none
noncomputable def stepT (c : Ct) (D : Ct → Den) (e : Expr) : Option (MG Bool) := match e with
  | .UnaryOp .Not a _ => ((D c).T a).map mNot
  | .BoolOp op es _ => eBoolT op (D c).T es
  | .Compare a [op] [b] _ => if notSet b then (match dcN c b, op with
    | some tbl, .In => ((D c).E a).map fun m => mTb (mU (oDin tbl false) m)
    | some tbl, .NotIn => ((D c).E a).map fun m => mTb (mU (oDin tbl true) m)
    | _, _ => ((D c).E a).bind fun m1 => ((D c).E b).bind fun m2 => (eCmpO c op m1 m2).map mTb) else none
  | .Compare a [op, op'] [b, d] _ => if notSet d then ((D c).E a).bind fun m1 => ((D c).E b).bind fun m2 => ((D c).E d).map fun m3 => mTb (mCh (fCmp op) (fCmp op') m1 m2 m3) else none
  | e => if plainT e then ((D c).E e).map mTr else none
def eSs (f : Stmt → Option MS) : List Stmt → Option MS
  | [] => some sNil
  | [s] => f s
  | s :: r => (f s).bind fun a => (eSs f r).map fun b => sSeq a b
/-- name = [..], where the list's name is stored within -/
def swB (c : Ct) (x : Str) (pl vl : Nat) (scope : Scope) : Bool :=
  (match c.sc.names.lookup x with
  | some .local => true
  | _ => false) && (pl == vl) && !(scope.names.any fun (n, k) => n == x && (k == .local || k == .cell))
/-- where an exception is handled -/
def hotCt (c : Ct) : Ct := { c with hot := true, fns := [], mets := [], mks := [], eqs := [] }
noncomputable def eHds (c : Ct) (D : Ct → Den) : List ExceptHandler → Option (List (List (Nat × Bool) × MS))
  | [] => some []
  | .ExceptHandler (some (.Name x _)) none (b₀ :: suite) _ :: r => if glB c x && nmB x then (exmOf c x).bind fun t => (eSs (D (hotCt c)).S (b₀ :: suite)).bind fun ms => (eHds c D r).map fun l => (t, ms) :: l else none
  | _ => none
noncomputable def stepS (c : Ct) (D : Ct → Den) (s : Stmt) : Option MS := match s with
  | .Pass _ => some sNil
  | .Break _ => some sBk
  | .Continue _ => some sCt
  | .Return none _ => some sRetN
  | .Return (some e) _ => ((D c).E e).map sRet
  | .Expr e _ => if notComp e then ((D c).E e).map sExp else none
  | .If t a b _ => ((D c).T t).bind fun mt => (eSs (D c).S a).bind fun ma => (eSs (D c).S b).map fun mb => sIf mt ma mb
  | .While t b [] _ => ((D c).T t).bind fun mt => (eSs (D c).S b).map fun mb => sWh mt mb
  | .For tg it b [] _ => if notSet it && !c.hot then (gOf c 9 tg).bind fun g => if dAttr it = true then ((D c).E it).bind fun m => (eSs (D c).S b).map fun mb => sForD m g.1 mb else (eIter c (D c).E it).bind fun mi => (eSs (D c).S b).map fun mb => sFor mi g.1 mb else none
  | .Assign [.Name x py] (.ListComp elt gs scope pos) spos =>
    if locB c x then (ixOf c.N x).bind fun i => (eComp c D elt gs scope).map fun m => sSet i m else none
  | .Assign [.Name x _] e _ => if locB c x && notComp e then (ixOf c.N x).bind fun i => ((D c).E e).map fun m => sSet i m else none
  | .Assign [.Tuple ts k p] e _ => if notTup e && notComp e then (gOf c 9 (.Tuple ts k p)).bind fun g => ((D c).E e).map fun m => sAsg g.1 m else none
  | .Assign [.Subscript o i _] e _ => if notComp e && notSl i then ((D c).E o).bind fun mo => ((D c).E i).bind fun mi => ((D c).E e).map fun mv => sSub mo mi mv else none
  | .Assign [.Attribute o a _] e _ => if notComp e then (ixOf c.lw.ats a).bind fun k => ((D c).E o).bind fun mo => ((D c).E e).map fun mv => sPut c.lw.flds k mo mv else none
  | .AugAssign (.Attribute o a _) .Add e _ => (ixOf c.lw.ats a).bind fun k => ((D c).E o).bind fun mo => ((D c).E e).map fun mv => sPutAug c.lw.flds k (oII cAny fun i j => .int (i + j)) mo mv
  | .Raise (some (.Call (.Name x _) [a] [] _)) none _ => if glB c x && nmB x && notStar a && !c.hot && decide (1 ≤ c.lvl) then (errOf c x).bind fun k => (eAs (D c).E [a]).map fun m => sRaise k m else none
  | .Try body [.ExceptHandler (some (.Name x _)) (some n) (b₀ :: suite) _] [] [] _ =>
    if glB c x && nmB x && c.dfn && !c.hot && decide (c.sc.names.lookup n = some .local) then
      (exmOf c x).bind fun t => (ixOf c.N n).bind fun i => (eSs (D c).S body).bind fun mb => (eSs (D (hotCt c)).S (b₀ :: suite)).map fun ms => sTryAs (fun k => t.lookup k) i mb ms
    else none
  | .Try body (h₀ :: hds) [] [] _ =>
    if c.dfn && !c.hot then (eSs (D c).S body).bind fun mb => (eHds c D (h₀ :: hds)).map fun l => sTryM (l.map fun q => (fun k => q.1.lookup k, q.2)) mb
    else none
  | .AugAssign (.Name x _) .Add e _ => if locB c x then (ixOf c.N x).bind fun i => ((D c).E e).map fun m => sAug i oAddA m else none
  | _ => none
noncomputable def stepD (c : Ct) (D : Ct → Den) : Den := ⟨stepE c D, stepT c D, stepS c D⟩
noncomputable def den : Nat → Ct → Den
  | 0, _ => Den.no
  | n + 1, c => stepD c (den n)

section
variable {W : Wd} {Wx : WX} {X : Cx} {c : Ct} {pos p : Pos} {x : Str} {H H0 H1 : Hp} {φ : Emb} {h : PH} {σ : L2.St} {Q : VK} {D : Ct → Den}
theorem freeB_ok (A : At W Wx c X) (e : freeB c x = true) : X.mg x = none := by
  obtain ⟨y, hy, e⟩ := List.any_eq_true.mp e
  have := of_decide_eq_true e
  subst this
  exact A.lw.free _ hy
theorem find_name {α : Type} {l : List α} {g : α → Str} {y : α} (e : (l.find? fun q => decide (g q = x)) = some y) : y ∈ l ∧ g y = x := by
  have h := List.find?_some e
  exact ⟨List.mem_of_find?_eq_some e, of_decide_eq_true h⟩
theorem At.mon (A : At W Wx c X) (hh : c.hot = false) {k : Nat} (h : k ≤ c.lvl) : Room k X.A := (A.room hh).mono h
theorem isoOf_ok (A : At W Wx c X) {y : Str} {t : List (Nat × Bool)} (e : isoOf c y = some t) : IsoT X.mg W.K W.cA y t := by
  unfold isoOf at e
  obtain ⟨q, e1, rfl⟩ := Option.map_eq_some_iff.mp e
  obtain ⟨h1, h2⟩ := find_name (g := fun q : Str × List (Nat × Bool) => q.1) e1
  have := A.lw.iso q h1
  have h2 : q.1 = y := h2
  rw [h2] at this
  exact this
theorem oEqO_no {eqs : List (Nat × FnI)} {neg : Bool} {x y : PV} {h : PH} : ∀ c p h', oEqO eqs neg x y h ≠ .ex c p h' := by
  have h1 : ∀ {b : Option Bool} {h : PH} c p h', oB b h ≠ .ex c p h' := fun {b h} c p h' => by
    cases b <;> exact fun z => nomatch z
  have h2 : ∀ c p h', (if neg then oNe x y h else oEq x y h) ≠ .ex c p h' := fun c p h' => by
    cases neg with
    | true => exact h1 c p h'
    | false => exact h1 c p h'
  intro c p h'
  unfold oEqO
  cases clsN h x with
  | none => exact h2 c p h'
  | some k =>
    dsimp only
    cases eqs.lookup k with
    | none => exact h2 c p h'
    | some F =>
      dsimp only
      split
      · split <;> exact fun z => nomatch z
      · exact fun z => nomatch z
theorem eqO_r {eqs : List (Nat × FnI)} {neg : Bool} {φ : Emb} {H H1 H2 : Hp} {h : PH} {x y : PV} {v u : V} {σ : L2.St} {Q : VK} (hr : HR W φ H h) (r1 : RR W φ H1 H x v) (r2 : RR W φ H2 H y u) (q : ResG W Wx (rE W) σ φ H (oEqO eqs neg x y h) Q) : rEqO W eqs neg v u H Q := by
  refine ⟨φ, h, x, y, H1, H2, hr, r1, r2, ?_⟩
  have no := oEqO_no (eqs := eqs) (neg := neg) (x := x) (y := y) (h := h)
  revert q no
  cases oEqO eqs neg x y h with
  | ok z h' => exact fun q _ => q
  | ex c p h' => exact fun _ no => absurd rfl (no c p h')
  | bad => exact fun q _ => q
theorem eCmpO_r (A : At W Wx c X) {op : CmpOp} {ma mb m : MG PV} (e : eCmpO c op ma mb = some m) : ∃ (g : PV → PV → PH → RG PV) (r : R2), m = mB g ma mb ∧ OpR X (compareOp op) r ∧
    ∀ {φ H H1 H2 h x y v u σ Q}, HR W φ H h → RR W φ H1 H x v → RR W φ H2 H y u → ResG W Wx (rE W) σ φ H (g x y h) Q → r v u H Q := by
  have base : ∀ {op : CmpOp}, eCmp op ma mb = some m → ∃ (g : PV → PV → PH → RG PV) (r : R2), m = mB g ma mb ∧ OpR X (compareOp op) r ∧
    ∀ {φ H H1 H2 h x y v u σ Q}, HR W φ H h → RR W φ H1 H x v → RR W φ H2 H y u → ResG W Wx (rE W) σ φ H (g x y h) Q → r v u H Q := fun e => eCmp_r (Wx := Wx) A.hK A.hw A.units e
  have T : c.hot = false → EqsT X.prog X.w X.mg X.base W X.A c.eqs := fun hh p hp => ⟨(A.eqs p hp).1, (A.room hh).mono (A.eqs p hp).2⟩
  unfold eCmpO at e
  split at e
  · split at e
    · exact base e
    · rename_i hc
      cases e
      rw [Bool.or_eq_true] at hc
      exact ⟨_, _, rfl, op_eqO (neg := false) A.hK A.units (T (by simpa using fun z => hc (.inr z))), fun hr r1 r2 q => eqO_r hr r1 r2 q⟩
  · split at e
    · exact base e
    · rename_i hc
      cases e
      rw [Bool.or_eq_true] at hc
      exact ⟨_, _, rfl, op_eqO (neg := true) A.hK A.units (T (by simpa using fun z => hc (.inr z))), fun hr r1 r2 q => eqO_r hr r1 r2 q⟩
  · exact base e
theorem fnOf_ok (A : At W Wx c X) {n : Nat} {F : FnI} (hh : c.hot = false) (e : fnOf c x n = some F) : F.name = x ∧ FnT X.prog X.w X.mg X.base W F ∧ Room F.k X.A := by
  unfold fnOf at e
  rw [hh, if_neg (by simp)] at e
  have h1 := List.find?_some e
  have h2 := List.mem_of_find?_eq_some e
  rw [Bool.and_eq_true, Bool.and_eq_true] at h1
  exact ⟨of_decide_eq_true h1.1.1, (A.fns F h2).1, A.mon hh (of_decide_eq_true h1.2)⟩
theorem fnOf_hot (A : At W Wx c X) {n : Nat} {F : FnI} (hh : c.hot = true) (e : fnOf c x n = some F) : F.name = x ∧ n ≠ 0 ∧ ∃ p, HotP W X p ∧ L2H.RoomH F.k X.A ∧ FnHT X.prog X.w X.mg X.base W p F := by
  unfold fnOf at e
  rw [hh, if_pos rfl] at e
  split at e
  · cases e
  · rename_i hn
    obtain ⟨h2, h1⟩ := find_name (g := FnI.name) e
    obtain ⟨p, q1, q2, q3⟩ := A.hotR hh
    obtain ⟨q4, q5⟩ := q3 F h2
    exact ⟨h1, hn, p, q1, q2.mono q4, q5⟩
theorem dcN_ok (A : At W Wx c X) {e : Expr} {t : List (List Nat × Int)} (q : dcN c e = some t) : ∃ x p, e = .Name x p ∧ Gl X x ∧ (x == ("__debug__" : Str)) = false ∧ DcT X.prog X.w X.mg X.K x t := by
  unfold dcN at q
  split at q
  · rename_i x p
    split at q
    · rename_i hx
      rw [Bool.and_eq_true] at hx
      obtain ⟨n1, n2, n3⟩ := nmB_ok hx.1
      unfold dcOf at q
      obtain ⟨y, e1, rfl⟩ := Option.map_eq_some_iff.mp q
      have h1 := List.mem_of_find?_eq_some e1
      have h2 : y.1 = x := by simpa using List.find?_some e1
      have h3 := A.lw.dcs y h1
      rw [h2] at h3
      exact ⟨x, p, rfl, A.gl hx.2, n1, by rw [A.hw, A.hK]; exact h3⟩
    · cases q
  · cases q
theorem errOf_ok (A : At W Wx c X) {k : Nat} (e : errOf c x = some k) : ErrT X.prog X.mg W.K x (W.cA k) := by
  obtain ⟨q, e1, rfl⟩ := Option.map_eq_some_iff.mp e
  obtain ⟨h1, rfl⟩ := find_name (g := fun q : Str × Nat => q.1) e1
  exact (A.lw.errs q h1).1
theorem exmOf_ok (A : At W Wx c X) {t : List (Nat × Bool)} (e : exmOf c x = some t) : ExmT X.mg W.K W.cA x t := by
  obtain ⟨q, e1, rfl⟩ := Option.map_eq_some_iff.mp e
  obtain ⟨h1, rfl⟩ := find_name (g := fun q : Str × List (Nat × Bool) => q.1) e1
  exact A.lw.exm q h1
theorem kindOf_ok (A : At W Wx c X) {t : List (Nat × Bool)} (e : kindOf c x = some t) : KindT X.mg W.K W.cA x t := by
  obtain ⟨q, e1, rfl⟩ := Option.map_eq_some_iff.mp e
  obtain ⟨h1, rfl⟩ := find_name (g := fun q : Str × List (Nat × Bool) => q.1) e1
  exact A.lw.isx q h1
theorem mkOf_ok (A : At W Wx c X) {M : MkI} (hh : c.hot = false) (e : mkOf c x = some M) : M.name = x ∧ MkT X.prog X.w X.mg X.base W M ∧ Room (M.F.k + 1) X.A ∧ M.ks = [] := by
  have h2 := List.find?_some e
  have h1 := List.mem_of_find?_eq_some e
  rw [Bool.and_eq_true] at h2
  exact ⟨of_decide_eq_true h2.1, (A.mks M h1).1, A.mon hh (A.mks M h1).2, List.isEmpty_iff.mp h2.2⟩
theorem mkkOf_ok (A : At W Wx c X) {M : MkI} {kws : List Keyword} (hh : c.hot = false) (e : mkkOf c x kws = some M) : M.name = x ∧ MkT X.prog X.w X.mg X.base W M ∧ Room (M.F.k + 1) X.A ∧ M.ks ≠ [] ∧ kws.map kwN = M.ks.map some := by
  have h2 := List.find?_some e
  have h1 := List.mem_of_find?_eq_some e
  rw [Bool.and_eq_true, Bool.and_eq_true] at h2
  refine ⟨of_decide_eq_true h2.1.1, (A.mks M h1).1, A.mon hh (A.mks M h1).2, fun z => ?_, of_decide_eq_true h2.2⟩
  have := h2.1.2
  rw [z] at this
  cases this
mutual
theorem gOf_ok (A : At W Wx c X) : ∀ (n : Nat) {e : Expr} {g : TgP × List Nat}, gOf c n e = some g → PG X e (tGt W g.2 g.1)
  | 0, _, _, e => by unfold gOf at e; cases e
  | n + 1, t, g, e => by
    unfold gOf at e
    split at e
    · cases e
    · split at e
      · rename_i hl
        obtain ⟨i, e1, rfl⟩ := Option.map_eq_some_iff.mp e
        obtain ⟨h1, h2⟩ := A.loc hl
        exact z_gn (by rw [A.hN]; exact A.nd) (by rw [A.hN]; exact ixOf_ok e1) h1 h2
      · cases e
    · split at e
      · rename_i hs
        obtain ⟨q, e1, rfl⟩ := Option.map_eq_some_iff.mp e
        rename_i m es k ps hm
        cases hm
        rw [Bool.and_eq_true] at hs
        obtain ⟨h1, h2⟩ := gsOf_ok A _ e1 hs.1
        exact z_gt A.hK (A.calm (by simpa using hs.2)) h1 h2 asg_len (asg_find hs.1)
      · cases e
    · cases e
theorem gsOf_ok (A : At W Wx c X) : ∀ (n : Nat) {es : List Expr} {g : (List PV → Sl → Option Sl) × List Nat}, gsOf c n es = some g → es.all notStar = true → PGs X es (tGts W g.2 g.1) ∧ ∀ xs env env', g.1 xs env = some env' → xs.length = es.length
  | 0, _, _, e, _ => by unfold gsOf at e; cases e
  | n + 1, t, g, e, hs => by
    unfold gsOf at e
    split at e
    · cases e
    · cases e
      exact ⟨z_gsn, fun xs env env' q => by
        cases xs with
        | nil => rfl
        | cons x r => cases q⟩
    · obtain ⟨p, e1, e⟩ := Option.bind_eq_some_iff.mp e
      obtain ⟨q, e2, rfl⟩ := Option.map_eq_some_iff.mp e
      rename_i m e' es hm _
      cases hm
      rw [List.all_cons, Bool.and_eq_true] at hs
      obtain ⟨h1, h2⟩ := gsOf_ok A _ e2 hs.2
      refine ⟨z_gsc (gOf_ok A _ e1) h1 (asg_cons hs.1), fun xs env env' k => ?_⟩
      cases xs with
      | nil => cases k
      | cons x r =>
        obtain ⟨env1, k1, k2⟩ := Option.bind_eq_some_iff.mp (show (p.1 x env).bind (fun env' => q.1 r env') = some env' from k)
        rw [List.length_cons, List.length_cons, h2 _ _ _ k2]
end
theorem z_neg {e : Expr} {m : MG PV} (he : PE X e (tE W Wx m)) : PE X (.UnaryOp .USub e pos) (tE W Wx (mU oNeg m)) := PE.imp (pe_un un_neg he) fun σ H Q q => u1 (fun {φ H H1 h x v σ Q} hr r q => by
  cases x with
  | int i =>
    have r := r.rep (fun _ => by simp)
    rw [Rep] at r; subst r
    exact ⟨i, rfl, res_int hr q⟩
  | _ => exact q.elim) q
theorem eIter_ok (A : At W Wx c X) {tg e : Expr} {f : Expr → Option (MG PV)} {m : MG Src} (hf : ∀ e m, f e = some m → PE X e (tE W Wx m)) (q : eIter c f e = some m) : PI X tg e (tI W Wx m) := by
  have plain : (f e).map iSeq = some m → PI X tg e (tI W Wx m) := fun q => by
    obtain ⟨a, e1, rfl⟩ := Option.map_eq_some_iff.mp q
    exact z_iseq A.hK (hf _ _ e1)
  unfold eIter at q
  split at q
  · split at q
    · rename_i hx
      subst hx
      split at q
      · rename_i hg
        rw [Bool.and_eq_true] at hg
        split at q
        · obtain ⟨as, e1, rfl⟩ := Option.map_eq_some_iff.mp q
          obtain ⟨h1, h2⟩ := eAs_ok hf e1
          rw [List.all_cons, Bool.and_eq_true] at h2
          exact z_irg1 (A.gl hg.2) (freeB_ok A hg.1) h1 (star_cons h2.1)
        · obtain ⟨as, e1, rfl⟩ := Option.map_eq_some_iff.mp q
          obtain ⟨h1, h2⟩ := eAs_ok hf e1
          rw [List.all_cons, List.all_cons, Bool.and_eq_true, Bool.and_eq_true] at h2
          exact z_irg2 (A.gl hg.2) (freeB_ok A hg.1) h1 (by rw [star_cons h2.1, star_cons h2.2.1]; rfl) (star_cons h2.2.1)
        · cases q
      · cases q
    · exact plain q
  · split at q
    · rename_i tbl et
      cases q
      obtain ⟨x, p, rfl, hg, hd, T⟩ := dcN_ok A et
      exact z_idk A.hK T hg hd
    · exact plain q
/-- a comprehension's block -/
theorem takesN0 {X : Cx} : L2N.Takes X (fun _ _ _ _ => False) := fun _ _ ⟨_, _, _, _, _, _, _, _, _, _, _, _, _, _, _, _, w⟩ => w.elim
theorem At.blk (A : At W Wx c X) (hh : c.hot = false) {scope : Scope} (hk : scope.kind = .function) {s : Shared} {H : Hp} {C : Addr} {cl : List (Str × Addr)} {fp : List Addr} : At W Wx0 (blkCt c scope) (X.blk s H scope (compEnvC scope cl C X.env) fp) where
  hN := A.hN
  sc := by unfold blkCt; rw [← A.sc]; rfl
  hK := A.hK
  hw := A.hw
  calm := fun _ => A.calm hh
  nE := fun _ => A.nE hh
  units := A.units
  room := fun _ => A.room hh
  own := PassesOwn.never
  tk := takesN0
  lw := A.lw
  fns := A.fns
  mets := A.mets
  mks := A.mks
  eqs := A.eqs
  hfns := fun _ => A.hfns hh
  hotR := fun z => by
    have z : c.hot = true := z
    rw [hh] at z; cases z
  nd := A.nd
  dfn := fun z => nomatch z
  kind := hk
structure CompR (W : Wd) (Wx : WX) (X : Cx) (c : Ct) (elt : Expr) (gs : List Comprehension) (scope : Scope) (m : MG PV) : Prop where
  hh : c.hot = false
  ex : ∃ (tg iter : Expr) (ifs : List Expr) (g : TgP) (js : List Nat) (mi : MG Src) (mt : MG Bool) (me : MG PV), gs = [⟨tg, iter, ifs, 0⟩] ∧ BlkOk X.N X.env.scope scope (ownOf c.N scope) ∧ (∀ x, foldedSetIterable iter X.env x = pure x) ∧ PI X tg iter (tI W Wx mi) ∧
    (∀ j ∈ js, j ∈ (ownOf c.N scope).map (·.2)) ∧ m = mLC mi g ((ownOf c.N scope).map (·.2)) mt me ∧
    (∀ (s : Shared) (H : Hp) (C : Addr) (cl : List (Str × Addr)) (fp : List Addr), PG (X.blk s H scope (compEnvC scope cl C X.env) fp) tg (tGt W js g)) ∧
    (∀ (s : Shared) (H : Hp) (C : Addr) (cl : List (Str × Addr)) (fp : List Addr), PTs (X.blk s H scope (compEnvC scope cl C X.env) fp) ifs (tT W Wx0 mt)) ∧
    (∀ (s : Shared) (H : Hp) (C : Addr) (cl : List (Str × Addr)) (fp : List Addr), PE (X.blk s H scope (compEnvC scope cl C X.env) fp) elt (tE W Wx0 me))
theorem pts_true : PTs X [] (tT W Wx tTrue) := ⟨fun pins s σ H Q I ⟨φ, env, h, sr, r, q⟩ => pts_nil.run pins s σ H Q I (q φ true H .refl r rfl)⟩
theorem eComp_ok (A : At W Wx c X) (hD : ∀ (W : Wd) (c : Ct) (X : Cx) (Wx : WX), At W Wx c X → DenOk W Wx X (D c)) {elt : Expr} {gs : List Comprehension} {scope : Scope} {m : MG PV} (q : eComp c D elt gs scope = some m) : CompR W Wx X c elt gs scope m := by
  unfold eComp at q
  split at q
  · rename_i tg iter ifs as
    split at q
    · rename_i hc
      obtain ⟨rfl, hh, hb, hns⟩ := hc
      obtain ⟨g, e1, q⟩ := Option.bind_eq_some_iff.mp q
      split at q
      · rename_i hj
        obtain ⟨mi, e2, q⟩ := Option.bind_eq_some_iff.mp q
        obtain ⟨mt, e3, q⟩ := Option.bind_eq_some_iff.mp q
        obtain ⟨me, e4, rfl⟩ := Option.map_eq_some_iff.mp q
        have bo : BlkOk X.N X.env.scope scope (ownOf c.N scope) := by rw [A.hN, A.sc]; exact blkOk_by hb
        have AB := fun (s : Shared) (H : Hp) (C : Addr) (cl : List (Str × Addr)) (fp : List Addr) => A.blk hh (s := s) (H := H) (C := C) (cl := cl) (fp := fp) bo.kind
        refine ⟨hh, tg, iter, ifs, g.1, g.2, mi, mt, me, rfl, bo, fun x => folded_no hns, eIter_ok A (hD W c X Wx A).E e2, fun j hj' => ?_, rfl, fun s H C cl fp => gOf_ok (AB s H C cl fp) _ e1, fun s H C cl fp => ?_, fun s H C cl fp => (hD _ _ _ _ (AB s H C cl fp)).E _ _ e4⟩
        · obtain ⟨y, hy, ey⟩ := List.any_eq_true.mp (List.all_eq_true.mp hj j hj')
          have := of_decide_eq_true ey
          subst this
          exact List.mem_map.mpr ⟨y, hy, rfl⟩
        · split at e3
          · cases e3; exact pts_true
          · exact pts_one ((hD _ _ _ _ (AB s H C cl fp)).T _ _ e3)
          · cases e3
      · cases q
    · cases q
  · cases q
theorem eComp2_ok (A : At W Wx c X) (hD : ∀ (W : Wd) (c : Ct) (X : Cx) (Wx : WX), At W Wx c X → DenOk W Wx X (D c)) {elt : Expr} {gs : List Comprehension} {scope : Scope} {m : MG PV} (q : eComp2 c D elt gs scope = some m) : PE X (.ListComp elt gs scope pos) (tE W Wx m) := by
  unfold eComp2 at q
  split at q
  · rename_i tg iter ifs as tg1 iter1 ifs1 as1
    split at q
    · rename_i hc
      obtain ⟨rfl, rfl, hh, hb, hns, hns1⟩ := hc
      obtain ⟨g, e1, q⟩ := Option.bind_eq_some_iff.mp q
      obtain ⟨g1, e11, q⟩ := Option.bind_eq_some_iff.mp q
      split at q
      · rename_i hj
        rw [Bool.and_eq_true] at hj
        obtain ⟨mi, e2, q⟩ := Option.bind_eq_some_iff.mp q
        obtain ⟨mi1, e21, q⟩ := Option.bind_eq_some_iff.mp q
        obtain ⟨mt, e3, q⟩ := Option.bind_eq_some_iff.mp q
        obtain ⟨mt1, e31, q⟩ := Option.bind_eq_some_iff.mp q
        obtain ⟨me, e4, rfl⟩ := Option.map_eq_some_iff.mp q
        have bo : BlkOk X.N X.env.scope scope (ownOf c.N scope) := by rw [A.hN, A.sc]; exact blkOk_by hb
        have AB := fun (s : Shared) (H : Hp) (C : Addr) (cl : List (Str × Addr)) (fp : List Addr) => A.blk hh (s := s) (H := H) (C := C) (cl := cl) (fp := fp) bo.kind
        have mem : ∀ {l : List Nat}, l.all (fun j => (ownOf c.N scope).any fun (y : Str × Nat) => decide (y.2 = j)) = true → ∀ j ∈ l, j ∈ (ownOf c.N scope).map (·.2) := fun {l} hj j hj' => by
          obtain ⟨y, hy, ey⟩ := List.any_eq_true.mp (List.all_eq_true.mp hj j hj')
          have := of_decide_eq_true ey
          subst this
          exact List.mem_map.mpr ⟨y, hy, rfl⟩
        refine z_lc2 (A.calm hh) (by rw [A.hN]; exact A.nd) (eIter_ok A (hD W c X Wx A).E e2) bo (mem hj.2) (fun s H C cl fp => gOf_ok (AB s H C cl fp) _ e1) (fun s H C cl fp => ?_) (fun s H C cl fp => eIter_ok (AB s H C cl fp) (hD _ _ _ _ (AB s H C cl fp)).E e21) (fun s H C cl fp => gOf_ok (AB s H C cl fp) _ e11) (fun s H C cl fp => ?_) (fun s H C cl fp => (hD _ _ _ _ (AB s H C cl fp)).E _ _ e4) (fun x => folded_no hns) (fun env x => folded_no hns1) (mem hj.1)
        · split at e3
          · cases e3; exact pts_true
          · exact pts_one ((hD _ _ _ _ (AB s H C cl fp)).T _ _ e3)
          · cases e3
        · split at e31
          · cases e31; exact pts_true
          · exact pts_one ((hD _ _ _ _ (AB s H C cl fp)).T _ _ e31)
          · cases e31
      · cases q
    · cases q
  · cases q
theorem CompR.pe (A : At W Wx c X) {elt : Expr} {gs : List Comprehension} {scope : Scope} {m : MG PV} (r : CompR W Wx X c elt gs scope m) : PE X (.ListComp elt gs scope pos) (tE W Wx m) := by
  obtain ⟨tg, iter, ifs, g, js, mi, mt, me, rfl, bo, fo, pi, hj, rfl, hg, ht, he⟩ := r.ex
  exact z_lc (A.calm r.hh) (by rw [A.hN]; exact A.nd) pi bo hg ht he fo hj
theorem eKs_ok {f : Expr → Option (MG PV)} (hf : ∀ e m, f e = some m → PE X e (tE W Wx m)) : ∀ {kws : List Keyword} {ms : MG (List PV)}, eKs f kws = some ms → L2.PK X kws (tA W Wx ms)
  | [], ms, q => by
    unfold eKs at q
    cases q
    exact z_knil
  | ⟨n, e, kp⟩ :: r, ms, q => by
    unfold eKs at q
    obtain ⟨m, e1, q⟩ := Option.bind_eq_some_iff.mp q
    obtain ⟨m2, e2, rfl⟩ := Option.map_eq_some_iff.mp q
    exact z_kcons (hf _ _ e1) (eKs_ok hf e2)
theorem eCall_ok (A : At W Wx c X) {f : Expr → Option (MG PV)} (hf : ∀ e m, f e = some m → PE X e (tE W Wx m)) {fn : Expr} {args : List Expr} {m : MG PV} (q : eCall c f fn args pos = some m) : PE X (.Call fn args [] pos) (tE W Wx m) := by
  unfold eCall at q
  split at q
  · rename_i x p0
    split at q
    · rename_i hx
      rw [Bool.and_eq_true] at hx
      obtain ⟨n1, n2, n3⟩ := nmB_ok hx.1
      have hg := A.gl hx.2
      split at q
      · rename_i hfr
        have hm := freeB_ok A hfr
        have gen : ∀ {a : Expr} {as : List Expr}, args = a :: as → (if (!c.hot || coolB x) = true then (biF x args.length).bind fun g => (eRs f args).map fun as => mC g as else none) = some m → PE X (.Call (.Name x p0) args [] pos) (tE W Wx m) := fun {a as} ea q => by
          split at q
          · rename_i hcool
            obtain ⟨g, e1, q⟩ := Option.bind_eq_some_iff.mp q
            obtain ⟨r, e2, rfl⟩ := Option.map_eq_some_iff.mp q
            obtain ⟨h1, h2⟩ := eRs_ok hf e2
            subst ea
            exact biF_ok A hcool e1 hg hm hx.1 h1 h2
          · cases q
        split at q
        · rename_i a y p1
          split at q
          · rename_i hi
            subst hi
            split at q
            · rename_i hc
              rw [Bool.and_eq_true, Bool.and_eq_true] at hc
              obtain ⟨⟨c1, c2⟩, c3⟩ := hc
              obtain ⟨k1, k2, k3⟩ := nmB_ok c2
              split at q
              · rename_i hk
                rw [Bool.and_eq_true] at hk
                obtain ⟨t, e1, q⟩ := Option.bind_eq_some_iff.mp q
                obtain ⟨r, e2, rfl⟩ := Option.map_eq_some_iff.mp q
                obtain ⟨p, q1, q2, q3⟩ := A.hotR hk.1
                exact z_isX A.hK q1 (kindOf_ok A e1) (hf _ _ e2) hg hm (A.gl c3) k1 c1
              · split at q
                · rename_i c5
                  obtain ⟨T, e1, q⟩ := Option.bind_eq_some_iff.mp q
                  obtain ⟨r, e2, rfl⟩ := Option.map_eq_some_iff.mp q
                  exact z_isiC (hf _ _ e2) A.hK.symm (isoOf_ok A e1) hg hm (A.gl c3) k1 (star_cons c1)
                split at q
                · rename_i c4
                  obtain ⟨T, e1, q⟩ := Option.bind_eq_some_iff.mp q
                  obtain ⟨r, e2, rfl⟩ := Option.map_eq_some_iff.mp q
                  exact z_isiB (hf _ _ e2) A.hK.symm hg hm (A.gl c3) (freeB_ok A c4) (tyF_ok e1) k3 k1 (star_cons c1)
                · cases q
            · cases q
          · exact gen rfl q
        · exact gen rfl q
        · cases q
      · split at q
        · split at q
          · cases q
          · rename_i hh
            obtain ⟨M, e1, q⟩ := Option.bind_eq_some_iff.mp q
            obtain ⟨r, e2, rfl⟩ := Option.map_eq_some_iff.mp q
            obtain ⟨h1, h2⟩ := eAs_ok hf e2
            obtain ⟨rfl, T, hr, hks⟩ := mkOf_ok A (by simpa using hh) e1
            cases args with
            | nil => cases e2; exact z_make0 T hks A.hK hr A.tk hg n1
            | cons a as => exact z_make T hks A.hK hr A.tk hg h1 h2 n1
        · obtain ⟨F, e1, q⟩ := Option.bind_eq_some_iff.mp q
          obtain ⟨r, e2, rfl⟩ := Option.map_eq_some_iff.mp q
          obtain ⟨h1, h2⟩ := eAs_ok hf e2
          by_cases hh : c.hot = true
          · obtain ⟨rfl, nz, p, q1, q2, T⟩ := fnOf_hot A hh e1
            cases args with
            | nil => exact absurd rfl nz
            | cons a as =>
              have s := h2
              rw [List.all_cons, Bool.and_eq_true] at s
              exact z_callH T A.hK q1 q2 A.tk hg h1 n1 (star_cons s.1) (star_any s.2)
          · obtain ⟨rfl, T, hr⟩ := fnOf_ok A (by simpa using hh) e1
            cases args with
            | nil =>
              cases e2
              exact z_call0 T A.hK hr A.tk hg n1
            | cons a as =>
              have s := h2
              rw [List.all_cons, Bool.and_eq_true] at s
              exact z_call T A.hK hr A.tk hg h1 n1 (star_cons s.1) (star_any s.2)
    · cases q
  · rename_i o mn apos
    split at q
    · rename_i hc
      rw [Bool.and_eq_true, Bool.and_eq_true] at hc
      obtain ⟨⟨c1, c2⟩, c3⟩ := hc
      have c2 := of_decide_eq_true c2
      split at q
      · split at q
        · cases q
        · rename_i hh
          split at q
          · rename_i hst
            obtain ⟨k, e1, q⟩ := Option.bind_eq_some_iff.mp q
            obtain ⟨mo, e2, q⟩ := Option.bind_eq_some_iff.mp q
            obtain ⟨as, e3, rfl⟩ := Option.map_eq_some_iff.mp q
            obtain ⟨h1, h2⟩ := eAs_ok hf e3
            have hh' : c.hot = false := by simpa using hh
            have hT : MetsT X.prog X.w X.mg X.base W X.A c.mets := fun M hM => ⟨(A.mets M hM).1, A.mon hh' (A.mets M hM).2⟩
            cases args with
            | nil => cases e3; exact z_met0 A.hK A.lw.inj hT A.tk (hf _ _ e2) (A.lw.ats _ _ (ixOf_ok e1)) c1 c3
            | cons a as => exact z_met A.hK A.lw.inj hT A.tk (hf _ _ e2) h1 (A.lw.ats _ _ (ixOf_ok e1)) h2 c1 c2 c3
          · cases q
      split at q
      · split at q
        · rename_i hm
          subst hm
          obtain ⟨mo, e1, q⟩ := Option.bind_eq_some_iff.mp q
          obtain ⟨as, e2, rfl⟩ := Option.map_eq_some_iff.mp q
          obtain ⟨h1, h2⟩ := eAs_ok hf e2
          exact z_meth A.hK.symm (A := rA W) (fun z => z) PySem.F.plainAttrs_list PySem.F.slot_list_append (fun z => nomatch z) PySem.F.type_list_append mt_append m_app (hf _ _ e1) h1 h2 c1 c2 c3
        split at q
        · rename_i hm
          subst hm
          obtain ⟨mo, e1, q⟩ := Option.bind_eq_some_iff.mp q
          obtain ⟨as, e2, rfl⟩ := Option.map_eq_some_iff.mp q
          obtain ⟨h1, h2⟩ := eRs_ok hf e2
          exact z_meth A.hK.symm (A := rR W) (fun z => z) PySem.F.plainAttrs_list PySem.F.slot_list_extend (fun z => nomatch z) PySem.F.type_list_extend mt_extend m_ext (hf _ _ e1) h1 h2 c1 c2 c3
        split at q
        · rename_i hm
          subst hm
          obtain ⟨mo, e1, q⟩ := Option.bind_eq_some_iff.mp q
          obtain ⟨as, e2, rfl⟩ := Option.map_eq_some_iff.mp q
          obtain ⟨h1, h2⟩ := eRs_ok hf e2
          exact z_meth A.hK.symm (A := rR W) (fun z => z) PySem.F.plainAttrs_str PySem.F.slot_str_split (fun z => nomatch z) PySem.F.type_str_split mt_split m_spl (hf _ _ e1) h1 h2 c1 c2 c3
        split at q
        · rename_i hm
          subst hm
          obtain ⟨mo, e1, q⟩ := Option.bind_eq_some_iff.mp q
          obtain ⟨as, e2, rfl⟩ := Option.map_eq_some_iff.mp q
          obtain ⟨h1, h2⟩ := eRs_ok hf e2
          exact z_meth A.hK.symm (A := rR W) (fun z => z) PySem.F.plainAttrs_str PySem.F.slot_str_join (fun z => nomatch z) PySem.F.type_str_join mt_join (m_join A.hK.symm) (hf _ _ e1) h1 h2 c1 c2 c3
        split at q
        · rename_i hm
          rw [Bool.and_eq_true] at hm
          have hm1 := of_decide_eq_true hm.1
          subst hm1
          obtain ⟨mo, e1, q⟩ := Option.bind_eq_some_iff.mp q
          obtain ⟨as, e2, rfl⟩ := Option.map_eq_some_iff.mp q
          obtain ⟨h1, h2⟩ := eAs_ok hf e2
          exact z_meth A.hK.symm (A := rA W) (fun z => z) PySem.F.plainAttrs_list PySem.F.slot_list_index (fun z => nomatch z) PySem.F.type_list_index (mt_idx A.units A.hK) m_idx (hf _ _ e1) h1 h2 c1 c2 c3
        split at q
        · rename_i hm
          rw [Bool.and_eq_true] at hm
          have hm1 := of_decide_eq_true hm.1
          subst hm1
          obtain ⟨mo, e1, q⟩ := Option.bind_eq_some_iff.mp q
          obtain ⟨as, e2, rfl⟩ := Option.map_eq_some_iff.mp q
          obtain ⟨h1, h2⟩ := eAs_ok hf e2
          exact z_methD PySem.F.slot_dict_get PySem.F.type_dict_get (mt_dget A.units A.hK A.hw) m_dget (hf _ _ e1) h1 h2 c1 c2 c3
        split at q
        · rename_i hm
          rw [Bool.and_eq_true] at hm
          have hm1 := of_decide_eq_true hm.1
          subst hm1
          obtain ⟨mo, e1, q⟩ := Option.bind_eq_some_iff.mp q
          obtain ⟨as, e2, rfl⟩ := Option.map_eq_some_iff.mp q
          obtain ⟨h1, h2⟩ := eAs_ok hf e2
          exact z_methD PySem.F.slot_dict_pop PySem.F.type_dict_pop (mt_dpop A.units A.hK A.hw) m_dpop (hf _ _ e1) h1 h2 c1 c2 c3
        · cases q
      · split at q
        · rename_i hm
          subst hm
          obtain ⟨mo, e1, rfl⟩ := Option.map_eq_some_iff.mp q
          exact z_pop A.hK.symm (hf _ _ e1) c1 c3
        split at q
        · rename_i hm
          subst hm
          obtain ⟨mo, e1, rfl⟩ := Option.map_eq_some_iff.mp q
          exact z_low (hf _ _ e1) c1 c3
        split at q
        · rename_i hm
          subst hm
          obtain ⟨mo, e1, rfl⟩ := Option.map_eq_some_iff.mp q
          exact z_up (hf _ _ e1) c1 c3
        · cases q
    · cases q
  · cases q
theorem stepE_ok (A : At W Wx c X) (hD : ∀ (W : Wd) (c : Ct) (X : Cx) (Wx : WX), At W Wx c X → DenOk W Wx X (D c)) {e : Expr} {m : MG PV} (q : stepE c D e = some m) : PE X e (tE W Wx m) := by
  have E := (hD W c X Wx A).E
  have T := (hD W c X Wx A).T
  have hu := A.units
  unfold stepE at q
  split at q
  · exact eConst_ok q
  · exact eName_ok A q
  · obtain ⟨m1, e1, q⟩ := Option.bind_eq_some_iff.mp q
    obtain ⟨m2, e2, q⟩ := Option.bind_eq_some_iff.mp q
    exact eBin_ok A.hK (E _ _ e1) (E _ _ e2) q
  · obtain ⟨m1, e1, rfl⟩ := Option.map_eq_some_iff.mp q
    exact z_notV (E _ _ e1)
  · obtain ⟨m1, e1, rfl⟩ := Option.map_eq_some_iff.mp q
    exact z_neg (E _ _ e1)
  · exact eBoolV_ok E q
  · split at q
    · rename_i hs
      split at q
      · rename_i tbl et
        obtain ⟨m1, e1, rfl⟩ := Option.map_eq_some_iff.mp q
        obtain ⟨x, p, rfl, hg, hd, T⟩ := dcN_ok A et
        exact (z_din A.hK T hg hd (E _ _ e1)).1
      · rename_i tbl et
        obtain ⟨m1, e1, rfl⟩ := Option.map_eq_some_iff.mp q
        obtain ⟨x, p, rfl, hg, hd, T⟩ := dcN_ok A et
        exact (z_din A.hK T hg hd (E _ _ e1)).2.1
      · obtain ⟨m1, e1, q⟩ := Option.bind_eq_some_iff.mp q
        obtain ⟨m2, e2, q⟩ := Option.bind_eq_some_iff.mp q
        obtain ⟨g, r, rfl, h1, h2⟩ := eCmpO_r (Wx := Wx) A q
        exact z_cmp h1 h2 (E _ _ e1) (E _ _ e2) (behind_no hs)
    · cases q
  · split at q
    · rename_i hs
      obtain ⟨m1, e1, q⟩ := Option.bind_eq_some_iff.mp q
      obtain ⟨m2, e2, q⟩ := Option.bind_eq_some_iff.mp q
      obtain ⟨m3, e3, rfl⟩ := Option.map_eq_some_iff.mp q
      exact z_chain A.hK A.hw hu (E _ _ e1) (E _ _ e2) (E _ _ e3) hs
    · cases q
  · obtain ⟨mt, e0, q⟩ := Option.bind_eq_some_iff.mp q
    obtain ⟨m1, e1, q⟩ := Option.bind_eq_some_iff.mp q
    obtain ⟨m2, e2, rfl⟩ := Option.map_eq_some_iff.mp q
    exact z_if (T _ _ e0) (E _ _ e1) (E _ _ e2)
  · exact eCall_ok A E q
  · split at q
    · rename_i hc
      rw [Bool.and_eq_true, Bool.and_eq_true, Bool.and_eq_true] at hc
      obtain ⟨⟨⟨c1, c2⟩, c3⟩, c4⟩ := hc
      obtain ⟨M, e1, q⟩ := Option.bind_eq_some_iff.mp q
      obtain ⟨ms, e2, q⟩ := Option.bind_eq_some_iff.mp q
      obtain ⟨zs, e3, rfl⟩ := Option.map_eq_some_iff.mp q
      obtain ⟨rfl, T, hr, hks, hn⟩ := mkkOf_ok A (by simpa using c3) e1
      exact z_makeK T hks A.hK hr A.tk (A.gl c2) (eAs_ok E e2).1 (eKs_ok E e3) c4 hn (nmB_ok c1).1
    · cases q
  · split at q
    · rename_i hs
      split at q
      · rename_i hp
        rw [Bool.and_eq_true] at hp
        have ha := of_decide_eq_true hp.2
        subst ha
        obtain ⟨m1, e1, rfl⟩ := Option.map_eq_some_iff.mp q
        obtain ⟨p, q1, q2, q3⟩ := A.hotR hp.1
        exact z_xp A.hK q1 (fun k hk => by
          obtain ⟨y, hy, rfl⟩ := List.mem_map.mp hk
          exact (A.lw.errs y hy).2) (E _ _ e1) hs
      · obtain ⟨k, e1, q⟩ := Option.bind_eq_some_iff.mp q
        obtain ⟨m1, e2, rfl⟩ := Option.map_eq_some_iff.mp q
        exact z_fld A.hK A.lw.inj A.lw.flds (E _ _ e2) hs (A.lw.ats _ _ (ixOf_ok e1))
    · cases q
  · obtain ⟨m1, e1, q⟩ := Option.bind_eq_some_iff.mp q
    obtain ⟨l, e2, q⟩ := Option.bind_eq_some_iff.mp q
    obtain ⟨u, e3, rfl⟩ := Option.map_eq_some_iff.mp q
    exact z_sl (E _ _ e1) (ePart_ok E e2) (ePart_ok E e3) A.hK
  · obtain ⟨m1, e1, q⟩ := Option.bind_eq_some_iff.mp q
    obtain ⟨u, e2, rfl⟩ := Option.map_eq_some_iff.mp q
    exact z_rv (E _ _ e1) (ePart_ok E e2) A.hK
  · split at q
    · rename_i hs
      split at q
      · rename_i tbl et
        obtain ⟨m1, e1, rfl⟩ := Option.map_eq_some_iff.mp q
        obtain ⟨x, p, rfl, hg, hd, T⟩ := dcN_ok A et
        exact z_dix A.hK T hg hd (E _ _ e1) (plain_ix hs)
      obtain ⟨m1, e1, q⟩ := Option.bind_eq_some_iff.mp q
      obtain ⟨m2, e2, rfl⟩ := Option.map_eq_some_iff.mp q
      exact z_ix (E _ _ e1) (E _ _ e2) (plain_ix hs) A.units A.hK A.hw
    · cases q
  · cases q
    exact z_dnew A.hw
  · obtain ⟨m1, e1, rfl⟩ := Option.map_eq_some_iff.mp q
    exact z_tup (eAs_ok E e1).1
  · obtain ⟨m1, e1, rfl⟩ := Option.map_eq_some_iff.mp q
    exact z_lst (eAs_ok E e1).1
  · split at q
    · exact eComp2_ok A hD q
    · exact (eComp_ok A hD q).pe A
  · cases q
theorem stepT_ok (A : At W Wx c X) (hD : ∀ (W : Wd) (c : Ct) (X : Cx) (Wx : WX), At W Wx c X → DenOk W Wx X (D c)) {e : Expr} {m : MG Bool} (q : stepT c D e = some m) : PT X e (tT W Wx m) := by
  have E := (hD W c X Wx A).E
  have T := (hD W c X Wx A).T
  have hu := A.units
  unfold stepT at q
  split at q
  · obtain ⟨m1, e1, rfl⟩ := Option.map_eq_some_iff.mp q
    exact z_not (T _ _ e1)
  · exact (eBoolT_ok T q).pt
  · split at q
    · rename_i hs
      split at q
      · rename_i tbl et
        obtain ⟨m1, e1, rfl⟩ := Option.map_eq_some_iff.mp q
        obtain ⟨x, p, rfl, hg, hd, T⟩ := dcN_ok A et
        exact (z_din A.hK T hg hd (E _ _ e1)).2.2.1
      · rename_i tbl et
        obtain ⟨m1, e1, rfl⟩ := Option.map_eq_some_iff.mp q
        obtain ⟨x, p, rfl, hg, hd, T⟩ := dcN_ok A et
        exact (z_din A.hK T hg hd (E _ _ e1)).2.2.2
      obtain ⟨m1, e1, q⟩ := Option.bind_eq_some_iff.mp q
      obtain ⟨m2, e2, q⟩ := Option.bind_eq_some_iff.mp q
      obtain ⟨m3, e3, rfl⟩ := Option.map_eq_some_iff.mp q
      obtain ⟨g, r, rfl, h1, h2⟩ := eCmpO_r (Wx := Wx) A e3
      exact z_cmpT h1 h2 (E _ _ e1) (E _ _ e2) (behind_no hs)
    · cases q
  · split at q
    · rename_i hs
      obtain ⟨m1, e1, q⟩ := Option.bind_eq_some_iff.mp q
      obtain ⟨m2, e2, q⟩ := Option.bind_eq_some_iff.mp q
      obtain ⟨m3, e3, rfl⟩ := Option.map_eq_some_iff.mp q
      exact z_chainT A.hK A.hw hu (E _ _ e1) (E _ _ e2) (E _ _ e3) hs
    · cases q
  · split at q
    · rename_i hp
      obtain ⟨m1, e1, rfl⟩ := Option.map_eq_some_iff.mp q
      exact z_tr (E _ _ e1) (isTrue_pl hp) A.hK
    · cases q
theorem eSs_ok {f : Stmt → Option MS} (hf : ∀ s m, f s = some m → L2.PS X s (tS W Wx m)) : ∀ {ss : List Stmt} {m : MS}, eSs f ss = some m → PSs X ss (tS W Wx m)
  | [], m, q => by cases q; exact z_ssn
  | [s], m, q => z_ss1 (hf _ _ q)
  | s :: t :: r, m, q => by
    unfold eSs at q
    obtain ⟨m1, e1, q⟩ := Option.bind_eq_some_iff.mp q
    obtain ⟨m2, e2, rfl⟩ := Option.map_eq_some_iff.mp q
    exact z_ssc (hf _ _ e1) (eSs_ok hf e2)
theorem swaps_comp (A : At W Wx c X) {x : Str} {py pos : Pos} {elt : Expr} {gs : List Comprehension} {scope : Scope} {l : Nat} : swapsWith (.ListComp elt gs scope pos) (some (.Name x py)) l X.env = pure (swB c x py.line pos.line scope) := by
  have hb : X.env.blockKind = .function := by unfold Env.blockKind; rw [A.kind]; rfl
  unfold swapsWith swB
  simp only [hb, Expr.pos, Env.kindOf, A.sc]
  congr 1
  have : (ScopeKind.function == ScopeKind.function) = true := rfl
  rw [this, Bool.true_and]
  congr 2
  cases e : c.sc.names.lookup x with
  | none => rfl
  | some k => cases k <;> rfl
theorem At.tr (A : At W Wx c X) (hh : c.hot = false) {W' : WX} {pn : List (Addr × Obj)} {xe : Value → Shared → Prop} (tk : L2N.Takes (X.tr pn xe) W') (ow : PassesOwn (model X.prog X.w) X.A X.env xe) : At W W' c (X.tr pn xe) where
  hN := A.hN
  sc := A.sc
  hK := A.hK
  hw := A.hw
  calm := A.calm
  nE := A.nE
  units := A.units
  room := A.room
  own := ow
  tk := tk
  lw := A.lw
  fns := A.fns
  mets := A.mets
  mks := A.mks
  eqs := A.eqs
  hfns := A.hfns
  hotR := fun z => by rw [hh] at z; cases z
  nd := A.nd
  dfn := A.dfn
  kind := A.kind
theorem At.suite (A : At W Wx c X) (hh : c.hot = false) {a : Addr} {oe : Obj} {cls : Value} {d : Option Addr} {pn : List (Addr × Obj)} (hz : L2N.Zn cls d oe) (hf : ∃ vs, oe.data = .fields vs) : At (W.ex (exAt W a cls d)) (fun _ _ _ _ => False) (hotCt c) (X.suite a ((a, oe) :: pn)) where
  hN := A.hN
  sc := A.sc
  hK := A.hK
  hw := A.hw
  calm := fun z => nomatch z
  nE := fun z => nomatch z
  units := A.units
  room := fun z => nomatch z
  own := PassesOwn.never
  tk := takesN0
  lw := A.lw.ex (A.nE hh) _
  fns := fun _ z => nomatch z
  mets := fun _ z => nomatch z
  mks := fun _ z => nomatch z
  eqs := fun _ z => nomatch z
  hfns := fun z => nomatch z
  hotR := fun _ => ⟨(a, oe), ⟨⟨rfl, by obtain ⟨vs, hv⟩ := hf; exact ⟨vs, hv, hz.2.2 vs hv⟩⟩, List.mem_cons_self, fun a' k d' ⟨h1, h2, h3⟩ => by subst h1 h2 h3; exact ⟨rfl, hz⟩, hf⟩, ⟨(A.room hh).dp, (A.room hh).un⟩, fun F hF => ⟨(A.hfns hh F hF).1, (A.hfns hh F hF).2 a oe cls d hz hf⟩⟩
  nd := A.nd
  dfn := A.dfn
  kind := A.kind
theorem sole_no {e t : Expr} {l : Nat} {env : Env} (h : notComp e = true) : swapsWithSole [t] e l env = pure false := by
  unfold swapsWithSole
  exact swaps_no h
theorem asg_sub {o i : Expr} {tpos : Pos} {env : Env} {v : Value} (h : notSl i = true) : assign (.Subscript o i tpos) env v = (do
      let ov ← holding [v] (eval o env)
      let iv ← holding [v, ov] (eval i env)
      standAt tpos
      holding [v, ov, iv] (setItem ov iv v)
      release [v, ov, iv] []) := by
  cases i <;> first | rfl | cases h
theorem eHds_ok (A : At W Wx c X) (hD : ∀ (W : Wd) (c : Ct) (X : Cx) (Wx : WX), At W Wx c X → DenOk W Wx X (D c)) (hh : c.hot = false) : ∀ (hds : List ExceptHandler) {l : List (List (Nat × Bool) × MS)}, eHds c D hds = some l →
    ∃ l' : List (Value × (Nat → Option Bool) × MS), (l'.map fun q => q.2) = (l.map fun q => ((fun k => q.1.lookup k), q.2)) ∧ (∀ q ∈ l', ∀ k b, q.2.1 k = some b → PySem.W.exmOne W.K (.ref (W.cA k)) q.1 = some b) ∧ L2N.HdsOk X hds (l'.map fun q => (q.1, fun a cls d => tS (W.ex (exAt W a cls d)) (fun _ _ _ _ => False) q.2.2))
  | [], l, e => by
    unfold eHds at e
    cases e
    exact ⟨[], rfl, by simp, .nil⟩
  | hd :: r, l, e => by
    unfold eHds at e
    split at e
    · rename_i z
      cases z
    · rename_i x np b₀ suite pos' r' z
      cases z
      split at e
      · rename_i hc
        rw [Bool.and_eq_true] at hc
        obtain ⟨t, e1, e⟩ := Option.bind_eq_some_iff.mp e
        obtain ⟨ms, e2, e⟩ := Option.bind_eq_some_iff.mp e
        obtain ⟨l2, e3, rfl⟩ := Option.map_eq_some_iff.mp e
        obtain ⟨cv, h1, h2⟩ := exmOf_ok A e1
        obtain ⟨l', i1, i2, i3⟩ := eHds_ok A hD hh r e3
        refine ⟨(cv, (fun k => t.lookup k), ms) :: l', by rw [List.map_cons, List.map_cons, i1], fun q hq => ?_, ?_⟩
        · rcases List.mem_cons.mp hq with rfl | hq
          · exact fun k b hk => h2 k b hk
          · exact i2 q hq
        · exact .cons ⟨A.gl hc.1, (nmB_ok hc.2).1, h1⟩ (fun a oe cls d pn hz hf => eSs_ok (hD _ _ _ _ (A.suite hh hz hf)).S e2) i3
      · cases e
    · cases e
theorem stepS_ok (A : At W Wx c X) (hD : ∀ (W : Wd) (c : Ct) (X : Cx) (Wx : WX), At W Wx c X → DenOk W Wx X (D c)) {s : Stmt} {m : MS} (q : stepS c D s = some m) : L2.PS X s (tS W Wx m) := by
  have E := (hD W c X Wx A).E
  have T := (hD W c X Wx A).T
  have S := (hD W c X Wx A).S
  have nd : X.N.Nodup := by rw [A.hN]; exact A.nd
  unfold stepS at q
  split at q
  · cases q; exact z_pass
  · cases q; exact z_bk
  · cases q; exact z_ct
  · cases q; exact z_retN
  · obtain ⟨m1, e1, rfl⟩ := Option.map_eq_some_iff.mp q
    exact z_ret (E _ _ e1)
  · split at q
    · rename_i hn
      obtain ⟨m1, e1, rfl⟩ := Option.map_eq_some_iff.mp q
      exact z_exp (E _ _ e1) (swaps_no hn)
    · cases q
  · obtain ⟨mt, e0, q⟩ := Option.bind_eq_some_iff.mp q
    obtain ⟨m1, e1, q⟩ := Option.bind_eq_some_iff.mp q
    obtain ⟨m2, e2, rfl⟩ := Option.map_eq_some_iff.mp q
    exact z_ifS (T _ _ e0) (eSs_ok S e1) (eSs_ok S e2)
  · obtain ⟨mt, e0, q⟩ := Option.bind_eq_some_iff.mp q
    obtain ⟨m1, e1, rfl⟩ := Option.map_eq_some_iff.mp q
    exact z_while A.own (T _ _ e0) (eSs_ok S e1)
  · split at q
    · rename_i hs
      obtain ⟨g, e0, q⟩ := Option.bind_eq_some_iff.mp q
      rw [Bool.and_eq_true] at hs
      split at q
      · obtain ⟨m, e1, q⟩ := Option.bind_eq_some_iff.mp q
        obtain ⟨mb, e2, rfl⟩ := Option.map_eq_some_iff.mp q
        exact z_forD A.hK A.hw A.own (A.calm (by simpa using hs.2)) (E _ _ e1) (gOf_ok A _ e0) (eSs_ok S e2) fun x => folded_no hs.1
      obtain ⟨mi, e1, q⟩ := Option.bind_eq_some_iff.mp q
      obtain ⟨mb, e2, rfl⟩ := Option.map_eq_some_iff.mp q
      exact z_for A.own (A.calm (by simpa using hs.2)) (eIter_ok A E e1) (gOf_ok A _ e0) (eSs_ok S e2) fun x => folded_no hs.1
    · cases q
  · rename_i x py elt gs scope pos spos
    split at q
    · rename_i hl
      obtain ⟨i, e1, q⟩ := Option.bind_eq_some_iff.mp q
      obtain ⟨m1, e2, rfl⟩ := Option.map_eq_some_iff.mp q
      have r := eComp_ok A hD e2
      obtain ⟨l1, l2⟩ := A.loc hl
      have hi : X.N[i]? = some x := by rw [A.hN]; exact ixOf_ok e1
      cases hsw : swB c x py.line pos.line scope with
      | false => exact z_set nd hi l1 (r.pe A) (by rw [swaps_comp A, hsw]) l2
      | true =>
        obtain ⟨tg, iter, ifs, g, js, mi, mt, me, rfl, bo, fo, pi, hj, rfl, hg, ht, he⟩ := r.ex
        refine z_setLc (A.calm r.hh) nd hi ?_ (by rw [swaps_comp A, hsw]) pi bo hg ht he fo hj
        unfold swB at hsw
        rw [Bool.and_eq_true, Bool.and_eq_true] at hsw
        rw [A.sc]
        have := hsw.1.1
        split at this
        · assumption
        · cases this
    · cases q
  · split at q
    · rename_i hl
      rw [Bool.and_eq_true] at hl
      obtain ⟨i, e1, q⟩ := Option.bind_eq_some_iff.mp q
      obtain ⟨m1, e2, rfl⟩ := Option.map_eq_some_iff.mp q
      obtain ⟨l1, l2⟩ := A.loc hl.1
      exact z_set nd (by rw [A.hN]; exact ixOf_ok e1) l1 (E _ _ e2) (swaps_no hl.2) l2
    · cases q
  · split at q
    · rename_i hl
      rw [Bool.and_eq_true] at hl
      obtain ⟨g, e1, q⟩ := Option.bind_eq_some_iff.mp q
      obtain ⟨m1, e2, rfl⟩ := Option.map_eq_some_iff.mp q
      exact z_asg (E _ _ e2) (gOf_ok A _ e1) (sole_no hl.2) (swapped_no (.inr hl.1)) rfl
    · cases q
  · split at q
    · rename_i hl
      rw [Bool.and_eq_true] at hl
      obtain ⟨mo, e1, q⟩ := Option.bind_eq_some_iff.mp q
      obtain ⟨mi, e2, q⟩ := Option.bind_eq_some_iff.mp q
      obtain ⟨mv, e3, rfl⟩ := Option.map_eq_some_iff.mp q
      exact z_sub' A.units A.hK A.hw (E _ _ e3) (E _ _ e1) (E _ _ e2) (fun v => asg_sub hl.2) (sole_no hl.1) (swapped_no (.inl rfl)) rfl
    · cases q
  · split at q
    · rename_i hl
      obtain ⟨k, e1, q⟩ := Option.bind_eq_some_iff.mp q
      obtain ⟨mo, e2, q⟩ := Option.bind_eq_some_iff.mp q
      obtain ⟨mv, e3, rfl⟩ := Option.map_eq_some_iff.mp q
      exact z_put A.hK A.lw.inj A.lw.flds (E _ _ e2) (E _ _ e3) (A.lw.ats _ _ (ixOf_ok e1)) (swaps_no hl)
    · cases q
  · obtain ⟨k, e1, q⟩ := Option.bind_eq_some_iff.mp q
    obtain ⟨mo, e2, q⟩ := Option.bind_eq_some_iff.mp q
    obtain ⟨mv, e3, rfl⟩ := Option.map_eq_some_iff.mp q
    exact z_putAug A.hK A.lw.inj A.lw.flds (E _ _ e2) (E _ _ e3) (A.lw.ats _ _ (ixOf_ok e1)) in_add (g' := fun i j => .int (i + j)) (fun i j H Q _ q => ⟨i, j, rfl, rfl, q⟩) fun i j φ H => by rw [Rep]
  · split at q
    · rename_i hc
      rw [Bool.and_eq_true, Bool.and_eq_true, Bool.and_eq_true, Bool.and_eq_true] at hc
      obtain ⟨⟨⟨⟨c1, c2⟩, c3⟩, c4⟩, c5⟩ := hc
      obtain ⟨k, e1, q⟩ := Option.bind_eq_some_iff.mp q
      obtain ⟨m1, e2, rfl⟩ := Option.map_eq_some_iff.mp q
      have hh : c.hot = false := by simpa using c4
      exact z_raise (k := 0) (A.calm hh) A.hK A.tk (errOf_ok A e1) (A.mon hh (of_decide_eq_true c5)) (eAs_ok E e2).1 (A.gl c1) (nmB_ok c2).1 c3
    · cases q
  · split at q
    · rename_i hc
      rw [Bool.and_eq_true, Bool.and_eq_true, Bool.and_eq_true, Bool.and_eq_true] at hc
      obtain ⟨⟨⟨⟨c1, c2⟩, c3⟩, c4⟩, c5⟩ := hc
      obtain ⟨t, e1, q⟩ := Option.bind_eq_some_iff.mp q
      obtain ⟨i, e2, q⟩ := Option.bind_eq_some_iff.mp q
      obtain ⟨mb, e3, q⟩ := Option.bind_eq_some_iff.mp q
      obtain ⟨ms, e4, rfl⟩ := Option.map_eq_some_iff.mp q
      have hh : c.hot = false := by simpa using c4
      obtain ⟨cv, h1, h2⟩ := exmOf_ok A e1
      obtain ⟨d1, d2, d3⟩ := A.dfn c3
      exact z_tryAs A.hK (A.nE hh) d2 d3 nd (by rw [A.hN]; exact ixOf_ok e2) (by show X.env.scope.names.lookup _ = _; rw [A.sc]; exact of_decide_eq_true c5) ⟨A.gl c1, (nmB_ok c2).1, h1⟩ A.tk (fun k b hk => h2 k b hk)
        (fun W' pn xe tk ow => eSs_ok (hD _ _ _ _ (A.tr hh tk ow)).S e3)
        (fun a oe cls d pn hz hf => eSs_ok (hD _ _ _ _ (A.suite hh hz hf)).S e4)
    · cases q
  · split at q
    · rename_i hc
      rw [Bool.and_eq_true] at hc
      obtain ⟨c3, c4⟩ := hc
      obtain ⟨mb, e3, q⟩ := Option.bind_eq_some_iff.mp q
      obtain ⟨l, e4, rfl⟩ := Option.map_eq_some_iff.mp q
      have hh : c.hot = false := by simpa using c4
      obtain ⟨d1, d2, d3⟩ := A.dfn c3
      obtain ⟨l', h1, h2, h3⟩ := eHds_ok A hD hh _ e4
      rw [← h1]
      exact z_tryMany A.hK (A.nE hh) d2 d3 A.tk h2 (fun W' pn xe tk ow => eSs_ok (hD _ _ _ _ (A.tr hh tk ow)).S e3) h3
    · cases q
  · split at q
    · rename_i hl
      obtain ⟨i, e1, q⟩ := Option.bind_eq_some_iff.mp q
      obtain ⟨m1, e2, rfl⟩ := Option.map_eq_some_iff.mp q
      obtain ⟨l1, l2⟩ := A.loc hl
      exact z_augAdd nd (by rw [A.hN]; exact ixOf_ok e1) l1 (E _ _ e2) l2
    · cases q
  · cases q
end
theorem den_ok : ∀ (n : Nat) (W : Wd) (c : Ct) (X : Cx) (Wx : WX), At W Wx c X → DenOk W Wx X (den n c) := fun n => by
  induction n with
  | zero => exact fun W c X Wx A => DenOk.mk (fun _ _ e => nomatch e) (fun _ _ e => nomatch e) (fun _ _ e => nomatch e)
  | succ n ih => exact fun W c X Wx A => DenOk.mk (fun _ _ e => stepE_ok A ih e) (fun _ _ e => stepT_ok A ih e) (fun _ _ e => stepS_ok A ih e)
end Z
namespace Z
open PySem PySem.Spec PyProof.Rows L2
/-! ### a law's defs and its end -/
/-- the names of attributes and methods, by number -/
def atOf (ats : List Str) (i : Nat) : Str := match ats[i]? with
  | some x => x
  | none => ⟨#[1114112 + i]⟩
def atsB (ats : List Str) : Bool := decide ats.Nodup && ats.all fun x => x.cps.size != 1
theorem atOf_inj {ats : List Str} (h : atsB ats = true) : ∀ i j, atOf ats i = atOf ats j → i = j := by
  unfold atsB at h
  rw [Bool.and_eq_true] at h
  have nd := of_decide_eq_true h.1
  have hs : ∀ (i : Nat) (x : Str), ats[i]? = some x → x.cps.size ≠ 1 := fun i x e => by
    have := List.all_eq_true.mp h.2 x (List.mem_of_getElem? e)
    simpa using this
  intro i j e
  unfold atOf at e
  cases ei : ats[i]? with
  | some x =>
    rw [ei] at e
    cases ej : ats[j]? with
    | some y =>
      rw [ej] at e
      dsimp only at e
      subst e
      have hi : i < ats.length := by
        by_cases c : i < ats.length
        · exact c
        · rw [List.getElem?_eq_none (by omega)] at ei; cases ei
      have hj : j < ats.length := by
        by_cases c : j < ats.length
        · exact c
        · rw [List.getElem?_eq_none (by omega)] at ej; cases ej
      exact (List.getElem?_inj hi nd).mp (ei.trans ej.symm)
    | none =>
      rw [ej] at e
      dsimp only at e
      have := hs i x ei
      rw [e] at this
      exact absurd rfl this
  | none =>
    rw [ei] at e
    cases ej : ats[j]? with
    | some y =>
      rw [ej] at e
      dsimp only at e
      have := hs j y ej
      rw [← e] at this
      exact absurd rfl this
    | none =>
      rw [ej] at e
      dsimp only at e
      injection e with e
      have := congrArg (fun a : Array Nat => a[0]?) e
      simp at this
      exact this
theorem atOf_at {ats : List Str} {i : Nat} {x : Str} (e : ats[i]? = some x) : atOf ats i = x := by
  unfold atOf
  rw [e]
/-- a def that is called where an exception is handled, whichever -/
def HfT (P : Program) (w : World) (mg : Str → Option Value) (base : Heap) (W : Wd) (F : FnI) : Prop := ∀ (a : Addr) (oe : Obj) (cls : Value) (d : Option Addr), L2N.Zn cls d oe → (∃ vs, oe.data = .fields vs) → FnHT P w mg base (W.ex (exAt W a cls d)) (a, oe) F
/-- all that a def's text leans on -/
structure NE (W : Wd) (w : World) : Prop where
  ne : ∀ a k d, ¬ W.exA a k d
  hw : w = W.w
structure DefT (P : Program) (w : World) (mg : Str → Option Value) (base : Heap) (W : Wd) (c : Ct) : Prop where
  lw : LwT P mg W c.lw
  nE : NE W w
  fns : ∀ F ∈ c.fns, FnT P w mg base W F
  mets : ∀ M ∈ c.mets, MetT P w mg base W M
  mks : ∀ M ∈ c.mks, MkT P w mg base W M
  hfns : ∀ F ∈ c.hfns, HfT P w mg base W F
  eqs : ∀ p ∈ c.eqs, EqT P w mg base W p.1 p.2
def lvB (c : Ct) : Bool := (c.fns.all fun F => decide (F.k ≤ c.lvl)) && (c.mets.all fun M => decide (M.F.k ≤ c.lvl)) && (c.mks.all fun M => decide (M.F.k + 1 ≤ c.lvl)) && (c.hfns.all fun F => decide (F.k ≤ c.lvl)) && !c.hot && (c.eqs.all fun p => decide (p.2.k + 1 ≤ c.lvl))
/-- one by one -/
theorem all_nil {α : Type} {p : α → Prop} : ∀ x ∈ ([] : List α), p x := fun _ z => nomatch z
theorem all_cons {α : Type} {p : α → Prop} {a : α} {l : List α} (h : p a) (t : ∀ x ∈ l, p x) : ∀ x ∈ a :: l, p x := fun x z => by
  cases z with
  | head => exact h
  | tail _ z => exact t x z
section
variable {P : Program} {w : World} {mg : Str → Option Value} {base : Heap} {W : Wd}
theorem at_def {c : Ct} {ps : List Str} {st : Stmt} {qual : Str} {f : Addr} {cdv : Value} {A : Around} {outer : List Env} {s : Shared} {H : Hp} {E : XK} (hs : c.sc = defScope st) (T : DefT P w mg base W c) (hl : lvB c = true)
    (S : FnScope c.N ps (defScope st)) (hr : Room c.lvl (A.deeper (envOfC qual (defScope st) s.heap.objs.size f cdv))) : At W (fun cls d _ H => E cls d H) c (cxOf (L2N.CX P w) P w W.K mg base c.N qual (defScope st) f cdv A outer s H E) := by
  unfold lvB at hl
  rw [Bool.and_eq_true, Bool.and_eq_true, Bool.and_eq_true, Bool.and_eq_true, Bool.and_eq_true] at hl
  obtain ⟨⟨⟨⟨⟨h1, h2⟩, h3⟩, h4⟩, h5⟩, h6⟩ := hl
  have hh : c.hot = false := by simpa using h5
  exact {
    hN := rfl
    sc := hs.symm
    hK := rfl
    hw := T.nE.hw
    calm := fun _ => rfl
    nE := fun _ => T.nE.ne
    units := hr.units
    room := fun _ => hr
    own := passes_of rfl
    tk := L2N.takes_of rfl rfl rfl rfl
    lw := T.lw
    fns := fun F hF => ⟨T.fns F hF, of_decide_eq_true (List.all_eq_true.mp h1 F hF)⟩
    mets := fun M hM => ⟨T.mets M hM, of_decide_eq_true (List.all_eq_true.mp h2 M hM)⟩
    mks := fun M hM => ⟨T.mks M hM, of_decide_eq_true (List.all_eq_true.mp h3 M hM)⟩
    eqs := fun p hp => ⟨T.eqs p hp, of_decide_eq_true (List.all_eq_true.mp h6 p hp)⟩
    hfns := fun _ F hF => ⟨of_decide_eq_true (List.all_eq_true.mp h4 F hF), T.hfns F hF⟩
    hotR := fun z => by rw [hh] at z; cases z
    nd := S.nd
    dfn := fun _ => ⟨fun _ => rfl, rfl, rfl⟩
    kind := S.kind }
theorem fnOk_mk {c : Ct} {x qual : Str} {st : Stmt} {f : Addr} {fd : FuncData} {ps : List Str} {bd : MS} (hs : c.sc = defScope st) (T : DefT P w mg base W c) (hl : lvB c = true)
    (S : FnScope c.N ps (defScope st)) (U : Fun W.K x qual st f fd) (hd : eSs (den 100 c).S (defBody st) = some bd) : FnOk P w W.K mg base (L2N.CX P w) (c.lvl + 1) f fd ps (W.spZ ps.length (semD c.N.length bd)) :=
  z_def U S fun cdv A outer s H E hr => eSs_ok (den_ok 100 W c _ _ (at_def hs T hl S hr)).S hd
/-- a def, by its text -/
theorem fnT_mk {c : Ct} {x qual : Str} {st : Stmt} {f : Addr} {fd : FuncData} {ps : List Str} {bd : MS} {F : FnI} (hs : c.sc = defScope st) (T : DefT P w mg base W c) (hl : lvB c = true)
    (S : FnScope c.N ps (defScope st)) (U : Fun W.K x qual st f fd) (b : Binds W.K fd ps []) (hm : mg x = some (.ref f)) (hd : eSs (den 100 c).S (defBody st) = some bd) (hF : F = ⟨x, ps, [], c.lvl + 1, semD c.N.length bd⟩) : FnT P w mg base W F := by
  subst hF
  exact ⟨f, fd, [], [], hm, U.kp, b, .nil, fun φ H => by rw [RepL], fnOk_mk hs T hl S U hd⟩
theorem calT_mk {c : Ct} {x qual : Str} {st : Stmt} {f : Addr} {fd : FuncData} {ps : List Str} {bd : MS} {F : FnI} (hs : c.sc = defScope st) (T : DefT P w mg base W c) (hl : lvB c = true)
    (S : FnScope c.N ps (defScope st)) (U : Fun W.K x qual st f fd) (b : Binds W.K fd ps []) (hd : eSs (den 100 c).S (defBody st) = some bd) (hF : F = ⟨x, ps, [], c.lvl + 1, semD c.N.length bd⟩) : CalT P w mg base W F f := by
  subst hF
  exact ⟨fd, [], [], b, .nil, fun φ H => by rw [RepL], fnOk_mk hs T hl S U hd⟩
/-! defs with defaults -/
theorem fnOk_mkD {c : Ct} {x qual : Str} {st : Stmt} {f : Addr} {fd : FuncData} {ps : List Str} {bd : MS} {dV : List V} {kws : List (Str × V)} (hs : c.sc = defScope st) (T : DefT P w mg base W c) (hl : lvB c = true)
    (S : FnScope c.N ps (defScope st)) (U : FunD W.K x qual (defArgs st) (defBody st) (defScope st) dV kws f fd) (hd : eSs (den 100 c).S (defBody st) = some bd) : FnOk P w W.K mg base (L2N.CX P w) (c.lvl + 1) f fd ps (W.spZ ps.length (semD c.N.length bd)) := by
  refine U.ok S (fun vs H Q E ⟨φ, h, xs, e, r, _, _⟩ => by rw [← r.length]; exact e) fun cdv A outer s H vs Q E hr ⟨φ, h, xs, e, r, hr', q⟩ => ?_
  exact ⟨_, eSs_ok (den_ok 100 W c _ _ (at_def hs T hl S hr)).S hd, φ, startP c.N.length xs, h, sr_start r, hr', fin_ok (gc_ok hr' q)⟩
theorem calT_mkD {c : Ct} {x qual : Str} {st : Stmt} {f : Addr} {fd : FuncData} {ps : List Str} {bd : MS} {F : FnI} {dV dV' : List V} {kws : List (Str × V)} {dvs : List PV} (hs : c.sc = defScope st) (T : DefT P w mg base W c) (hl : lvB c = true)
    (S : FnScope c.N ps (defScope st)) (U : FunD W.K x qual (defArgs st) (defBody st) (defScope st) dV kws f fd) (b : ∃ ds, Vals dV' ds ∧ Binds W.K fd ps ds) (hv : ∀ φ H, RepL W φ H dvs dV') (hd : eSs (den 100 c).S (defBody st) = some bd) (hF : F = ⟨x, ps, dvs, c.lvl + 1, semD c.N.length bd⟩) : CalT P w mg base W F f := by
  subst hF
  obtain ⟨ds, b1, b2⟩ := b
  exact ⟨fd, ds, dV', b2, b1, hv, fnOk_mkD hs T hl S U hd⟩
/-- a def's defaults stand as the top has written them -/
theorem funD_mk {K : PySem.W.Frag} {x qual : Str} {st : Stmt} {f T : Addr} {oc ocT : Value} {od an odT : Option Addr} {osl slT : Array (Option Value)} {kV doc pm cdv ct : Value} {its : List Value} {n : Nat} {dV : List V} (hd : dV ≠ [])
    (l : K.lookup f = some ⟨oc, od, .func (PySem.W.fnOf x qual (defArgs st) (defBody st) (defScope st) (.ref T) kV doc pm an cdv ct), osl⟩) (c : PySem.W.codeIn K cdv qual = true) (k : PySem.W.keepIn K (.ref f) = true) (t : K.lookup T = some ⟨ocT, odT, .seq its.toArray n, slT⟩) (r : Vals dV its) :
    FunD K x qual (defArgs st) (defBody st) (defScope st) dV [] f (PySem.W.fnOf x qual (defArgs st) (defBody st) (defScope st) (.ref T) kV doc pm an cdv ct) :=
  ⟨⟨oc, od, .ref T, kV, doc, pm, an, cdv, ct, osl, rfl, l, c, .inr ⟨hd, T, _, its, n, rfl, t, rfl, r⟩, .inl rfl⟩, k⟩
/-! defaults -/
theorem rol_of {H : Hp} {a : Addr} {xs : List V} (hO : Only H) (hS : SqL W.K H a xs) : RoL W.K H a xs := by
  rcases hS with h | h
  · rcases h with h | h
    · rcases hO a with z | ⟨o, ys, z⟩
      · rw [z] at h; cases h
      · rw [z] at h; cases h
    · exact .inl h
  · exact .inr h
theorem repL_ints {φ : Emb} {H : Hp} : ∀ ns : List Int, RepL W φ H (ns.map .int) (ns.map V.int)
  | [] => by rw [List.map_nil, RepL]; rfl
  | n :: r => by
    rw [List.map_cons, RepL]
    exact ⟨_, _, rfl, by rw [Rep], repL_ints r⟩
theorem law_sp {sem : List PV → PH → RG PV} {H : Hp} {a : Addr} {ns : List Int} (hO : Only H) (hS : SqL W.K H a (ns.map V.int)) (q : ∃ h', sem [.ro (ns.map .int)] [] = .ok (.bl true) h') :
    W.spZ 1 sem [.ref a] H (fun v _ => v = .bl true) fun _ _ _ => False := by
  obtain ⟨h', q⟩ := q
  refine ⟨fun _ => none, [], [.ro (ns.map .int)], rfl, ?_, HR.mk (fun n hn => absurd hn (Nat.not_lt_zero _)) (fun _ _ e => nomatch e) (fun _ _ _ e _ => nomatch e) (fun _ _ _ e _ => nomatch e), ?_⟩
  · rw [RepL]
    refine ⟨_, [], rfl, ?_, by rw [RepL]⟩
    rw [Rep]
    exact ⟨a, _, rfl, rol_of hO hS, repL_ints ns⟩
  · rw [q]
    intro φ' v H' p r rv
    have rv := rv.rep (fun _ => by simp)
    rw [Rep] at rv
    exact rv
theorem hcx {H : Hp} {s : Shared} {e : Value} {s' : Shared} (c : L2N.CX P w [] H s (fun _ _ _ => False) e s') : False := by
  obtain ⟨a, B, H', cls, d, e1, e2, e3, e4, e5, e6, e7, w⟩ := c
  exact w
/-- the law's promise, wherever its classes stand -/
def lawSp (w : World) (ats : List Str) (K : PySem.W.Frag) (sem : List PV → PH → RG PV) : Sp := fun vs H Q E => ∀ cs : List Addr, (⟨K, fun n => cs.getD n 0, atOf ats, fun _ _ _ => False, w⟩ : Wd).spZ 1 sem vs H Q E
theorem fnOk_imp {K : PySem.W.Frag} {CX : CXT} {k : Nat} {f : Addr} {fd : FuncData} {ps : List Str} {sp sp' : Sp} (F : FnOk P w K mg base CX k f fd ps sp) (i : ∀ vs H Q E, sp' vs H Q E → sp vs H Q E) : FnOk P w K mg base CX k f fd ps sp' :=
  ⟨fun vs H Q E h => F.len vs H Q E (i _ _ _ _ h), fun A outer s H args us vs Q E hr e0 hb r h => F.run A outer s H args us vs Q E hr e0 hb r (i _ _ _ _ h)⟩
end
end Z
namespace Z
open PySem PySem.Spec PyProof.Rows L2
/-! ### what a run ends in, asked from behind -/
abbrev EX := Nat → PV → PH → Prop
def okG {α : Type} (r : RG α) (Q : α → PH → Prop) (E : EX) : Prop := match r with
  | .ok x h => Q x h
  | .ex c p h => E c p h
  | .bad => False
def okS (r : RS) (N : Sl → PH → Prop) (R : PV → PH → Prop) (B C : Sl → PH → Prop) (X : Nat → PV → Sl → PH → Prop) : Prop := match r with
  | .nx e h => N e h
  | .rt x h => R x h
  | .bk e h => B e h
  | .ct e h => C e h
  | .ex c p e h => X c p e h
  | .bad => False
section
variable {α β : Type} {Q : α → PH → Prop} {E : EX} {N : Sl → PH → Prop} {R : PV → PH → Prop} {B C : Sl → PH → Prop} {X : Nat → PV → Sl → PH → Prop} {env : Sl} {h : PH}
theorem okG_ok {x : α} : okG (.ok x h) Q E ↔ Q x h := Iff.rfl
theorem okG_ex {c : Nat} {p : PV} : okG (.ex c p h : RG α) Q E ↔ E c p h := Iff.rfl
theorem okG_bind {r : RG α} {k : α → PH → RG β} {Q : β → PH → Prop} : okG (r.bind k) Q E ↔ okG r (fun x h1 => okG (k x h1) Q E) E := by cases r <;> exact Iff.rfl
theorem okS_nx {e : Sl} : okS (.nx e h) N R B C X ↔ N e h := Iff.rfl
theorem okS_rt {x : PV} : okS (.rt x h) N R B C X ↔ R x h := Iff.rfl
theorem okS_bk {e : Sl} : okS (.bk e h) N R B C X ↔ B e h := Iff.rfl
theorem okS_ct {e : Sl} : okS (.ct e h) N R B C X ↔ C e h := Iff.rfl
theorem okS_ex {c : Nat} {p : PV} {e : Sl} : okS (.ex c p e h) N R B C X ↔ X c p e h := Iff.rfl
theorem okG.mono {r : RG α} {Q' : α → PH → Prop} {E' : EX} (x : okG r Q E) (i : ∀ a h, Q a h → Q' a h) (j : ∀ c p h, E c p h → E' c p h) : okG r Q' E' := by
  cases r with
  | ok a h => exact i _ _ x
  | ex c p h => exact j _ _ _ x
  | bad => exact x
theorem okG.imp {r : RG α} {Q' : α → PH → Prop} (x : okG r Q E) (i : ∀ a h, Q a h → Q' a h) : okG r Q' E := x.mono i fun _ _ _ z => z
theorem okS.mono {r : RS} {N' : Sl → PH → Prop} {R' : PV → PH → Prop} {B' C' : Sl → PH → Prop} {X' : Nat → PV → Sl → PH → Prop} (x : okS r N R B C X) (h1 : ∀ e h, N e h → N' e h) (h2 : ∀ a h, R a h → R' a h) (h3 : ∀ e h, B e h → B' e h) (h4 : ∀ e h, C e h → C' e h) (h5 : ∀ c p e h, X c p e h → X' c p e h) : okS r N' R' B' C' X' := by
  cases r with
  | nx e h => exact h1 _ _ x
  | rt a h => exact h2 _ _ x
  | bk e h => exact h3 _ _ x
  | ct e h => exact h4 _ _ x
  | ex c p e h => exact h5 _ _ _ _ x
  | bad => exact x
theorem okG_congr {r : RG α} {Q' : α → PH → Prop} (i : ∀ a h, Q a h ↔ Q' a h) : okG r Q E ↔ okG r Q' E := ⟨fun x => x.imp fun a h => (i a h).mp, fun x => x.imp fun a h => (i a h).mpr⟩
theorem okG.eq {r : RG α} {x : α} {h' : PH} (q : okG r (fun a k => a = x ∧ k = h') fun _ _ _ => False) : r = .ok x h' := by
  cases r with
  | ok a k => obtain ⟨rfl, rfl⟩ := q; rfl
  | ex c p h => exact q.elim
  | bad => exact q.elim
/-! the rules -/
theorem w_K {x : PV} {Q : PV → PH → Prop} : okG (mK x env h) Q E ↔ Q x h := Iff.rfl
theorem w_V {i : Nat} {x : PV} {Q : PV → PH → Prop} (e : env[i]? = some (some x)) : okG (mV i env h) Q E ↔ Q x h := by
  unfold mV
  rw [e]; rfl
theorem w_V' {i : Nat} {Q : PV → PH → Prop} (q : ∃ x, env[i]? = some (some x) ∧ Q x h) : okG (mV i env h) Q E := by
  obtain ⟨x, e, q⟩ := q
  exact (w_V e).mpr q
theorem w_B {f : PV → PV → PH → RG PV} {a b : MG PV} {Q : PV → PH → Prop} : okG (mB f a b env h) Q E ↔ okG (a env h) (fun x h1 => okG (b env h1) (fun y h2 => okG (f x y h2) Q E) E) E := by
  unfold mB; simp only [okG_bind]
theorem w_U {f : PV → PH → RG PV} {a : MG PV} {Q : PV → PH → Prop} : okG (mU f a env h) Q E ↔ okG (a env h) (fun x h1 => okG (f x h1) Q E) E := by
  unfold mU; simp only [okG_bind]
theorem w_C {f : List PV → PH → RG PV} {a : MG (List PV)} {Q : PV → PH → Prop} : okG (mC f a env h) Q E ↔ okG (a env h) (fun x h1 => okG (f x h1) Q E) E := by
  unfold mC; simp only [okG_bind]
theorem w_nil {Q : List PV → PH → Prop} : okG (aNil env h) Q E ↔ Q [] h := Iff.rfl
theorem w_consR {a : MG PV} {b : MG (List PV)} {Q : List PV → PH → Prop} : okG (aConsR a b env h) Q E ↔ okG (a env h) (fun x h1 => okG (b env h1) (fun y h2 => Q (x :: y) h2) E) E := by
  unfold aConsR; simp only [okG_bind, okG_ok]
theorem w_cons {a : MG PV} {b : MG (List PV)} {Q : List PV → PH → Prop} : okG (aCons a b env h) Q E ↔ okG (mM a env h) (fun x h1 => okG (b env h1) (fun y h2 => Q (x :: y) h2) E) E := by
  unfold aCons; simp only [okG_bind, okG_ok]
/-- what is put away: a new list gets a number -/
def putM (Q : PV → PH → Prop) : PV → PH → Prop := fun x h => match x with
  | .lst xs => Q (.ref h.length) (h ++ [.lst xs])
  | x => Q x h
theorem putM_congr {Q Q' : PV → PH → Prop} {x : PV} (i : ∀ x h, Q x h ↔ Q' x h) : putM Q x h ↔ putM Q' x h := by
  cases x <;> exact i _ _
theorem w_M {a : MG PV} {Q : PV → PH → Prop} : okG (mM a env h) Q E ↔ okG (a env h) (putM Q) E := by
  unfold mM
  cases a env h with
  | ok x k => cases x <;> exact Iff.rfl
  | ex c p k => exact Iff.rfl
  | bad => exact Iff.rfl
theorem w_if {t : MG Bool} {a b : MG PV} {Q : PV → PH → Prop} : okG (mIf t a b env h) Q E ↔ okG (t env h) (fun x h1 => if x = true then okG (a env h1) Q E else okG (b env h1) Q E) E := by
  unfold mIf
  rw [okG_bind]
  cases t env h with
  | ok x k => cases x <;> exact Iff.rfl
  | ex c p k => exact Iff.rfl
  | bad => exact Iff.rfl
theorem w_tup {as : MG (List PV)} {Q : PV → PH → Prop} : okG (mTup as env h) Q E ↔ okG (as env h) (fun xs h1 => xs.length ≤ SZ ∧ Q (.tup xs) h1) E := by
  unfold mTup
  rw [okG_bind]
  cases as env h with
  | ok x k =>
    simp only [okG]
    by_cases c : x.length ≤ SZ <;> simp [c]
  | ex c p k => exact Iff.rfl
  | bad => exact Iff.rfl
theorem w_lst {as : MG (List PV)} {Q : PV → PH → Prop} : okG (mLst as env h) Q E ↔ okG (as env h) (fun xs h1 => xs.length ≤ SZ ∧ Q (.lst xs) h1) E := by
  unfold mLst
  rw [okG_bind]
  cases as env h with
  | ok x k =>
    simp only [okG]
    by_cases c : x.length ≤ SZ <;> simp [c]
  | ex c p k => exact Iff.rfl
  | bad => exact Iff.rfl
/-- a value as a test; a bool -/
def trK (Q : Bool → PH → Prop) : PV → PH → Prop := fun x h => ∃ b, truV h x = some b ∧ Q b h
def tbK (Q : Bool → PH → Prop) : PV → PH → Prop := fun x h => match x with
  | .bl b => Q b h
  | _ => False
theorem w_tr {a : MG PV} {Q : Bool → PH → Prop} : okG (mTr a env h) Q E ↔ okG (a env h) (trK Q) E := by
  unfold mTr
  rw [okG_bind]
  cases a env h with
  | ok x k =>
    simp only [okG, trK]
    cases truV k x <;> simp
  | ex c p k => exact Iff.rfl
  | bad => exact Iff.rfl
theorem w_tb {a : MG PV} {Q : Bool → PH → Prop} : okG (mTb a env h) Q E ↔ okG (a env h) (tbK Q) E := by
  unfold mTb
  rw [okG_bind]
  cases a env h with
  | ok x k => cases x <;> exact Iff.rfl
  | ex c p k => exact Iff.rfl
  | bad => exact Iff.rfl
theorem w_not {t : MG Bool} {Q : Bool → PH → Prop} : okG (mNot t env h) Q E ↔ okG (t env h) (fun b h1 => Q (!b) h1) E := by
  unfold mNot; simp only [okG_bind, okG_ok]
theorem w_and {t u : MG Bool} {Q : Bool → PH → Prop} : okG (mAnd t u env h) Q E ↔ okG (t env h) (fun b h1 => if b = true then okG (u env h1) Q E else Q false h1) E := by
  unfold mAnd
  rw [okG_bind]
  cases t env h with
  | ok x k => cases x <;> exact Iff.rfl
  | ex c p k => exact Iff.rfl
  | bad => exact Iff.rfl
theorem w_or {t u : MG Bool} {Q : Bool → PH → Prop} : okG (mOr t u env h) Q E ↔ okG (t env h) (fun b h1 => if b = true then Q true h1 else okG (u env h1) Q E) E := by
  unfold mOr
  rw [okG_bind]
  cases t env h with
  | ok x k => cases x <;> exact Iff.rfl
  | ex c p k => exact Iff.rfl
  | bad => exact Iff.rfl
theorem w_andV {t u : MG PV} {Q : PV → PH → Prop} : okG (mAndV t u env h) Q E ↔ okG (t env h) (tbK fun b h1 => if b = true then okG (u env h1) Q E else Q (.bl false) h1) E := by
  unfold mAndV
  rw [okG_bind, w_tb]
  have : (fun (x : Bool) h1 => okG (if x = true then u env h1 else RG.ok (PV.bl false) h1) Q E) = fun (b : Bool) h1 => if b = true then okG (u env h1) Q E else Q (.bl false) h1 := by
    funext x k; cases x <;> rfl
  rw [this]
theorem w_orV {t u : MG PV} {Q : PV → PH → Prop} : okG (mOrV t u env h) Q E ↔ okG (t env h) (tbK fun b h1 => if b = true then Q (.bl true) h1 else okG (u env h1) Q E) E := by
  unfold mOrV
  rw [okG_bind, w_tb]
  have : (fun (x : Bool) h1 => okG (if x = true then RG.ok (PV.bl true) h1 else u env h1) Q E) = fun (b : Bool) h1 => if b = true then Q (.bl true) h1 else okG (u env h1) Q E := by
    funext x k; cases x <;> rfl
  rw [this]
theorem w_notV {t : MG PV} {Q : PV → PH → Prop} : okG (mNotV t env h) Q E ↔ okG (t env h) (tbK fun b h1 => Q (.bl (!b)) h1) E := by
  unfold mNotV
  rw [okG_bind, w_tb]; rfl
theorem w_ch {f g : PV → PV → PH → RG PV} {a b c : MG PV} {Q : PV → PH → Prop} : okG (mCh f g a b c env h) Q E ↔
    okG (a env h) (fun x h1 => okG (b env h1) (fun y h2 => okG (f x y h2) (tbK fun k h3 => if k = true then okG (c env h3) (fun w h4 => okG (g y w h4) Q E) E else Q (.bl false) h3) E) E) E := by
  unfold mCh
  rw [okG_bind]
  refine okG_congr fun x k => ?_
  rw [okG_bind]
  refine okG_congr fun y k => ?_
  rw [okG_bind]
  refine okG_congr fun z k => ?_
  cases z with
  | bl b => cases b with
    | true => exact okG_bind
    | false => exact Iff.rfl
  | _ => exact Iff.rfl
/-! statements -/
theorem okS_toS {r : RG α} {k : α → PH → RS} : okS (r.toS env k) N R B C X ↔ okG r (fun x h1 => okS (k x h1) N R B C X) fun c p h1 => X c p env h1 := by cases r <;> exact Iff.rfl
theorem w_nilS : okS (sNil env h) N R B C X ↔ N env h := Iff.rfl
theorem w_bk : okS (sBk env h) N R B C X ↔ B env h := Iff.rfl
theorem w_ct : okS (sCt env h) N R B C X ↔ C env h := Iff.rfl
theorem w_retN : okS (sRetN env h) N R B C X ↔ R .non h := Iff.rfl
theorem w_seq {a b : MS} : okS (sSeq a b env h) N R B C X ↔ okS (a env h) (fun e k => okS (b e k) N R B C X) R B C X := by
  unfold sSeq
  cases a env h <;> exact Iff.rfl
theorem w_set {i : Nat} {m : MG PV} : okS (sSet i m env h) N R B C X ↔ okG (m env h) (putM fun x h1 => N (env.set i (some x)) h1) fun c p h1 => X c p env h1 := by
  unfold sSet
  rw [okS_toS, w_M]; rfl
def tgK (g : TgP) (env : Sl) (Q : Sl → PH → Prop) : PV → PH → Prop := fun x h => ∃ e, g x env = some e ∧ Q e h
theorem w_asg {g : TgP} {m : MG PV} : okS (sAsg g m env h) N R B C X ↔ okG (m env h) (putM (tgK g env N)) fun c p h1 => X c p env h1 := by
  unfold sAsg
  rw [okS_toS, w_M]
  refine okG_congr fun x k => putM_congr fun x k => ?_
  unfold tgK
  cases g x env with
  | none => simp [okS]
  | some e => simp [okS]
theorem w_ifS {t : MG Bool} {a b : MS} : okS (sIf t a b env h) N R B C X ↔ okG (t env h) (fun x h1 => if x = true then okS (a env h1) N R B C X else okS (b env h1) N R B C X) fun c p h1 => X c p env h1 := by
  unfold sIf
  rw [okS_toS]
  have : (fun (x : Bool) h1 => okS (if x = true then a env h1 else b env h1) N R B C X) = fun (x : Bool) h1 => if x = true then okS (a env h1) N R B C X else okS (b env h1) N R B C X := by
    funext x k; cases x <;> rfl
  rw [this]
theorem w_ret {m : MG PV} : okS (sRet m env h) N R B C X ↔ okG (m env h) R fun c p h1 => X c p env h1 := by
  unfold sRet
  rw [okS_toS]; rfl
theorem w_exp {m : MG PV} : okS (sExp m env h) N R B C X ↔ okG (m env h) (fun _ h1 => N env h1) fun c p h1 => X c p env h1 := by
  unfold sExp
  rw [okS_toS]; rfl
theorem w_aug {i : Nat} {f : PV → PV → PH → RG PV} {m : MG PV} : okS (sAug i f m env h) N R B C X ↔ okG (mV i env h) (fun x _ => okG (m env h) (fun y h1 => okG (f x y h1) (fun z h2 => N (env.set i (some z)) h2) fun c p h2 => X c p env h2) fun c p h1 => X c p env h1) fun c p h1 => X c p env h1 := by
  unfold sAug
  simp only [okS_toS]; rfl
theorem w_sub {mo mi mv : MG PV} : okS (sSub mo mi mv env h) N R B C X ↔ okG (mv env h) (putM fun x h1 => okG (mo env h1) (fun o h2 => okG (mi env h2) (fun i h3 => okS (setIx o i x env h3) N R B C X) fun c p h3 => X c p env h3) fun c p h2 => X c p env h2) fun c p h1 => X c p env h1 := by
  unfold sSub
  simp only [okS_toS, w_M]
/-! loops -/
theorem okFor {src : Src} {g : TgP} {b : MS} (I : List PV → Sl → PH → Prop) (hg : ∀ xs e h, I xs e h → gd src h)
    (hs : ∀ x r e k, I (x :: r) e k → ∃ e1, g x e = some e1 ∧ okS (b e1 k) (I r) R N (I r) X) (he : ∀ e k, I [] e k → N e k) :
    ∀ (xs : List PV) (e : Sl) (k : PH), I xs e k → okS (forL src g b xs e k) N R B C X
  | [], e, k, i => by
    unfold forL
    rw [if_pos (hg _ _ _ i)]
    exact he _ _ i
  | x :: r, e, k, i => by
    unfold forL
    rw [if_pos (hg _ _ _ i)]
    obtain ⟨e1, q, z⟩ := hs _ _ _ _ i
    rw [q]
    dsimp only
    revert z
    cases b e1 k with
    | nx e2 k2 => exact fun z => okFor I hg hs he r e2 k2 z
    | ct e2 k2 => exact fun z => okFor I hg hs he r e2 k2 z
    | bk e2 k2 => exact fun z => z
    | rt x k2 => exact fun z => z
    | ex c p e2 k2 => exact fun z => z
    | bad => exact fun z => z
theorem w_for {mi : MG Src} {g : TgP} {b : MS} : okS (sFor mi g b env h) N R B C X ↔ okG (mi env h) (fun src h1 => okS (forL src g b src.items env h1) N R B C X) fun c p h1 => X c p env h1 := by
  unfold sFor
  rw [okS_toS]
def srcK (Q : Src → PH → Prop) : PV → PH → Prop := fun x h => ∃ s, iSrc h x = some s ∧ Q s h
theorem w_iseq {m : MG PV} {Q : Src → PH → Prop} : okG (iSeq m env h) Q E ↔ okG (m env h) (srcK Q) E := by
  unfold iSeq
  rw [okG_bind]
  refine okG_congr fun x k => ?_
  unfold srcK
  cases iSrc k x with
  | none => simp [okG]
  | some e => simp [okG]
theorem w_rg1 {m : MG (List PV)} {Q : Src → PH → Prop} (q : okG (m env h) (fun xs h => ∃ j, xs = [.int j] ∧ (-16777216 ≤ j ∧ j ≤ 16777216) ∧ Q ⟨rgI 0 j.toNat, none⟩ h) E) : okG (iRg1 m env h) Q E := by
  unfold iRg1
  rw [okG_bind]
  refine q.imp fun xs k ⟨j, e1, e2, e3⟩ => ?_
  subst e1
  dsimp only
  rw [if_pos e2]
  exact e3
theorem w_rg2 {m : MG (List PV)} {Q : Src → PH → Prop} (q : okG (m env h) (fun xs h => ∃ i j, xs = [.int i, .int j] ∧ (-16777216 ≤ i ∧ i ≤ 16777216 ∧ -16777216 ≤ j ∧ j ≤ 16777216 ∧ j - i ≤ 16777216) ∧ Q ⟨rgI i (j - i).toNat, none⟩ h) E) : okG (iRg2 m env h) Q E := by
  unfold iRg2
  rw [okG_bind]
  refine q.imp fun xs k ⟨i, j, e1, e2, e3⟩ => ?_
  subst e1
  dsimp only
  rw [if_pos e2]
  exact e3
/-! calls -/
theorem w_call {F : FnI} {xs : List PV} {Q : PV → PH → Prop} (hl : xs.length + F.dvs.length = F.ps.length) (q : okG (F.sem (xs ++ F.dvs) h) Q E) : okG (oCall F xs h) Q E := by
  unfold oCall
  rw [if_pos hl]
  exact q
theorem okG_fin {r : RS} {Q : PV → PH → Prop} : okG (fin r) Q E ↔ okS r (fun _ h => Q .non h) Q (fun _ _ => False) (fun _ _ => False) fun c p _ h => E c p h := by
  cases r <;> exact Iff.rfl
def gcK (h : PH) (Q : PV → PH → Prop) (E : EX) : PV → PH → Prop := fun x h' => okG (gcR h (.ok x h')) Q E
def gcE (h : PH) (E : EX) : EX := fun c p h' => okG (gcR h (.ex c p h')) (fun _ _ => False) E
theorem okG_gc {r : RG PV} {Q : PV → PH → Prop} : okG r (gcK h Q E) (gcE h E) → okG (gcR h r) Q E := by
  cases r with
  | ok x k => exact fun z => z
  | bad => exact fun z => z
  | ex c p k =>
    intro z
    have z : okG (gcR h (.ex c p k)) (fun _ _ => False) E := z
    exact okG.mono z (fun _ _ z => z.elim) fun _ _ _ z => z
/-- a def's body -/
theorem w_sem {n : Nat} {b : MS} {xs : List PV} {Q : PV → PH → Prop} (q : okS (b (startP n xs) h) (fun _ => gcK h Q E .non) (gcK h Q E) (fun _ _ => False) (fun _ _ => False) fun c p _ k => gcE h E c p k) : okG (semD n b xs h) Q E := by
  unfold semD
  refine okG_gc (okG_fin.mpr ?_)
  exact q
theorem gcC_refl : gcC h h := ⟨Nat.le_refl _, fun _ _ => .inl rfl⟩
theorem gcC_app {t : PH} : gcC h (h ++ t) := ⟨by simp, fun m hm => .inl (by rw [List.getElem?_append_left hm])⟩
theorem gc_same {x : PV} {Q : PV → PH → Prop} (hc : clV h.length x = true) (q : Q x h) : gcK h Q E x h := by
  unfold gcK gcR
  dsimp only
  rw [if_pos gcC_refl]
  unfold gcX
  rw [if_pos hc]
  dsimp only
  rw [List.take_length]
  exact q
theorem gc_app {x : PV} {t : PH} {Q : PV → PH → Prop} (hc : clV h.length x = true) (q : Q x h) : gcK h Q E x (h ++ t) := by
  unfold gcK gcR
  dsimp only
  rw [if_pos gcC_app]
  unfold gcX
  rw [if_pos hc]
  dsimp only
  rw [List.take_left]
  exact q
/-- a new list is handed back -/
theorem gc_new {t : PH} {i : Nat} {xs : List PV} {Q : PV → PH → Prop} (ht : t[i]? = some (.lst xs)) (hc : clL h.length xs = true) (q : Q (.lst xs) h) : gcK h Q E (.ref (h.length + i)) (h ++ t) := by
  unfold gcK gcR
  dsimp only
  rw [if_pos gcC_app]
  unfold gcX
  rw [if_neg (by unfold clV; simp)]
  have e : (h ++ t)[h.length + i]? = some (.lst xs) := by rw [List.getElem?_append_right (Nat.le_add_right _ _), Nat.add_sub_cancel_left]; exact ht
  dsimp only
  rw [e]
  dsimp only
  rw [if_pos ⟨Nat.le_add_right _ _, hc⟩]
  dsimp only
  rw [List.take_left]
  exact q
/-- one object has changed -/
theorem gc_set {x : PV} {t : PH} {n : Nat} {o : OB} {Q : PV → PH → Prop} (hc : clV h.length x = true) (ho : clO h.length o = true) (q : Q x (h.set n o)) : gcK h Q E x (h.set n o ++ t) := by
  have hl : (h.set n o).length = h.length := List.length_set
  have c : gcC h (h.set n o ++ t) := ⟨by simp, fun m hm => by
    rw [List.getElem?_append_left (by rw [hl]; exact hm)]
    by_cases e : n = m
    · subst e
      exact .inr ⟨o, by rw [List.getElem?_set_self hm], ho⟩
    · exact .inl (by rw [List.getElem?_set_ne e])⟩
  unfold gcK gcR
  dsimp only
  rw [if_pos c]
  unfold gcX
  rw [if_pos hc]
  dsimp only
  rw [← hl, List.take_left]
  exact q
theorem gc_set0 {x : PV} {n : Nat} {o : OB} {Q : PV → PH → Prop} (hc : clV h.length x = true) (ho : clO h.length o = true) (q : Q x (h.set n o)) : gcK h Q E x (h.set n o) := by
  have := gc_set (E := E) (t := []) hc ho q
  rw [List.append_nil] at this
  exact this
/-! the law's end -/
theorem law_of {n : Nat} {b : MS} {x : PV} (q : okS (b (startP n [x]) []) (fun _ _ => False) (fun y _ => y = .bl true) (fun _ _ => False) (fun _ _ => False) fun _ _ _ _ => False) : ∃ h', semD n b [x] [] = .ok (.bl true) h' := by
  have z : okG (semD n b [x] []) (fun y _ => y = .bl true) fun _ _ _ => False := w_sem (q.mono (fun _ _ z => z.elim) (fun y k e => by
    subst e
    exact gc_app (h := []) (t := k) rfl rfl) (fun _ _ z => z) (fun _ _ z => z) fun _ _ _ _ z => z.elim)
  cases e : semD n b [x] [] with
  | ok y k => rw [e] at z; exact ⟨k, by rw [show y = .bl true from z]⟩
  | ex c p k => rw [e] at z; exact z.elim
  | bad => rw [e] at z; exact z.elim
end
/-! ### operators at given values -/
section
variable {Q : PV → PH → Prop} {E : EX} {h : PH} {i j : Int} {s t : List Nat} {xs ys : List PV}
theorem o_add : okG (oAdd (.int i) (.int j) h) Q E ↔ Q (.int (i + j)) h := Iff.rfl
theorem o_addS : okG (oAdd (.str s) (.str t) h) Q E ↔ s.length + t.length ≤ SZ ∧ Q (.str (s ++ t)) h := by
  show okG (if s.length + t.length ≤ SZ then RG.ok _ h else .bad) Q E ↔ _
  by_cases c : s.length + t.length ≤ SZ <;> simp [c, okG]
theorem o_addT : okG (oAdd (.tup xs) (.tup ys) h) Q E ↔ xs.length + ys.length ≤ SZ ∧ Q (.tup (xs ++ ys)) h := by
  show okG (if xs.length + ys.length ≤ SZ then RG.ok _ h else .bad) Q E ↔ _
  by_cases c : xs.length + ys.length ≤ SZ <;> simp [c, okG]
theorem o_addA : okG (oAddA (.int i) (.int j) h) Q E ↔ Q (.int (i + j)) h := Iff.rfl
theorem o_II {C : Int → Int → Bool} {g : Int → Int → PV} : okG (oII C g (.int i) (.int j) h) Q E ↔ C i j = true ∧ Q (g i j) h := by
  unfold oII
  dsimp only
  cases C i j <;> simp [okG]
theorem o_neg : okG (oNeg (.int i) h) Q E ↔ Q (.int (-i)) h := Iff.rfl
def oBK (Q : PV → PH → Prop) (h : PH) (b : Option Bool) : Prop := ∃ k, b = some k ∧ Q (.bl k) h
theorem o_B {b : Option Bool} : okG (oB b h) Q E ↔ oBK Q h b := by
  unfold oB oBK
  cases b <;> simp [okG]
theorem o_eq {x y : PV} : okG (oEq x y h) Q E ↔ oBK Q h (eqF h 50 x y) := o_B
theorem o_ne {x y : PV} : okG (oNe x y h) Q E ↔ oBK (fun x h => tbK (fun b h => Q (.bl (!b)) h) x h) h (eqF h 50 x y) := by
  unfold oNe
  rw [o_B]
  unfold oBK
  cases eqF h 50 x y with
  | none => simp
  | some k => cases k <;> simp [tbK]
theorem oBK_some {k : Bool} : oBK Q h (some k) ↔ Q (.bl k) h := by simp [oBK]
theorem tbK_bl {Q : Bool → PH → Prop} {b : Bool} : tbK Q (.bl b) h ↔ Q b h := Iff.rfl
theorem trK_bl {Q : Bool → PH → Prop} {b : Bool} : trK Q (.bl b) h ↔ Q b h := by simp [trK, truV]
theorem trK_int {Q : Bool → PH → Prop} : trK Q (.int i) h ↔ Q (i != 0) h := by
  unfold trK truV
  exact ⟨fun ⟨b, e, q⟩ => by cases e; exact q, fun q => ⟨_, rfl, q⟩⟩
theorem trK_non {Q : Bool → PH → Prop} : trK Q .non h ↔ Q false h := by simp [trK, truV]
theorem putM_int : putM Q (.int i) h ↔ Q (.int i) h := Iff.rfl
theorem putM_bl {b : Bool} : putM Q (.bl b) h ↔ Q (.bl b) h := Iff.rfl
theorem putM_str : putM Q (.str s) h ↔ Q (.str s) h := Iff.rfl
theorem putM_tup : putM Q (.tup xs) h ↔ Q (.tup xs) h := Iff.rfl
theorem putM_ref {n : Nat} : putM Q (.ref n) h ↔ Q (.ref n) h := Iff.rfl
theorem putM_ro : putM Q (.ro xs) h ↔ Q (.ro xs) h := Iff.rfl
theorem putM_non : putM Q .non h ↔ Q .non h := Iff.rfl
theorem putM_exn {c : Nat} {p : PV} : putM Q (.exn c p) h ↔ Q (.exn c p) h := Iff.rfl
theorem putM_lst : putM Q (.lst xs) h ↔ Q (.ref h.length) (h ++ [.lst xs]) := Iff.rfl
theorem eqF_int {n : Nat} : eqF h (n + 1) (.int i) (.int j) = some (decide (i = j)) := by
  unfold eqF
  rfl
theorem eqF_bl {n : Nat} {a b : Bool} : eqF h (n + 1) (.bl a) (.bl b) = some (decide (a = b)) := by
  unfold eqF
  cases a <;> cases b <;> rfl
end
end Z
namespace Z
open PySem PySem.Spec PyProof.Rows L2
theorem kb_int_int : kitB "int" "int" = some true := by kernel_rfl
theorem kb_bool_int : kitB "bool" "int" = some true := by kernel_rfl
theorem kb_str_int : kitB "str" "int" = some false := by kernel_rfl
theorem kb_tuple_int : kitB "tuple" "int" = some false := by kernel_rfl
theorem kb_NoneType_int : kitB "NoneType" "int" = some false := by kernel_rfl
theorem kb_list_int : kitB "list" "int" = some false := by kernel_rfl
theorem kb_int_bool : kitB "int" "bool" = some false := by kernel_rfl
theorem kb_bool_bool : kitB "bool" "bool" = some true := by kernel_rfl
theorem kb_str_bool : kitB "str" "bool" = some false := by kernel_rfl
theorem kb_tuple_bool : kitB "tuple" "bool" = some false := by kernel_rfl
theorem kb_NoneType_bool : kitB "NoneType" "bool" = some false := by kernel_rfl
theorem kb_list_bool : kitB "list" "bool" = some false := by kernel_rfl
theorem kb_int_str : kitB "int" "str" = some false := by kernel_rfl
theorem kb_bool_str : kitB "bool" "str" = some false := by kernel_rfl
theorem kb_str_str : kitB "str" "str" = some true := by kernel_rfl
theorem kb_tuple_str : kitB "tuple" "str" = some false := by kernel_rfl
theorem kb_NoneType_str : kitB "NoneType" "str" = some false := by kernel_rfl
theorem kb_list_str : kitB "list" "str" = some false := by kernel_rfl
theorem kb_int_tuple : kitB "int" "tuple" = some false := by kernel_rfl
theorem kb_bool_tuple : kitB "bool" "tuple" = some false := by kernel_rfl
theorem kb_str_tuple : kitB "str" "tuple" = some false := by kernel_rfl
theorem kb_tuple_tuple : kitB "tuple" "tuple" = some true := by kernel_rfl
theorem kb_NoneType_tuple : kitB "NoneType" "tuple" = some false := by kernel_rfl
theorem kb_list_tuple : kitB "list" "tuple" = some false := by kernel_rfl
theorem kb_int_list : kitB "int" "list" = some false := by kernel_rfl
theorem kb_bool_list : kitB "bool" "list" = some false := by kernel_rfl
theorem kb_str_list : kitB "str" "list" = some false := by kernel_rfl
theorem kb_tuple_list : kitB "tuple" "list" = some false := by kernel_rfl
theorem kb_NoneType_list : kitB "NoneType" "list" = some false := by kernel_rfl
theorem kb_list_list : kitB "list" "list" = some true := by kernel_rfl
section
variable {Q : PV → PH → Prop} {E : EX} {h : PH} {i j : Int} {s t : List Nat} {xs ys : List PV}
theorem isi_iff {T t : String} {x : PV} {b : Bool} (e : tyName h x = some t) (k : kitB t T = some b) : okG (oIsiB T x h) Q E ↔ Q (.bl b) h := by
  unfold oIsiB
  rw [e]
  dsimp only
  rw [k]; rfl
theorem isi_of {T t : String} {x : PV} {b : Bool} (e : tyName h x = some t) (k : kitB t T = some b) (q : Q (.bl b) h) : okG (oIsiB T x h) Q E := (isi_iff e k).mpr q
theorem isi_int_int : okG (oIsiB "int" (.int i) h) Q E ↔ Q (.bl true) h := isi_iff rfl kb_int_int
theorem isi_bool_int {b : Bool} : okG (oIsiB "int" (.bl b) h) Q E ↔ Q (.bl true) h := isi_iff rfl kb_bool_int
theorem isi_str_int : okG (oIsiB "int" (.str s) h) Q E ↔ Q (.bl false) h := isi_iff rfl kb_str_int
theorem isi_tuple_int : okG (oIsiB "int" (.tup xs) h) Q E ↔ Q (.bl false) h := isi_iff rfl kb_tuple_int
theorem isi_NoneType_int : okG (oIsiB "int" .non h) Q E ↔ Q (.bl false) h := isi_iff rfl kb_NoneType_int
theorem isi_list_int : okG (oIsiB "int" (.lst xs) h) Q E ↔ Q (.bl false) h := isi_iff rfl kb_list_int
theorem isi_list2_int {n : Nat} (q : ∃ xs, h[n]? = some (.lst xs) ∧ Q (.bl false) h) : okG (oIsiB "int" (.ref n) h) Q E := by
  obtain ⟨xs, e, q⟩ := q
  refine isi_of (t := "list") ?_ kb_list_int q
  unfold tyName
  dsimp only
  rw [e]
theorem isi_int_bool : okG (oIsiB "bool" (.int i) h) Q E ↔ Q (.bl false) h := isi_iff rfl kb_int_bool
theorem isi_bool_bool {b : Bool} : okG (oIsiB "bool" (.bl b) h) Q E ↔ Q (.bl true) h := isi_iff rfl kb_bool_bool
theorem isi_str_bool : okG (oIsiB "bool" (.str s) h) Q E ↔ Q (.bl false) h := isi_iff rfl kb_str_bool
theorem isi_tuple_bool : okG (oIsiB "bool" (.tup xs) h) Q E ↔ Q (.bl false) h := isi_iff rfl kb_tuple_bool
theorem isi_NoneType_bool : okG (oIsiB "bool" .non h) Q E ↔ Q (.bl false) h := isi_iff rfl kb_NoneType_bool
theorem isi_list_bool : okG (oIsiB "bool" (.lst xs) h) Q E ↔ Q (.bl false) h := isi_iff rfl kb_list_bool
theorem isi_list2_bool {n : Nat} (q : ∃ xs, h[n]? = some (.lst xs) ∧ Q (.bl false) h) : okG (oIsiB "bool" (.ref n) h) Q E := by
  obtain ⟨xs, e, q⟩ := q
  refine isi_of (t := "list") ?_ kb_list_bool q
  unfold tyName
  dsimp only
  rw [e]
theorem isi_int_str : okG (oIsiB "str" (.int i) h) Q E ↔ Q (.bl false) h := isi_iff rfl kb_int_str
theorem isi_bool_str {b : Bool} : okG (oIsiB "str" (.bl b) h) Q E ↔ Q (.bl false) h := isi_iff rfl kb_bool_str
theorem isi_str_str : okG (oIsiB "str" (.str s) h) Q E ↔ Q (.bl true) h := isi_iff rfl kb_str_str
theorem isi_tuple_str : okG (oIsiB "str" (.tup xs) h) Q E ↔ Q (.bl false) h := isi_iff rfl kb_tuple_str
theorem isi_NoneType_str : okG (oIsiB "str" .non h) Q E ↔ Q (.bl false) h := isi_iff rfl kb_NoneType_str
theorem isi_list_str : okG (oIsiB "str" (.lst xs) h) Q E ↔ Q (.bl false) h := isi_iff rfl kb_list_str
theorem isi_list2_str {n : Nat} (q : ∃ xs, h[n]? = some (.lst xs) ∧ Q (.bl false) h) : okG (oIsiB "str" (.ref n) h) Q E := by
  obtain ⟨xs, e, q⟩ := q
  refine isi_of (t := "list") ?_ kb_list_str q
  unfold tyName
  dsimp only
  rw [e]
theorem isi_int_tuple : okG (oIsiB "tuple" (.int i) h) Q E ↔ Q (.bl false) h := isi_iff rfl kb_int_tuple
theorem isi_bool_tuple {b : Bool} : okG (oIsiB "tuple" (.bl b) h) Q E ↔ Q (.bl false) h := isi_iff rfl kb_bool_tuple
theorem isi_str_tuple : okG (oIsiB "tuple" (.str s) h) Q E ↔ Q (.bl false) h := isi_iff rfl kb_str_tuple
theorem isi_tuple_tuple : okG (oIsiB "tuple" (.tup xs) h) Q E ↔ Q (.bl true) h := isi_iff rfl kb_tuple_tuple
theorem isi_NoneType_tuple : okG (oIsiB "tuple" .non h) Q E ↔ Q (.bl false) h := isi_iff rfl kb_NoneType_tuple
theorem isi_list_tuple : okG (oIsiB "tuple" (.lst xs) h) Q E ↔ Q (.bl false) h := isi_iff rfl kb_list_tuple
theorem isi_list2_tuple {n : Nat} (q : ∃ xs, h[n]? = some (.lst xs) ∧ Q (.bl false) h) : okG (oIsiB "tuple" (.ref n) h) Q E := by
  obtain ⟨xs, e, q⟩ := q
  refine isi_of (t := "list") ?_ kb_list_tuple q
  unfold tyName
  dsimp only
  rw [e]
theorem isi_int_list : okG (oIsiB "list" (.int i) h) Q E ↔ Q (.bl false) h := isi_iff rfl kb_int_list
theorem isi_bool_list {b : Bool} : okG (oIsiB "list" (.bl b) h) Q E ↔ Q (.bl false) h := isi_iff rfl kb_bool_list
theorem isi_str_list : okG (oIsiB "list" (.str s) h) Q E ↔ Q (.bl false) h := isi_iff rfl kb_str_list
theorem isi_tuple_list : okG (oIsiB "list" (.tup xs) h) Q E ↔ Q (.bl false) h := isi_iff rfl kb_tuple_list
theorem isi_NoneType_list : okG (oIsiB "list" .non h) Q E ↔ Q (.bl false) h := isi_iff rfl kb_NoneType_list
theorem isi_list_list : okG (oIsiB "list" (.lst xs) h) Q E ↔ Q (.bl true) h := isi_iff rfl kb_list_list
theorem isi_list2_list {n : Nat} (q : ∃ xs, h[n]? = some (.lst xs) ∧ Q (.bl true) h) : okG (oIsiB "list" (.ref n) h) Q E := by
  obtain ⟨xs, e, q⟩ := q
  refine isi_of (t := "list") ?_ kb_list_list q
  unfold tyName
  dsimp only
  rw [e]
end
section
variable {Q : PV → PH → Prop} {E : EX} {h : PH} {i j : Int} {s t : List Nat} {xs ys : List PV} {env : Sl} {N : Sl → PH → Prop} {R : PV → PH → Prop} {B C : Sl → PH → Prop} {X : Nat → PV → Sl → PH → Prop}
theorem o_len_ro : okG (oLen [.ro xs] h) Q E ↔ Q (.int xs.length) h := Iff.rfl
theorem o_len_tup : okG (oLen [.tup xs] h) Q E ↔ Q (.int xs.length) h := Iff.rfl
theorem o_len_lst : okG (oLen [.lst xs] h) Q E ↔ Q (.int xs.length) h := Iff.rfl
theorem o_len_str : okG (oLen [.str s] h) Q E ↔ s.length ≤ SZ ∧ Q (.int s.length) h := by
  unfold oLen
  dsimp only
  by_cases c : s.length ≤ SZ <;> simp [c, okG]
theorem o_int : okG (oInt [.int i] h) Q E ↔ Q (.int i) h := Iff.rfl
theorem o_int_bl {b : Bool} : okG (oInt [.bl b] h) Q E ↔ Q (.int (if b = true then 1 else 0)) h := Iff.rfl
/-- x[i] of a list in the heap -/
theorem o_ix_ref {n : Nat} {z : PV} (e : h[n]? = some (.lst xs)) (hz : atI xs i = some z) : okG (oIx (.ref n) (.int i) h) Q E ↔ Q z h := by
  unfold oIx seqV
  dsimp only
  rw [e]
  dsimp only
  rw [hz]; rfl
theorem o_ix_ref' {n : Nat} (q : ∃ xs z, h[n]? = some (.lst xs) ∧ atI xs i = some z ∧ Q z h) : okG (oIx (.ref n) (.int i) h) Q E := by
  obtain ⟨xs, z, e, hz, q⟩ := q
  exact (o_ix_ref e hz).mpr q
theorem o_ix_tup' (q : ∃ z, atI xs i = some z ∧ Q z h) : okG (oIx (.tup xs) (.int i) h) Q E := by
  obtain ⟨z, hz, q⟩ := q
  unfold oIx seqV
  dsimp only
  rw [hz]; exact q
theorem o_ix_ro' (q : ∃ z, atI xs i = some z ∧ Q z h) : okG (oIx (.ro xs) (.int i) h) Q E := by
  obtain ⟨z, hz, q⟩ := q
  unfold oIx seqV
  dsimp only
  rw [hz]; exact q
theorem o_ix_lst' (q : ∃ z, atI xs i = some z ∧ Q z h) : okG (oIx (.lst xs) (.int i) h) Q E := by
  obtain ⟨z, hz, q⟩ := q
  unfold oIx seqV
  dsimp only
  rw [hz]; exact q
theorem o_len_ref' {n : Nat} (q : ∃ xs, h[n]? = some (.lst xs) ∧ Q (.int xs.length) h) : okG (oLen [.ref n] h) Q E := by
  obtain ⟨xs, e, q⟩ := q
  unfold oLen seqV
  dsimp only
  rw [e]; exact q
theorem set_ref' {n : Nat} {x : PV} (q : ∃ xs j, h[n]? = some (.lst xs) ∧ ixN xs.length i = some j ∧ N env (h.set n (.lst (xs.set j x)))) : okS (setIx (.ref n) (.int i) x env h) N R B C X := by
  obtain ⟨xs, j, e, hj, q⟩ := q
  unfold setIx
  dsimp only
  rw [e]
  dsimp only
  rw [hj]; exact q
theorem iteI {c : Prop} [Decidable c] {A B : Prop} (h1 : c → A) (h2 : ¬ c → B) : if c then A else B := by
  by_cases x : c
  · rw [if_pos x]; exact h1 x
  · rw [if_neg x]; exact h2 x
theorem iteD {c : Prop} [Decidable c] {A B : Prop} (h1 : c → A) (h2 : ¬ c → B) : if decide c = true then A else B := by
  by_cases x : c
  · rw [if_pos (decide_eq_true x)]; exact h1 x
  · rw [if_neg (by rw [decide_eq_false x]; simp)]; exact h2 x
theorem iteN {c : Prop} [Decidable c] {A B : Prop} (h1 : ¬ c → A) (h2 : c → B) : if (!decide c) = true then A else B := by
  by_cases x : c
  · rw [if_neg (by rw [decide_eq_true x]; simp)]; exact h2 x
  · rw [if_pos (by rw [decide_eq_false x]; rfl)]; exact h1 x
theorem iteT {A B : Prop} (h1 : A) : if true = true then A else B := by rw [if_pos rfl]; exact h1
theorem iteNT {A B : Prop} (h1 : A) : if (!false) = true then A else B := iteT h1
theorem iteF {A B : Prop} (h1 : B) : if false = true then A else B := by rw [if_neg (by simp)]; exact h1
theorem iteNF {A B : Prop} (h1 : B) : if (!true) = true then A else B := iteF h1
theorem o_mulI : okG (oMul (.int i) (.int j) h) Q E ↔ okG (oII cMul (fun i j => .int (i * j)) (.int i) (.int j) h) Q E := Iff.rfl
theorem o_any {g : Int → Int → PV} : okG (oII cAny g (.int i) (.int j) h) Q E ↔ Q (g i j) h := Iff.rfl
theorem o_mul' {g : Int → Int → PV} (q : cMul i j = true ∧ Q (g i j) h) : okG (oII cMul g (.int i) (.int j) h) Q E := o_II.mpr q
theorem o_mod' {g : Int → Int → PV} (q : 0 < j ∧ Q (g i j) h) : okG (oII cMod g (.int i) (.int j) h) Q E := o_II.mpr ⟨decide_eq_true q.1, q.2⟩
theorem o_fdiv' {g : Int → Int → PV} (q : (0 < j ∧ j < 18446744073709551616) ∧ Q (g i j) h) : okG (oII cDiv g (.int i) (.int j) h) Q E := o_II.mpr ⟨decide_eq_true q.1, q.2⟩
theorem o_pow' {g : Int → Int → PV} (q : cPow i j = true ∧ Q (g i j) h) : okG (oII cPow g (.int i) (.int j) h) Q E := o_II.mpr q
theorem cMul_l (x : -18446744073709551616 < i ∧ i < 18446744073709551616) : cMul i j = true := decide_eq_true (.inl x)
theorem cMul_r (x : -18446744073709551616 < j ∧ j < 18446744073709551616) : cMul i j = true := decide_eq_true (.inr x)
theorem o_eq_int : okG (oEq (.int i) (.int j) h) Q E ↔ Q (.bl (decide (i = j))) h := by rw [o_eq, eqF_int]; exact oBK_some
theorem o_ne_int : okG (oNe (.int i) (.int j) h) Q E ↔ Q (.bl (!decide (i = j))) h := by rw [o_ne, eqF_int]; exact oBK_some
theorem o_eq_bl {a b : Bool} : okG (oEq (.bl a) (.bl b) h) Q E ↔ Q (.bl (decide (a = b))) h := by rw [o_eq, eqF_bl]; exact oBK_some
theorem o_ne_bl {a b : Bool} : okG (oNe (.bl a) (.bl b) h) Q E ↔ Q (.bl (!decide (a = b))) h := by rw [o_ne, eqF_bl]; exact oBK_some
/-! slices, tuples, is -/
theorem w_No {Q : Option Int → PH → Prop} : okG (mNo env h) Q E ↔ Q none h := Iff.rfl
def soK (Q : Option Int → PH → Prop) : PV → PH → Prop := fun x h => match x with
  | .int i => Q (some i) h
  | _ => False
theorem soK_int {Q : Option Int → PH → Prop} : soK Q (.int i) h ↔ Q (some i) h := Iff.rfl
theorem w_So {m : MG PV} {Q : Option Int → PH → Prop} : okG (mSo m env h) Q E ↔ okG (m env h) (soK Q) E := by
  unfold mSo
  rw [okG_bind]
  refine okG_congr fun x k => ?_
  cases x <;> exact Iff.rfl
theorem w_sl {m : MG PV} {lo hi : MG (Option Int)} : okG (mSl m lo hi env h) Q E ↔ okG (m env h) (fun x h1 => okG (lo env h1) (fun l h2 => okG (hi env h2) (fun u h3 => okG (oSl l u x h3) Q E) E) E) E := by
  unfold mSl
  rw [okG_bind]
  refine okG_congr fun x k => ?_
  rw [okG_bind]
  refine okG_congr fun y k => ?_
  rw [okG_bind]
theorem o_sl_tup {l u : Option Int} : okG (oSl l u (.tup xs) h) Q E ↔ Q (.tup (cutG xs l u)) h := Iff.rfl
theorem o_sl_ro {l u : Option Int} : okG (oSl l u (.ro xs) h) Q E ↔ Q (.lst (cutG xs l u)) h := Iff.rfl
theorem o_sl_lst {l u : Option Int} : okG (oSl l u (.lst xs) h) Q E ↔ Q (.lst (cutG xs l u)) h := Iff.rfl
theorem o_sl_ref' {l u : Option Int} {n : Nat} (q : ∃ xs, h[n]? = some (.lst xs) ∧ Q (.lst (cutG xs l u)) h) : okG (oSl l u (.ref n) h) Q E := by
  obtain ⟨xs, e, q⟩ := q
  unfold oSl seqV
  dsimp only
  rw [e]; exact q
theorem o_tuple_lst : okG (oTuple [.lst xs] h) Q E ↔ Q (.tup xs) h := Iff.rfl
theorem o_tuple_ro : okG (oTuple [.ro xs] h) Q E ↔ Q (.tup xs) h := Iff.rfl
theorem o_tuple_tup : okG (oTuple [.tup xs] h) Q E ↔ Q (.tup xs) h := Iff.rfl
theorem o_tuple_ref' {n : Nat} (q : ∃ xs, h[n]? = some (.lst xs) ∧ Q (.tup xs) h) : okG (oTuple [.ref n] h) Q E := by
  obtain ⟨xs, e, q⟩ := q
  unfold oTuple seqV
  dsimp only
  rw [e]; exact q
theorem o_list_lst : okG (oList [.lst xs] h) Q E ↔ Q (.lst xs) h := Iff.rfl
theorem o_list_ro : okG (oList [.ro xs] h) Q E ↔ Q (.lst xs) h := Iff.rfl
theorem o_list_tup : okG (oList [.tup xs] h) Q E ↔ Q (.lst xs) h := Iff.rfl
theorem o_list_ref' {n : Nat} (q : ∃ xs, h[n]? = some (.lst xs) ∧ Q (.lst xs) h) : okG (oList [.ref n] h) Q E := by
  obtain ⟨xs, e, q⟩ := q
  unfold oList seqV
  dsimp only
  rw [e]; exact q
theorem o_addT' (q : xs.length + ys.length ≤ SZ ∧ Q (.tup (xs ++ ys)) h) : okG (oAdd (.tup xs) (.tup ys) h) Q E := o_addT.mpr q
theorem o_addS' (q : s.length + t.length ≤ SZ ∧ Q (.str (s ++ t)) h) : okG (oAdd (.str s) (.str t) h) Q E := o_addS.mpr q
theorem o_is_bl {a b : Bool} : okG (oIs (.bl a) (.bl b) h) Q E ↔ Q (.bl (decide (a = b))) h := Iff.rfl
theorem o_isnot_bl {a b : Bool} : okG (oIsNot (.bl a) (.bl b) h) Q E ↔ Q (.bl (!decide (a = b))) h := Iff.rfl
theorem o_is_n_int : okG (oIs (.int i) .non h) Q E ↔ Q (.bl false) h := Iff.rfl
theorem o_isnot_n_int : okG (oIsNot (.int i) .non h) Q E ↔ Q (.bl true) h := Iff.rfl
theorem o_is_n_bl {b : Bool} : okG (oIs (.bl b) .non h) Q E ↔ Q (.bl false) h := Iff.rfl
theorem o_isnot_n_bl {b : Bool} : okG (oIsNot (.bl b) .non h) Q E ↔ Q (.bl true) h := Iff.rfl
theorem o_is_n_str : okG (oIs (.str s) .non h) Q E ↔ Q (.bl false) h := Iff.rfl
theorem o_isnot_n_str : okG (oIsNot (.str s) .non h) Q E ↔ Q (.bl true) h := Iff.rfl
theorem o_is_n_tup : okG (oIs (.tup xs) .non h) Q E ↔ Q (.bl false) h := Iff.rfl
theorem o_isnot_n_tup : okG (oIsNot (.tup xs) .non h) Q E ↔ Q (.bl true) h := Iff.rfl
theorem o_is_n_non : okG (oIs .non .non h) Q E ↔ Q (.bl true) h := Iff.rfl
theorem o_isnot_n_non : okG (oIsNot .non .non h) Q E ↔ Q (.bl false) h := Iff.rfl
theorem o_is_n_lst : okG (oIs (.lst xs) .non h) Q E ↔ Q (.bl false) h := Iff.rfl
theorem o_isnot_n_lst : okG (oIsNot (.lst xs) .non h) Q E ↔ Q (.bl true) h := Iff.rfl
theorem o_is_n_ref {n : Nat} : okG (oIs (.ref n) .non h) Q E ↔ Q (.bl false) h := Iff.rfl
theorem o_isnot_n_ref {n : Nat} : okG (oIsNot (.ref n) .non h) Q E ↔ Q (.bl true) h := Iff.rfl
theorem o_is_n_ro : okG (oIs (.ro xs) .non h) Q E ↔ Q (.bl false) h := Iff.rfl
theorem o_isnot_n_ro : okG (oIsNot (.ro xs) .non h) Q E ↔ Q (.bl true) h := Iff.rfl
theorem o_is_n_exn {n : Nat} {p : PV} : okG (oIs (.exn n p) .non h) Q E ↔ Q (.bl false) h := Iff.rfl
theorem o_isnot_n_exn {n : Nat} {p : PV} : okG (oIsNot (.exn n p) .non h) Q E ↔ Q (.bl true) h := Iff.rfl
/-! equality of data -/
def pd : Nat → PV → Bool
  | _, .non => true
  | _, .int _ => true
  | _, .str _ => true
  | n + 1, .tup xs => xs.all (pd n)
  | _, _ => false
theorem eqP_pd {f : PV → PV → Option Bool} : ∀ {xs ys : List PV}, (∀ x ∈ xs, ∀ y ∈ ys, ∃ b, f x y = some b ∧ (b = true ↔ x = y)) → ∃ b, eqP f xs ys = some b ∧ ((b && xs.length == ys.length) = true ↔ xs = ys)
  | [], [], _ => ⟨true, rfl, by simp⟩
  | [], _ :: _, _ => ⟨true, rfl, by simp⟩
  | _ :: _, [], _ => ⟨true, rfl, by simp⟩
  | x :: xs, y :: ys, q => by
    obtain ⟨b1, e1, k1⟩ := q x (List.mem_cons_self ..) y (List.mem_cons_self ..)
    obtain ⟨b2, e2, k2⟩ := eqP_pd (xs := xs) (ys := ys) fun x hx y hy => q x (List.mem_cons_of_mem _ hx) y (List.mem_cons_of_mem _ hy)
    refine ⟨b1 && b2, by unfold eqP; rw [e1, e2], ?_⟩
    rw [List.cons.injEq, ← k1, ← k2, List.length_cons, List.length_cons]
    cases b1 <;> cases b2 <;> simp
theorem eqF_pd : ∀ (n : Nat) {x y : PV}, pd n x = true → pd n y = true → ∃ b, eqF h n x y = some b ∧ (b = true ↔ x = y) := by
  have sc : ∀ {n x y}, scl x = true → scl y = true → pd n x = true → pd n y = true → (eqS x y = true ↔ x = y) := by
    intro n x y h1 h2 h3 h4
    cases x <;> cases y <;> first
      | (simp [eqS]; done)
      | (cases n <;> simp [pd] at h3 h4; done)
      | (simp [scl] at h1 h2; done)
  intro n
  induction n with
  | zero =>
    intro x y hx hy
    have h1 : scl x = true := by cases x <;> first | rfl | (simp [pd] at hx)
    have h2 : scl y = true := by cases y <;> first | rfl | (simp [pd] at hy)
    refine ⟨eqS x y, ?_, sc h1 h2 hx hy⟩
    unfold eqF
    rw [h1, h2]; rfl
  | succ n ih =>
    intro x y hx hy
    unfold eqF
    by_cases h1 : scl x = true
    · rw [if_pos h1]
      by_cases h2 : scl y = true
      · rw [if_pos h2]
        exact ⟨_, rfl, sc h1 h2 hx hy⟩
      · rw [if_neg h2]
        cases y <;> first
          | (simp [pd] at hy; done)
          | (exfalso; exact h2 rfl)
          | (refine ⟨false, rfl, ?_⟩
             cases x <;> first
               | (simp; done)
               | (simp [scl] at h1; done))
    · rw [if_neg h1]
      by_cases h2 : scl y = true
      · rw [if_pos h2]
        cases x <;> first
          | (simp [pd] at hx; done)
          | (exfalso; exact h1 rfl)
          | (refine ⟨false, rfl, ?_⟩
             cases y <;> first
               | (simp; done)
               | (simp [scl] at h2; done))
      · rw [if_neg h2]
        cases x <;> first
          | (simp [pd] at hx; done)
          | (exfalso; exact h1 rfl)
          | (cases y <;> first
              | (simp [pd] at hy; done)
              | (exfalso; exact h2 rfl)
              | (rename_i xs ys
                 have hx : xs.all (pd n) = true := hx
                 have hy : ys.all (pd n) = true := hy
                 obtain ⟨b, e, k⟩ := eqP_pd (xs := xs) (ys := ys) (f := eqF h n) fun x hx' y hy' => ih (List.all_eq_true.mp hx x hx') (List.all_eq_true.mp hy y hy')
                 refine ⟨b && xs.length == ys.length, ?_, ?_⟩
                 · show eqQ (eqF h n) (true, xs) (true, ys) = _
                   unfold eqQ
                   dsimp only
                   rw [if_pos rfl, if_neg (by simp), e]; rfl
                 · rw [k]; simp))
theorem o_eqD {x y : PV} (hx : pd 50 x = true) (hy : pd 50 y = true) (q : ∀ b : Bool, (b = true ↔ x = y) → Q (.bl b) h) : okG (oEq x y h) Q E := by
  obtain ⟨b, e, k⟩ := eqF_pd (h := h) 50 hx hy
  rw [o_eq, e]
  exact oBK_some.mpr (q b k)
theorem o_neD {x y : PV} (hx : pd 50 x = true) (hy : pd 50 y = true) (q : ∀ b : Bool, (b = true ↔ x = y) → Q (.bl (!b)) h) : okG (oNe x y h) Q E := by
  obtain ⟨b, e, k⟩ := eqF_pd (h := h) 50 hx hy
  rw [o_ne, e]
  exact oBK_some.mpr (tbK_bl.mpr (q b k))
theorem o_eq_str : okG (oEq (.str s) (.str t) h) Q E ↔ Q (.bl (decide (s = t))) h := by
  rw [o_eq]
  have : eqF h 50 (.str s) (.str t) = some (decide (s = t)) := by
    show some (s == t) = _
    congr 1
    rw [Bool.eq_iff_iff, decide_eq_true_iff, beq_iff_eq]
  rw [this]; exact oBK_some
theorem o_ne_str : okG (oNe (.str s) (.str t) h) Q E ↔ Q (.bl (!decide (s = t))) h := by
  rw [o_ne]
  have : eqF h 50 (.str s) (.str t) = some (decide (s = t)) := by
    show some (s == t) = _
    congr 1
    rw [Bool.eq_iff_iff, decide_eq_true_iff, beq_iff_eq]
  rw [this]; exact oBK_some
/-- a name: its labels -/
abbrev Nm := List (List Nat)
def nm (l : Nm) : PV := .tup (l.map .str)
theorem pd_nm {l : Nm} {n : Nat} : pd (n + 1) (nm l) = true := by
  show (l.map PV.str).all (pd n) = true
  rw [List.all_map, List.all_eq_true]
  intro x _
  cases n <;> rfl
theorem nm_inj {a b : Nm} : nm a = nm b ↔ a = b := by
  unfold nm
  rw [PV.tup.injEq, List.map_inj_right (fun x y e => PV.str.inj e)]
theorem o_eq_nm {a b : Nm} : okG (oEq (nm a) (nm b) h) Q E ↔ Q (.bl (decide (a = b))) h := by
  obtain ⟨c, e, k⟩ := eqF_pd (h := h) 50 (pd_nm (l := a)) (pd_nm (l := b))
  rw [o_eq, e, oBK_some]
  rw [nm_inj] at k
  have : c = decide (a = b) := by rw [Bool.eq_iff_iff, k, decide_eq_true_iff]
  rw [this]
theorem o_ne_nm {a b : Nm} : okG (oNe (nm a) (nm b) h) Q E ↔ Q (.bl (!decide (a = b))) h := by
  obtain ⟨c, e, k⟩ := eqF_pd (h := h) 50 (pd_nm (l := a)) (pd_nm (l := b))
  rw [o_ne, e, oBK_some]
  rw [nm_inj] at k
  have : c = decide (a = b) := by rw [Bool.eq_iff_iff, k, decide_eq_true_iff]
  rw [this]; exact Iff.rfl
theorem o_len_nm {l : Nm} : okG (oLen [nm l] h) Q E ↔ Q (.int (l.length : Nat)) h := by
  show Q (.int ((l.map PV.str).length : Nat)) h ↔ _
  rw [List.length_map]
theorem cutG_map {α β : Type} {f : α → β} {l : List α} {lo hi : Option Int} : cutG (l.map f) lo hi = (cutG l lo hi).map f := by
  unfold cutG
  rw [List.length_map, List.map_take, List.map_drop]
theorem o_sl_nm {l : Nm} {lo hi : Option Int} : okG (oSl lo hi (nm l) h) Q E ↔ Q (nm (cutG l lo hi)) h := by
  show Q (.tup (cutG (l.map PV.str) lo hi)) h ↔ _
  rw [cutG_map]; exact Iff.rfl
theorem o_add_nm' {a b : Nm} (q : a.length + b.length ≤ SZ ∧ Q (nm (a ++ b)) h) : okG (oAdd (nm a) (nm b) h) Q E := by
  refine o_addT' ?_
  rw [List.length_map, List.length_map, ← List.map_append]
  exact q
theorem putM_nm {l : Nm} : putM Q (nm l) h ↔ Q (nm l) h := Iff.rfl
/-! comprehensions -/
theorem okLc {src : Src} {g : TgP} {t : MG Bool} {m : MG PV} {e0 : Sl} (I : List PV → List PV → PH → Prop) (hg : ∀ xs acc k, I xs acc k → gd src k)
    (hs : ∀ x r acc k, I (x :: r) acc k → ∃ e1, g x e0 = some e1 ∧ okG (t e1 k) (fun b k1 => if b = true then okG (m e1 k1) (putM fun y k2 => I r (acc ++ [y]) k2) fun _ _ _ => False else I r acc k1) fun _ _ _ => False) :
    ∀ (xs acc : List PV) (k : PH), I xs acc k → okG (lcL src g t m e0 xs k) (fun ys k' => I [] (acc ++ ys) k') fun _ _ _ => False
  | [], acc, k, i => by
    unfold lcL
    rw [if_pos (hg _ _ _ i)]
    show I [] (acc ++ []) k
    rw [List.append_nil]; exact i
  | x :: r, acc, k, i => by
    unfold lcL
    rw [if_pos (hg _ _ _ i)]
    obtain ⟨e1, q, z⟩ := hs _ _ _ _ i
    rw [q]
    dsimp only
    revert z
    cases t e1 k with
    | ok b k1 =>
      intro z
      have z : if b = true then okG (m e1 k1) (putM fun y k2 => I r (acc ++ [y]) k2) fun _ _ _ => False else I r acc k1 := z
      cases b with
      | true =>
        rw [if_pos rfl] at z
        have z := w_M.mpr z
        dsimp only
        revert z
        cases mM m e1 k1 with
        | ok y k2 =>
          intro z
          have z := okLc I hg hs r _ k2 z
          dsimp only
          revert z
          cases lcL src g t m e0 r k2 with
          | ok ys k3 =>
            intro z
            have z : I [] (acc ++ [y] ++ ys) k3 := z
            rw [List.append_assoc] at z
            exact z
          | ex c p k3 => exact fun z => z.elim
          | bad => exact fun z => z
        | ex c p k2 => exact fun z => z.elim
        | bad => exact fun z => z
      | false =>
        rw [if_neg (by simp)] at z
        exact okLc I hg hs r acc k1 z
    | ex c p k1 => exact fun z => z.elim
    | bad => exact fun z => z
theorem w_true {Q : Bool → PH → Prop} : okG (tTrue env h) Q E ↔ Q true h := Iff.rfl
theorem w_lc {mi : MG Src} {g : TgP} {own : List Nat} {t : MG Bool} {m : MG PV} : okG (mLC mi g own t m env h) Q E ↔ okG (mi env h) (fun src h1 => okG (lcL src g t m (wipeP env own) src.items h1) (fun ys h2 => Q (.lst ys) h2) E) E := by
  unfold mLC
  rw [okG_bind]
  refine okG_congr fun x k => ?_
  rw [okG_bind]
  exact okG_congr fun y k => Iff.rfl
theorem rgI_len {lo : Int} {n : Nat} : (rgI lo n).length = n := by simp [rgI]
theorem w_seqM {a b : MS} (M : Sl → PH → Prop) (h1 : okS (a env h) M R B C X) (h2 : ∀ e k, M e k → okS (b e k) N R B C X) : okS (sSeq a b env h) N R B C X :=
  w_seq.mpr (h1.mono h2 (fun _ _ z => z) (fun _ _ z => z) (fun _ _ z => z) fun _ _ _ _ z => z)
local macro_rules | `(tactic| walk_at "z0") => `(tactic| with_reducible first | refine w_K.mpr ?_ | refine w_B.mpr ?_ | refine w_U.mpr ?_ | refine w_C.mpr ?_ | refine w_nil.mpr ?_ | refine w_cons.mpr ?_ | refine w_consR.mpr ?_ | refine w_M.mpr ?_ | refine w_if.mpr ?_ | refine w_tr.mpr ?_ | refine w_tb.mpr ?_ | refine w_not.mpr ?_ | refine w_and.mpr ?_ | refine w_or.mpr ?_ | refine w_andV.mpr ?_ | refine w_orV.mpr ?_ | refine w_notV.mpr ?_ | refine w_ch.mpr ?_ | refine w_nilS.mpr ?_ | refine w_bk.mpr ?_ | refine w_ct.mpr ?_ | refine w_retN.mpr ?_ | refine w_seq.mpr ?_ | refine w_set.mpr ?_ | refine w_asg.mpr ?_ | refine w_ret.mpr ?_ | refine w_exp.mpr ?_ | refine w_aug.mpr ?_ | refine w_sub.mpr ?_ | refine w_iseq.mpr ?_ | refine w_tup.mpr ?_ | refine w_lst.mpr ?_ | refine w_sl.mpr ?_ | refine w_So.mpr ?_ | refine w_No.mpr ?_ | refine w_lc.mpr ?_ | refine w_true.mpr ?_ | refine w_meth.mpr ?_ | refine w_raise.mpr ?_)
local macro_rules | `(tactic| walk_at "z1") => `(tactic| with_reducible first | refine okG_ok.mpr ?_ | refine okG_ex.mpr ?_ | refine okS_nx.mpr ?_ | refine okS_rt.mpr ?_ | refine okS_bk.mpr ?_ | refine okS_ct.mpr ?_ | refine okS_ex.mpr ?_ | refine putM_int.mpr ?_ | refine putM_bl.mpr ?_ | refine putM_ref.mpr ?_ | refine putM_str.mpr ?_ | refine putM_tup.mpr ?_ | refine putM_ro.mpr ?_ | refine putM_non.mpr ?_ | refine putM_exn.mpr ?_ | refine putM_lst.mpr ?_ | refine tbK_bl.mpr ?_ | refine trK_bl.mpr ?_ | refine trK_int.mpr ?_ | refine trK_non.mpr ?_ | refine soK_int.mpr ?_ | refine putM_nm.mpr ?_ | refine iteT ?_ | refine iteF ?_ | refine iteNT ?_ | refine iteNF ?_)
local macro_rules | `(tactic| walk_at "z2") => `(tactic| with_reducible first | refine o_add.mpr ?_ | refine o_mulI.mpr ?_ | refine o_addA.mpr ?_ | refine o_neg.mpr ?_ | refine o_any.mpr ?_ | refine o_eq_int.mpr ?_ | refine o_ne_int.mpr ?_ | refine o_eq_bl.mpr ?_ | refine o_ne_bl.mpr ?_ | refine o_int.mpr ?_ | refine o_int_bl.mpr ?_ | refine o_len_ro.mpr ?_ | refine o_len_tup.mpr ?_ | refine o_len_lst.mpr ?_ | refine oBK_some.mpr ?_ | refine o_eq_str.mpr ?_ | refine o_ne_str.mpr ?_ | refine o_eq_nm.mpr ?_ | refine o_ne_nm.mpr ?_ | refine o_len_nm.mpr ?_ | refine o_sl_nm.mpr ?_ | refine o_sl_tup.mpr ?_ | refine o_sl_ro.mpr ?_ | refine o_sl_lst.mpr ?_ | refine o_tuple_lst.mpr ?_ | refine o_tuple_ro.mpr ?_ | refine o_tuple_tup.mpr ?_ | refine o_list_lst.mpr ?_ | refine o_list_ro.mpr ?_ | refine o_list_tup.mpr ?_ | refine o_is_bl.mpr ?_ | refine o_isnot_bl.mpr ?_ | refine o_inS.mpr ?_ | refine o_notinS.mpr ?_ | refine o_ord.mpr ?_)
local macro_rules | `(tactic| walk_at "z3") => `(tactic| first | ((with_reducible show _ ≤ SZ ∧ _); refine ⟨by first | exact Nat.le_of_ble_eq_true rfl | ((show _ ≤ 16777216); omega), ?_⟩) | ((with_reducible show tyB _ _ _ = true ∧ _); refine ⟨by rfl, ?_⟩) | ((with_reducible show ∃ x, [_] = [x] ∧ _); refine ⟨_, rfl, ?_⟩) | ((with_reducible show srcK _ (nm _) _); refine ⟨_, rfl, ?_⟩) | ((with_reducible show srcK _ (.tup _) _); refine ⟨_, rfl, ?_⟩) | ((with_reducible show srcK _ (.ro _) _); refine ⟨_, rfl, ?_⟩) | ((with_reducible show srcK _ (.lst _) _); refine ⟨_, rfl, ?_⟩) | ((with_reducible refine w_V' ?_); refine ⟨_, rfl, ?_⟩) | ((with_reducible refine o_ix_ref' ?_); refine ⟨_, _, by first | assumption | rfl, by rfl, ?_⟩) | ((with_reducible refine o_ix_tup' ?_); refine ⟨_, by rfl, ?_⟩) | ((with_reducible refine o_ix_ro' ?_); refine ⟨_, by rfl, ?_⟩) | ((with_reducible refine o_ix_lst' ?_); refine ⟨_, by rfl, ?_⟩) | ((with_reducible refine o_len_ref' ?_); refine ⟨_, by first | assumption | rfl, ?_⟩) | ((with_reducible refine set_ref' ?_); refine ⟨_, _, by first | assumption | rfl, by rfl, ?_⟩))
local macro_rules | `(tactic| walk_at "z4") => `(tactic| first | ((with_reducible refine o_mul' ?_); refine ⟨by first | exact cMul_l (by decide) | exact cMul_r (by decide) | exact cMul_l (by omega) | exact cMul_r (by omega), ?_⟩) | ((with_reducible refine o_mod' ?_); refine ⟨by omega, ?_⟩) | ((with_reducible refine o_fdiv' ?_); refine ⟨by omega, ?_⟩) | ((with_reducible refine o_pow' ?_); refine ⟨by decide, ?_⟩))
local macro_rules | `(tactic| walk_at "z5") => `(tactic| ((with_reducible show okG (oIsiB _ _ _) _ _); first | (with_reducible refine isi_int_int.mpr ?_) | (with_reducible refine isi_bool_int.mpr ?_) | (with_reducible refine isi_str_int.mpr ?_) | (with_reducible refine isi_tuple_int.mpr ?_) | (with_reducible refine isi_NoneType_int.mpr ?_) | (with_reducible refine isi_list_int.mpr ?_) | (with_reducible refine isi_int_bool.mpr ?_) | (with_reducible refine isi_bool_bool.mpr ?_) | (with_reducible refine isi_str_bool.mpr ?_) | (with_reducible refine isi_tuple_bool.mpr ?_) | (with_reducible refine isi_NoneType_bool.mpr ?_) | (with_reducible refine isi_list_bool.mpr ?_) | (with_reducible refine isi_int_str.mpr ?_) | (with_reducible refine isi_bool_str.mpr ?_) | (with_reducible refine isi_str_str.mpr ?_) | (with_reducible refine isi_tuple_str.mpr ?_) | (with_reducible refine isi_NoneType_str.mpr ?_) | (with_reducible refine isi_list_str.mpr ?_) | (with_reducible refine isi_int_tuple.mpr ?_) | (with_reducible refine isi_bool_tuple.mpr ?_) | (with_reducible refine isi_str_tuple.mpr ?_) | (with_reducible refine isi_tuple_tuple.mpr ?_) | (with_reducible refine isi_NoneType_tuple.mpr ?_) | (with_reducible refine isi_list_tuple.mpr ?_) | (with_reducible refine isi_int_list.mpr ?_) | (with_reducible refine isi_bool_list.mpr ?_) | (with_reducible refine isi_str_list.mpr ?_) | (with_reducible refine isi_tuple_list.mpr ?_) | (with_reducible refine isi_NoneType_list.mpr ?_) | (with_reducible refine isi_list_list.mpr ?_) | ((with_reducible refine isi_list2_int ?_); refine ⟨_, by first | assumption | rfl, ?_⟩) | ((with_reducible refine isi_list2_bool ?_); refine ⟨_, by first | assumption | rfl, ?_⟩) | ((with_reducible refine isi_list2_str ?_); refine ⟨_, by first | assumption | rfl, ?_⟩) | ((with_reducible refine isi_list2_tuple ?_); refine ⟨_, by first | assumption | rfl, ?_⟩) | ((with_reducible refine isi_list2_list ?_); refine ⟨_, by first | assumption | rfl, ?_⟩)))
local macro_rules | `(tactic| walk_at "z6") => `(tactic| with_reducible first | refine o_is_n_int.mpr ?_ | refine o_isnot_n_int.mpr ?_ | refine o_is_n_bl.mpr ?_ | refine o_isnot_n_bl.mpr ?_ | refine o_is_n_str.mpr ?_ | refine o_isnot_n_str.mpr ?_ | refine o_is_n_tup.mpr ?_ | refine o_isnot_n_tup.mpr ?_ | refine o_is_n_non.mpr ?_ | refine o_isnot_n_non.mpr ?_ | refine o_is_n_lst.mpr ?_ | refine o_isnot_n_lst.mpr ?_ | refine o_is_n_ref.mpr ?_ | refine o_isnot_n_ref.mpr ?_ | refine o_is_n_ro.mpr ?_ | refine o_isnot_n_ro.mpr ?_ | refine o_is_n_exn.mpr ?_ | refine o_isnot_n_exn.mpr ?_)
local macro_rules | `(tactic| walk_at "z7") => `(tactic| first | ((with_reducible refine o_sl_ref' ?_); refine ⟨_, by first | assumption | rfl, ?_⟩) | ((with_reducible refine o_tuple_ref' ?_); refine ⟨_, by first | assumption | rfl, ?_⟩) | ((with_reducible refine o_list_ref' ?_); refine ⟨_, by first | assumption | rfl, ?_⟩) | ((with_reducible refine o_add_nm' ?_); refine ⟨by (show _ ≤ 16777216); omega, ?_⟩) | ((with_reducible refine o_addT' ?_); refine ⟨by (show _ ≤ 16777216); omega, ?_⟩) | ((with_reducible refine o_addS' ?_); refine ⟨by (show _ ≤ 16777216); first | omega | (simp only [List.length_cons, List.length_nil, List.length_append, List.length_map, List.length_replicate, List.length_singleton]; omega), ?_⟩) | ((with_reducible refine o_len_str' ?_); refine ⟨by (show _ ≤ 16777216); first | omega | (simp only [List.length_cons, List.length_nil, List.length_append, List.length_map, List.length_replicate, List.length_singleton]; omega), ?_⟩))
local macro_rules | `(tactic| walk_at "z8") => `(tactic| first | ((with_reducible refine eqO_pl ?_); refine ⟨by rfl, ?_⟩) | ((with_reducible refine neO_pl ?_); refine ⟨by rfl, ?_⟩))
local macro_rules | `(tactic| walk_at "z") => `(tactic| first | walk_at "z0" | walk_at "z1" | walk_at "z2" | walk_at "z3" | walk_at "z4" | walk_at "z5" | walk_at "z6" | walk_at "z7" | walk_at "z8")
local macro_rules | `(tactic| walk_at "zz") => `(tactic| repeat walk_at "z")
local macro_rules | `(tactic| walk_at "zi") => `(tactic| with_reducible first | refine iteD ?_ ?_ | refine iteN ?_ ?_ | refine iteI ?_ ?_)
local macro_rules | `(tactic| walk_at "zs") => `(tactic| with_reducible refine w_seq.mpr ?_)
local macro_rules | `(tactic| walk_at "zf") => `(tactic| ((with_reducible first | refine w_ifS.mpr ?_ | refine w_for.mpr ?_); walk_at "zz"; try walk_at "zi"))
local macro_rules | `(tactic| walk_at "zr") => `(tactic| ((with_reducible refine w_rg1 ?_); walk_at "zz"; refine ⟨_, rfl, by omega, ?_⟩))
local macro_rules | `(tactic| walk_at "zr2") => `(tactic| ((with_reducible refine w_rg2 ?_); walk_at "zz"; refine ⟨_, _, rfl, by omega, ?_⟩))
theorem okS_mid {r : RS} (M : Sl → PH → Prop) (h1 : okS r M R B C X) (h2 : ∀ e k, M e k → N e k) : okS r N R B C X := h1.mono h2 (fun _ _ z => z) (fun _ _ z => z) (fun _ _ z => z) fun _ _ _ _ z => z
theorem okForN {its : List PV} {g : TgP} {b : MS} (I : List PV → Sl → PH → Prop)
    (hs : ∀ x r e k, I (x :: r) e k → ∃ e1, g x e = some e1 ∧ okS (b e1 k) (I r) R N (I r) X) (he : ∀ e k, I [] e k → N e k) {xs : List PV} {e : Sl} {k : PH} (i : I xs e k) : okS (forL ⟨its, none⟩ g b xs e k) N R B C X :=
  okFor (src := ⟨its, none⟩) I (fun _ _ _ _ => trivial) hs he xs e k i
theorem clL_map {α : Type} {f : α → PV} {n : Nat} : ∀ {l : List α}, (∀ x ∈ l, clV n (f x) = true) → clL n (l.map f) = true
  | [], _ => rfl
  | x :: r, q => by
    rw [List.map_cons, clL, q x (List.mem_cons_self ..), clL_map fun y hy => q y (List.mem_cons_of_mem _ hy)]; rfl
theorem clV_nm {l : Nm} {n : Nat} : clV n (nm l) = true := by
  show clL n (l.map PV.str) = true
  exact clL_map fun _ _ => rfl
theorem rgI_succ {lo : Int} {n : Nat} : rgI lo (n + 1) = .int lo :: rgI (lo + 1) n := by
  unfold rgI
  rw [List.range_succ_eq_map, List.map_cons, List.map_map]
  refine congr (congrArg _ (by simp)) (List.map_congr_left fun i _ => ?_)
  show PV.int (lo + ((i + 1 : Nat) : Int)) = PV.int (lo + 1 + (i : Int))
  congr 1; omega
theorem okForR {its : List PV} {g : TgP} {b : MS} {lo : Int} {n : Nat} (I : Nat → Sl → PH → Prop)
    (hs : ∀ k e h, k < n → I k e h → ∃ e1, g (.int (lo + (k : Nat))) e = some e1 ∧ okS (b e1 h) (I (k + 1)) R N (I (k + 1)) X) (he : ∀ e h, I n e h → N e h) {e : Sl} {h : PH} (i : I 0 e h) : okS (forL ⟨its, none⟩ g b (rgI lo n) e h) N R B C X := by
  refine okForN (fun r e h => ∃ k, k ≤ n ∧ r = rgI (lo + (k : Nat)) (n - k) ∧ I k e h) (fun x r e h i => ?_) (fun e h i => ?_) ⟨0, Nat.zero_le _, by simp, i⟩
  · obtain ⟨k, hk, er, i⟩ := i
    by_cases hn : k < n
    · rw [show n - k = (n - (k + 1)) + 1 by omega, rgI_succ] at er
      cases er
      obtain ⟨e1, q, z⟩ := hs k e h hn i
      have nx : ∀ e h, I (k + 1) e h → ∃ k', k' ≤ n ∧ rgI (lo + (k : Nat) + 1) (n - (k + 1)) = rgI (lo + (k' : Nat)) (n - k') ∧ I k' e h := fun e h i => ⟨k + 1, hn, by rw [show lo + (k : Int) + 1 = lo + ((k + 1 : Nat) : Int) by omega], i⟩
      exact ⟨e1, q, z.mono nx (fun _ _ z => z) (fun _ _ z => z) nx fun _ _ _ _ z => z⟩
    · rw [show n - k = 0 by omega] at er
      cases er
  · obtain ⟨k, hk, er, i⟩ := i
    have : k = n := by
      have := congrArg List.length er
      rw [rgI_len] at this
      simp at this
      omega
    subst this
    exact he e h i
theorem sIx_some_nat (n d k : Nat) : HT.sIx n d (some (k : Int)) = min k n := HT.sIx_nat n d k
theorem cut_from {α : Type} (l : List α) (k : Nat) : cutG l (some (k : Int)) none = l.drop k := by
  unfold cutG
  rw [sIx_some_nat, HT.sIx_none]
  by_cases hk : k ≤ l.length
  · rw [Nat.min_eq_left hk]
    exact List.take_of_length_le (by rw [List.length_drop]; exact Nat.le_refl _)
  · rw [Nat.min_eq_right (by omega), List.drop_of_length_le (Nat.le_refl _), List.drop_of_length_le (by omega)]
    exact List.take_nil
/-! ### the draw -/
noncomputable def bDraw : MS := (sSeq (sIf (mTb (mB oEq (mB oIx (mV 0) (mK (.int 1))) (mK (.int 0))))
    (sSeq (sSet 3 (mK (.int 0)))
    (sSeq (sIf (mTb (mB oGt (mC oLen (aConsR (mV 1) aNil)) (mK (.int 0))))
    (sSet 3 (mB oIx (mV 1) (mB oMod (mB oIx (mV 0) (mK (.int 0))) (mC oLen (aConsR (mV 1) aNil)))))
    sNil)
    (sSeq (sIf (mTb (mB oLt (mV 3) (mK (.int 0))))
    (sSet 3 (mB oSub (mK (.int 1)) (mB oMul (mK (.int 2)) (mV 3))))
    sNil)
    (sSeq (sSet 4 (mB oMod (mC oInt (aConsR (mB oMul (mB oAdd (mB oAdd (mV 3) (mB oMul (mB oIx (mV 0) (mK (.int 0))) (mK (.int 7919)))) (mK (.int 1))) (mK (.int 48271))) aNil)) (mK (.int 2147483647))))
    (sSeq (sSub (mV 0) (mK (.int 1)) (mB oMod (mC oInt (aConsR (mB oAdd (mB oMul (mV 4) (mK (.int 69621))) (mB oMul (mB oIx (mV 0) (mK (.int 0))) (mK (.int 104729)))) aNil)) (mK (.int 4294967291))))
    (sSeq (sIf (mAnd (mTb (mB oGe (mV 3) (mB oPow (mK (.int 10)) (mK (.int 18))))) (mTb (mB oLt (mB oIx (mV 0) (mK (.int 0))) (mC oLen (aConsR (mV 1) aNil)))))
    (sSub (mV 0) (mK (.int 1)) (mV 3))
    sNil)
    (sSub (mV 0) (mK (.int 0)) (mB oAdd (mB oIx (mV 0) (mK (.int 0))) (mK (.int 1))))))))))
    sNil)
    (sSeq (sSet 5 (mB oMod (mC oInt (aConsR (mB oIx (mV 0) (mK (.int 1))) aNil)) (mV 2)))
    (sSeq (sSub (mV 0) (mK (.int 1)) (mB oFdiv (mB oIx (mV 0) (mK (.int 1))) (mV 2)))
    (sRet (mV 5)))))
theorem get_set {n : Nat} {o u : OB} (e : h[n]? = some u) : (h.set n o)[n]? = some o := by
  have : n < h.length := by
    by_cases c : n < h.length
    · exact c
    · rw [List.getElem?_eq_none (by omega)] at e; cases e
  exact List.getElem?_set_self this
theorem atI_mod {ns : List Int} (a : Int) (hl : 0 < ns.length) : ∃ c : Int, atI (ns.map PV.int) (a % ((ns.map PV.int).length : Nat)) = some (.int c) := by
  have h0 : (0 : Int) < (ns.length : Nat) := by omega
  have h1 := Int.emod_nonneg a (by omega : ((ns.length : Nat) : Int) ≠ 0)
  have h2 := Int.emod_lt_of_pos a h0
  rw [List.length_map]
  generalize a % ((ns.length : Nat) : Int) = k at h1 h2 ⊢
  obtain ⟨m, rfl⟩ := Int.eq_ofNat_of_zero_le h1
  have hm : m < ns.length := by omega
  refine ⟨ns[m], ?_⟩
  exact atI_nat (by rw [List.getElem?_map, List.getElem?_eq_getElem hm]; rfl)
theorem list_set_same {α : Type} {l : List α} {n : Nat} {x : α} (e : l[n]? = some x) : l.set n x = l := by
  apply List.ext_getElem?
  intro m
  by_cases c : n = m
  · subst c
    rw [e]
    by_cases hl : n < l.length
    · rw [List.getElem?_set_self hl]
    · rw [List.getElem?_eq_none (by omega)] at e; cases e
  · rw [List.getElem?_set_ne c]
set_option maxHeartbeats 1000000 in
theorem draw_wp {n : Nat} {size : Int} {ns : List Int} {a b : Int} (ha : 0 ≤ a) (hb : 0 ≤ b) (hh : h[n]? = some (.lst [.int a, .int b])) (h1 : 0 < size) (h2 : size < 18446744073709551616)
    (q : ∀ d a' b' : Int, 0 ≤ d → d < size → 0 ≤ a' → 0 ≤ b' → Q (.int d) (h.set n (.lst [.int a', .int b']))) : okG (semD 6 bDraw [.ref n, .ro (ns.map .int), .int size] h) Q E := by
  refine w_sem ?_
  have q' : ∀ d a' b' : Int, 0 ≤ d → d < size → 0 ≤ a' → 0 ≤ b' → gcK h Q E (.int d) (h.set n (.lst [.int a', .int b'])) := fun d a' b' x1 x2 x3 x4 => gc_set0 rfl rfl (q d a' b' x1 x2 x3 x4)
  generalize gcK h Q E = R at q'
  generalize gcE h E = R'
  show okS (bDraw [some (.ref n), some (.ro (ns.map .int)), some (.int size), none, none, none] h) _ _ _ _ _
  unfold bDraw
  refine w_seqM (fun e k => ∃ a' b' x3 x4, 0 ≤ a' ∧ 0 ≤ b' ∧ e = [some (.ref n), some (.ro (ns.map .int)), some (.int size), x3, x4, none] ∧ k = h.set n (.lst [.int a', .int b'])) ?_ ?_
  · walk_at "zz"
    walk_at "zf"
    · intro hc
      subst hc
      walk_at "zz"
      refine okS_mid (fun e k => ∃ c, e = [some (.ref n), some (.ro (ns.map .int)), some (.int size), some (.int c), none, none] ∧ h = k) ?_ ?_
      · walk_at "zf"
        · intro hc
          have hl : 0 < ns.length := by rw [List.length_map] at hc; omega
          obtain ⟨c, hx⟩ := atI_mod (ns := ns) a hl
          walk_at "zz"
          refine o_ix_ro' ⟨_, hx, ?_⟩
          walk_at "zz"
          exact ⟨_, rfl, rfl⟩
        · intro hc
          walk_at "zz"
          exact ⟨_, rfl, rfl⟩
      · rintro e k ⟨c, rfl, rfl⟩
        walk_at "zz"
        refine okS_mid (fun e k => ∃ c, 0 ≤ c ∧ e = [some (.ref n), some (.ro (ns.map .int)), some (.int size), some (.int c), none, none] ∧ h = k) ?_ ?_
        · walk_at "zf"
          · intro hc
            walk_at "zz"
            exact ⟨_, by omega, rfl, rfl⟩
          · intro hc
            walk_at "zz"
            exact ⟨_, by omega, rfl, rfl⟩
        · rintro e k ⟨c, hc0, rfl, rfl⟩
          walk_at "zz"
          have hg : ∀ y, (h.set n (.lst [.int a, .int y]))[n]? = some (.lst [.int a, .int y]) := fun y => get_set hh
          have hy := Int.emod_nonneg ((c + a * 7919 + 1) * 48271 % 2147483647 * 69621 + a * 104729) (show (4294967291 : Int) ≠ 0 by decide)
          have hh := hg (((c + a * 7919 + 1) * 48271 % 2147483647 * 69621 + a * 104729) % 4294967291)
          have hg' := hg c
          refine okS_mid (fun e k => ∃ y x4, 0 ≤ y ∧ e = [some (.ref n), some (.ro (ns.map .int)), some (.int size), some (.int c), some x4, none] ∧ k = h.set n (.lst [.int a, .int y])) ?_ ?_
          · walk_at "zf"
            · intro hc
              walk_at "zz"
              walk_at "zi"
              · intro hc2
                walk_at "zz"
                exact ⟨c, _, hc0, rfl, by rw [List.set_set]; rfl⟩
              · intro hc2
                walk_at "zz"
                exact ⟨_, _, hy, rfl, rfl⟩
            · intro hc
              walk_at "zz"
              exact ⟨_, _, hy, rfl, rfl⟩
          · rintro e k ⟨y, x4, hy0, rfl, rfl⟩
            have hgy := hg y
            walk_at "zz"
            exact ⟨a + 1, y, _, _, by omega, hy0, rfl, by rw [List.set_set]; rfl⟩
    · intro hc
      walk_at "zz"
      exact ⟨a, b, none, none, ha, hb, rfl, by rw [list_set_same hh]⟩
  · rintro e k ⟨a', b', x3, x4, ha', hb', rfl, rfl⟩
    have hh' := get_set (o := .lst [.int a', .int b']) hh
    walk_at "zz"
    rw [List.set_set]
    exact q' _ _ _ (Int.emod_nonneg _ (by omega)) (Int.emod_lt_of_pos _ h1) ha' (Int.ediv_nonneg hb' (by omega))
end
end Z
namespace Z
open PySem PySem.Spec PyProof.Rows L2
section
variable {Q : PV → PH → Prop} {E : EX} {h : PH} {i j : Int} {s t : List Nat} {xs ys : List PV} {env : Sl} {N : Sl → PH → Prop} {R : PV → PH → Prop} {B C : Sl → PH → Prop} {X : Nat → PV → Sl → PH → Prop}
/-! ### texts -/
theorem o_inS {c : Nat} : okG (oInA (.str [c]) (.str t) h) Q E ↔ Q (.bl (decide (c ∈ t))) h := Iff.rfl
theorem o_notinS {c : Nat} : okG (oNotInA (.str [c]) (.str t) h) Q E ↔ Q (.bl (!decide (c ∈ t))) h := Iff.rfl
theorem o_len_str' (q : s.length ≤ SZ ∧ Q (.int s.length) h) : okG (oLen [.str s] h) Q E := o_len_str.mpr q
theorem o_ord {c : Nat} : okG (oOrd [.str [c]] h) Q E ↔ Q (.int c) h := Iff.rfl
theorem w_meth {ty : Tm} {f : PV → List PV → PH → RG PV} {mo : MG PV} {as : MG (List PV)} : okG (mMeth ty f mo as env h) Q E ↔ okG (mo env h) (fun o h1 => tyB ty h1 o = true ∧ okG (as env h1) (fun xs h2 => okG (f o xs h2) Q E) E) E := by
  unfold mMeth
  rw [okG_bind]
  refine okG_congr fun x k => ?_
  cases c : tyB ty k x with
  | true => rw [if_pos rfl, okG_bind]; simp
  | false => rw [if_neg (by simp)]; simp [okG]
/-! ### all, any, sum -/
/-! ### a comprehension over what is known, whose element is a plain function -/
/-! ### raising, catching -/
theorem w_raise {c : Nat} {as : MG (List PV)} : okS (sRaise c as env h) N R B C X ↔ okG (as env h) (fun xs h1 => ∃ x, xs = [x] ∧ X c x env h1) fun c p h1 => X c p env h1 := by
  unfold sRaise
  rw [okS_toS]
  refine okG_congr fun x k => ?_
  match x with
  | [] => simp [okS]
  | [x] => simp [okS]
  | x :: y :: r => simp [okS]
end
/-! ### the draw, its state first in the heap -/
def Sd := {p : Int × Int // 0 ≤ p.1 ∧ 0 ≤ p.2}
def SH (s : Sd) (t : PH) : PH := .lst [.int s.1.1, .int s.1.2] :: t
theorem draw_sh {t : PH} {s : Sd} {ns : List Int} {size : Int} {Q : PV → PH → Prop} {E : EX} (h1 : 0 < size) (h2 : size < 18446744073709551616) (q : ∀ (d : Nat) (s' : Sd), (d : Int) < size → Q (.int d) (SH s' t)) : okG (semD 6 bDraw [.ref 0, .ro (ns.map .int), .int size] (SH s t)) Q E := by
  refine draw_wp (n := 0) (a := s.1.1) (b := s.1.2) s.2.1 s.2.2 rfl h1 h2 fun d a b h0 h1 ha hb => ?_
  obtain ⟨m, rfl⟩ := Int.eq_ofNat_of_zero_le h0
  exact q m ⟨(a, b), ha, hb⟩ h1
theorem gc_sh0 {s s' : Sd} {t : PH} {x : PV} {Q : PV → PH → Prop} {E : EX} (hc : clV (t.length + 1) x = true) (q : Q x (SH s' t)) : gcK (SH s t) Q E x (SH s' t) :=
  gc_set0 (h := SH s t) (n := 0) (o := .lst [.int s'.1.1, .int s'.1.2]) hc rfl q
/-- a comprehension over any source, whose element is a plain function -/
theorem okLcS {α : Type} {src : Src} {g : TgP} {m : MG PV} {e0 : Sl} {h : PH} {Q : List PV → PH → Prop} {E : EX} {f : α → PV} {p : α → PV} {l : List α} (hg : gd src h)
    (hs : ∀ x, x ∈ l → ∃ e1, g (f x) e0 = some e1 ∧ okG (m e1 h) (putM fun y k2 => y = p x ∧ k2 = h) fun _ _ _ => False)
    (he : Q (l.map p) h) : okG (lcL src g tTrue m e0 (l.map f) h) Q E := by
  refine okG.mono (okLc (src := src) (g := g) (t := tTrue) (m := m) (e0 := e0) (fun r acc k => ∃ l1 l2, l = l1 ++ l2 ∧ r = l2.map f ∧ acc = l1.map p ∧ k = h) (fun _ _ _ i => by obtain ⟨_, _, _, _, _, rfl⟩ := i; exact hg) (fun x r acc k i => ?_) (l.map f) [] h ⟨[], l, rfl, rfl, rfl, rfl⟩) (fun ys k i => ?_) fun _ _ _ z => z.elim
  · obtain ⟨l1, l2, e1, e2, rfl, rfl⟩ := i
    match l2, e2 with
    | a :: l2, e2 =>
      injection e2 with e2 e3
      subst e2 e3
      obtain ⟨e1', q, z⟩ := hs a (by rw [e1]; simp)
      refine ⟨e1', q, ?_⟩
      show okG (m e1' k) _ _
      refine z.imp fun y k2 z => ?_
      have : ∀ y k2, (y = p a ∧ k2 = k) → ∃ l1' l2', l = l1' ++ l2' ∧ l2.map f = l2'.map f ∧ l1.map p ++ [y] = l1'.map p ∧ k2 = k := by
        rintro y k2 ⟨rfl, rfl⟩
        exact ⟨l1 ++ [a], l2, by rw [e1]; simp, rfl, by simp, rfl⟩
      revert z
      cases y <;> exact this _ _
  · obtain ⟨l1, l2, e1, e2, e3, rfl⟩ := i
    have : l2 = [] := by cases l2 with
      | nil => rfl
      | cons a b => cases e2
    subst this
    rw [List.append_nil] at e1
    subst e1
    rw [List.nil_append] at e3
    subst e3
    exact he
theorem atI_of {α : Type} {l : List α} {d : Nat} (h : d < l.length) : atI l (d : Int) = some l[d] := atI_nat (List.getElem?_eq_getElem h)
end Z
namespace Z
open PySem PySem.Spec PyProof.Rows L2
section
variable {Q : PV → PH → Prop} {E : EX} {h : PH} {i j : Int} {s t : List Nat} {xs ys : List PV} {env : Sl} {N : Sl → PH → Prop} {R : PV → PH → Prop} {B C : Sl → PH → Prop} {X : Nat → PV → Sl → PH → Prop}
/-! ### while -/
theorem okWh {t : MG Bool} {b : MS} (I : Nat → Sl → PH → Prop)
    (hs : ∀ n e k, I n e k → okG (t e k) (fun x k1 => if x = true then okS (b e k1) (fun e2 k2 => ∃ m, m < n ∧ I m e2 k2) R N (fun e2 k2 => ∃ m, m < n ∧ I m e2 k2) X else N e k1) fun c p k1 => X c p e k1) (n : Nat) (e : Sl) (k : PH) (i : I n e k) : okS (sWh t b e k) N R B C X := by
  have key : ∀ n e k, I n e k → ∃ r f, whN t b f e k = some r ∧ okS r N R B C X := by
    intro n
    induction n using Nat.strongRecOn with
    | ind n ih =>
      intro e k i
      have q := hs n e k i
      cases et : t e k with
      | ok x k1 =>
        rw [et] at q
        have q : if x = true then okS (b e k1) (fun e2 k2 => ∃ m, m < n ∧ I m e2 k2) R N (fun e2 k2 => ∃ m, m < n ∧ I m e2 k2) X else N e k1 := q
        cases x with
        | true =>
          rw [if_pos rfl] at q
          cases eb : b e k1 with
          | nx e2 k2 =>
            rw [eb] at q
            obtain ⟨m, hm, i2⟩ := q
            obtain ⟨r, f, h1, h2⟩ := ih m hm e2 k2 i2
            exact ⟨r, f + 1, by unfold whN; rw [et]; dsimp only; rw [eb]; exact h1, h2⟩
          | ct e2 k2 =>
            rw [eb] at q
            obtain ⟨m, hm, i2⟩ := q
            obtain ⟨r, f, h1, h2⟩ := ih m hm e2 k2 i2
            exact ⟨r, f + 1, by unfold whN; rw [et]; dsimp only; rw [eb]; exact h1, h2⟩
          | bk e2 k2 =>
            rw [eb] at q
            exact ⟨.nx e2 k2, 1, by unfold whN; rw [et]; dsimp only; rw [eb], q⟩
          | rt x k2 =>
            rw [eb] at q
            exact ⟨.rt x k2, 1, by unfold whN; rw [et]; dsimp only; rw [eb], q⟩
          | ex c p e2 k2 =>
            rw [eb] at q
            exact ⟨.ex c p e2 k2, 1, by unfold whN; rw [et]; dsimp only; rw [eb], q⟩
          | bad => rw [eb] at q; exact q.elim
        | false =>
          rw [if_neg (by simp)] at q
          exact ⟨.nx e k1, 1, by unfold whN; rw [et], q⟩
      | ex c p k1 =>
        rw [et] at q
        exact ⟨.ex c p e k1, 1, by unfold whN; rw [et], q⟩
      | bad => rw [et] at q; exact q.elim
  obtain ⟨r, f, h1, h2⟩ := key n e k i
  rw [sWh_of h1]
  exact h2
/-! a ≤ c ≤ b -/
/-! a new list is handed back, the state has changed -/
theorem o_addL' {n : Nat} (q : ∃ xs, h[n]? = some (.lst xs) ∧ xs.length + ys.length ≤ SZ ∧ Q (.lst (xs ++ ys)) h) : okG (oAdd (.ref n) (.lst ys) h) Q E := by
  obtain ⟨xs, e, hl, q⟩ := q
  unfold oAdd lstV
  dsimp only
  rw [e]
  dsimp only
  rw [if_pos hl]; exact q
theorem o_addLL' (q : xs.length + ys.length ≤ SZ ∧ Q (.lst (xs ++ ys)) h) : okG (oAdd (.lst xs) (.lst ys) h) Q E := by
  unfold oAdd lstV
  dsimp only
  rw [if_pos q.1]; exact q.2
theorem get_app {n : Nat} {o : OB} {t : PH} (e : h[n]? = some o) : (h ++ t)[n]? = some o := by
  have : n < h.length := by
    by_cases c : n < h.length
    · exact c
    · rw [List.getElem?_eq_none (by omega)] at e; cases e
  rw [List.getElem?_append_left this]; exact e
theorem get_end {o : OB} {t : PH} : (h ++ o :: t)[h.length]? = some o := by
  rw [List.getElem?_append_right (Nat.le_refl _), Nat.sub_self]; rfl
theorem set_end {o u : OB} {t : PH} : (h ++ o :: t).set h.length u = h ++ u :: t := by
  rw [List.set_append_right _ _ (Nat.le_refl _), Nat.sub_self]; rfl
end
end Z
namespace Z
open PySem PySem.Spec PyProof.Rows L2
section
variable {Q : PV → PH → Prop} {E : EX} {h : PH} {i j : Int} {s t : List Nat} {xs ys : List PV} {env : Sl} {N : Sl → PH → Prop} {R : PV → PH → Prop} {B C : Sl → PH → Prop} {X : Nat → PV → Sl → PH → Prop} {x y : PV}
/-! ### instances -/
theorem w_met {ms : List MetI} {mid n : Nat} {mo : MG PV} {as : MG (List PV)} (q : okG (mo env h) (fun o h1 => ∃ F, metOf ms mid n h1 o = some F ∧ okG (as env h1) (fun xs h2 => okG (oCall F (o :: xs) h2) Q E) E) E) : okG (mMet ms mid n mo as env h) Q E := by
  unfold mMet
  rw [okG_bind]
  refine q.imp fun o h1 ⟨F, e, z⟩ => ?_
  rw [e]
  dsimp only
  rw [okG_bind]
  exact z
theorem metOf_ins {ms : List MetI} {mid n k c : Nat} {fs : List (Nat × PV)} {F : FnI} (e : h[k]? = some (.ins c fs)) (g : getN mid fs = none) (f : (ms.find? fun M => M.cls == c && M.mid == mid && n + 1 + M.F.dvs.length == M.F.ps.length).map (·.F) = some F) : metOf ms mid n h (.ref k) = some F := by
  unfold metOf
  dsimp only
  rw [e]
  dsimp only
  rw [g]
  exact f
theorem o_get' {tab : List (Nat × Nat)} {k n : Nat} (q : ∃ c fs y, h[n]? = some (.ins c fs) ∧ getN k fs = some y ∧ inB tab c k = true ∧ Q y h) : okG (oGet tab k (.ref n) h) Q E := by
  obtain ⟨c, fs, y, e1, e2, e3, q⟩ := q
  unfold oGet
  dsimp only
  rw [e1]
  dsimp only
  rw [e2]
  dsimp only
  rw [if_pos e3]; exact q
theorem w_put {tab : List (Nat × Nat)} {k : Nat} {mo mv : MG PV} : okS (sPut tab k mo mv env h) N R B C X ↔ okG (mv env h) (putM fun x h1 => okG (mo env h1) (fun o h2 => okS (putA tab k o x env h2) N R B C X) fun c p h2 => X c p env h2) fun c p h1 => X c p env h1 := by
  unfold sPut
  simp only [okS_toS, w_M]
theorem put' {tab : List (Nat × Nat)} {k n : Nat} (q : ∃ c fs, h[n]? = some (.ins c fs) ∧ inB tab c k = true ∧ fs.length < 1000 ∧ N env (h.set n (.ins c (putN k x fs)))) : okS (putA tab k (.ref n) x env h) N R B C X := by
  obtain ⟨c, fs, e1, e2, e3, q⟩ := q
  unfold putA
  dsimp only
  rw [e1]
  dsimp only
  rw [if_pos ⟨e2, e3⟩]; exact q
theorem o_mk' {M : MkI} (q : okG (oCall M.F (.ref h.length :: xs) (h ++ [.ins M.cls []])) (fun x h' => x = .non ∧ Q (.ref h.length) h') E) : okG (oMk M xs h) Q E := by
  unfold oMk
  revert q
  cases oCall M.F (.ref h.length :: xs) (h ++ [.ins M.cls []]) with
  | ok x k => rintro ⟨rfl, q⟩; exact q
  | ex c p k => exact fun z => z
  | bad => exact fun z => z
theorem eqO_p {eqs : List (Nat × FnI)} (e : clsN h x = none) (q : okG (oEq x y h) Q E) : okG (oEqO eqs false x y h) Q E := by
  unfold oEqO
  rw [e]; exact q
theorem neO_p {eqs : List (Nat × FnI)} (e : clsN h x = none) (q : okG (oNe x y h) Q E) : okG (oEqO eqs true x y h) Q E := by
  unfold oEqO
  rw [e]; exact q
theorem eqO_pl {eqs : List (Nat × FnI)} (q : clsN h x = none ∧ okG (oEq x y h) Q E) : okG (oEqO eqs false x y h) Q E := eqO_p q.1 q.2
theorem neO_pl {eqs : List (Nat × FnI)} (q : clsN h x = none ∧ okG (oNe x y h) Q E) : okG (oEqO eqs true x y h) Q E := neO_p q.1 q.2
theorem o_str' (q : i.natAbs.log2 < 1920 ∧ Q (.str (strI i)) h) : okG (oStr [.int i] h) Q E := by
  unfold oStr
  dsimp only
  rw [if_pos q.1]; exact q.2
/-! ### sorted data -/
theorem pd_sd : ∀ {n : Nat} {x : PV}, sdF n x = true → pd n x = true := by
  intro n
  induction n with
  | zero => intro x hx; cases x <;> first | rfl | exact nomatch (show false = true from hx)
  | succ n ih =>
    intro x hx
    cases x <;> first
      | rfl
      | exact nomatch (show false = true from hx)
      | exact List.all_eq_true.mpr fun a ha => ih (List.all_eq_true.mp hx a ha)
/-- == of two lists of data -/
theorem eqQ_pd {k : Nat} (hx : ∀ x ∈ xs, pd k x = true) (hy : ∀ x ∈ ys, pd k x = true) : ∃ b, eqQ (eqF h k) (false, xs) (false, ys) = some b ∧ (b = true ↔ xs = ys) := by
  obtain ⟨b, e, q⟩ := eqP_pd (xs := xs) (ys := ys) (f := eqF h k) fun x hx' y hy' => eqF_pd k (hx x hx') (hy y hy')
  refine ⟨b && xs.length == ys.length, ?_, q⟩
  unfold eqQ
  dsimp only
  by_cases c : xs.length = ys.length
  · rw [if_pos rfl, if_neg (by simp [c]), e]; rfl
  · rw [if_pos rfl, if_pos (by simp [c])]
    simp [c]
/-! ### x in a list of data -/
theorem inF_pd {k : Nat} {x : PV} (hx : pd k x = true) : ∀ {ys : List PV}, (∀ y ∈ ys, pd k y = true) → ∃ b, inF (eqF h k) x ys = some b ∧ (b = true ↔ x ∈ ys)
  | [], _ => ⟨false, rfl, by simp⟩
  | y :: ys, q => by
    obtain ⟨b1, e1, k1⟩ := eqF_pd (h := h) k (q y (List.mem_cons_self ..)) hx
    obtain ⟨b2, e2, k2⟩ := inF_pd hx (ys := ys) fun z hz => q z (List.mem_cons_of_mem _ hz)
    refine ⟨b1 || b2, by unfold inF; rw [e1, e2], ?_⟩
    rw [Bool.or_eq_true, k1, k2, List.mem_cons]
    exact ⟨fun z => z.imp Eq.symm id, fun z => z.imp Eq.symm id⟩
/-- a loop over known things -/
theorem okForM {α : Type} {src : Src} {g : TgP} {b : MS} {f : α → PV} {l : List α} (I : List α → Sl → PH → Prop) (hg : ∀ l1 e k, I l1 e k → gd src k)
    (hs : ∀ l1 a l2 e k, l = l1 ++ a :: l2 → I l1 e k → ∃ e1, g (f a) e = some e1 ∧ okS (b e1 k) (I (l1 ++ [a])) R N (I (l1 ++ [a])) X) (he : ∀ e k, I l e k → N e k) {e : Sl} {k : PH} (i : I [] e k) : okS (forL src g b (l.map f) e k) N R B C X := by
  refine okFor (src := src) (fun r e k => ∃ l1 l2, l = l1 ++ l2 ∧ r = l2.map f ∧ I l1 e k) (fun _ _ _ i => by obtain ⟨_, _, _, _, i⟩ := i; exact hg _ _ _ i) (fun x r e k i => ?_) (fun e k i => ?_) _ _ _ ⟨[], l, rfl, rfl, i⟩
  · obtain ⟨l1, l2, e1, e2, i⟩ := i
    match l2, e2 with
    | a :: l2, e2 =>
      injection e2 with e2 e3
      subst e2 e3
      obtain ⟨e1', q, z⟩ := hs l1 a l2 e k e1 i
      have nx : ∀ e k, I (l1 ++ [a]) e k → ∃ l1' l2', l = l1' ++ l2' ∧ l2.map f = l2'.map f ∧ I l1' e k := fun e k i => ⟨_, l2, by rw [e1]; simp, rfl, i⟩
      exact ⟨e1', q, z.mono nx (fun _ _ z => z) (fun _ _ z => z) nx fun _ _ _ _ z => z⟩
  · obtain ⟨l1, l2, e1, e2, i⟩ := i
    have : l2 = [] := by cases l2 with
      | nil => rfl
      | cons a b => cases e2
    subst this
    rw [List.append_nil] at e1
    subst e1
    exact he _ _ i
theorem src_ref {n : Nat} {Q : Src → PH → Prop} (e : h[n]? = some (.lst xs)) (q : ∀ src, src.items = xs → gd src h → (∀ k : PH, k[n]? = some (.lst xs) → gd src k) → Q src h) : srcK Q (.ref n) h := by
  refine ⟨⟨xs, some n⟩, ?_, q _ rfl ?_ ?_⟩
  · unfold iSrc
    dsimp only
    rw [e]
  · show gd ⟨xs, some n⟩ h
    unfold gd
    dsimp only
    first | exact e | (rw [e]; done) | simp [e]
  · intro k e
    unfold gd
    dsimp only
    first | exact e | (rw [e]; done) | simp [e]
theorem filt_lc {src : Src} {g : TgP} {t : MG Bool} {m : MG PV} {e0 : Sl} {α : Type} {f p : α → PV} {c : α → Bool} {l : List α} {Q : List PV → PH → Prop} (hg : gd src h)
    (hs : ∀ x, x ∈ l → ∃ e1, g (f x) e0 = some e1 ∧ okG (t e1 h) (fun b k1 => b = c x ∧ k1 = h) (fun _ _ _ => False) ∧ (c x = true → okG (m e1 h) (putM fun y k2 => y = p x ∧ k2 = h) fun _ _ _ => False))
    (he : Q ((l.filter c).map p) h) : okG (lcL src g t m e0 (l.map f) h) Q E := by
  refine okG.mono (okLc (src := src) (g := g) (t := t) (m := m) (e0 := e0) (fun r acc k => ∃ l1 l2, l = l1 ++ l2 ∧ r = l2.map f ∧ acc = (l1.filter c).map p ∧ k = h) (fun _ _ _ i => by obtain ⟨_, _, _, _, _, rfl⟩ := i; exact hg) (fun x r acc k i => ?_) (l.map f) [] h ⟨[], l, rfl, rfl, rfl, rfl⟩) (fun ys k i => ?_) fun _ _ _ z => z.elim
  · obtain ⟨l1, l2, e1, e2, rfl, rfl⟩ := i
    match l2, e2 with
    | a :: l2, e2 =>
      injection e2 with e2 e3
      subst e2 e3
      obtain ⟨e1', q, z1, z2⟩ := hs a (by rw [e1]; simp)
      refine ⟨e1', q, ?_⟩
      refine z1.imp fun b k1 ⟨hb, hk⟩ => ?_
      subst hb hk
      by_cases hc : c a = true
      · rw [if_pos hc]
        refine (z2 hc).imp fun y k2 z => ?_
        have : ∀ y k2, (y = p a ∧ k2 = k1) → ∃ l1' l2', l = l1' ++ l2' ∧ l2.map f = l2'.map f ∧ (l1.filter c).map p ++ [y] = (l1'.filter c).map p ∧ k2 = k1 := by
          rintro y k2 ⟨rfl, rfl⟩
          exact ⟨l1 ++ [a], l2, by rw [e1]; simp, rfl, by simp [hc], rfl⟩
        revert z
        cases y <;> exact this _ _
      · rw [if_neg hc]
        exact ⟨l1 ++ [a], l2, by rw [e1]; simp, rfl, by simp [hc], rfl⟩
  · obtain ⟨l1, l2, e1, e2, e3, rfl⟩ := i
    have : l2 = [] := by cases l2 with
      | nil => rfl
      | cons a b => cases e2
    subst this
    rw [List.append_nil] at e1
    subst e1
    rw [List.nil_append] at e3
    subst e3
    exact he
end
end Z
namespace Z
open PySem PySem.Spec PyProof.Rows L2
local macro_rules | `(tactic| walk_at "z0") => `(tactic| with_reducible first | refine w_K.mpr ?_ | refine w_B.mpr ?_ | refine w_U.mpr ?_ | refine w_C.mpr ?_ | refine w_nil.mpr ?_ | refine w_cons.mpr ?_ | refine w_consR.mpr ?_ | refine w_M.mpr ?_ | refine w_if.mpr ?_ | refine w_tr.mpr ?_ | refine w_tb.mpr ?_ | refine w_not.mpr ?_ | refine w_and.mpr ?_ | refine w_or.mpr ?_ | refine w_andV.mpr ?_ | refine w_orV.mpr ?_ | refine w_notV.mpr ?_ | refine w_ch.mpr ?_ | refine w_nilS.mpr ?_ | refine w_bk.mpr ?_ | refine w_ct.mpr ?_ | refine w_retN.mpr ?_ | refine w_seq.mpr ?_ | refine w_set.mpr ?_ | refine w_asg.mpr ?_ | refine w_ret.mpr ?_ | refine w_exp.mpr ?_ | refine w_aug.mpr ?_ | refine w_sub.mpr ?_ | refine w_iseq.mpr ?_ | refine w_tup.mpr ?_ | refine w_lst.mpr ?_ | refine w_sl.mpr ?_ | refine w_So.mpr ?_ | refine w_No.mpr ?_ | refine w_lc.mpr ?_ | refine w_true.mpr ?_ | refine w_meth.mpr ?_ | refine w_raise.mpr ?_)
local macro_rules | `(tactic| walk_at "z1") => `(tactic| with_reducible first | refine okG_ok.mpr ?_ | refine okG_ex.mpr ?_ | refine okS_nx.mpr ?_ | refine okS_rt.mpr ?_ | refine okS_bk.mpr ?_ | refine okS_ct.mpr ?_ | refine okS_ex.mpr ?_ | refine putM_int.mpr ?_ | refine putM_bl.mpr ?_ | refine putM_ref.mpr ?_ | refine putM_str.mpr ?_ | refine putM_tup.mpr ?_ | refine putM_ro.mpr ?_ | refine putM_non.mpr ?_ | refine putM_exn.mpr ?_ | refine putM_lst.mpr ?_ | refine tbK_bl.mpr ?_ | refine trK_bl.mpr ?_ | refine trK_int.mpr ?_ | refine trK_non.mpr ?_ | refine soK_int.mpr ?_ | refine putM_nm.mpr ?_ | refine iteT ?_ | refine iteF ?_ | refine iteNT ?_ | refine iteNF ?_)
local macro_rules | `(tactic| walk_at "z2") => `(tactic| with_reducible first | refine o_add.mpr ?_ | refine o_mulI.mpr ?_ | refine o_addA.mpr ?_ | refine o_neg.mpr ?_ | refine o_any.mpr ?_ | refine o_eq_int.mpr ?_ | refine o_ne_int.mpr ?_ | refine o_eq_bl.mpr ?_ | refine o_ne_bl.mpr ?_ | refine o_int.mpr ?_ | refine o_int_bl.mpr ?_ | refine o_len_ro.mpr ?_ | refine o_len_tup.mpr ?_ | refine o_len_lst.mpr ?_ | refine oBK_some.mpr ?_ | refine o_eq_str.mpr ?_ | refine o_ne_str.mpr ?_ | refine o_eq_nm.mpr ?_ | refine o_ne_nm.mpr ?_ | refine o_len_nm.mpr ?_ | refine o_sl_nm.mpr ?_ | refine o_sl_tup.mpr ?_ | refine o_sl_ro.mpr ?_ | refine o_sl_lst.mpr ?_ | refine o_tuple_lst.mpr ?_ | refine o_tuple_ro.mpr ?_ | refine o_tuple_tup.mpr ?_ | refine o_list_lst.mpr ?_ | refine o_list_ro.mpr ?_ | refine o_list_tup.mpr ?_ | refine o_is_bl.mpr ?_ | refine o_isnot_bl.mpr ?_ | refine o_inS.mpr ?_ | refine o_notinS.mpr ?_ | refine o_ord.mpr ?_)
local macro_rules | `(tactic| walk_at "z3") => `(tactic| first | ((with_reducible show _ ≤ SZ ∧ _); refine ⟨by first | exact Nat.le_of_ble_eq_true rfl | ((show _ ≤ 16777216); omega), ?_⟩) | ((with_reducible show tyB _ _ _ = true ∧ _); refine ⟨by rfl, ?_⟩) | ((with_reducible show ∃ x, [_] = [x] ∧ _); refine ⟨_, rfl, ?_⟩) | ((with_reducible show srcK _ (nm _) _); refine ⟨_, rfl, ?_⟩) | ((with_reducible show srcK _ (.tup _) _); refine ⟨_, rfl, ?_⟩) | ((with_reducible show srcK _ (.ro _) _); refine ⟨_, rfl, ?_⟩) | ((with_reducible show srcK _ (.lst _) _); refine ⟨_, rfl, ?_⟩) | ((with_reducible refine w_V' ?_); refine ⟨_, rfl, ?_⟩) | ((with_reducible refine o_ix_ref' ?_); refine ⟨_, _, by first | assumption | rfl, by rfl, ?_⟩) | ((with_reducible refine o_ix_tup' ?_); refine ⟨_, by rfl, ?_⟩) | ((with_reducible refine o_ix_ro' ?_); refine ⟨_, by rfl, ?_⟩) | ((with_reducible refine o_ix_lst' ?_); refine ⟨_, by rfl, ?_⟩) | ((with_reducible refine o_len_ref' ?_); refine ⟨_, by first | assumption | rfl, ?_⟩) | ((with_reducible refine set_ref' ?_); refine ⟨_, _, by first | assumption | rfl, by rfl, ?_⟩))
local macro_rules | `(tactic| walk_at "z4") => `(tactic| first | ((with_reducible refine o_mul' ?_); refine ⟨by first | exact cMul_l (by decide) | exact cMul_r (by decide) | exact cMul_l (by omega) | exact cMul_r (by omega), ?_⟩) | ((with_reducible refine o_mod' ?_); refine ⟨by omega, ?_⟩) | ((with_reducible refine o_fdiv' ?_); refine ⟨by omega, ?_⟩) | ((with_reducible refine o_pow' ?_); refine ⟨by decide, ?_⟩))
local macro_rules | `(tactic| walk_at "z5") => `(tactic| ((with_reducible show okG (oIsiB _ _ _) _ _); first | (with_reducible refine isi_int_int.mpr ?_) | (with_reducible refine isi_bool_int.mpr ?_) | (with_reducible refine isi_str_int.mpr ?_) | (with_reducible refine isi_tuple_int.mpr ?_) | (with_reducible refine isi_NoneType_int.mpr ?_) | (with_reducible refine isi_list_int.mpr ?_) | (with_reducible refine isi_int_bool.mpr ?_) | (with_reducible refine isi_bool_bool.mpr ?_) | (with_reducible refine isi_str_bool.mpr ?_) | (with_reducible refine isi_tuple_bool.mpr ?_) | (with_reducible refine isi_NoneType_bool.mpr ?_) | (with_reducible refine isi_list_bool.mpr ?_) | (with_reducible refine isi_int_str.mpr ?_) | (with_reducible refine isi_bool_str.mpr ?_) | (with_reducible refine isi_str_str.mpr ?_) | (with_reducible refine isi_tuple_str.mpr ?_) | (with_reducible refine isi_NoneType_str.mpr ?_) | (with_reducible refine isi_list_str.mpr ?_) | (with_reducible refine isi_int_tuple.mpr ?_) | (with_reducible refine isi_bool_tuple.mpr ?_) | (with_reducible refine isi_str_tuple.mpr ?_) | (with_reducible refine isi_tuple_tuple.mpr ?_) | (with_reducible refine isi_NoneType_tuple.mpr ?_) | (with_reducible refine isi_list_tuple.mpr ?_) | (with_reducible refine isi_int_list.mpr ?_) | (with_reducible refine isi_bool_list.mpr ?_) | (with_reducible refine isi_str_list.mpr ?_) | (with_reducible refine isi_tuple_list.mpr ?_) | (with_reducible refine isi_NoneType_list.mpr ?_) | (with_reducible refine isi_list_list.mpr ?_) | ((with_reducible refine isi_list2_int ?_); refine ⟨_, by first | assumption | rfl, ?_⟩) | ((with_reducible refine isi_list2_bool ?_); refine ⟨_, by first | assumption | rfl, ?_⟩) | ((with_reducible refine isi_list2_str ?_); refine ⟨_, by first | assumption | rfl, ?_⟩) | ((with_reducible refine isi_list2_tuple ?_); refine ⟨_, by first | assumption | rfl, ?_⟩) | ((with_reducible refine isi_list2_list ?_); refine ⟨_, by first | assumption | rfl, ?_⟩)))
local macro_rules | `(tactic| walk_at "z6") => `(tactic| with_reducible first | refine o_is_n_int.mpr ?_ | refine o_isnot_n_int.mpr ?_ | refine o_is_n_bl.mpr ?_ | refine o_isnot_n_bl.mpr ?_ | refine o_is_n_str.mpr ?_ | refine o_isnot_n_str.mpr ?_ | refine o_is_n_tup.mpr ?_ | refine o_isnot_n_tup.mpr ?_ | refine o_is_n_non.mpr ?_ | refine o_isnot_n_non.mpr ?_ | refine o_is_n_lst.mpr ?_ | refine o_isnot_n_lst.mpr ?_ | refine o_is_n_ref.mpr ?_ | refine o_isnot_n_ref.mpr ?_ | refine o_is_n_ro.mpr ?_ | refine o_isnot_n_ro.mpr ?_ | refine o_is_n_exn.mpr ?_ | refine o_isnot_n_exn.mpr ?_)
local macro_rules | `(tactic| walk_at "z7") => `(tactic| first | ((with_reducible refine o_sl_ref' ?_); refine ⟨_, by first | assumption | rfl, ?_⟩) | ((with_reducible refine o_tuple_ref' ?_); refine ⟨_, by first | assumption | rfl, ?_⟩) | ((with_reducible refine o_list_ref' ?_); refine ⟨_, by first | assumption | rfl, ?_⟩) | ((with_reducible refine o_add_nm' ?_); refine ⟨by (show _ ≤ 16777216); omega, ?_⟩) | ((with_reducible refine o_addT' ?_); refine ⟨by (show _ ≤ 16777216); omega, ?_⟩) | ((with_reducible refine o_addS' ?_); refine ⟨by (show _ ≤ 16777216); first | omega | (simp only [List.length_cons, List.length_nil, List.length_append, List.length_map, List.length_replicate, List.length_singleton]; omega), ?_⟩) | ((with_reducible refine o_len_str' ?_); refine ⟨by (show _ ≤ 16777216); first | omega | (simp only [List.length_cons, List.length_nil, List.length_append, List.length_map, List.length_replicate, List.length_singleton]; omega), ?_⟩))
local macro_rules | `(tactic| walk_at "z8") => `(tactic| first | ((with_reducible refine eqO_pl ?_); refine ⟨by rfl, ?_⟩) | ((with_reducible refine neO_pl ?_); refine ⟨by rfl, ?_⟩))
local macro_rules | `(tactic| walk_at "z") => `(tactic| first | walk_at "z0" | walk_at "z1" | walk_at "z2" | walk_at "z3" | walk_at "z4" | walk_at "z5" | walk_at "z6" | walk_at "z7" | walk_at "z8")
local macro_rules | `(tactic| walk_at "zz") => `(tactic| repeat walk_at "z")
local macro_rules | `(tactic| walk_at "zi") => `(tactic| with_reducible first | refine iteD ?_ ?_ | refine iteN ?_ ?_ | refine iteI ?_ ?_)
local macro_rules | `(tactic| walk_at "zs") => `(tactic| with_reducible refine w_seq.mpr ?_)
local macro_rules | `(tactic| walk_at "zf") => `(tactic| ((with_reducible first | refine w_ifS.mpr ?_ | refine w_for.mpr ?_); walk_at "zz"; try walk_at "zi"))
local macro_rules | `(tactic| walk_at "zr") => `(tactic| ((with_reducible refine w_rg1 ?_); walk_at "zz"; refine ⟨_, rfl, by omega, ?_⟩))
local macro_rules | `(tactic| walk_at "zr2") => `(tactic| ((with_reducible refine w_rg2 ?_); walk_at "zz"; refine ⟨_, _, rfl, by omega, ?_⟩))

section
variable {Q : PV → PH → Prop} {E : EX} {h : PH} {i j : Int} {s t : List Nat} {xs ys : List PV} {env : Sl} {N : Sl → PH → Prop} {R : PV → PH → Prop} {B C : Sl → PH → Prop} {X : Nat → PV → Sl → PH → Prop} {x y : PV} {n : Nat} {kvs : List (PV × PV)} {k : NestedKey}
/-! ### dicts -/
theorem w_dnew : okG (mDnew env h) Q E ↔ Q (.ref h.length) (h ++ [.dct []]) := Iff.rfl
theorem dctV_at (e : h[n]? = some (.dct kvs)) : dctV h (.ref n) = some kvs := by
  unfold dctV
  dsimp only
  rw [e]
theorem dctV_atF (e : h[n]? = some (.fdc kvs)) : dctV h (.ref n) = some kvs := by
  unfold dctV
  dsimp only
  rw [e]
theorem o_ix_fdc {z : PV} (e : h[n]? = some (.fdc kvs)) (ek : keyT (.tup ys) = some k) (ez : kget kvs k = some z) (q : Q z h) : okG (oIx (.ref n) (.tup ys) h) Q E := by
  unfold oIx
  dsimp only
  rw [dctV_atF e, ek]
  dsimp only
  rw [ez]; exact q
theorem o_list_dct (e : h[n]? = some (.dct kvs)) (q : Q (.lst (kvs.map (·.1))) h) : okG (oList [.ref n] h) Q E := by
  unfold oList seqV
  dsimp only
  rw [e]
  dsimp only
  rw [dctV_at e]
  exact q
/-- a loop over a dict's keys -/
theorem okForD {m : MG PV} {g : TgP} {b : MS} (he : m env h = .ok (.ref n) h) (e : h[n]? = some (.dct kvs)) (he' : m env (h.set n (.fdc kvs)) = .ok (.ref n) (h.set n (.fdc kvs)))
    (q : okS (forL ⟨kvs.map (·.1), none⟩ g b (kvs.map (·.1)) env (h.set n (.fdc kvs))) (fun e' h' => (∃ x, h'[n]? = some (.fdc x)) ∧ N e' (h'.set n (.dct kvs))) (fun y h' => (∃ x, h'[n]? = some (.fdc x)) ∧ R y (h'.set n (.dct kvs))) (fun _ _ => False) (fun _ _ => False) fun _ _ _ _ => False) :
    okS (sForD m g b env h) N R B C X := by
  have hn : n < h.length := (List.getElem?_eq_some_iff.mp e).1
  unfold sForD
  rw [he]
  dsimp only
  rw [e]
  dsimp only
  have ek : iKeys m env (h.set n (.fdc kvs)) = .ok ⟨kvs.map (·.1), none⟩ (h.set n (.fdc kvs)) := by
    unfold iKeys
    rw [he', RG.bind_ok]
    dsimp only
    rw [List.getElem?_set_self hn]
  unfold sFor
  rw [ek, RG.toS_ok]
  revert q
  cases forL ⟨kvs.map (·.1), none⟩ g b (kvs.map (·.1)) env (h.set n (.fdc kvs)) with
  | nx e2 h2 => rintro ⟨⟨x, ex⟩, q⟩; unfold thawS; dsimp only; rw [ex]; exact q
  | rt y h2 => rintro ⟨⟨x, ex⟩, q⟩; unfold thawS; dsimp only; rw [ex]; exact q
  | bk e2 h2 => exact fun z => z.elim
  | ct e2 h2 => exact fun z => z.elim
  | ex c p e2 h2 => exact fun z => z.elim
  | bad => exact fun z => z.elim
theorem o_ix_dct {z : PV} (e : h[n]? = some (.dct kvs)) (ek : keyT (.tup ys) = some k) (ez : kget kvs k = some z) (q : Q z h) : okG (oIx (.ref n) (.tup ys) h) Q E := by
  unfold oIx
  dsimp only
  rw [dctV_at e, ek]
  dsimp only
  rw [ez]; exact q
theorem o_len_dct (e : h[n]? = some (.dct kvs)) (q : Q (.int kvs.length) h) : okG (oLen [.ref n] h) Q E := by
  unfold oLen seqV
  dsimp only
  rw [e]
  dsimp only
  rw [dctV_at e]
  exact q
theorem o_in_dct (e : h[n]? = some (.dct kvs)) (ek : keyT x = some k) (q : Q (.bl (kget kvs k).isSome) h) : okG (oInA x (.ref n) h) Q E := by
  show okG (oIn x (.ref n) h) Q E
  unfold oIn
  rw [dctV_at e]
  dsimp only
  rw [ek]; exact q
theorem set_dctP (e : h[n]? = some (.dct kvs)) (ek : keyT (.tup ys) = some k) (hl : kvs.length < 16777216) (q : N env (h.set n (.dct (kput kvs k (.tup ys) x)))) : okS (setIx (.ref n) (.tup ys) x env h) N R B C X := by
  unfold setIx
  dsimp only
  rw [e]
  dsimp only
  rw [ek]
  dsimp only
  rw [if_pos hl]; exact q
theorem o_dget' (e : h[n]? = some (.dct kvs)) (ek : keyT x = some k) (q : Q ((kget kvs k).getD .non) h) : okG (oDget (.ref n) [x] h) Q E := by
  unfold oDget
  dsimp only
  rw [dctV_at e, ek]; exact q
theorem o_dpop' {z : PV} (e : h[n]? = some (.dct kvs)) (ek : keyT x = some k) (ez : kget kvs k = some z) (q : Q z (h.set n (.dct (kdel kvs k)))) : okG (oDpop (.ref n) [x] h) Q E := by
  unfold oDpop
  dsimp only
  rw [wdV_iff.mpr e, ek]
  dsimp only
  rw [ez]; exact q
theorem tyB_d (e : h[n]? = some (.dct kvs)) : tyB .dct h (.ref n) = true := by
  show (dctV h (.ref n)).isSome = true
  rw [dctV_at e]; rfl
/-! ### in, not in, index over data -/
theorem o_idxD (e : seqV h y = some (false, ys)) (hx : pd 50 x = true) (hy : ∀ z ∈ ys, pd 50 z = true) (hm : x ∈ ys) (q : ∀ j : Nat, (hj : j < ys.length) → ys[j] = x → (∀ m (hm : m < j), ys[m] ≠ x) → Q (.int (j : Nat)) h) : okG (oIdx y [x] h) Q E := by
  obtain ⟨b, e1, k⟩ := inF_pd (h := h) hx hy
  unfold oIdx
  dsimp only
  rw [e]
  dsimp only
  rw [e1]
  have eq : ∀ z ∈ ys, (eqF h 50 z x == some true) = true ↔ z = x := fun z hz => by
    obtain ⟨b, e, k⟩ := eqF_pd (h := h) 50 (hy z hz) hx
    rw [e, ← k]
    cases b <;> simp
  cases ej : ys.findIdx? (fun z => eqF h 50 z x == some true) with
  | none =>
    have := List.findIdx?_eq_none_iff.mp ej x hm
    rw [(eq x hm).mpr rfl] at this
    cases this
  | some j =>
    obtain ⟨hj, h1, h2⟩ := List.findIdx?_eq_some_iff_getElem.mp ej
    refine q j hj ((eq _ (List.getElem_mem hj)).mp h1) fun m hm z => ?_
    have := h2 m hm
    rw [(eq _ (List.getElem_mem _)).mpr z] at this
    exact this rfl
theorem seqV_at {xs : List PV} (e : h[n]? = some (.lst xs)) : seqV h (.ref n) = some (false, xs) := by
  unfold seqV
  dsimp only
  rw [e]
/-! ### [e for x in xs for y in ys] -/
/-! ### dicts of the top -/
/-! ### data -/
theorem sd_cl : ∀ {n : Nat} {x : PV}, sdF n x = true → ∀ m, clV m x = true := by
  intro n
  induction n with
  | zero => intro x hx m; cases x <;> first | rfl | exact nomatch (show false = true from hx)
  | succ n ih =>
    intro x hx m
    cases x <;> first
      | rfl
      | exact nomatch (show false = true from hx)
      | (rename_i xs
         have hx : xs.all (sdF n) = true := hx
         show clL m xs = true
         have := clL_map (f := id) (n := m) (l := xs) fun a ha => ih (List.all_eq_true.mp hx a ha) m
         rw [List.map_id] at this
         exact this)
theorem sd_up : ∀ {n : Nat} {x : PV}, sdF n x = true → sdF (n + 1) x = true := by
  intro n
  induction n with
  | zero => intro x hx; cases x <;> first | rfl | exact nomatch (show false = true from hx)
  | succ n ih =>
    intro x hx
    cases x <;> first
      | rfl
      | exact nomatch (show false = true from hx)
      | exact List.all_eq_true.mpr fun a ha => ih (List.all_eq_true.mp hx a ha)
theorem sd_le : ∀ {n m : Nat} {x : PV}, n ≤ m → sdF n x = true → sdF m x = true := by
  intro n m x h hx
  induction h with
  | refl => exact hx
  | step _ ih => exact sd_up ih
theorem sd_nm {a : Nm} {n : Nat} : sdF (n + 1) (nm a) = true := by
  show (a.map PV.str).all (sdF n) = true
  rw [List.all_map, List.all_eq_true]
  intro x _
  cases n <;> rfl
theorem sd_int {i : Int} {n : Nat} : sdF n (.int i) = true := by cases n <;> rfl
theorem sd_str {i : List Nat} {n : Nat} : sdF n (.str i) = true := by cases n <;> rfl
theorem ix_of {l : List PV} {d : Nat} (hd : d < l.length) (q : ∀ x, x ∈ l → Q x h) : okG (oIx (.lst l) (.int d) h) Q E := o_ix_lst' ⟨_, atI_of hd, q _ (List.getElem_mem hd)⟩
/-- a new heap is kept as it is -/
theorem gc_not {h h' : PH} {x : PV} (hn : ¬ gcC h h') (q : Q x h') : gcK h Q E x h' := by
  unfold gcK gcR
  dsimp only
  rw [if_neg hn]; exact q
theorem cut_to {α : Type} (l : List α) (k : Nat) : cutG l none (some (k : Int)) = l.take k := by
  unfold cutG
  rw [sIx_some_nat, HT.sIx_none]
  show (l.drop 0).take _ = _
  rw [List.drop_zero]
  by_cases hk : k ≤ l.length
  · rw [Nat.min_eq_left hk]; rfl
  · rw [Nat.min_eq_right (by omega), List.take_of_length_le (by omega), List.take_of_length_le (by omega)]
end
/-! ### keys (name, kind) -/
def kp (a : Nm) (k : List Nat) : PV := .tup [nm a, .str k]
def nk (a : Nm) : NestedKey := .tup (a.map fun s => .text ⟨s.toArray⟩)
def kk (a : Nm) (k : List Nat) : NestedKey := .tup [nk a, .text ⟨k.toArray⟩]
theorem keyNs_strs : ∀ (a : Nm), keyNs (a.map .str) = some (a.map fun s => .text ⟨s.toArray⟩)
  | [] => rfl
  | x :: r => by rw [List.map_cons, keyNs, keyN, keyNs_strs r]; rfl
theorem keyN_nm (a : Nm) : keyN (nm a) = some (nk a) := by
  show keyN (.tup (a.map .str)) = _
  rw [keyN, keyNs_strs]; rfl
theorem depth_texts : ∀ (a : Nm), NestedKey.depthAll (a.map fun s => .text ⟨s.toArray⟩) = 0
  | [] => rfl
  | x :: r => by rw [List.map_cons, NestedKey.depthAll, depth_texts r]; rfl
theorem depth_nk (a : Nm) : (nk a).depth = 1 := by
  show NestedKey.depthAll _ + 1 = 1
  rw [depth_texts]
theorem texts_inj : ∀ {a b : Nm}, (a.map fun s => NestedKey.text ⟨s.toArray⟩) = (b.map fun s => NestedKey.text ⟨s.toArray⟩) → a = b
  | [], [], _ => rfl
  | x :: a, y :: b, e => by
    rw [List.map_cons, List.map_cons, List.cons.injEq, NestedKey.text.injEq] at e
    have h1 : x = y := by simpa using e.1
    rw [h1, texts_inj e.2]
  | [], _ :: _, e => by cases e
  | _ :: _, [], e => by cases e
theorem nk_inj {a b : Nm} : nk a = nk b ↔ a = b := by
  constructor
  · intro e
    unfold nk at e
    rw [NestedKey.tup.injEq] at e
    exact texts_inj e
  · rintro rfl; rfl
end Z
namespace Z
open PySem PySem.Spec PyProof.Rows L2
/-! ### records and their sets, in plain Lean -/
structure Rd where
  n : Nm
  k : List Nat
  t : Int
  v : PV
structure St where
  n : Nm
  k : List Nat
  t : Int
  vs : List PV
abbrev Ky := Nm × List Nat
abbrev Rd.ky (r : Rd) : Ky := (r.n, r.k)
abbrev St.ky (r : St) : Ky := (r.n, r.k)
def mine (rs : List Rd) (c : Ky) : List Rd := rs.filter fun r => decide (r.ky = c)
open Classical in
noncomputable def addV (acc : List PV) (x : PV) : List PV := if acc.getLast? = some x then acc else acc ++ [x]
noncomputable def dd (xs : List PV) : List PV := xs.foldl addV []
theorem leastI_some : ∀ {l : List Int}, l ≠ [] → ∃ i, leastI l = some i := by
  intro l h
  cases l with
  | nil => exact absurd rfl h
  | cons x r => exact ⟨_, rfl⟩
/-! ### the order of data -/
def leD (x y : PV) : Prop := ltD y x = false
/-- strictly ascending -/
def Asc (xs : List PV) : Prop := xs.Pairwise fun x y => leD x y ∧ x ≠ y
theorem Asc.le {xs : List PV} (h : Asc xs) : xs.Pairwise leD := h.imp fun q => q.1
open Classical in
/-! ### sets of the records of sets -/
end Z
namespace Z
open PySem PySem.Spec PyProof.Rows L2
/-! ### sets of a zone, in plain Lean -/
abbrev rp (r : St) : PV := .tup [nm r.n, .str r.k, .int r.t, .tup r.vs]
abbrev KA : List Nat := [65]
abbrev KNS : List Nat := [78, 83]
abbrev KSOA : List Nat := [83, 79, 65]
abbrev KCN : List Nat := [67, 78, 65, 77, 69]
abbrev star : List Nat := [42]
def isK (a : Nm) (k : List Nat) (r : St) : Bool := decide (r.n = a) && decide (r.k = k)
def inN (a b : Nm) : Bool := decide (b.length ≤ a.length) && decide (a.drop (a.length - b.length) = b)
def findF (l : List St) (a : Nm) (k : List Nat) : Option St := l.find? (isK a k)
def cutS (o a : Nm) (z : Option St) (r : St) : Option St := if r.k = KNS ∧ r.n ≠ o ∧ inN a r.n = true then (match z with | none => some r | some f => if r.n.length < f.n.length then some r else some f) else z
def cutF (o : Nm) (l : List St) (a : Nm) : Option St := l.foldl (cutS o a) none
/-- the labels of a name -/
def unS : PV → List Nat
  | .str s => s
  | _ => []
def unN : PV → Nm
  | .tup xs => xs.map unS
  | _ => []
def fa1 (o : Nm) (l : List St) : Bool := l.any (fun r => !inN r.n o) || !decide ((l.map St.ky).Nodup)
def fa2 (o : Nm) (l : List St) : Bool := decide (star ∈ o) || l.any fun r => decide (star ∈ r.n.drop 1)
def soas (l : List St) : List St := l.filter fun r => decide (r.k = KSOA)
def ok3 (o : Nm) : List St → Bool
  | [r] => !decide (r.n = o) || !decide (r.vs.length = 1)
  | _ => true
def fa3 (o : Nm) (l : List St) : Bool := ok3 o (soas l)
def fa4 (o : Nm) (l : List St) : Bool := (findF l o KNS).isNone
def many (l : List St) (a : Nm) : Nat := (l.filter fun r => decide (r.n = a)).length
def fa5 (l : List St) : Bool := l.any fun r => decide (r.k = KCN) && (decide (1 < r.vs.length) || decide (1 < many l r.n))
def fa6 (l : List St) : Bool := l.any fun r => decide (r.k = KNS) && decide (r.n.take 1 = [star])
def fa7 (o : Nm) (l : List St) : Bool := l.any fun r => match cutF o l r.n with
  | none => false
  | some c => !decide (r.k = KA) && !decide (r.ky = c.ky)
def fa8 (o : Nm) (l : List St) : Bool := l.any fun r => decide (r.k = KNS) && r.vs.any fun v => inN (unN v) o && (findF l (unN v) KA).isNone
def faultN (o : Nm) (l : List St) : Nat :=
  if fa1 o l then 1 else if fa2 o l then 2 else if fa3 o l then 3 else if fa4 o l then 4 else if fa5 l then 5 else if fa6 l then 6 else if fa7 o l then 7 else if fa8 o l then 8 else 0
/-- what holds for each set that the laws draw -/
structure good (r : St) : Prop where
  sd : r.vs.all (sdF 30) = true
  ne : r.vs ≠ []
  ns : r.k = KNS → ∃ vs : List Nm, r.vs = vs.map nm
theorem sd_rp {r : St} (g : good r) : sdF 49 (rp r) = true := by
  have e : r.vs.all (sdF 47) = true := List.all_eq_true.mpr fun x hx => sd_le (n := 30) (by omega) (List.all_eq_true.mp g.sd x hx)
  show (sdF 48 (nm r.n) && (true && (true && (r.vs.all (sdF 47) && true)))) = true
  rw [sd_nm, e]; rfl
theorem cl_rows {l : List St} (g : ∀ r ∈ l, good r) {m : Nat} : clL m (l.map rp) = true := clL_map fun r hr => sd_cl (sd_rp (g r hr)) m
theorem str9 : ∀ d : Nat, d < 9 → (strI (d : Int)).length ≤ 1 := by
  intro d hd
  match d, hd with
  | 0, _ => decide +kernel
  | 1, _ => decide +kernel
  | 2, _ => decide +kernel
  | 3, _ => decide +kernel
  | 4, _ => decide +kernel
  | 5, _ => decide +kernel
  | 6, _ => decide +kernel
  | 7, _ => decide +kernel
  | 8, _ => decide +kernel
/-- short names of short labels -/
def sh (w : Nm) : Prop := w.length ≤ 30 ∧ ∀ x ∈ w, x.length ≤ 1
/-- a record set as the laws draw it -/
structure wr (r : St) : Prop where
  g : good r
  nl : sh r.n
  vl : r.vs.length ≤ 30
  soa : r.k = KSOA → ∃ (sv : Nm) (ds : List Int), ds.length = 5 ∧ sv.length ≤ 30 ∧ r.vs = [.tup ([nm sv] ++ ds.map .int)]
  cn : r.k = KCN → ∃ b : Nm, r.vs = [nm b] ∧ b.length ≤ 30
theorem sd_soa {b : Nm} {ds : List Int} {n : Nat} : sdF (n + 2) (.tup ([nm b] ++ ds.map .int)) = true := by
  show (([nm b] ++ ds.map PV.int).all (sdF (n + 1))) = true
  rw [List.all_append, List.all_map]
  show ((sdF (n + 1) (nm b) && true) && _) = true
  rw [sd_nm]
  exact List.all_eq_true.mpr fun _ _ => rfl
theorem wr_soa {w b : Nm} {t : Int} {ds : List Int} (nl : sh w) (h5 : ds.length = 5) (bl : b.length ≤ 30) : wr ⟨w, KSOA, t, [.tup ([nm b] ++ ds.map .int)]⟩ :=
  ⟨⟨by show (sdF 30 (.tup ([nm b] ++ ds.map .int)) && true) = true; rw [sd_soa]; rfl, by simp, fun e => absurd (show KSOA = KNS from e) (by decide)⟩, nl, by simp, fun _ => ⟨b, ds, h5, bl, rfl⟩, fun e => absurd (show KSOA = KCN from e) (by decide)⟩
/-- the sets of a valid zone, as the laws draw them -/
structure OKL (o : Nm) (l : List St) : Prop where
  w : ∀ r ∈ l, wr r
  f : faultN o l = 0
  hd : ∃ (tt : Int) (sv : Nm) (ds : List Int) (rest : List St), ds.length = 5 ∧ (∀ d ∈ ds, 0 ≤ d ∧ d < 60) ∧ l = ⟨o, KSOA, tt, [.tup ([nm sv] ++ ds.map .int)]⟩ :: rest
  sv : ∃ r ∈ (l.drop 1).take 2, r.n = [115] :: o ∧ r.k = KA
theorem take2_app {α : Type} {l m : List α} {x : α} (h : x ∈ l.take 2) : x ∈ (l ++ m).take 2 := by
  match l, h with
  | a :: b :: l, h => exact h
  | [a], h =>
    rw [List.mem_singleton.mp h]
    exact List.mem_cons_self ..
theorem OKL.app {o : Nm} {l m : List St} (h : OKL o l) (hm : ∀ r ∈ m, wr r) (f : faultN o (l ++ m) = 0) : OKL o (l ++ m) := by
  obtain ⟨tt, sv, ds, rest, h5, h6, rfl⟩ := h.hd
  obtain ⟨r, hr, e1, e2⟩ := h.sv
  exact ⟨fun r hr => (List.mem_append.mp hr).elim (h.w r) (hm r), f, ⟨tt, sv, ds, rest ++ m, h5, h6, rfl⟩, r, take2_app hr, e1, e2⟩
theorem fault_nodup {o : Nm} {l : List St} (h : faultN o l = 0) : (l.map St.ky).Nodup := by
  unfold faultN at h
  cases e : fa1 o l with
  | true => rw [e] at h; simp at h
  | false =>
    unfold fa1 at e
    rw [Bool.or_eq_false_iff] at e
    simpa using e.2
end Z
namespace Z
open PySem PySem.Spec PyProof.Rows L2
/-! ### acts on the sets of a zone, in plain Lean -/
inductive Ac
  | drop (n : Nm) (k : List Nat)
  | put (r : St)
def putF (l : List St) (r : St) : List St := if r.ky ∈ l.map St.ky then l.map fun x => if x.ky = r.ky then r else x else l ++ [r]
def numV (i : Int) : PV → PV
  | .tup (a :: _ :: c) => .tup (a :: .int i :: c)
  | x => x
def numR (i : Int) (r : St) : St := if r.k = KSOA then ⟨r.n, r.k, r.t, [numV i (r.vs.headD .non)]⟩ else r
def numF (i : Int) (l : List St) : List St := l.map (numR i)
theorem numR_soa {i : Int} {r : St} (w : wr r) (h : r.k = KSOA) : ∃ (sv : Nm) (d0 d1 d2 d3 d4 : Int), sv.length ≤ 30 ∧ r.vs = [.tup [nm sv, .int d0, .int d1, .int d2, .int d3, .int d4]] ∧ numR i r = ⟨r.n, r.k, r.t, [.tup [nm sv, .int i, .int d1, .int d2, .int d3, .int d4]]⟩ := by
  obtain ⟨sv, ds, h5, hs, e⟩ := w.soa h
  match ds, h5 with
  | [d0, d1, d2, d3, d4], _ =>
  refine ⟨sv, d0, d1, d2, d3, d4, hs, e, ?_⟩
  unfold numR
  rw [if_pos h, e]; rfl
theorem numR_no {i : Int} {r : St} (h : r.k ≠ KSOA) : numR i r = r := by unfold numR; rw [if_neg h]
theorem numR_ky {i : Int} {r : St} : (numR i r).ky = r.ky := by
  unfold numR
  split <;> rfl
theorem numR_wr {i : Int} {r : St} (w : wr r) : wr (numR i r) := by
  by_cases h : r.k = KSOA
  · obtain ⟨sv, d0, d1, d2, d3, d4, hs, e, en⟩ := numR_soa (i := i) w h
    rw [en, h]
    exact wr_soa (ds := [i, d1, d2, d3, d4]) w.nl rfl hs
  · rw [numR_no h]; exact w
theorem numF_ky {i : Int} {l : List St} : (numF i l).map St.ky = l.map St.ky := by
  unfold numF
  rw [List.map_map]
  exact List.map_congr_left fun r _ => numR_ky
/-- the sets that acts lead to: the SOA set first, and no other of its kind -/
structure DUE (o : Nm) (l : List St) : Prop where
  w : ∀ r ∈ l, wr r
  nd : (l.map St.ky).Nodup
  hd : ∃ r rest, l = r :: rest ∧ r.n = o ∧ r.k = KSOA ∧ ∀ x ∈ rest, x.k ≠ KSOA
  sv : ∃ r ∈ (l.drop 1).take 2, r.n = [115] :: o ∧ r.k = KA
theorem take2_map {α : Type} {l : List α} {x : α} {f : α → α} (h : x ∈ l.take 2) : f x ∈ (l.map f).take 2 := by
  rw [← List.map_take]
  exact List.mem_map_of_mem h
theorem fault_soa {o : Nm} {l : List St} (h : faultN o l = 0) : ∃ r, soas l = [r] ∧ r.n = o := by
  unfold faultN at h
  have f3 : fa3 o l = false := by
    cases e1 : fa1 o l with
    | true => rw [e1] at h; simp at h
    | false =>
      cases e2 : fa2 o l with
      | true => rw [e1, e2] at h; simp at h
      | false =>
        cases e3 : fa3 o l with
        | true => rw [e1, e2, e3] at h; simp at h
        | false => rfl
  unfold fa3 ok3 at f3
  split at f3
  · rename_i r e
    rw [Bool.or_eq_false_iff] at f3
    exact ⟨r, e, by simpa using f3.1⟩
  · cases f3
theorem DUE.of {o : Nm} {l : List St} (h : OKL o l) : DUE o l := by
  obtain ⟨tt, sv, ds, rest, h5, _, e⟩ := h.hd
  refine ⟨h.w, fault_nodup h.f, ⟨_, rest, e, rfl, rfl, fun x hx z => ?_⟩, h.sv⟩
  obtain ⟨r, er, _⟩ := fault_soa h.f
  rw [e] at er
  unfold soas at er
  rw [List.filter_cons_of_pos (by simp)] at er
  injection er with _ er
  have : x ∈ rest.filter fun r => decide (r.k = KSOA) := List.mem_filter.mpr ⟨hx, by simpa using z⟩
  rw [er] at this
  cases this
theorem DUE.num {o : Nm} {l : List St} {i : Int} (h : DUE o l) : DUE o (numF i l) := by
  obtain ⟨r, rest, e, hn, hk, hr⟩ := h.hd
  obtain ⟨r1, h1, e1, e2⟩ := h.sv
  refine ⟨fun x hx => ?_, by rw [numF_ky]; exact h.nd, ⟨numR i r, numF i rest, by rw [e]; rfl, ?_, ?_, fun x hx => ?_⟩, numR i r1, ?_, (congrArg Prod.fst (numR_ky (i := i) (r := r1))).trans e1, (congrArg Prod.snd (numR_ky (i := i) (r := r1))).trans e2⟩
  rotate_right
  · unfold numF
    rw [← List.map_drop]
    exact take2_map h1
  · obtain ⟨y, hy, rfl⟩ := List.mem_map.mp hx
    exact numR_wr (h.w y hy)
  · exact (congrArg Prod.fst (numR_ky (i := i) (r := r))).trans hn
  · exact (congrArg Prod.snd (numR_ky (i := i) (r := r))).trans hk
  · obtain ⟨y, hy, rfl⟩ := List.mem_map.mp hx
    rw [show (numR i y).k = y.k from congrArg Prod.snd (numR_ky (i := i) (r := y))]
    exact hr y hy
end Z
namespace Z
open PySem PySem.Spec PyProof.Rows L2
/-! ### tuples that hold lists -/
section
variable {Q : PV → PH → Prop} {E : EX} {h t : PH} {xs ys : List PV} {x y : PV}
theorem eqP_zip {f : PV → PV → Option Bool} : ∀ {xs ys : List PV}, (∀ p ∈ xs.zip ys, f p.1 p.2 = some true) → eqP f xs ys = some true
  | [], _, _ => rfl
  | _ :: _, [], _ => rfl
  | x :: xs, y :: ys, q => by
    unfold eqP
    have h1 := q (x, y) (List.mem_cons_self ..)
    dsimp only at h1
    rw [h1, eqP_zip fun p hp => q p (List.mem_cons_of_mem _ hp)]; rfl
theorem eqF_tup {n : Nat} (hl : xs.length = ys.length) (q : ∀ p ∈ xs.zip ys, eqF h n p.1 p.2 = some true) : eqF h (n + 1) (.tup xs) (.tup ys) = some true := by
  show (some (true, xs)).bind (fun p => (some (true, ys)).bind fun q => eqQ (eqF h n) p q) = _
  show eqQ (eqF h n) (true, xs) (true, ys) = _
  unfold eqQ
  dsimp only
  rw [if_pos rfl, if_neg (by simp), eqP_zip q, hl]
  simp
theorem eqF_self {n : Nat} (hx : pd n x = true) : eqF h n x x = some true := by
  obtain ⟨b, e, k⟩ := eqF_pd (h := h) n hx hx
  rw [e, k.mpr rfl]
end
/-! ### rows are told by what they hold -/
noncomputable def inS (m : List St) (r : St) : Bool := @decide (r ∈ m) (Classical.propDecidable _)
theorem inS_iff {m : List St} {r : St} : inS m r = true ↔ r ∈ m := by unfold inS; exact @decide_eq_true_iff _ (Classical.propDecidable _)
theorem inS_no {m : List St} {r : St} : inS m r = false ↔ r ∉ m := by rw [← inS_iff]; simp
/-- the sets of one version that are not in the other -/
noncomputable def remF (l m : List St) : List St := l.filter fun r => decide (r.k ≠ KSOA) && !inS m r
theorem remF_mem {l m : List St} {r : St} : r ∈ remF l m ↔ r ∈ l ∧ r.k ≠ KSOA ∧ r ∉ m := by
  unfold remF
  rw [List.mem_filter, Bool.and_eq_true, decide_eq_true_iff, Bool.not_eq_true', inS_no]
/-! ### differences of versions -/
/-! ### rows can be sorted -/
/-! ### another serial changes no fault -/
end Z
namespace Z
open PySem PySem.Spec PyProof.Rows L2
/-! ### acts that lead from one version to the next -/
def Ac.ky : Ac → Ky
  | .drop n k => (n, k)
  | .put r => r.ky
/-! ### the order of the sets changes no fault -/
end Z
namespace Z
open PySem PySem.Spec PyProof.Rows L2
local macro_rules | `(tactic| walk_at "z0") => `(tactic| with_reducible first | refine w_K.mpr ?_ | refine w_B.mpr ?_ | refine w_U.mpr ?_ | refine w_C.mpr ?_ | refine w_nil.mpr ?_ | refine w_cons.mpr ?_ | refine w_consR.mpr ?_ | refine w_M.mpr ?_ | refine w_if.mpr ?_ | refine w_tr.mpr ?_ | refine w_tb.mpr ?_ | refine w_not.mpr ?_ | refine w_and.mpr ?_ | refine w_or.mpr ?_ | refine w_andV.mpr ?_ | refine w_orV.mpr ?_ | refine w_notV.mpr ?_ | refine w_ch.mpr ?_ | refine w_nilS.mpr ?_ | refine w_bk.mpr ?_ | refine w_ct.mpr ?_ | refine w_retN.mpr ?_ | refine w_seq.mpr ?_ | refine w_set.mpr ?_ | refine w_asg.mpr ?_ | refine w_ret.mpr ?_ | refine w_exp.mpr ?_ | refine w_aug.mpr ?_ | refine w_sub.mpr ?_ | refine w_iseq.mpr ?_ | refine w_tup.mpr ?_ | refine w_lst.mpr ?_ | refine w_sl.mpr ?_ | refine w_So.mpr ?_ | refine w_No.mpr ?_ | refine w_lc.mpr ?_ | refine w_true.mpr ?_ | refine w_meth.mpr ?_ | refine w_raise.mpr ?_)
local macro_rules | `(tactic| walk_at "z1") => `(tactic| with_reducible first | refine okG_ok.mpr ?_ | refine okG_ex.mpr ?_ | refine okS_nx.mpr ?_ | refine okS_rt.mpr ?_ | refine okS_bk.mpr ?_ | refine okS_ct.mpr ?_ | refine okS_ex.mpr ?_ | refine putM_int.mpr ?_ | refine putM_bl.mpr ?_ | refine putM_ref.mpr ?_ | refine putM_str.mpr ?_ | refine putM_tup.mpr ?_ | refine putM_ro.mpr ?_ | refine putM_non.mpr ?_ | refine putM_exn.mpr ?_ | refine putM_lst.mpr ?_ | refine tbK_bl.mpr ?_ | refine trK_bl.mpr ?_ | refine trK_int.mpr ?_ | refine trK_non.mpr ?_ | refine soK_int.mpr ?_ | refine putM_nm.mpr ?_ | refine iteT ?_ | refine iteF ?_ | refine iteNT ?_ | refine iteNF ?_)
local macro_rules | `(tactic| walk_at "z2") => `(tactic| with_reducible first | refine o_add.mpr ?_ | refine o_mulI.mpr ?_ | refine o_addA.mpr ?_ | refine o_neg.mpr ?_ | refine o_any.mpr ?_ | refine o_eq_int.mpr ?_ | refine o_ne_int.mpr ?_ | refine o_eq_bl.mpr ?_ | refine o_ne_bl.mpr ?_ | refine o_int.mpr ?_ | refine o_int_bl.mpr ?_ | refine o_len_ro.mpr ?_ | refine o_len_tup.mpr ?_ | refine o_len_lst.mpr ?_ | refine oBK_some.mpr ?_ | refine o_eq_str.mpr ?_ | refine o_ne_str.mpr ?_ | refine o_eq_nm.mpr ?_ | refine o_ne_nm.mpr ?_ | refine o_len_nm.mpr ?_ | refine o_sl_nm.mpr ?_ | refine o_sl_tup.mpr ?_ | refine o_sl_ro.mpr ?_ | refine o_sl_lst.mpr ?_ | refine o_tuple_lst.mpr ?_ | refine o_tuple_ro.mpr ?_ | refine o_tuple_tup.mpr ?_ | refine o_list_lst.mpr ?_ | refine o_list_ro.mpr ?_ | refine o_list_tup.mpr ?_ | refine o_is_bl.mpr ?_ | refine o_isnot_bl.mpr ?_ | refine o_inS.mpr ?_ | refine o_notinS.mpr ?_ | refine o_ord.mpr ?_)
local macro_rules | `(tactic| walk_at "z3") => `(tactic| first | ((with_reducible show _ ≤ SZ ∧ _); refine ⟨by first | exact Nat.le_of_ble_eq_true rfl | ((show _ ≤ 16777216); omega), ?_⟩) | ((with_reducible show tyB _ _ _ = true ∧ _); refine ⟨by rfl, ?_⟩) | ((with_reducible show ∃ x, [_] = [x] ∧ _); refine ⟨_, rfl, ?_⟩) | ((with_reducible show srcK _ (nm _) _); refine ⟨_, rfl, ?_⟩) | ((with_reducible show srcK _ (.tup _) _); refine ⟨_, rfl, ?_⟩) | ((with_reducible show srcK _ (.ro _) _); refine ⟨_, rfl, ?_⟩) | ((with_reducible show srcK _ (.lst _) _); refine ⟨_, rfl, ?_⟩) | ((with_reducible refine w_V' ?_); refine ⟨_, rfl, ?_⟩) | ((with_reducible refine o_ix_ref' ?_); refine ⟨_, _, by first | assumption | rfl, by rfl, ?_⟩) | ((with_reducible refine o_ix_tup' ?_); refine ⟨_, by rfl, ?_⟩) | ((with_reducible refine o_ix_ro' ?_); refine ⟨_, by rfl, ?_⟩) | ((with_reducible refine o_ix_lst' ?_); refine ⟨_, by rfl, ?_⟩) | ((with_reducible refine o_len_ref' ?_); refine ⟨_, by first | assumption | rfl, ?_⟩) | ((with_reducible refine set_ref' ?_); refine ⟨_, _, by first | assumption | rfl, by rfl, ?_⟩))
local macro_rules | `(tactic| walk_at "z4") => `(tactic| first | ((with_reducible refine o_mul' ?_); refine ⟨by first | exact cMul_l (by decide) | exact cMul_r (by decide) | exact cMul_l (by omega) | exact cMul_r (by omega), ?_⟩) | ((with_reducible refine o_mod' ?_); refine ⟨by omega, ?_⟩) | ((with_reducible refine o_fdiv' ?_); refine ⟨by omega, ?_⟩) | ((with_reducible refine o_pow' ?_); refine ⟨by decide, ?_⟩))
local macro_rules | `(tactic| walk_at "z5") => `(tactic| ((with_reducible show okG (oIsiB _ _ _) _ _); first | (with_reducible refine isi_int_int.mpr ?_) | (with_reducible refine isi_bool_int.mpr ?_) | (with_reducible refine isi_str_int.mpr ?_) | (with_reducible refine isi_tuple_int.mpr ?_) | (with_reducible refine isi_NoneType_int.mpr ?_) | (with_reducible refine isi_list_int.mpr ?_) | (with_reducible refine isi_int_bool.mpr ?_) | (with_reducible refine isi_bool_bool.mpr ?_) | (with_reducible refine isi_str_bool.mpr ?_) | (with_reducible refine isi_tuple_bool.mpr ?_) | (with_reducible refine isi_NoneType_bool.mpr ?_) | (with_reducible refine isi_list_bool.mpr ?_) | (with_reducible refine isi_int_str.mpr ?_) | (with_reducible refine isi_bool_str.mpr ?_) | (with_reducible refine isi_str_str.mpr ?_) | (with_reducible refine isi_tuple_str.mpr ?_) | (with_reducible refine isi_NoneType_str.mpr ?_) | (with_reducible refine isi_list_str.mpr ?_) | (with_reducible refine isi_int_tuple.mpr ?_) | (with_reducible refine isi_bool_tuple.mpr ?_) | (with_reducible refine isi_str_tuple.mpr ?_) | (with_reducible refine isi_tuple_tuple.mpr ?_) | (with_reducible refine isi_NoneType_tuple.mpr ?_) | (with_reducible refine isi_list_tuple.mpr ?_) | (with_reducible refine isi_int_list.mpr ?_) | (with_reducible refine isi_bool_list.mpr ?_) | (with_reducible refine isi_str_list.mpr ?_) | (with_reducible refine isi_tuple_list.mpr ?_) | (with_reducible refine isi_NoneType_list.mpr ?_) | (with_reducible refine isi_list_list.mpr ?_) | ((with_reducible refine isi_list2_int ?_); refine ⟨_, by first | assumption | rfl, ?_⟩) | ((with_reducible refine isi_list2_bool ?_); refine ⟨_, by first | assumption | rfl, ?_⟩) | ((with_reducible refine isi_list2_str ?_); refine ⟨_, by first | assumption | rfl, ?_⟩) | ((with_reducible refine isi_list2_tuple ?_); refine ⟨_, by first | assumption | rfl, ?_⟩) | ((with_reducible refine isi_list2_list ?_); refine ⟨_, by first | assumption | rfl, ?_⟩)))
local macro_rules | `(tactic| walk_at "z6") => `(tactic| with_reducible first | refine o_is_n_int.mpr ?_ | refine o_isnot_n_int.mpr ?_ | refine o_is_n_bl.mpr ?_ | refine o_isnot_n_bl.mpr ?_ | refine o_is_n_str.mpr ?_ | refine o_isnot_n_str.mpr ?_ | refine o_is_n_tup.mpr ?_ | refine o_isnot_n_tup.mpr ?_ | refine o_is_n_non.mpr ?_ | refine o_isnot_n_non.mpr ?_ | refine o_is_n_lst.mpr ?_ | refine o_isnot_n_lst.mpr ?_ | refine o_is_n_ref.mpr ?_ | refine o_isnot_n_ref.mpr ?_ | refine o_is_n_ro.mpr ?_ | refine o_isnot_n_ro.mpr ?_ | refine o_is_n_exn.mpr ?_ | refine o_isnot_n_exn.mpr ?_)
local macro_rules | `(tactic| walk_at "z7") => `(tactic| first | ((with_reducible refine o_sl_ref' ?_); refine ⟨_, by first | assumption | rfl, ?_⟩) | ((with_reducible refine o_tuple_ref' ?_); refine ⟨_, by first | assumption | rfl, ?_⟩) | ((with_reducible refine o_list_ref' ?_); refine ⟨_, by first | assumption | rfl, ?_⟩) | ((with_reducible refine o_add_nm' ?_); refine ⟨by (show _ ≤ 16777216); omega, ?_⟩) | ((with_reducible refine o_addT' ?_); refine ⟨by (show _ ≤ 16777216); omega, ?_⟩) | ((with_reducible refine o_addS' ?_); refine ⟨by (show _ ≤ 16777216); first | omega | (simp only [List.length_cons, List.length_nil, List.length_append, List.length_map, List.length_replicate, List.length_singleton]; omega), ?_⟩) | ((with_reducible refine o_len_str' ?_); refine ⟨by (show _ ≤ 16777216); first | omega | (simp only [List.length_cons, List.length_nil, List.length_append, List.length_map, List.length_replicate, List.length_singleton]; omega), ?_⟩))
local macro_rules | `(tactic| walk_at "z8") => `(tactic| first | ((with_reducible refine eqO_pl ?_); refine ⟨by rfl, ?_⟩) | ((with_reducible refine neO_pl ?_); refine ⟨by rfl, ?_⟩))
local macro_rules | `(tactic| walk_at "z") => `(tactic| first | walk_at "z0" | walk_at "z1" | walk_at "z2" | walk_at "z3" | walk_at "z4" | walk_at "z5" | walk_at "z6" | walk_at "z7" | walk_at "z8")
local macro_rules | `(tactic| walk_at "zz") => `(tactic| repeat walk_at "z")
local macro_rules | `(tactic| walk_at "zi") => `(tactic| with_reducible first | refine iteD ?_ ?_ | refine iteN ?_ ?_ | refine iteI ?_ ?_)
local macro_rules | `(tactic| walk_at "zs") => `(tactic| with_reducible refine w_seq.mpr ?_)
local macro_rules | `(tactic| walk_at "zf") => `(tactic| ((with_reducible first | refine w_ifS.mpr ?_ | refine w_for.mpr ?_); walk_at "zz"; try walk_at "zi"))
local macro_rules | `(tactic| walk_at "zr") => `(tactic| ((with_reducible refine w_rg1 ?_); walk_at "zz"; refine ⟨_, rfl, by omega, ?_⟩))
local macro_rules | `(tactic| walk_at "zr2") => `(tactic| ((with_reducible refine w_rg2 ?_); walk_at "zz"; refine ⟨_, _, rfl, by omega, ?_⟩))

/-! ### the heap of a law behind its state: what stands where, whatever the state -/
def F (T : PH) (r : Nat) (x : OB) : Prop := ∀ s, (SH s T)[r]? = some x
structure TX (T T' : PH) : Prop where
  f : ∀ {r : Nat} {x : OB}, F T r x → F T' r x
  le : T.length ≤ T'.length
theorem F.at_ {T : PH} {r : Nat} {x : OB} {s : Sd} (f : F T r x) : (SH s T)[r]? = some x := f s
theorem TX.refl {T : PH} : TX T T := ⟨fun f => f, Nat.le_refl _⟩
theorem TX.trans {T T1 T2 : PH} (a : TX T T1) (b : TX T1 T2) : TX T T2 := ⟨fun f => b.f (a.f f), Nat.le_trans a.le b.le⟩
theorem TX.app {T u : PH} : TX T (T ++ u) := ⟨fun {r x} f s => get_app (h := SH s T) (f s), by simp⟩
theorem F.ne0 {T : PH} {r : Nat} {x : OB} (f : F T r x) : ∃ m, r = m + 1 ∧ T[m]? = some x := by
  cases r with
  | zero =>
    have h1 := f ⟨(0, 0), by decide, by decide⟩
    have h2 := f ⟨(1, 0), by decide, by decide⟩
    have h1 : OB.lst [.int 0, .int 0] = x := Option.some.inj h1
    have h2 : OB.lst [.int 1, .int 0] = x := Option.some.inj h2
    rw [← h1] at h2
    injection h2 with h2
    injection h2 with h2
    injection h2 with h2
    cases h2
  | succ m => exact ⟨m, rfl, f ⟨(0, 0), by decide, by decide⟩⟩
theorem F.of {T : PH} {m : Nat} {x : OB} (e : T[m]? = some x) : F T (m + 1) x := fun _ => e
theorem F.lt {T : PH} {r : Nat} {x : OB} (f : F T r x) : r < T.length + 1 := by
  obtain ⟨m, rfl, e⟩ := f.ne0
  by_cases c : m < T.length
  · omega
  · rw [List.getElem?_eq_none (by omega)] at e; cases e
section
variable {Q : PV → PH → Prop} {E : EX} {T u : PH} {s : Sd} {x : PV} {xs : List PV}
theorem TX.tail {T' : PH} {T : PH} (e : T' = T ++ u) : TX T T' := e ▸ TX.app
/-- a new list -/
theorem new_T (q : ∀ (T' : PH) (r : Nat), TX T T' → F T' r (.lst xs) → T.length < r → Q (.ref r) (SH s T')) : putM Q (.lst xs) (SH s T) := by
  refine putM_lst.mpr ?_
  show Q (.ref (T.length + 1)) (SH s (T ++ [.lst xs]))
  exact q (T ++ [.lst xs]) (T.length + 1) .app (.of get_end) (Nat.lt_succ_self _)
theorem F.ne {T : PH} {r r' : Nat} {x : OB} (f : F T r' x) (h : T.length < r) : r' ≠ r := by
  have := f.lt
  omega
/-- T' is T, but for what stands at r -/
structure TS (r : Nat) (T T' : PH) : Prop where
  f : ∀ {r' : Nat} {x : OB}, r' ≠ r → F T r' x → F T' r' x
  le : T.length = T'.length
/-! ### the heap of a function: what stood before stays -/
structure HX (h k : PH) : Prop where
  ex : ∃ u, k = h ++ u
theorem HX.refl {h : PH} : HX h h := ⟨[], (List.append_nil _).symm⟩
theorem HX.trans {h k l : PH} (a : HX h k) (b : HX k l) : HX h l := by
  obtain ⟨u, rfl⟩ := a
  obtain ⟨v, rfl⟩ := b
  exact ⟨u ++ v, List.append_assoc ..⟩
theorem HX.app {h u : PH} : HX h (h ++ u) := ⟨u, rfl⟩
theorem HX.f {h k : PH} (a : HX h k) {r : Nat} {x : OB} (e : h[r]? = some x) : k[r]? = some x := by
  obtain ⟨u, rfl⟩ := a
  exact get_app e
theorem HX.le {h k : PH} (a : HX h k) : h.length ≤ k.length := by
  obtain ⟨u, rfl⟩ := a
  simp
theorem HX.set {h k : PH} (a : HX h k) {r : Nat} {y : OB} (hr : h.length ≤ r) : HX h (k.set r y) := by
  obtain ⟨u, rfl⟩ := a
  exact ⟨u.set (r - h.length) y, List.set_append_right _ _ hr⟩
theorem F.ofS {s : Sd} {T : PH} {r : Nat} {x : OB} (e : (SH s T)[r]? = some x) (h : 0 < r) : F T r x := by
  obtain ⟨m, rfl⟩ : ∃ m, r = m + 1 := ⟨r - 1, by omega⟩
  exact F.of e
theorem HX.tx {s : Sd} {T k : PH} (X : HX (SH s T) k) : ∃ T', k = SH s T' ∧ TX T T' := by
  obtain ⟨u, rfl⟩ := X.ex
  exact ⟨T ++ u, rfl, .app⟩
theorem get_lt {h : PH} {r : Nat} {x : OB} (e : h[r]? = some x) : r < h.length := by
  by_cases c : r < h.length
  · exact c
  · rw [List.getElem?_eq_none (by omega)] at e; cases e
theorem new_H {h : PH} (q : ∀ (k : PH) (r : Nat), HX h k → k[r]? = some (.lst xs) → h.length ≤ r → Q (.ref r) k) : putM Q (.lst xs) h :=
  putM_lst.mpr (q _ _ .app get_end (Nat.le_refl _))
theorem gc_X {h k : PH} (a : HX h k) (hc : clV h.length x = true) (q : Q x h) : gcK h Q E x k := by
  obtain ⟨u, rfl⟩ := a
  exact gc_app hc q
theorem gc_XL {h k : PH} {r : Nat} (a : HX h k) (e : k[r]? = some (.lst xs)) (hr : h.length ≤ r) (hc : clL h.length xs = true) (q : Q (.lst xs) h) : gcK h Q E (.ref r) k := by
  obtain ⟨u, rfl⟩ := a
  obtain ⟨i, rfl⟩ : ∃ i, r = h.length + i := ⟨r - h.length, by omega⟩
  refine gc_new (i := i) ?_ hc q
  rw [List.getElem?_append_right (by omega), Nat.add_sub_cancel_left] at e
  exact e
/-! data -/
/-! ### differences that lie in the heap -/
structure Dc where
  old : St
  ra : Nat
  rem : List St
  new : St
  rb : Nat
  add : List St
def Dc.rows (d : Dc) : List St := [d.old] ++ d.rem ++ [d.new] ++ d.add
def DH (h : PH) (d : Dc) : Prop := h[d.ra]? = some (.lst (d.rem.map rp)) ∧ h[d.rb]? = some (.lst (d.add.map rp))
def DT (T : PH) (d : Dc) : Prop := F T d.ra (.lst (d.rem.map rp)) ∧ F T d.rb (.lst (d.add.map rp))
theorem DT.at_ {d : Dc} (h : DT T d) : DH (SH s T) d := ⟨h.1.at_, h.2.at_⟩
theorem DT.up {T' : PH} {d : Dc} (X : TX T T') (h : DT T d) : DT T' d := ⟨X.f h.1, X.f h.2⟩
structure Dc.good (d : Dc) : Prop where
  g : ∀ r ∈ d.rows, Z.good r
  v : ∀ r ∈ d.rows, r.vs.length ≤ 30
  l : d.rows.length ≤ 300
/-! ### versions that lie in the heap -/
def VH (h : PH) (rv : Nat) (vs : List (List St)) : Prop := ∃ rs : List Nat, rs.length = vs.length ∧ h[rv]? = some (.lst (rs.map .ref)) ∧ ∀ (i : Nat) (r : Nat) (v : List St), rs[i]? = some r → vs[i]? = some v → h[r]? = some (.lst (v.map rp))
def VT (T : PH) (rv : Nat) (vs : List (List St)) : Prop := ∃ rs : List Nat, rs.length = vs.length ∧ F T rv (.lst (rs.map .ref)) ∧ ∀ (i : Nat) (r : Nat) (v : List St), rs[i]? = some r → vs[i]? = some v → F T r (.lst (v.map rp))
theorem VT.at_ {rv : Nat} {vs : List (List St)} (V : VT T rv vs) : VH (SH s T) rv vs := by
  obtain ⟨rs, e1, e2, e3⟩ := V
  exact ⟨rs, e1, e2.at_, fun i r v h1 h2 => (e3 i r v h1 h2).at_⟩
theorem VT.up {T' : PH} {rv : Nat} {vs : List (List St)} (X : TX T T') (V : VT T rv vs) : VT T' rv vs := by
  obtain ⟨rs, e1, e2, e3⟩ := V
  exact ⟨rs, e1, X.f e2, fun i r v h1 h2 => X.f (e3 i r v h1 h2)⟩
theorem VH.get {h : PH} {rv : Nat} {vs : List (List St)} (V : VH h rv vs) {i : Nat} {v : List St} (hv : vs[i]? = some v) : ∃ (xs : List PV) (r : Nat), h[rv]? = some (.lst xs) ∧ xs.length = vs.length ∧ atI xs (i : Int) = some (.ref r) ∧ h[r]? = some (.lst (v.map rp)) := by
  obtain ⟨rs, e1, e2, e3⟩ := V
  have hi : i < rs.length := by
    rw [e1]; exact (List.getElem?_eq_some_iff.mp hv).1
  refine ⟨_, rs[i], e2, by rw [List.length_map, e1], ?_, e3 i _ v (List.getElem?_eq_getElem hi) hv⟩
  rw [atI_nat (j := i) (v := .ref rs[i])]
  rw [List.getElem?_map, List.getElem?_eq_getElem hi]; rfl
theorem VT.get {rv : Nat} {vs : List (List St)} (V : VT T rv vs) {i : Nat} {v : List St} (hv : vs[i]? = some v) : ∃ (xs : List PV) (r : Nat), F T rv (.lst xs) ∧ xs.length = vs.length ∧ atI xs (i : Int) = some (.ref r) ∧ F T r (.lst (v.map rp)) := by
  obtain ⟨rs, e1, e2, e3⟩ := V
  have hi : i < rs.length := by
    rw [e1]; exact (List.getElem?_eq_some_iff.mp hv).1
  refine ⟨_, rs[i], e2, by rw [List.length_map, e1], ?_, e3 i _ v (List.getElem?_eq_getElem hi) hv⟩
  rw [atI_nat (j := i) (v := .ref rs[i])]
  rw [List.getElem?_map, List.getElem?_eq_getElem hi]; rfl
theorem VT.snoc {T2 : PH} {rv r' : Nat} {vs : List (List St)} {m : List St} (V : VT T rv vs) (fr : F T r' (.lst (m.map rp))) (hne : vs ≠ []) (h : ∀ xs, F T rv (.lst xs) → F T2 rv (.lst (xs ++ [.ref r']))) (k : TS rv T T2) : VT T2 rv (vs ++ [m]) := by
  obtain ⟨rs, e1, e2, e3⟩ := V
  have nr : ∀ (r : Nat) (v : List St), F T r (.lst (v.map rp)) → r ≠ rv := fun r v f z => by
    subst z
    have := (f ⟨(0, 0), by decide, by decide⟩).symm.trans (e2 ⟨(0, 0), by decide, by decide⟩)
    have := OB.lst.inj (Option.some.inj this)
    cases rs with
    | nil => exact hne (List.length_eq_zero_iff.mp e1.symm)
    | cons x rs =>
      cases v with
      | nil => cases this
      | cons y v => injection this with this _; cases this
  refine ⟨rs ++ [r'], by rw [List.length_append, List.length_append, e1]; rfl, by rw [List.map_append]; exact h _ e2, fun i r v h1 h2 => ?_⟩
  by_cases c : i < rs.length
  · rw [List.getElem?_append_left c] at h1
    rw [List.getElem?_append_left (by omega)] at h2
    have := e3 i r v h1 h2
    exact k.f (nr _ _ this) this
  · rw [List.getElem?_append_right (by omega)] at h1
    rw [List.getElem?_append_right (by omega), ← e1] at h2
    cases ci : i - rs.length with
    | succ j => rw [ci] at h1; cases h1
    | zero =>
      rw [ci] at h1 h2
      cases h1
      cases h2
      exact k.f (nr _ _ fr) fr
/-! ### one object changes, the lists stand -/
structure TQ (r : Nat) (T T' : PH) : Prop where
  f : ∀ {r' : Nat} {x : OB}, r' ≠ r → F T r' x → F T' r' x
  le : T.length ≤ T'.length
theorem F.inj {T : PH} {r r' : Nat} {x y : OB} (f : F T r x) (g : F T r' y) (h : x ≠ y) : r ≠ r' := fun z => by
  subst z
  exact h (Option.some.inj ((f ⟨(0, 0), by decide, by decide⟩).symm.trans (g ⟨(0, 0), by decide, by decide⟩)))
theorem TQ.l {T T' : PH} {r r' c : Nat} {fs : List (Nat × PV)} {xs : List PV} (k : TQ r T T') (g : F T r (.ins c fs)) (f : F T r' (.lst xs)) : F T' r' (.lst xs) := k.f (f.inj g (by simp)) f
theorem TQ.d {T T' : PH} {r c : Nat} {fs : List (Nat × PV)} {d : Dc} (k : TQ r T T') (g : F T r (.ins c fs)) (h : DT T d) : DT T' d := ⟨k.l g h.1, k.l g h.2⟩
def kept (ds : List Dc) : List Dc := ds.drop (ds.length - 8)
/-- the difference of two versions -/
def difOf (u v : List St) (d : Dc) : Prop := d.rem = remF u v ∧ d.add = remF v u ∧ (∃ t, u = d.old :: t) ∧ ∃ t, v = d.new :: t
theorem difOf.good {o : Nm} {u v : List St} {d : Dc} (h : difOf u v d) (Du : DUE o u) (Dv : DUE o v) (lu : u.length ≤ 140) (lv : v.length ≤ 140) : d.good := by
  obtain ⟨h1, h2, ⟨t, e1⟩, t2, e2⟩ := h
  have m1 : d.old ∈ u := by rw [e1]; exact List.mem_cons_self ..
  have m2 : d.new ∈ v := by rw [e2]; exact List.mem_cons_self ..
  have key : ∀ r ∈ d.rows, r ∈ u ∨ r ∈ v := fun r hr => by
    unfold Dc.rows at hr
    rw [h1, h2] at hr
    rcases List.mem_append.mp hr with hr | hr
    · rcases List.mem_append.mp hr with hr | hr
      · rcases List.mem_append.mp hr with hr | hr
        · rw [List.mem_singleton.mp hr]; exact .inl m1
        · exact .inl (remF_mem.mp hr).1
      · rw [List.mem_singleton.mp hr]; exact .inr m2
    · exact .inr (remF_mem.mp hr).1
  refine ⟨fun r hr => (key r hr).elim (fun z => (Du.w r z).g) fun z => (Dv.w r z).g, fun r hr => (key r hr).elim (fun z => (Du.w r z).vl) fun z => (Dv.w r z).vl, ?_⟩
  unfold Dc.rows
  rw [h1, h2, List.length_append, List.length_append, List.length_append]
  have a1 : (remF u v).length ≤ u.length := List.length_filter_le ..
  have a2 : (remF v u).length ≤ v.length := List.length_filter_le ..
  have : [d.old].length = 1 := rfl
  have : [d.new].length = 1 := rfl
  omega
theorem TQ.of {T T1 T2 : PH} {r : Nat} (X : TX T T1) (k : TQ r T1 T2) : TQ r T T2 := ⟨fun hne f => k.f hne (X.f f), Nat.le_trans X.le k.le⟩
theorem TQ.thn {T T1 T2 : PH} {r : Nat} (k : TQ r T T1) (X : TX T1 T2) : TQ r T T2 := ⟨fun hne f => X.f (k.f hne f), Nat.le_trans k.le X.le⟩
theorem o_max2 {Q : PV → PH → Prop} {E : EX} {h : PH} {i j : Int} : okG (oMax2 [.int i, .int j] h) Q E ↔ Q (.int (if j > i then j else i)) h := Iff.rfl
end
end Z
namespace Z
open PySem PySem.Spec PyProof.Rows L2
/-! ### equality of values that hold lists -/
section
variable {Q : PV → PH → Prop} {E : EX} {h : PH} {k : Nat} {x y : PV} {xs ys : List PV} {P R : Prop}
/-- x == y is computed, and says P -/
def EQ (h : PH) (k : Nat) (x y : PV) (P : Prop) : Prop := ∃ b, eqF h k x y = some b ∧ (b = true ↔ P)
theorem EQ.pd (hx : pd k x = true) (hy : pd k y = true) : EQ h k x y (x = y) := eqF_pd k hx hy
theorem EQ.imp (e : EQ h k x y P) (i : P ↔ R) : EQ h k x y R := by
  obtain ⟨b, e, q⟩ := e
  exact ⟨b, e, q.trans i⟩
theorem EQ.bl {a b : Bool} : EQ h (k + 1) (.bl a) (.bl b) (a = b) := ⟨_, eqF_bl, by simp⟩
theorem EQ.lst {a b : Nat} (e1 : h[a]? = some (.lst xs)) (e2 : h[b]? = some (.lst ys)) (hx : ∀ x ∈ xs, Z.pd k x = true) (hy : ∀ x ∈ ys, Z.pd k x = true) : EQ h (k + 1) (.ref a) (.ref b) (xs = ys) := by
  obtain ⟨b', e, q⟩ := eqQ_pd (h := h) hx hy
  refine ⟨b', ?_, q⟩
  show (seqV h (.ref a)).bind (fun p => (seqV h (.ref b)).bind fun q => eqQ (eqF h k) p q) = _
  rw [seqV_at e1, seqV_at e2]
  exact e
inductive EQL (h : PH) (k : Nat) : List PV → List PV → Prop → Prop
  | nil : EQL h k [] [] True
  | cons {x y : PV} {xs ys : List PV} {P R : Prop} : EQ h k x y P → EQL h k xs ys R → EQL h k (x :: xs) (y :: ys) (P ∧ R)
theorem EQL.p (e : EQL h k xs ys P) : xs.length = ys.length ∧ ∃ b, eqP (eqF h k) xs ys = some b ∧ (b = true ↔ P) := by
  induction e with
  | nil => exact ⟨rfl, true, rfl, by simp⟩
  | cons e _ ih =>
    obtain ⟨b, e1, q1⟩ := e
    obtain ⟨hl, c, e2, q2⟩ := ih
    refine ⟨by rw [List.length_cons, List.length_cons, hl], b && c, ?_, by rw [Bool.and_eq_true, q1, q2]⟩
    unfold eqP
    rw [e1, e2]
theorem EQ.tup (e : EQL h k xs ys P) : EQ h (k + 1) (.tup xs) (.tup ys) P := by
  obtain ⟨hl, b, e, q⟩ := e.p
  refine ⟨b, ?_, q⟩
  show eqQ (eqF h k) (true, xs) (true, ys) = _
  unfold eqQ
  dsimp only
  rw [if_pos rfl, if_neg (by simp), e, hl]
  simp
end
end Z
namespace Z
open PySem PySem.Spec PyProof.Rows L2
/-! ### a cache in plain Lean: entries in order, each with the place of its object -/
structure Ce where
  n : Nm
  k : List Nat
  p : Bool
  st : St
  rank : Int
  ends : Int
  a : Nat
def Ce.is (n : Nm) (k : List Nat) (p : Bool) (e : Ce) : Bool := decide (e.n = n ∧ e.k = k ∧ e.p = p)
abbrev kq (n : Nm) (k : List Nat) (p : Bool) : PV := .tup [nm n, .str k, .bl p]
def kqk (n : Nm) (k : List Nat) (p : Bool) : NestedKey := .tup [nk n, .text ⟨k.toArray⟩, .num (if p = true then 1 else 0)]
def Ce.row (e : Ce) : PV × PV := (kq e.n e.k e.p, .ref e.a)
theorem keyT_kq (n : Nm) (k : List Nat) (p : Bool) : keyT (kq n k p) = some (kqk n k p) := by
  have e : keyN (.tup [nm n, .str k, .bl p]) = some (kqk n k p) := by
    rw [keyN, keyNs, keyN_nm, keyNs, keyN, keyNs, keyN, keyNs]; rfl
  show (keyN (.tup [nm n, .str k, .bl p])).bind _ = _
  rw [e]
  show (if (kqk n k p).depth ≤ 8 then some (kqk n k p) else none) = _
  rw [if_pos]
  show max (nk n).depth (max 0 (max 0 0)) + 1 ≤ 8
  rw [depth_nk]; decide
theorem kqk_inj {n m : Nm} {k l : List Nat} {p q : Bool} : kqk n k p = kqk m l q ↔ n = m ∧ k = l ∧ p = q := by
  constructor
  · intro e
    unfold kqk at e
    rw [NestedKey.tup.injEq, List.cons.injEq, List.cons.injEq, List.cons.injEq, NestedKey.text.injEq, NestedKey.num.injEq] at e
    refine ⟨nk_inj.mp e.1, by simpa using e.2.1, ?_⟩
    have := e.2.2.1
    revert this
    cases p <;> cases q <;> simp
  · rintro ⟨rfl, rfl, rfl⟩; rfl
theorem is_key {n : Nm} {k : List Nat} {p : Bool} {e : Ce} : decide (keyT e.row.1 = some (kqk n k p)) = e.is n k p := by
  unfold Ce.row Ce.is
  dsimp only
  rw [keyT_kq]
  by_cases c : e.n = n ∧ e.k = k ∧ e.p = p
  · rw [decide_eq_true c, decide_eq_true]
    rw [kqk_inj.mpr c]
  · rw [decide_eq_false c, decide_eq_false]
    intro z
    exact c (kqk_inj.mp (Option.some.inj z))
section
variable {es : List Ce} {n : Nm} {k : List Nat} {p : Bool}
theorem kget_ce : kget (es.map Ce.row) (kqk n k p) = (es.find? (Ce.is n k p)).map fun e => .ref e.a := by
  unfold kget
  rw [List.find?_map, Option.map_map]
  have : ((fun q : PV × PV => decide (keyT q.1 = some (kqk n k p))) ∘ Ce.row) = Ce.is n k p := by
    funext e; exact is_key
  rw [this]; rfl
theorem kdel_ce : kdel (es.map Ce.row) (kqk n k p) = (es.filter fun e => !e.is n k p).map Ce.row := by
  unfold kdel
  rw [List.filter_map]
  congr 1
  refine congrArg (fun f => es.filter f) ?_
  funext e
  show decide (keyT e.row.1 ≠ some (kqk n k p)) = _
  rw [← is_key (e := e), decide_not]
theorem kput_ce {y : PV} (h : es.find? (Ce.is n k p) = none) : kput (es.map Ce.row) (kqk n k p) (kq n k p) y = es.map Ce.row ++ [(kq n k p, y)] := by
  unfold kput
  rw [kget_ce, h]
  rfl
end
/-! the first of the least -/
def fmI (l : List Int) (j : Nat) : Prop := ∃ v, l[j]? = some v ∧ (∀ w ∈ l, v ≤ w) ∧ ∀ i w, i < j → l[i]? = some w → v < w
theorem fmI.uniq {l : List Int} {i j : Nat} (h : fmI l i) (k : fmI l j) : i = j := by
  obtain ⟨v, h1, h2, h3⟩ := h
  obtain ⟨w, k1, k2, k3⟩ := k
  rcases Nat.lt_trichotomy i j with c | c | c
  · have a := k3 i v c h1
    have b := h2 w (List.mem_of_getElem? k1)
    omega
  · exact c
  · have a := h3 j w c k1
    have b := k2 v (List.mem_of_getElem? h1)
    omega
theorem fm_one (x : Int) : fmI [x] 0 := ⟨x, rfl, by simp, fun i w h => by omega⟩
theorem fm_lt {l : List Int} {j : Nat} (h : fmI l j) : j < l.length := by
  obtain ⟨v, h1, _⟩ := h
  exact (List.getElem?_eq_some_iff.mp h1).1
theorem fm_snoc {l : List Int} {j : Nat} {v x : Int} (h : fmI l j) (hv : l[j]? = some v) : fmI (l ++ [x]) (if x < v then l.length else j) := by
  have hj := fm_lt h
  obtain ⟨v', h1, h2, h3⟩ := h
  rw [hv] at h1; cases h1
  by_cases c : x < v
  · rw [if_pos c]
    refine ⟨x, by simp, fun w hw => ?_, fun i w hi hw => ?_⟩
    · rcases List.mem_append.mp hw with hw | hw
      · have := h2 w hw; omega
      · rw [List.mem_singleton.mp hw]; exact Int.le_refl _
    · rw [List.getElem?_append_left hi] at hw
      have := h2 w (List.mem_of_getElem? hw)
      omega
  · rw [if_neg c]
    refine ⟨v, by rw [List.getElem?_append_left hj]; exact hv, fun w hw => ?_, fun i w hi hw => ?_⟩
    · rcases List.mem_append.mp hw with hw | hw
      · exact h2 w hw
      · rw [List.mem_singleton.mp hw]; omega
    · rw [List.getElem?_append_left (by omega)] at hw
      exact h3 i w hi hw
theorem fm_ex : ∀ {l : List Int}, l ≠ [] → ∃ j, fmI l j
  | [], h => absurd rfl h
  | [x], _ => ⟨0, fm_one x⟩
  | x :: y :: l, _ => by
    obtain ⟨j, v, h1, h2, h3⟩ := fm_ex (l := y :: l) (by simp)
    by_cases c : x ≤ v
    · refine ⟨0, x, rfl, fun w hw => ?_, fun i w hi => by omega⟩
      rcases List.mem_cons.mp hw with e | hw
      · rw [e]; exact Int.le_refl _
      · have := h2 w hw; omega
    · refine ⟨j + 1, v, by rw [List.getElem?_cons_succ]; exact h1, fun w hw => ?_, fun i w hi hw => ?_⟩
      · rcases List.mem_cons.mp hw with e | hw
        · rw [e]; omega
        · exact h2 w hw
      · cases i with
        | zero =>
          rw [List.getElem?_cons_zero] at hw
          cases hw; omega
        | succ i =>
          rw [List.getElem?_cons_succ] at hw
          exact h3 i w (by omega) hw
open Classical in
noncomputable def cutE (es : List Ce) : List Ce := if h : ∃ j, fmI (es.map Ce.ends) j then es.eraseIdx (Classical.choose h) else es
theorem cutE_of {es : List Ce} {j : Nat} (h : fmI (es.map Ce.ends) j) : cutE es = es.eraseIdx j := by
  have e : ∃ j, fmI (es.map Ce.ends) j := ⟨j, h⟩
  unfold cutE
  rw [dif_pos e, (Classical.choose_spec e).uniq h]
theorem cutE_len {es : List Ce} (h : es ≠ []) : (cutE es).length + 1 = es.length := by
  obtain ⟨j, hj⟩ := fm_ex (l := es.map Ce.ends) (by simpa using h)
  rw [cutE_of hj]
  have := fm_lt hj
  rw [List.length_map] at this
  rw [List.length_eraseIdx_of_lt this]
  omega
theorem cutE_sub {es : List Ce} : (cutE es).Sublist es := by
  unfold cutE
  split
  · exact List.eraseIdx_sublist ..
  · exact List.Sublist.refl _
noncomputable def dropE (lim : Nat) : Nat → List Ce → List Ce
  | 0, es => es
  | n + 1, es => if lim < es.length then dropE lim n (cutE es) else es
noncomputable def trimE (lim : Nat) (now : Int) (es : List Ce) : List Ce := if es.length ≤ lim then es else dropE lim es.length (es.filter fun e => decide (now < e.ends))
theorem dropE_sub {lim : Nat} : ∀ {n : Nat} {es : List Ce}, (dropE lim n es).Sublist es
  | 0, es => List.Sublist.refl _
  | n + 1, es => by
    unfold dropE
    split
    · exact dropE_sub.trans cutE_sub
    · exact List.Sublist.refl _
theorem dropE_len {lim : Nat} : ∀ {n : Nat} {es : List Ce}, es.length ≤ n → (dropE lim n es).length ≤ lim
  | 0, es, h => by unfold dropE; omega
  | n + 1, es, h => by
    unfold dropE
    split
    · rename_i c
      have ne : es ≠ [] := fun z => by subst z; simp at c
      have := cutE_len ne
      exact dropE_len (by omega)
    · omega
theorem dropE_fix {lim : Nat} {es : List Ce} (h : es.length ≤ lim) : ∀ n, dropE lim n es = es
  | 0 => rfl
  | n + 1 => by unfold dropE; rw [if_neg (by omega)]
theorem dropE_up {lim : Nat} : ∀ {n m : Nat} {es : List Ce}, es.length ≤ n → n ≤ m → dropE lim m es = dropE lim n es
  | 0, m, es, h, _ => by rw [dropE_fix (by omega), dropE_fix (by omega)]
  | n + 1, m, es, h, hm => by
    obtain ⟨m, rfl⟩ : ∃ i, m = i + 1 := ⟨m - 1, by omega⟩
    unfold dropE
    split
    · rename_i c
      have ne : es ≠ [] := fun z => by subst z; simp at c
      have := cutE_len ne
      exact dropE_up (by omega) (by omega)
    · rfl
theorem trimE_sub {lim : Nat} {now : Int} {es : List Ce} : (trimE lim now es).Sublist es := by
  unfold trimE
  split
  · exact List.Sublist.refl _
  · exact dropE_sub.trans List.filter_sublist
theorem trimE_len {lim : Nat} {now : Int} {es : List Ce} : (trimE lim now es).length ≤ lim := by
  unfold trimE
  split
  · assumption
  · exact dropE_len (List.length_filter_le ..)
def endsF (now t : Int) : Int := now + max 1 (min t 86400)
def hidden (es : List Ce) (now : Int) (st : St) (rank : Int) : Bool := match es.find? (Ce.is st.n st.k true) with
  | some o => decide (now < o.ends) && decide (rank < o.rank)
  | none => false
def putB (es : List Ce) (st : St) : List Ce := es.filter fun e => !(e.is st.n st.k true || e.is st.n st.k false || e.is st.n [] false)
noncomputable def putE (lim : Nat) (now : Int) (es : List Ce) (st : St) (rank : Int) (a : Nat) : List Ce :=
  if hidden es now st rank = true then es else trimE lim now (putB es st ++ [⟨st.n, st.k, true, st, rank, endsF now st.t, a⟩])
noncomputable def negE (lim : Nat) (now : Int) (es : List Ce) (n : Nm) (k : List Nat) (st : St) (a : Nat) : List Ce :=
  trimE lim now ((es.filter fun e => !e.is n k false) ++ [⟨n, k, false, st, 0, endsF now st.t, a⟩])
def leftF (es : List Ce) (now : Int) (n : Nm) (k : List Nat) (p : Bool) : Option St := match es.find? (Ce.is n k p) with
  | some e => if now < e.ends then some ⟨e.st.n, e.st.k, e.ends - now, e.st.vs⟩ else none
  | none => none
def findC (es : List Ce) (now : Int) (n : Nm) (k : List Nat) (rank : Int) : Option St := match es.find? (Ce.is n k true) with
  | some e => if e.rank < rank then none else leftF es now n k true
  | none => none
def findN (es : List Ce) (now : Int) (n : Nm) (k : List Nat) : Option (St × Bool) := match leftF es now n [] false with
  | some s => some (s, true)
  | none => (leftF es now n k false).map fun s => (s, decide (k = []))
def oSt : Option St → PV
  | none => .non
  | some s => rp s
def oStB : Option (St × Bool) → PV
  | none => .non
  | some s => .tup [rp s.1, .bl s.2]
/-! the places of the objects do not matter -/
/-- no two entries have one key -/
def keyd (es : List Ce) : Prop := (es.map fun e => (e.n, e.k, e.p)).Nodup
theorem keyd.sub {es fs : List Ce} (h : keyd es) (s : fs.Sublist es) : keyd fs := List.Nodup.sublist (s.map _) h
theorem kqk_nd {es : List Ce} (h : keyd es) {j : Nat} {e : Ce} (he : es[j]? = some e) : es.filter (fun x => !x.is e.n e.k e.p) = es.eraseIdx j := by
  induction es generalizing j with
  | nil => simp at he
  | cons x es ih =>
    have h' : ((x.n, x.k, x.p) :: es.map fun e => (e.n, e.k, e.p)).Nodup := h
    rw [List.nodup_cons] at h'
    cases j with
    | zero =>
      simp at he
      subst he
      rw [List.filter_cons_of_neg (by simp [Ce.is]), List.eraseIdx_cons_zero]
      refine List.filter_eq_self.mpr fun y hy => ?_
      rw [Bool.not_eq_true', Ce.is, decide_eq_false_iff_not]
      rintro ⟨e1, e2, e3⟩
      exact h'.1 (List.mem_map.mpr ⟨y, hy, by rw [e1, e2, e3]⟩)
    | succ j =>
      have he : es[j]? = some e := by simpa using he
      have hx : x.is e.n e.k e.p = false := by
        rw [Ce.is, decide_eq_false_iff_not]
        rintro ⟨e1, e2, e3⟩
        exact h'.1 (List.mem_map.mpr ⟨e, List.mem_of_getElem? he, by rw [e1, e2, e3]⟩)
      rw [List.filter_cons_of_pos (by rw [hx]; rfl), List.eraseIdx_cons_succ, ih h'.2 he]
theorem find_nd {es : List Ce} (h : keyd es) {e : Ce} (he : e ∈ es) : es.find? (Ce.is e.n e.k e.p) = some e := by
  induction es with
  | nil => cases he
  | cons x es ih =>
    have h' : ((x.n, x.k, x.p) :: es.map fun e => (e.n, e.k, e.p)).Nodup := h
    rw [List.nodup_cons] at h'
    rcases List.mem_cons.mp he with rfl | he
    · rw [List.find?_cons_of_pos (by simp [Ce.is])]
    · rw [List.find?_cons_of_neg, ih h'.2 he]
      rw [Ce.is]
      intro z
      obtain ⟨e1, e2, e3⟩ := of_decide_eq_true z
      exact h'.1 (List.mem_map.mpr ⟨e, he, by rw [e1, e2, e3]⟩)
theorem keyd.snoc {es : List Ce} (h : keyd es) {e : Ce} (he : ∀ x ∈ es, x.is e.n e.k e.p = false) : keyd (es ++ [e]) := by
  unfold keyd
  rw [List.map_append, List.nodup_append]
  refine ⟨h, by simp, fun x hx y hy z => ?_⟩
  rw [List.map_singleton, List.mem_singleton] at hy
  subst hy; subst z
  obtain ⟨w, hw, ew⟩ := List.mem_map.mp hx
  have := he w hw
  rw [Ce.is, decide_eq_false_iff_not] at this
  exact this ⟨congrArg (·.1) ew, congrArg (·.2.1) ew, congrArg (·.2.2) ew⟩
/-! ### a cache in the heap -/
structure HQ (d : Nat) (h h' : PH) : Prop where
  f : ∀ {r : Nat} {x : OB}, r ≠ d → h[r]? = some x → h'[r]? = some x
  le : h.length ≤ h'.length
theorem HQ.refl {d : Nat} {h : PH} : HQ d h h := ⟨fun _ e => e, Nat.le_refl _⟩
theorem HQ.trans {d : Nat} {h k l : PH} (a : HQ d h k) (b : HQ d k l) : HQ d h l := ⟨fun n e => b.f n (a.f n e), Nat.le_trans a.le b.le⟩
theorem HQ.of {d : Nat} {h k : PH} (a : HX h k) : HQ d h k := ⟨fun _ e => a.f e, a.le⟩
theorem HQ.set {d : Nat} {h : PH} {o : OB} : HQ d h (h.set d o) := ⟨fun n e => by rw [List.getElem?_set_ne (Ne.symm n)]; exact e, by simp⟩
theorem HQ.take {d : Nat} {h k : PH} (a : HQ d h k) : HQ d h (k.take h.length) := ⟨fun n e => by
  rw [List.getElem?_take_of_lt (get_lt e)]; exact a.f n e, by rw [List.length_take]; have := a.le; omega⟩
theorem gc_HQ {h k : PH} {d : Nat} {o : OB} {x : PV} {Q : PV → PH → Prop} {E : EX} (a : HQ d h k) (hd : d < h.length) (ho : k[d]? = some o) (hx : clV h.length x = true) (q1 : Q x k) (q2 : clO h.length o = true ∨ h[d]? = some o → Q x (k.take h.length)) : gcK h Q E x k := by
  by_cases c : gcC h k
  · unfold gcK gcR
    dsimp only
    rw [if_pos c]
    unfold gcX
    rw [if_pos hx]
    refine q2 ?_
    rcases c.2 d hd with z | ⟨o', z, zc⟩
    · exact .inr (z.symm.trans ho)
    · rw [ho] at z; cases z; exact .inl zc
  · exact gc_not c q1
section
variable {env : Sl} {N : Sl → PH → Prop} {R : PV → PH → Prop} {B C : Sl → PH → Prop} {X : Nat → PV → Sl → PH → Prop} {x y : PV} {n : Nat} {src : Src} {g : TgP} {b : MS} {e e1 : Sl} {h k : PH} {r : List PV}
/-- a loop, turn by turn -/
theorem forL_c (hg : gd src k) (q : g x e = some e1) (z : okS (b e1 k) (fun e2 k2 => okS (forL src g b r e2 k2) N R B C X) R N (fun e2 k2 => okS (forL src g b r e2 k2) N R B C X) X) : okS (forL src g b (x :: r) e k) N R B C X := by
  unfold forL
  rw [if_pos hg, q]
  dsimp only
  revert z
  cases b e1 k <;> exact fun z => z
theorem forL_n (hg : gd src k) (q : N e k) : okS (forL src g b [] e k) N R B C X := by
  unfold forL
  rw [if_pos hg]; exact q
theorem mget_eq {i r c m : Nat} {fs : List (Nat × PV)} {tab : List (Nat × Nat)} (e1 : env[i]? = some (some (.ref r))) (e2 : h[r]? = some (.ins c fs)) (e3 : getN m fs = some y) (e4 : inB tab c m = true) : mU (oGet tab m) (mV i) env h = .ok y h := by
  have q : okG (mU (oGet tab m) (mV i) env h) (fun x h' => x = y ∧ h' = h) fun _ _ _ => False := by
    refine w_U.mpr ?_
    refine w_V' ⟨_, e1, ?_⟩
    exact o_get' ⟨_, _, _, e2, e3, e4, rfl, rfl⟩
  cases e : mU (oGet tab m) (mV i) env h with
  | ok x k => rw [e] at q; obtain ⟨rfl, rfl⟩ := q; rfl
  | ex c p k => rw [e] at q; exact q.elim
  | bad => rw [e] at q; exact q.elim
end
end Z
namespace Z.k21
open PySem PySem.Spec PyProof.Rows L2

def topS (i : Nat) : Stmt := PySem.Challenge.pw_zoneward_k21_cache.main.body.getD i (.Pass ⟨0, 0, 0, 0⟩)
abbrev k_MOST_TTL : PV := (.int 86400)
/-! classes: 0 Entry, 1 Cache; names: 0 size, 1 put, 2 put_negative, 3 find_negative, 4 find, 5 left, 6 ends, 7 record_set, 8 entries, 9 rank, 10 trim, 11 ends_of, 12 limit -/
def ats : List Str := ["size", "put", "put_negative", "find_negative", "find", "left", "ends", "record_set", "entries", "rank", "trim", "ends_of", "limit"]
abbrev A_ends : Nat := 6
abbrev A_record_set : Nat := 7
abbrev A_entries : Nat := 8
abbrev A_rank : Nat := 9
abbrev A_limit : Nat := 12
abbrev C_Entry : Nat := 0
abbrev C_Cache : Nat := 1
def flds : List (Nat × Nat) := [(0, 7), (0, 9), (0, 6), (1, 12), (1, 8)]
def lw : Lw := ⟨["bool", "int", "isinstance", "len", "list", "max", "min", "range", "str"], [("MOST_TTL", k_MOST_TTL)], ats, flds, [], [], [], [], []⟩
/-! _law_draw: 0 _law_state, 1 _law_script, 2 _law_size, 3 _law_cell, 4 _law_mixed, 5 _law_digit -/
abbrev s__law_draw : Stmt := topS 6
noncomputable abbrev b__law_draw : MS := bDraw
noncomputable def F__law_draw : FnI := ⟨"_law_draw", ["_law_state", "_law_script", "_law_size"], [], 1, semD 6 b__law_draw⟩
theorem wp_dr {t : PH} {s : Sd} {ns : List Int} {size : Int} {Q : PV → PH → Prop} {E : EX} (q : (0 < size ∧ size < 18446744073709551616) ∧ ∀ (d : Nat) (s' : Sd), (d : Int) < size → Q (.int d) (SH s' t)) : okG (oCall F__law_draw [.ref 0, .ro (ns.map .int), .int size] (SH s t)) Q E := w_call rfl (draw_sh q.1.1 q.1.2 q.2)
noncomputable def c__law_draw : Ct := ⟨["_law_state", "_law_script", "_law_size", "_law_cell", "_law_mixed", "_law_digit"], defScope s__law_draw, [], [], [], [], [], lw, 0, true, false⟩
theorem sc__law_draw : FnScope ["_law_state", "_law_script", "_law_size", "_law_cell", "_law_mixed", "_law_digit"] ["_law_state", "_law_script", "_law_size"] (defScope s__law_draw) := ⟨rfl, rfl, rfl, by decide +kernel, rfl, by decide +kernel, by decide +kernel⟩
set_option maxHeartbeats 0 in
theorem d__law_draw : eSs (den 100 c__law_draw).S (defBody s__law_draw) = some b__law_draw := by kernel_rfl
/-! _law_is_integer: 0 _law_actual -/
abbrev s__law_is_integer : Stmt := topS 5
noncomputable def b__law_is_integer : MS := (sRet (mAndV (mU (oIsiB "int") (mV 0)) (mNotV (mU (oIsiB "bool") (mV 0)))))
noncomputable def F__law_is_integer : FnI := ⟨"_law_is_integer", ["_law_actual"], [], 1, semD 1 b__law_is_integer⟩
theorem wp_F__law_is_integer {xs : List PV} {h : PH} {Q : PV → PH → Prop} {E : EX} (hl : xs.length = 1) (q : okS (b__law_is_integer (startP 1 xs) h) (fun _ => gcK h Q E .non) (gcK h Q E) (fun _ _ => False) (fun _ _ => False) fun c p _ k => gcE h E c p k) : okG (oCall F__law_is_integer xs h) Q E := w_call hl (by rw [show F__law_is_integer.dvs = [] from rfl, List.append_nil]; exact w_sem q)
noncomputable def c__law_is_integer : Ct := ⟨["_law_actual"], defScope s__law_is_integer, [], [], [], [], [], lw, 0, true, false⟩
theorem sc__law_is_integer : FnScope ["_law_actual"] ["_law_actual"] (defScope s__law_is_integer) := ⟨rfl, rfl, rfl, by decide +kernel, rfl, by decide +kernel, by decide +kernel⟩
set_option maxHeartbeats 0 in
theorem d__law_is_integer : eSs (den 100 c__law_is_integer).S (defBody s__law_is_integer) = some b__law_is_integer := by kernel_rfl
/-! _law_left: 0 _law_entry_here, 1 _law_now -/
abbrev s__law_left : Stmt := topS 10
noncomputable def b__law_left : MS := (sSeq (sIf (mOr (mTb (mB oIs (mV 0) (mK .non))) (mTb (mB oLe (mB oIx (mV 0) (mK (.int 3))) (mV 1))))
    (sRet (mK .non))
    sNil)
    (sRet (mB oAdd (mB oAdd (mSl (mB oIx (mV 0) (mK (.int 1))) mNo (mSo (mK (.int 2)))) (mTup (aCons (mB oSub (mB oIx (mV 0) (mK (.int 3))) (mV 1)) aNil))) (mSl (mB oIx (mV 0) (mK (.int 1))) (mSo (mK (.int 3))) mNo))))
noncomputable def F__law_left : FnI := ⟨"_law_left", ["_law_entry_here", "_law_now"], [], 1, semD 2 b__law_left⟩
theorem wp_F__law_left {xs : List PV} {h : PH} {Q : PV → PH → Prop} {E : EX} (hl : xs.length = 2) (q : okS (b__law_left (startP 2 xs) h) (fun _ => gcK h Q E .non) (gcK h Q E) (fun _ _ => False) (fun _ _ => False) fun c p _ k => gcE h E c p k) : okG (oCall F__law_left xs h) Q E := w_call hl (by rw [show F__law_left.dvs = [] from rfl, List.append_nil]; exact w_sem q)
noncomputable def c__law_left : Ct := ⟨["_law_entry_here", "_law_now"], defScope s__law_left, [], [], [], [], [], lw, 0, true, false⟩
theorem sc__law_left : FnScope ["_law_entry_here", "_law_now"] ["_law_entry_here", "_law_now"] (defScope s__law_left) := ⟨rfl, rfl, rfl, by decide +kernel, rfl, by decide +kernel, by decide +kernel⟩
set_option maxHeartbeats 0 in
theorem d__law_left : eSs (den 100 c__law_left).S (defBody s__law_left) = some b__law_left := by kernel_rfl
/-! _law_entry: 0 _law_entries, 1 _law_key, 2 _law_entry_here -/
abbrev s__law_entry : Stmt := topS 9
noncomputable def b__law_entry_l1 : MS := (sIf (mTb (mB oEq (mB oIx (mV 2) (mK (.int 0))) (mV 1)))
    (sRet (mV 2))
    sNil)
noncomputable def b__law_entry : MS := (sSeq (sFor (iSeq (mV 0)) (gN 2) b__law_entry_l1)
    (sRet (mK .non)))
noncomputable def F__law_entry : FnI := ⟨"_law_entry", ["_law_entries", "_law_key"], [], 1, semD 3 b__law_entry⟩
theorem wp_F__law_entry {xs : List PV} {h : PH} {Q : PV → PH → Prop} {E : EX} (hl : xs.length = 2) (q : okS (b__law_entry (startP 3 xs) h) (fun _ => gcK h Q E .non) (gcK h Q E) (fun _ _ => False) (fun _ _ => False) fun c p _ k => gcE h E c p k) : okG (oCall F__law_entry xs h) Q E := w_call hl (by rw [show F__law_entry.dvs = [] from rfl, List.append_nil]; exact w_sem q)
noncomputable def c__law_entry : Ct := ⟨["_law_entries", "_law_key", "_law_entry_here"], defScope s__law_entry, [], [], [], [], [], lw, 0, true, false⟩
theorem sc__law_entry : FnScope ["_law_entries", "_law_key", "_law_entry_here"] ["_law_entries", "_law_key"] (defScope s__law_entry) := ⟨rfl, rfl, rfl, by decide +kernel, rfl, by decide +kernel, by decide +kernel⟩
set_option maxHeartbeats 0 in
theorem d__law_entry : eSs (den 100 c__law_entry).S (defBody s__law_entry) = some b__law_entry := by kernel_rfl
/-! Cache_left: 0 self, 1 now, 2 key, 3 entry, 4 name, 5 kind, 6 ttl, 7 values -/
abbrev s_Cache_left : Stmt := inClass (topS 3) 5
noncomputable def b_Cache_left : MS := (sSeq (sSet 3 (mMeth .dct oDget (mU (oGet flds 8) (mV 0)) (aCons (mV 2) aNil)))
    (sSeq (sIf (mOr (mTb (mB oIs (mV 3) (mK .non))) (mTb (mB oLe (mU (oGet flds 6) (mV 3)) (mV 1))))
    (sRet (mK .non))
    sNil)
    (sSeq (sAsg (gT (gsCons (gN 4) (gsCons (gN 5) (gsCons (gN 6) (gsCons (gN 7) gsNil))))) (mU (oGet flds 7) (mV 3)))
    (sRet (mTup (aCons (mV 4) (aCons (mV 5) (aCons (mB oSub (mU (oGet flds 6) (mV 3)) (mV 1)) (aCons (mV 7) aNil)))))))))
noncomputable def F_Cache_left : FnI := ⟨"left", ["self", "now", "key"], [], 1, semD 8 b_Cache_left⟩
theorem wp_F_Cache_left {xs : List PV} {h : PH} {Q : PV → PH → Prop} {E : EX} (hl : xs.length = 3) (q : okS (b_Cache_left (startP 8 xs) h) (fun _ => gcK h Q E .non) (gcK h Q E) (fun _ _ => False) (fun _ _ => False) fun c p _ k => gcE h E c p k) : okG (oCall F_Cache_left xs h) Q E := w_call hl (by rw [show F_Cache_left.dvs = [] from rfl, List.append_nil]; exact w_sem q)
noncomputable def c_Cache_left : Ct := ⟨["self", "now", "key", "entry", "name", "kind", "ttl", "values"], defScope s_Cache_left, [], [], [], [], [], lw, 0, true, false⟩
theorem sc_Cache_left : FnScope ["self", "now", "key", "entry", "name", "kind", "ttl", "values"] ["self", "now", "key"] (defScope s_Cache_left) := ⟨rfl, rfl, rfl, by decide +kernel, rfl, by decide +kernel, by decide +kernel⟩
set_option maxHeartbeats 0 in
theorem d_Cache_left : eSs (den 100 c_Cache_left).S (defBody s_Cache_left) = some b_Cache_left := by kernel_rfl
/-! Cache_find_negative: 0 self, 1 now, 2 name, 3 kind, 4 key, 5 record_set -/
abbrev s_Cache_find_negative : Stmt := inClass (topS 3) 7
noncomputable def m_Cache_find_negative : List MetI := [⟨1, 5, F_Cache_left⟩]
noncomputable def b_Cache_find_negative_l1 : MS := (sSeq (sSet 5 (mMet m_Cache_find_negative 5 2 (mV 0) (aCons (mV 1) (aCons (mV 4) aNil))))
    (sIf (mTb (mB oIsNot (mV 5) (mK .non)))
    (sRet (mTup (aCons (mV 5) (aCons (mB oEq (mB oIx (mV 4) (mK (.int 1))) (mK (.str []))) aNil))))
    sNil))
noncomputable def b_Cache_find_negative : MS := (sSeq (sFor (iSeq (mLst (aCons (mTup (aCons (mV 2) (aCons (mK (.str [])) (aCons (mK (.bl false)) aNil)))) (aCons (mTup (aCons (mV 2) (aCons (mV 3) (aCons (mK (.bl false)) aNil)))) aNil)))) (gN 4) b_Cache_find_negative_l1)
    (sRet (mK .non)))
noncomputable def F_Cache_find_negative : FnI := ⟨"find_negative", ["self", "now", "name", "kind"], [], 2, semD 6 b_Cache_find_negative⟩
theorem wp_F_Cache_find_negative {xs : List PV} {h : PH} {Q : PV → PH → Prop} {E : EX} (hl : xs.length = 4) (q : okS (b_Cache_find_negative (startP 6 xs) h) (fun _ => gcK h Q E .non) (gcK h Q E) (fun _ _ => False) (fun _ _ => False) fun c p _ k => gcE h E c p k) : okG (oCall F_Cache_find_negative xs h) Q E := w_call hl (by rw [show F_Cache_find_negative.dvs = [] from rfl, List.append_nil]; exact w_sem q)
noncomputable def c_Cache_find_negative : Ct := ⟨["self", "now", "name", "kind", "key", "record_set"], defScope s_Cache_find_negative, [], [], m_Cache_find_negative, [], [], lw, 1, true, false⟩
theorem sc_Cache_find_negative : FnScope ["self", "now", "name", "kind", "key", "record_set"] ["self", "now", "name", "kind"] (defScope s_Cache_find_negative) := ⟨rfl, rfl, rfl, by decide +kernel, rfl, by decide +kernel, by decide +kernel⟩
set_option maxHeartbeats 0 in
theorem d_Cache_find_negative : eSs (den 100 c_Cache_find_negative).S (defBody s_Cache_find_negative) = some b_Cache_find_negative := by kernel_rfl
/-! Cache_find: 0 self, 1 now, 2 name, 3 kind, 4 rank, 5 entry -/
abbrev s_Cache_find : Stmt := inClass (topS 3) 6
noncomputable def m_Cache_find : List MetI := [⟨1, 5, F_Cache_left⟩]
noncomputable def b_Cache_find : MS := (sSeq (sSet 5 (mMeth .dct oDget (mU (oGet flds 8) (mV 0)) (aCons (mTup (aCons (mV 2) (aCons (mV 3) (aCons (mK (.bl true)) aNil)))) aNil)))
    (sSeq (sIf (mOr (mTb (mB oIs (mV 5) (mK .non))) (mTb (mB oLt (mU (oGet flds 9) (mV 5)) (mV 4))))
    (sRet (mK .non))
    sNil)
    (sRet (mMet m_Cache_find 5 2 (mV 0) (aCons (mV 1) (aCons (mTup (aCons (mV 2) (aCons (mV 3) (aCons (mK (.bl true)) aNil)))) aNil))))))
noncomputable def F_Cache_find : FnI := ⟨"find", ["self", "now", "name", "kind", "rank"], [], 2, semD 6 b_Cache_find⟩
theorem wp_F_Cache_find {xs : List PV} {h : PH} {Q : PV → PH → Prop} {E : EX} (hl : xs.length = 5) (q : okS (b_Cache_find (startP 6 xs) h) (fun _ => gcK h Q E .non) (gcK h Q E) (fun _ _ => False) (fun _ _ => False) fun c p _ k => gcE h E c p k) : okG (oCall F_Cache_find xs h) Q E := w_call hl (by rw [show F_Cache_find.dvs = [] from rfl, List.append_nil]; exact w_sem q)
noncomputable def F_Cache_find_d1 : FnI := ⟨"find", ["self", "now", "name", "kind", "rank"], [(.int 1)], 2, semD 6 b_Cache_find⟩
theorem wp_F_Cache_find_d1 {xs : List PV} {h : PH} {Q : PV → PH → Prop} {E : EX} (hl : xs.length = 4) (q : okS (b_Cache_find (startP 6 (xs ++ [(.int 1)])) h) (fun _ => gcK h Q E .non) (gcK h Q E) (fun _ _ => False) (fun _ _ => False) fun c p _ k => gcE h E c p k) : okG (oCall F_Cache_find_d1 xs h) Q E := w_call (by rw [hl]; rfl) (w_sem q)
noncomputable def c_Cache_find : Ct := ⟨["self", "now", "name", "kind", "rank", "entry"], defScope s_Cache_find, [], [], m_Cache_find, [], [], lw, 1, true, false⟩
theorem sc_Cache_find : FnScope ["self", "now", "name", "kind", "rank", "entry"] ["self", "now", "name", "kind", "rank"] (defScope s_Cache_find) := ⟨rfl, rfl, rfl, by decide +kernel, rfl, by decide +kernel, by decide +kernel⟩
set_option maxHeartbeats 0 in
theorem d_Cache_find : eSs (den 100 c_Cache_find).S (defBody s_Cache_find) = some b_Cache_find := by kernel_rfl
/-! _law_holds: 0 _law_cache, 1 _law_entries, 2 _law_now, 3 _law_name, 4 _law_kind, 5 _law_entry_here, 6 _law_due, 7 _law_wanted, 8 _law_row, 9 _law_found -/
abbrev s__law_holds : Stmt := topS 14
noncomputable def m__law_holds : List MetI := [⟨1, 3, F_Cache_find_negative⟩, ⟨1, 4, F_Cache_find⟩, ⟨1, 4, F_Cache_find_d1⟩]
noncomputable def b__law_holds_l1 : MS := (sSeq (sSet 8 (mC (oCall F__law_left) (aCons (mC (oCall F__law_entry) (aCons (mV 1) (aCons (mTup (aCons (mV 3) (aCons (mV 7) (aCons (mK (.int 0)) aNil)))) aNil))) (aCons (mV 2) aNil))))
    (sIf (mTb (mB oIsNot (mV 8) (mK .non)))
    (sSet 6 (mTup (aCons (mV 8) (aCons (mB oEq (mV 7) (mK (.str []))) aNil))))
    sNil))
noncomputable def b__law_holds : MS := (sSeq (sSet 5 (mC (oCall F__law_entry) (aCons (mV 1) (aCons (mTup (aCons (mV 3) (aCons (mV 4) (aCons (mK (.int 1)) aNil)))) aNil))))
    (sSeq (sIf (mOr (mTb (mB oNe (mMet m__law_holds 4 3 (mV 0) (aCons (mV 2) (aCons (mV 3) (aCons (mV 4) aNil)))) (mC (oCall F__law_left) (aCons (mV 5) (aCons (mV 2) aNil))))) (mTb (mB oNe (mMet m__law_holds 4 4 (mV 0) (aCons (mV 2) (aCons (mV 3) (aCons (mV 4) (aCons (mK (.int 1)) aNil))))) (mC (oCall F__law_left) (aCons (mV 5) (aCons (mV 2) aNil))))))
    (sRet (mK (.bl false)))
    sNil)
    (sSeq (sIf (mAnd (mTb (mB oIsNot (mV 5) (mK .non))) (mTb (mB oEq (mB oIx (mV 5) (mK (.int 2))) (mK (.int 1)))))
    (sSet 5 (mK .non))
    sNil)
    (sSeq (sIf (mTb (mB oNe (mMet m__law_holds 4 4 (mV 0) (aCons (mV 2) (aCons (mV 3) (aCons (mV 4) (aCons (mK (.int 2)) aNil))))) (mC (oCall F__law_left) (aCons (mV 5) (aCons (mV 2) aNil)))))
    (sRet (mK (.bl false)))
    sNil)
    (sSeq (sSet 6 (mK .non))
    (sSeq (sFor (iSeq (mLst (aCons (mV 4) (aCons (mK (.str [])) aNil)))) (gN 7) b__law_holds_l1)
    (sSeq (sSet 9 (mMet m__law_holds 3 3 (mV 0) (aCons (mV 2) (aCons (mV 3) (aCons (mV 4) aNil)))))
    (sSeq (sIf (mAnd (mTb (mB oIsNot (mV 9) (mK .non))) (mNot (mTr (mU (oIsiB "bool") (mB oIx (mV 9) (mK (.int 1)))))))
    (sRet (mK (.bl false)))
    sNil)
    (sRet (mB oEq (mV 9) (mV 6)))))))))))
noncomputable def F__law_holds : FnI := ⟨"_law_holds", ["_law_cache", "_law_entries", "_law_now", "_law_name", "_law_kind"], [], 3, semD 10 b__law_holds⟩
theorem wp_F__law_holds {xs : List PV} {h : PH} {Q : PV → PH → Prop} {E : EX} (hl : xs.length = 5) (q : okS (b__law_holds (startP 10 xs) h) (fun _ => gcK h Q E .non) (gcK h Q E) (fun _ _ => False) (fun _ _ => False) fun c p _ k => gcE h E c p k) : okG (oCall F__law_holds xs h) Q E := w_call hl (by rw [show F__law_holds.dvs = [] from rfl, List.append_nil]; exact w_sem q)
noncomputable def c__law_holds : Ct := ⟨["_law_cache", "_law_entries", "_law_now", "_law_name", "_law_kind", "_law_entry_here", "_law_due", "_law_wanted", "_law_row", "_law_found"], defScope s__law_holds, [F__law_left, F__law_entry], [], m__law_holds, [], [], lw, 2, true, false⟩
theorem sc__law_holds : FnScope ["_law_cache", "_law_entries", "_law_now", "_law_name", "_law_kind", "_law_entry_here", "_law_due", "_law_wanted", "_law_row", "_law_found"] ["_law_cache", "_law_entries", "_law_now", "_law_name", "_law_kind"] (defScope s__law_holds) := ⟨rfl, rfl, rfl, by decide +kernel, rfl, by decide +kernel, by decide +kernel⟩
set_option maxHeartbeats 0 in
theorem d__law_holds : eSs (den 100 c__law_holds).S (defBody s__law_holds) = some b__law_holds := by kernel_rfl
/-! _law_trimmed: 0 _law_entries, 1 _law_limit, 2 _law_now, 3 _law_least, 4 _law_k, 5 _law_entry_here -/
abbrev s__law_trimmed : Stmt := topS 8
noncomputable def b__law_trimmed_w1 : MS := (sSeq (sSet 3 (mC oMinL (aConsR (mLC (iSeq (mV 0)) (gN 5) [5] tTrue (mB oIx (mV 5) (mK (.int 3)))) aNil)))
    (sSeq (sSet 4 (mMeth .lst oIdx (mLC (iSeq (mV 0)) (gN 5) [5] tTrue (mB oIx (mV 5) (mK (.int 3)))) (aCons (mV 3) aNil)))
    (sSet 0 (mB oAdd (mSl (mV 0) mNo (mSo (mV 4))) (mSl (mV 0) (mSo (mB oAdd (mV 4) (mK (.int 1)))) mNo)))))
noncomputable def b__law_trimmed : MS := (sSeq (sIf (mTb (mB oGt (mC oLen (aConsR (mV 0) aNil)) (mV 1)))
    (sSet 0 (mLC (iSeq (mV 0)) (gN 5) [5] (mTb (mB oGt (mB oIx (mV 5) (mK (.int 3))) (mV 2))) (mV 5)))
    sNil)
    (sSeq (sWh (mTb (mB oGt (mC oLen (aConsR (mV 0) aNil)) (mV 1))) b__law_trimmed_w1)
    (sRet (mV 0))))
noncomputable def F__law_trimmed : FnI := ⟨"_law_trimmed", ["_law_entries", "_law_limit", "_law_now"], [], 1, semD 6 b__law_trimmed⟩
theorem wp_F__law_trimmed {xs : List PV} {h : PH} {Q : PV → PH → Prop} {E : EX} (hl : xs.length = 3) (q : okS (b__law_trimmed (startP 6 xs) h) (fun _ => gcK h Q E .non) (gcK h Q E) (fun _ _ => False) (fun _ _ => False) fun c p _ k => gcE h E c p k) : okG (oCall F__law_trimmed xs h) Q E := w_call hl (by rw [show F__law_trimmed.dvs = [] from rfl, List.append_nil]; exact w_sem q)
noncomputable def c__law_trimmed : Ct := ⟨["_law_entries", "_law_limit", "_law_now", "_law_least", "_law_k", "_law_entry_here"], defScope s__law_trimmed, [], [], [], [], [], lw, 0, true, false⟩
theorem sc__law_trimmed : FnScope ["_law_entries", "_law_limit", "_law_now", "_law_least", "_law_k", "_law_entry_here"] ["_law_entries", "_law_limit", "_law_now"] (defScope s__law_trimmed) := ⟨rfl, rfl, rfl, by decide +kernel, rfl, by decide +kernel, by decide +kernel⟩
set_option maxHeartbeats 0 in
theorem d__law_trimmed : eSs (den 100 c__law_trimmed).S (defBody s__law_trimmed) = some b__law_trimmed := by kernel_rfl
/-! _law_remove: 0 _law_entries, 1 _law_key, 2 _law_entry_here -/
abbrev s__law_remove : Stmt := topS 7
noncomputable def b__law_remove : MS := (sRet (mLC (iSeq (mV 0)) (gN 2) [2] (mTb (mB oNe (mB oIx (mV 2) (mK (.int 0))) (mV 1))) (mV 2)))
noncomputable def F__law_remove : FnI := ⟨"_law_remove", ["_law_entries", "_law_key"], [], 1, semD 3 b__law_remove⟩
theorem wp_F__law_remove {xs : List PV} {h : PH} {Q : PV → PH → Prop} {E : EX} (hl : xs.length = 2) (q : okS (b__law_remove (startP 3 xs) h) (fun _ => gcK h Q E .non) (gcK h Q E) (fun _ _ => False) (fun _ _ => False) fun c p _ k => gcE h E c p k) : okG (oCall F__law_remove xs h) Q E := w_call hl (by rw [show F__law_remove.dvs = [] from rfl, List.append_nil]; exact w_sem q)
noncomputable def c__law_remove : Ct := ⟨["_law_entries", "_law_key", "_law_entry_here"], defScope s__law_remove, [], [], [], [], [], lw, 0, true, false⟩
theorem sc__law_remove : FnScope ["_law_entries", "_law_key", "_law_entry_here"] ["_law_entries", "_law_key"] (defScope s__law_remove) := ⟨rfl, rfl, rfl, by decide +kernel, rfl, by decide +kernel, by decide +kernel⟩
set_option maxHeartbeats 0 in
theorem d__law_remove : eSs (den 100 c__law_remove).S (defBody s__law_remove) = some b__law_remove := by kernel_rfl
/-! _law_put: 0 _law_entries, 1 _law_now, 2 _law_row, 3 _law_rank, 4 _law_key, 5 _law_old, 6 _law_other -/
abbrev s__law_put : Stmt := topS 12
noncomputable def b__law_put_l1 : MS := (sSet 0 (mC (oCall F__law_remove) (aCons (mV 0) (aCons (mV 6) aNil))))
noncomputable def b__law_put : MS := (sSeq (sSet 4 (mTup (aCons (mB oIx (mV 2) (mK (.int 0))) (aCons (mB oIx (mV 2) (mK (.int 1))) (aCons (mK (.int 1)) aNil)))))
    (sSeq (sSet 5 (mC (oCall F__law_entry) (aCons (mV 0) (aCons (mV 4) aNil))))
    (sSeq (sIf (mAnd (mTb (mB oIsNot (mV 5) (mK .non))) (mAnd (mTb (mB oGt (mB oIx (mV 5) (mK (.int 3))) (mV 1))) (mAnd (mTb (mB oEq (mB oIx (mV 5) (mK (.int 2))) (mK (.int 2)))) (mTb (mB oEq (mV 3) (mK (.int 1)))))))
    (sRet (mV 0))
    sNil)
    (sSeq (sFor (iSeq (mLst (aCons (mV 4) (aCons (mTup (aCons (mB oIx (mV 2) (mK (.int 0))) (aCons (mB oIx (mV 2) (mK (.int 1))) (aCons (mK (.int 0)) aNil)))) (aCons (mTup (aCons (mB oIx (mV 2) (mK (.int 0))) (aCons (mK (.str [])) (aCons (mK (.int 0)) aNil)))) aNil))))) (gN 6) b__law_put_l1)
    (sRet (mB oAdd (mV 0) (mLst (aCons (mTup (aCons (mV 4) (aCons (mV 2) (aCons (mV 3) (aCons (mB oAdd (mV 1) (mC oMax2 (aConsR (mK (.int 1)) (aConsR (mC oMin2 (aConsR (mK (.int 86400)) (aConsR (mB oIx (mV 2) (mK (.int 2))) aNil))) aNil)))) aNil))))) aNil))))))))
noncomputable def F__law_put : FnI := ⟨"_law_put", ["_law_entries", "_law_now", "_law_row", "_law_rank"], [], 2, semD 7 b__law_put⟩
theorem wp_F__law_put {xs : List PV} {h : PH} {Q : PV → PH → Prop} {E : EX} (hl : xs.length = 4) (q : okS (b__law_put (startP 7 xs) h) (fun _ => gcK h Q E .non) (gcK h Q E) (fun _ _ => False) (fun _ _ => False) fun c p _ k => gcE h E c p k) : okG (oCall F__law_put xs h) Q E := w_call hl (by rw [show F__law_put.dvs = [] from rfl, List.append_nil]; exact w_sem q)
noncomputable def c__law_put : Ct := ⟨["_law_entries", "_law_now", "_law_row", "_law_rank", "_law_key", "_law_old", "_law_other"], defScope s__law_put, [F__law_remove, F__law_entry], [], [], [], [], lw, 1, true, false⟩
theorem sc__law_put : FnScope ["_law_entries", "_law_now", "_law_row", "_law_rank", "_law_key", "_law_old", "_law_other"] ["_law_entries", "_law_now", "_law_row", "_law_rank"] (defScope s__law_put) := ⟨rfl, rfl, rfl, by decide +kernel, rfl, by decide +kernel, by decide +kernel⟩
set_option maxHeartbeats 0 in
theorem d__law_put : eSs (den 100 c__law_put).S (defBody s__law_put) = some b__law_put := by kernel_rfl
/-! _law_put_negative: 0 _law_entries, 1 _law_now, 2 _law_name, 3 _law_kind, 4 _law_row, 5 _law_key -/
abbrev s__law_put_negative : Stmt := topS 13
noncomputable def b__law_put_negative : MS := (sSeq (sSet 5 (mTup (aCons (mV 2) (aCons (mV 3) (aCons (mK (.int 0)) aNil)))))
    (sRet (mB oAdd (mC (oCall F__law_remove) (aCons (mV 0) (aCons (mV 5) aNil))) (mLst (aCons (mTup (aCons (mV 5) (aCons (mV 4) (aCons (mK (.int 0)) (aCons (mB oAdd (mV 1) (mC oMax2 (aConsR (mK (.int 1)) (aConsR (mC oMin2 (aConsR (mK (.int 86400)) (aConsR (mB oIx (mV 4) (mK (.int 2))) aNil))) aNil)))) aNil))))) aNil)))))
noncomputable def F__law_put_negative : FnI := ⟨"_law_put_negative", ["_law_entries", "_law_now", "_law_name", "_law_kind", "_law_row"], [], 2, semD 6 b__law_put_negative⟩
theorem wp_F__law_put_negative {xs : List PV} {h : PH} {Q : PV → PH → Prop} {E : EX} (hl : xs.length = 5) (q : okS (b__law_put_negative (startP 6 xs) h) (fun _ => gcK h Q E .non) (gcK h Q E) (fun _ _ => False) (fun _ _ => False) fun c p _ k => gcE h E c p k) : okG (oCall F__law_put_negative xs h) Q E := w_call hl (by rw [show F__law_put_negative.dvs = [] from rfl, List.append_nil]; exact w_sem q)
noncomputable def c__law_put_negative : Ct := ⟨["_law_entries", "_law_now", "_law_name", "_law_kind", "_law_row", "_law_key"], defScope s__law_put_negative, [F__law_remove], [], [], [], [], lw, 1, true, false⟩
theorem sc__law_put_negative : FnScope ["_law_entries", "_law_now", "_law_name", "_law_kind", "_law_row", "_law_key"] ["_law_entries", "_law_now", "_law_name", "_law_kind", "_law_row"] (defScope s__law_put_negative) := ⟨rfl, rfl, rfl, by decide +kernel, rfl, by decide +kernel, by decide +kernel⟩
set_option maxHeartbeats 0 in
theorem d__law_put_negative : eSs (den 100 c__law_put_negative).S (defBody s__law_put_negative) = some b__law_put_negative := by kernel_rfl
/-! _law_set: 0 _law_state, 1 _law_script, 2 _law_name, 3 _law_kind, 4 _law_ttl -/
abbrev s__law_set : Stmt := topS 11
noncomputable def b__law_set : MS := (sSeq (sSet 2 (mB oIx (mLst (aCons (mTup aNil) (aCons (mTup (aCons (mK (.str [97])) aNil)) (aCons (mTup (aCons (mK (.str [98])) (aCons (mK (.str [97])) aNil))) aNil)))) (mC (oCall F__law_draw) (aCons (mV 0) (aCons (mV 1) (aCons (mK (.int 3)) aNil))))))
    (sSeq (sSet 3 (mB oIx (mLst (aCons (mK (.str [65])) (aCons (mK (.str [84, 88, 84])) aNil))) (mC (oCall F__law_draw) (aCons (mV 0) (aCons (mV 1) (aCons (mK (.int 2)) aNil))))))
    (sSeq (sSet 4 (mB oIx (mLst (aCons (mC (oCall F__law_draw) (aCons (mV 0) (aCons (mV 1) (aCons (mK (.int 41)) aNil)))) (aCons (mK (.int 0)) (aCons (mK (.int 86399)) (aCons (mK (.int 86400)) (aCons (mK (.int 86401)) (aCons (mK (.int 2147483647)) aNil))))))) (mC (oCall F__law_draw) (aCons (mV 0) (aCons (mV 1) (aCons (mK (.int 6)) aNil))))))
    (sSeq (sIf (mTb (mB oEq (mV 3) (mK (.str [65]))))
    (sRet (mTup (aCons (mV 2) (aCons (mV 3) (aCons (mV 4) (aCons (mTup (aCons (mC (oCall F__law_draw) (aCons (mV 0) (aCons (mV 1) (aCons (mK (.int 9)) aNil)))) aNil)) aNil))))))
    sNil)
    (sRet (mTup (aCons (mV 2) (aCons (mV 3) (aCons (mV 4) (aCons (mTup (aCons (mB oAdd (mK (.str [116])) (mC oStr (aConsR (mC (oCall F__law_draw) (aCons (mV 0) (aCons (mV 1) (aCons (mK (.int 9)) aNil)))) aNil))) aNil)) aNil))))))))))
noncomputable def F__law_set : FnI := ⟨"_law_set", ["_law_state", "_law_script"], [], 2, semD 5 b__law_set⟩
theorem wp_F__law_set {xs : List PV} {h : PH} {Q : PV → PH → Prop} {E : EX} (hl : xs.length = 2) (q : okS (b__law_set (startP 5 xs) h) (fun _ => gcK h Q E .non) (gcK h Q E) (fun _ _ => False) (fun _ _ => False) fun c p _ k => gcE h E c p k) : okG (oCall F__law_set xs h) Q E := w_call hl (by rw [show F__law_set.dvs = [] from rfl, List.append_nil]; exact w_sem q)
noncomputable def c__law_set : Ct := ⟨["_law_state", "_law_script", "_law_name", "_law_kind", "_law_ttl"], defScope s__law_set, [F__law_draw], [], [], [], [], lw, 1, true, false⟩
theorem sc__law_set : FnScope ["_law_state", "_law_script", "_law_name", "_law_kind", "_law_ttl"] ["_law_state", "_law_script"] (defScope s__law_set) := ⟨rfl, rfl, rfl, by decide +kernel, rfl, by decide +kernel, by decide +kernel⟩
set_option maxHeartbeats 0 in
theorem d__law_set : eSs (den 100 c__law_set).S (defBody s__law_set) = some b__law_set := by kernel_rfl
/-! Cache_size: 0 self -/
abbrev s_Cache_size : Stmt := inClass (topS 3) 8
noncomputable def b_Cache_size : MS := (sRet (mC oLen (aConsR (mU (oGet flds 8) (mV 0)) aNil)))
noncomputable def F_Cache_size : FnI := ⟨"size", ["self"], [], 1, semD 1 b_Cache_size⟩
theorem wp_F_Cache_size {xs : List PV} {h : PH} {Q : PV → PH → Prop} {E : EX} (hl : xs.length = 1) (q : okS (b_Cache_size (startP 1 xs) h) (fun _ => gcK h Q E .non) (gcK h Q E) (fun _ _ => False) (fun _ _ => False) fun c p _ k => gcE h E c p k) : okG (oCall F_Cache_size xs h) Q E := w_call hl (by rw [show F_Cache_size.dvs = [] from rfl, List.append_nil]; exact w_sem q)
noncomputable def c_Cache_size : Ct := ⟨["self"], defScope s_Cache_size, [], [], [], [], [], lw, 0, true, false⟩
theorem sc_Cache_size : FnScope ["self"] ["self"] (defScope s_Cache_size) := ⟨rfl, rfl, rfl, by decide +kernel, rfl, by decide +kernel, by decide +kernel⟩
set_option maxHeartbeats 0 in
theorem d_Cache_size : eSs (den 100 c_Cache_size).S (defBody s_Cache_size) = some b_Cache_size := by kernel_rfl
/-! Cache_trim: 0 self, 1 now, 2 key, 3 first -/
abbrev s_Cache_trim : Stmt := inClass (topS 3) 4
noncomputable def b_Cache_trim_l1 : MS := (sIf (mOr (mTb (mB oIs (mV 3) (mK .non))) (mTb (mB oLt (mU (oGet flds 6) (mB oIx (mU (oGet flds 8) (mV 0)) (mV 2))) (mU (oGet flds 6) (mB oIx (mU (oGet flds 8) (mV 0)) (mV 3))))))
    (sSet 3 (mV 2))
    sNil)
noncomputable def b_Cache_trim_w2 : MS := (sSeq (sSet 3 (mK .non))
    (sSeq (sForD (mU (oGet flds 8) (mV 0)) (gN 2) b_Cache_trim_l1)
    (sExp (mMeth .dct oDpop (mU (oGet flds 8) (mV 0)) (aCons (mV 3) aNil)))))
noncomputable def b_Cache_trim_l3 : MS := (sIf (mTb (mB oLe (mU (oGet flds 6) (mB oIx (mU (oGet flds 8) (mV 0)) (mV 2))) (mV 1)))
    (sExp (mMeth .dct oDpop (mU (oGet flds 8) (mV 0)) (aCons (mV 2) aNil)))
    sNil)
noncomputable def b_Cache_trim : MS := (sSeq (sIf (mTb (mB oLe (mC oLen (aConsR (mU (oGet flds 8) (mV 0)) aNil)) (mU (oGet flds 12) (mV 0))))
    sRetN
    sNil)
    (sSeq (sFor (iSeq (mC oList (aConsR (mU (oGet flds 8) (mV 0)) aNil))) (gN 2) b_Cache_trim_l3)
    (sWh (mTb (mB oGt (mC oLen (aConsR (mU (oGet flds 8) (mV 0)) aNil)) (mU (oGet flds 12) (mV 0)))) b_Cache_trim_w2)))
noncomputable def F_Cache_trim : FnI := ⟨"trim", ["self", "now"], [], 1, semD 4 b_Cache_trim⟩
theorem wp_F_Cache_trim {xs : List PV} {h : PH} {Q : PV → PH → Prop} {E : EX} (hl : xs.length = 2) (q : okS (b_Cache_trim (startP 4 xs) h) (fun _ => gcK h Q E .non) (gcK h Q E) (fun _ _ => False) (fun _ _ => False) fun c p _ k => gcE h E c p k) : okG (oCall F_Cache_trim xs h) Q E := w_call hl (by rw [show F_Cache_trim.dvs = [] from rfl, List.append_nil]; exact w_sem q)
noncomputable def c_Cache_trim : Ct := ⟨["self", "now", "key", "first"], defScope s_Cache_trim, [], [], [], [], [], lw, 0, true, false⟩
theorem sc_Cache_trim : FnScope ["self", "now", "key", "first"] ["self", "now"] (defScope s_Cache_trim) := ⟨rfl, rfl, rfl, by decide +kernel, rfl, by decide +kernel, by decide +kernel⟩
set_option maxHeartbeats 0 in
theorem d_Cache_trim : eSs (den 100 c_Cache_trim).S (defBody s_Cache_trim) = some b_Cache_trim := by kernel_rfl
/-! Cache_ends_of: 0 self, 1 now, 2 record_set -/
abbrev s_Cache_ends_of : Stmt := inClass (topS 3) 1
noncomputable def b_Cache_ends_of : MS := (sRet (mB oAdd (mV 1) (mC oMax2 (aConsR (mK (.int 1)) (aConsR (mC oMin2 (aConsR (mB oIx (mV 2) (mK (.int 2))) (aConsR (mK k_MOST_TTL) aNil))) aNil)))))
noncomputable def F_Cache_ends_of : FnI := ⟨"ends_of", ["self", "now", "record_set"], [], 1, semD 3 b_Cache_ends_of⟩
theorem wp_F_Cache_ends_of {xs : List PV} {h : PH} {Q : PV → PH → Prop} {E : EX} (hl : xs.length = 3) (q : okS (b_Cache_ends_of (startP 3 xs) h) (fun _ => gcK h Q E .non) (gcK h Q E) (fun _ _ => False) (fun _ _ => False) fun c p _ k => gcE h E c p k) : okG (oCall F_Cache_ends_of xs h) Q E := w_call hl (by rw [show F_Cache_ends_of.dvs = [] from rfl, List.append_nil]; exact w_sem q)
noncomputable def c_Cache_ends_of : Ct := ⟨["self", "now", "record_set"], defScope s_Cache_ends_of, [], [], [], [], [], lw, 0, true, false⟩
theorem sc_Cache_ends_of : FnScope ["self", "now", "record_set"] ["self", "now", "record_set"] (defScope s_Cache_ends_of) := ⟨rfl, rfl, rfl, by decide +kernel, rfl, by decide +kernel, by decide +kernel⟩
set_option maxHeartbeats 0 in
theorem d_Cache_ends_of : eSs (den 100 c_Cache_ends_of).S (defBody s_Cache_ends_of) = some b_Cache_ends_of := by kernel_rfl
/-! Entry___init__: 0 self, 1 record_set, 2 rank, 3 ends -/
abbrev s_Entry___init__ : Stmt := inClass (topS 2) 0
noncomputable def b_Entry___init__ : MS := (sSeq (sPut flds 7 (mV 0) (mV 1))
    (sSeq (sPut flds 9 (mV 0) (mV 2))
    (sPut flds 6 (mV 0) (mV 3))))
noncomputable def F_Entry___init__ : FnI := ⟨"__init__", ["self", "record_set", "rank", "ends"], [], 1, semD 4 b_Entry___init__⟩
theorem wp_F_Entry___init__ {xs : List PV} {h : PH} {Q : PV → PH → Prop} {E : EX} (hl : xs.length = 4) (q : okS (b_Entry___init__ (startP 4 xs) h) (fun _ => gcK h Q E .non) (gcK h Q E) (fun _ _ => False) (fun _ _ => False) fun c p _ k => gcE h E c p k) : okG (oCall F_Entry___init__ xs h) Q E := w_call hl (by rw [show F_Entry___init__.dvs = [] from rfl, List.append_nil]; exact w_sem q)
noncomputable def c_Entry___init__ : Ct := ⟨["self", "record_set", "rank", "ends"], defScope s_Entry___init__, [], [], [], [], [], lw, 0, true, false⟩
theorem sc_Entry___init__ : FnScope ["self", "record_set", "rank", "ends"] ["self", "record_set", "rank", "ends"] (defScope s_Entry___init__) := ⟨rfl, rfl, rfl, by decide +kernel, rfl, by decide +kernel, by decide +kernel⟩
set_option maxHeartbeats 0 in
theorem d_Entry___init__ : eSs (den 100 c_Entry___init__).S (defBody s_Entry___init__) = some b_Entry___init__ := by kernel_rfl
/-! Cache_put: 0 self, 1 now, 2 record_set, 3 rank, 4 name, 5 kind, 6 key, 7 old, 8 other -/
abbrev s_Cache_put : Stmt := inClass (topS 3) 2
noncomputable def m_Cache_put : List MetI := [⟨1, 10, F_Cache_trim⟩, ⟨1, 11, F_Cache_ends_of⟩]
noncomputable def K_Entry : MkI := { name := "Entry", cls := 0, F := F_Entry___init__ }
noncomputable def b_Cache_put_l1 : MS := (sIf (mTb (mB oInA (mV 8) (mU (oGet flds 8) (mV 0))))
    (sExp (mMeth .dct oDpop (mU (oGet flds 8) (mV 0)) (aCons (mV 8) aNil)))
    sNil)
noncomputable def b_Cache_put : MS := (sSeq (sAsg (gT (gsCons (gN 4) (gsCons (gN 5) gsNil))) (mSl (mV 2) mNo (mSo (mK (.int 2)))))
    (sSeq (sSet 6 (mTup (aCons (mV 4) (aCons (mV 5) (aCons (mK (.bl true)) aNil)))))
    (sSeq (sSet 7 (mMeth .dct oDget (mU (oGet flds 8) (mV 0)) (aCons (mV 6) aNil)))
    (sSeq (sIf (mAnd (mTb (mB oIsNot (mV 7) (mK .non))) (mAnd (mTb (mB oGt (mU (oGet flds 6) (mV 7)) (mV 1))) (mTb (mB oGt (mU (oGet flds 9) (mV 7)) (mV 3)))))
    sRetN
    sNil)
    (sSeq (sFor (iSeq (mLst (aCons (mV 6) (aCons (mTup (aCons (mV 4) (aCons (mV 5) (aCons (mK (.bl false)) aNil)))) (aCons (mTup (aCons (mV 4) (aCons (mK (.str [])) (aCons (mK (.bl false)) aNil)))) aNil))))) (gN 8) b_Cache_put_l1)
    (sSeq (sSub (mU (oGet flds 8) (mV 0)) (mV 6) (mC (oMk K_Entry) (aCons (mV 2) (aCons (mV 3) (aCons (mMet m_Cache_put 11 2 (mV 0) (aCons (mV 1) (aCons (mV 2) aNil))) aNil)))))
    (sExp (mMet m_Cache_put 10 1 (mV 0) (aCons (mV 1) aNil)))))))))
noncomputable def F_Cache_put : FnI := ⟨"put", ["self", "now", "record_set", "rank"], [], 3, semD 9 b_Cache_put⟩
theorem wp_F_Cache_put {xs : List PV} {h : PH} {Q : PV → PH → Prop} {E : EX} (hl : xs.length = 4) (q : okS (b_Cache_put (startP 9 xs) h) (fun _ => gcK h Q E .non) (gcK h Q E) (fun _ _ => False) (fun _ _ => False) fun c p _ k => gcE h E c p k) : okG (oCall F_Cache_put xs h) Q E := w_call hl (by rw [show F_Cache_put.dvs = [] from rfl, List.append_nil]; exact w_sem q)
noncomputable def c_Cache_put : Ct := ⟨["self", "now", "record_set", "rank", "name", "kind", "key", "old", "other"], defScope s_Cache_put, [], [], m_Cache_put, [K_Entry], [], lw, 2, true, false⟩
theorem sc_Cache_put : FnScope ["self", "now", "record_set", "rank", "name", "kind", "key", "old", "other"] ["self", "now", "record_set", "rank"] (defScope s_Cache_put) := ⟨rfl, rfl, rfl, by decide +kernel, rfl, by decide +kernel, by decide +kernel⟩
set_option maxHeartbeats 0 in
theorem d_Cache_put : eSs (den 100 c_Cache_put).S (defBody s_Cache_put) = some b_Cache_put := by kernel_rfl
/-! Cache_put_negative: 0 self, 1 now, 2 name, 3 kind, 4 record_set, 5 key -/
abbrev s_Cache_put_negative : Stmt := inClass (topS 3) 3
noncomputable def m_Cache_put_negative : List MetI := [⟨1, 10, F_Cache_trim⟩, ⟨1, 11, F_Cache_ends_of⟩]
noncomputable def b_Cache_put_negative : MS := (sSeq (sSet 5 (mTup (aCons (mV 2) (aCons (mIf (mTb (mB oIs (mV 3) (mK .non))) (mK (.str [])) (mV 3)) (aCons (mK (.bl false)) aNil)))))
    (sSeq (sIf (mTb (mB oInA (mV 5) (mU (oGet flds 8) (mV 0))))
    (sExp (mMeth .dct oDpop (mU (oGet flds 8) (mV 0)) (aCons (mV 5) aNil)))
    sNil)
    (sSeq (sSub (mU (oGet flds 8) (mV 0)) (mV 5) (mC (oMk K_Entry) (aCons (mV 4) (aCons (mK (.int 0)) (aCons (mMet m_Cache_put_negative 11 2 (mV 0) (aCons (mV 1) (aCons (mV 4) aNil))) aNil)))))
    (sExp (mMet m_Cache_put_negative 10 1 (mV 0) (aCons (mV 1) aNil))))))
noncomputable def F_Cache_put_negative : FnI := ⟨"put_negative", ["self", "now", "name", "kind", "record_set"], [], 3, semD 6 b_Cache_put_negative⟩
theorem wp_F_Cache_put_negative {xs : List PV} {h : PH} {Q : PV → PH → Prop} {E : EX} (hl : xs.length = 5) (q : okS (b_Cache_put_negative (startP 6 xs) h) (fun _ => gcK h Q E .non) (gcK h Q E) (fun _ _ => False) (fun _ _ => False) fun c p _ k => gcE h E c p k) : okG (oCall F_Cache_put_negative xs h) Q E := w_call hl (by rw [show F_Cache_put_negative.dvs = [] from rfl, List.append_nil]; exact w_sem q)
noncomputable def c_Cache_put_negative : Ct := ⟨["self", "now", "name", "kind", "record_set", "key"], defScope s_Cache_put_negative, [], [], m_Cache_put_negative, [K_Entry], [], lw, 2, true, false⟩
theorem sc_Cache_put_negative : FnScope ["self", "now", "name", "kind", "record_set", "key"] ["self", "now", "name", "kind", "record_set"] (defScope s_Cache_put_negative) := ⟨rfl, rfl, rfl, by decide +kernel, rfl, by decide +kernel, by decide +kernel⟩
set_option maxHeartbeats 0 in
theorem d_Cache_put_negative : eSs (den 100 c_Cache_put_negative).S (defBody s_Cache_put_negative) = some b_Cache_put_negative := by kernel_rfl
/-! Cache___init__: 0 self, 1 limit -/
abbrev s_Cache___init__ : Stmt := inClass (topS 3) 0
noncomputable def b_Cache___init__ : MS := (sSeq (sPut flds 12 (mV 0) (mV 1))
    (sPut flds 8 (mV 0) mDnew))
noncomputable def F_Cache___init__ : FnI := ⟨"__init__", ["self", "limit"], [], 1, semD 2 b_Cache___init__⟩
theorem wp_F_Cache___init__ {xs : List PV} {h : PH} {Q : PV → PH → Prop} {E : EX} (hl : xs.length = 2) (q : okS (b_Cache___init__ (startP 2 xs) h) (fun _ => gcK h Q E .non) (gcK h Q E) (fun _ _ => False) (fun _ _ => False) fun c p _ k => gcE h E c p k) : okG (oCall F_Cache___init__ xs h) Q E := w_call hl (by rw [show F_Cache___init__.dvs = [] from rfl, List.append_nil]; exact w_sem q)
noncomputable def c_Cache___init__ : Ct := ⟨["self", "limit"], defScope s_Cache___init__, [], [], [], [], [], lw, 0, true, false⟩
theorem sc_Cache___init__ : FnScope ["self", "limit"] ["self", "limit"] (defScope s_Cache___init__) := ⟨rfl, rfl, rfl, by decide +kernel, rfl, by decide +kernel, by decide +kernel⟩
set_option maxHeartbeats 0 in
theorem d_Cache___init__ : eSs (den 100 c_Cache___init__).S (defBody s_Cache___init__) = some b_Cache___init__ := by kernel_rfl
/-! law: 0 _law_script, 1 _law_state, 2 _law_limit, 3 _law_cache, 4 _law_entries, 5 _law_now, 6 _law_turn, 7 _law_step, 8 _law_row, 9 _law_rank, 10 _law_soa, 11 _law_kind, 12 _law_size -/
abbrev s_law : Stmt := topS 15
noncomputable def m_law : List MetI := [⟨1, 0, F_Cache_size⟩, ⟨1, 1, F_Cache_put⟩, ⟨1, 2, F_Cache_put_negative⟩]
noncomputable def K_Cache : MkI := { name := "Cache", cls := 1, F := F_Cache___init__ }
noncomputable def b_law_l1 : MS := (sSeq (sSet 5 (mB oAdd (mV 5) (mB oMul (mC (oCall F__law_draw) (aCons (mV 1) (aCons (mV 0) (aCons (mK (.int 10)) aNil)))) (mC (oCall F__law_draw) (aCons (mV 1) (aCons (mV 0) (aCons (mK (.int 2)) aNil)))))))
    (sSeq (sIf (mTb (mB oEq (mC (oCall F__law_draw) (aCons (mV 1) (aCons (mV 0) (aCons (mK (.int 30)) aNil)))) (mK (.int 1))))
    (sSet 5 (mB oAdd (mV 5) (mK (.int 86390))))
    sNil)
    (sSeq (sSet 7 (mC (oCall F__law_draw) (aCons (mV 1) (aCons (mV 0) (aCons (mK (.int 3)) aNil)))))
    (sSeq (sSet 8 (mC (oCall F__law_set) (aCons (mV 1) (aCons (mV 0) aNil))))
    (sSeq (sIf (mTb (mB oEq (mV 7) (mK (.int 0))))
    (sSeq (sSet 9 (mB oAdd (mK (.int 1)) (mC (oCall F__law_draw) (aCons (mV 1) (aCons (mV 0) (aCons (mK (.int 2)) aNil))))))
    (sSeq (sIf (mTb (mB oIsNot (mMet m_law 1 3 (mV 3) (aCons (mV 5) (aCons (mV 8) (aCons (mV 9) aNil)))) (mK .non)))
    (sRet (mK (.bl false)))
    sNil)
    (sSet 4 (mC (oCall F__law_trimmed) (aCons (mC (oCall F__law_put) (aCons (mV 4) (aCons (mV 5) (aCons (mV 8) (aCons (mV 9) aNil))))) (aCons (mV 2) (aCons (mV 5) aNil)))))))
    (sIf (mTb (mB oEq (mV 7) (mK (.int 1))))
    (sSeq (sSet 10 (mTup (aCons (mB oIx (mV 8) (mK (.int 0))) (aCons (mK (.str [83, 79, 65])) (aCons (mB oIx (mV 8) (mK (.int 2))) (aCons (mTup (aCons (mTup (aCons (mTup (aCons (mK (.str [115])) aNil)) (aCons (mK (.int 1)) (aCons (mK (.int 2)) (aCons (mK (.int 3)) (aCons (mK (.int 4)) (aCons (mK (.int 5)) aNil))))))) aNil)) aNil))))))
    (sSeq (sSet 11 (mB oIx (mLst (aCons (mB oIx (mV 8) (mK (.int 1))) (aCons (mK (.str [])) aNil))) (mC (oCall F__law_draw) (aCons (mV 1) (aCons (mV 0) (aCons (mK (.int 2)) aNil))))))
    (sSeq (sIf (mTb (mB oIsNot (mMet m_law 2 4 (mV 3) (aCons (mV 5) (aCons (mB oIx (mV 8) (mK (.int 0))) (aCons (mB oIx (mLst (aCons (mV 11) (aCons (mK .non) aNil))) (mC oInt (aConsR (mB oEq (mV 11) (mK (.str []))) aNil))) (aCons (mV 10) aNil))))) (mK .non)))
    (sRet (mK (.bl false)))
    sNil)
    (sSet 4 (mC (oCall F__law_trimmed) (aCons (mC (oCall F__law_put_negative) (aCons (mV 4) (aCons (mV 5) (aCons (mB oIx (mV 8) (mK (.int 0))) (aCons (mV 11) (aCons (mV 10) aNil)))))) (aCons (mV 2) (aCons (mV 5) aNil))))))))
    sNil))
    (sSeq (sIf (mNot (mTr (mC (oCall F__law_holds) (aCons (mV 3) (aCons (mV 4) (aCons (mV 5) (aCons (mB oIx (mV 8) (mK (.int 0))) (aCons (mB oIx (mV 8) (mK (.int 1))) aNil))))))))
    (sRet (mK (.bl false)))
    sNil)
    (sSeq (sSet 12 (mMet m_law 0 0 (mV 3) aNil))
    (sIf (mOr (mNot (mTr (mC (oCall F__law_is_integer) (aCons (mV 12) aNil)))) (mTb (mB oNe (mV 12) (mC oLen (aConsR (mV 4) aNil)))))
    (sRet (mK (.bl false)))
    sNil))))))))
noncomputable def b_law : MS := (sSeq (sSet 1 (mLst (aCons (mK (.int 0)) (aCons (mK (.int 0)) aNil))))
    (sSeq (sSet 2 (mB oIx (mLst (aCons (mB oAdd (mK (.int 1)) (mC (oCall F__law_draw) (aCons (mV 1) (aCons (mV 0) (aCons (mK (.int 9)) aNil))))) (aCons (mK (.int 1000)) aNil))) (mC (oCall F__law_draw) (aCons (mV 1) (aCons (mV 0) (aCons (mK (.int 2)) aNil))))))
    (sSeq (sSet 3 (mC (oMk K_Cache) (aCons (mV 2) aNil)))
    (sSeq (sSet 4 (mLst aNil))
    (sSeq (sSet 5 (mC (oCall F__law_draw) (aCons (mV 1) (aCons (mV 0) (aCons (mK (.int 100)) aNil)))))
    (sSeq (sFor (iRg1 (aCons (mC (oCall F__law_draw) (aCons (mV 1) (aCons (mV 0) (aCons (mK (.int 31)) aNil)))) aNil)) (gN 6) b_law_l1)
    (sRet (mK (.bl true)))))))))
noncomputable def c_law : Ct := ⟨["_law_script", "_law_state", "_law_limit", "_law_cache", "_law_entries", "_law_now", "_law_turn", "_law_step", "_law_row", "_law_rank", "_law_soa", "_law_kind", "_law_size"], defScope s_law, [F__law_draw, F__law_is_integer, F__law_holds, F__law_trimmed, F__law_put, F__law_put_negative, F__law_set], [], m_law, [K_Cache], [], lw, 3, true, false⟩
theorem sc_law : FnScope ["_law_script", "_law_state", "_law_limit", "_law_cache", "_law_entries", "_law_now", "_law_turn", "_law_step", "_law_row", "_law_rank", "_law_soa", "_law_kind", "_law_size"] ["_law_script"] (defScope s_law) := ⟨rfl, rfl, rfl, by decide +kernel, rfl, by decide +kernel, by decide +kernel⟩
set_option maxHeartbeats 0 in
theorem d_law : eSs (den 100 c_law).S (defBody s_law) = some b_law := by kernel_rfl
/-! ### the end -/
section
variable {P : Program} {w : World} {mg : Str → Option Value} {base : Heap} {W : Wd}
theorem ft__law_draw {f : Addr} {fd : FuncData} (L : LwT P mg W lw) (nE : NE W w) (U : Fun W.K "_law_draw" "_law_draw" s__law_draw f fd) (hm : mg "_law_draw" = some (.ref f))  : FnT P w mg base W F__law_draw :=
  fnT_mk (c := c__law_draw) rfl ⟨L, nE, all_nil, all_nil, all_nil, all_nil, all_nil⟩ rfl sc__law_draw U (U.binds fun _ _ _ _ _ _ us hl => match us, hl with | [_, _, _], _ => rfl) hm d__law_draw rfl
theorem ft__law_is_integer {f : Addr} {fd : FuncData} (L : LwT P mg W lw) (nE : NE W w) (U : Fun W.K "_law_is_integer" "_law_is_integer" s__law_is_integer f fd) (hm : mg "_law_is_integer" = some (.ref f))  : FnT P w mg base W F__law_is_integer :=
  fnT_mk (c := c__law_is_integer) rfl ⟨L, nE, all_nil, all_nil, all_nil, all_nil, all_nil⟩ rfl sc__law_is_integer U (U.binds fun _ _ _ _ _ _ us hl => match us, hl with | [_], _ => rfl) hm d__law_is_integer rfl
theorem ft__law_left {f : Addr} {fd : FuncData} (L : LwT P mg W lw) (nE : NE W w) (U : Fun W.K "_law_left" "_law_left" s__law_left f fd) (hm : mg "_law_left" = some (.ref f))  : FnT P w mg base W F__law_left :=
  fnT_mk (c := c__law_left) rfl ⟨L, nE, all_nil, all_nil, all_nil, all_nil, all_nil⟩ rfl sc__law_left U (U.binds fun _ _ _ _ _ _ us hl => match us, hl with | [_, _], _ => rfl) hm d__law_left rfl
theorem ft__law_entry {f : Addr} {fd : FuncData} (L : LwT P mg W lw) (nE : NE W w) (U : Fun W.K "_law_entry" "_law_entry" s__law_entry f fd) (hm : mg "_law_entry" = some (.ref f))  : FnT P w mg base W F__law_entry :=
  fnT_mk (c := c__law_entry) rfl ⟨L, nE, all_nil, all_nil, all_nil, all_nil, all_nil⟩ rfl sc__law_entry U (U.binds fun _ _ _ _ _ _ us hl => match us, hl with | [_, _], _ => rfl) hm d__law_entry rfl
theorem ct_Cache_left {f : Addr} {fd : FuncData} (L : LwT P mg W lw) (nE : NE W w) (U : Fun W.K "left" "Cache.left" s_Cache_left f fd)  : CalT P w mg base W F_Cache_left f :=
  calT_mk (c := c_Cache_left) rfl ⟨L, nE, all_nil, all_nil, all_nil, all_nil, all_nil⟩ rfl sc_Cache_left U (U.binds fun _ _ _ _ _ _ us hl => match us, hl with | [_, _, _], _ => rfl) d_Cache_left rfl
theorem ct_Cache_find_negative {f : Addr} {fd : FuncData} (L : LwT P mg W lw) (nE : NE W w) (U : Fun W.K "find_negative" "Cache.find_negative" s_Cache_find_negative f fd) (M_Cache_left : MetT P w mg base W ⟨1, 5, F_Cache_left⟩) : CalT P w mg base W F_Cache_find_negative f :=
  calT_mk (c := c_Cache_find_negative) rfl ⟨L, nE, all_nil, (all_cons M_Cache_left all_nil), all_nil, all_nil, all_nil⟩ rfl sc_Cache_find_negative U (U.binds fun _ _ _ _ _ _ us hl => match us, hl with | [_, _, _, _], _ => rfl) d_Cache_find_negative rfl
theorem ct_Cache_find {f : Addr} {fd : FuncData} (L : LwT P mg W lw) (nE : NE W w) (U : FunD W.K "find" "Cache.find" (defArgs s_Cache_find) (defBody s_Cache_find) (defScope s_Cache_find) [V.int 1] [] f fd) (M_Cache_left : MetT P w mg base W ⟨1, 5, F_Cache_left⟩) : CalT P w mg base W F_Cache_find f :=
  calT_mkD (c := c_Cache_find) rfl ⟨L, nE, all_nil, (all_cons M_Cache_left all_nil), all_nil, all_nil, all_nil⟩ rfl sc_Cache_find U (U.binds1 5 1 (by simp) rfl fun T kV doc pm an cdv ct us its h1 h2 => match us, h1, its, h2 with | [_, _, _, _, _], _, [_], _ => ⟨_, rfl, rfl⟩) (fun φ H => by simp [RepL, Rep]) d_Cache_find rfl
theorem ct_Cache_find_d1 {f : Addr} {fd : FuncData} (L : LwT P mg W lw) (nE : NE W w) (U : FunD W.K "find" "Cache.find" (defArgs s_Cache_find) (defBody s_Cache_find) (defScope s_Cache_find) [V.int 1] [] f fd) (M_Cache_left : MetT P w mg base W ⟨1, 5, F_Cache_left⟩) : CalT P w mg base W F_Cache_find_d1 f :=
  calT_mkD (c := c_Cache_find) rfl ⟨L, nE, all_nil, (all_cons M_Cache_left all_nil), all_nil, all_nil, all_nil⟩ rfl sc_Cache_find U (U.binds1 4 0 (by simp) rfl fun T kV doc pm an cdv ct us its h1 h2 => match us, h1, its, h2 with | [_, _, _, _], _, [_], _ => ⟨_, rfl, rfl⟩) (fun φ H => by simp [RepL, Rep]) d_Cache_find rfl
theorem ft__law_holds {f : Addr} {fd : FuncData} (L : LwT P mg W lw) (nE : NE W w) (U : Fun W.K "_law_holds" "_law_holds" s__law_holds f fd) (hm : mg "_law_holds" = some (.ref f)) (T__law_left : FnT P w mg base W F__law_left) (T__law_entry : FnT P w mg base W F__law_entry) (M_Cache_find_negative : MetT P w mg base W ⟨1, 3, F_Cache_find_negative⟩) (M_Cache_find : MetT P w mg base W ⟨1, 4, F_Cache_find⟩) (M_Cache_find_d1 : MetT P w mg base W ⟨1, 4, F_Cache_find_d1⟩) : FnT P w mg base W F__law_holds :=
  fnT_mk (c := c__law_holds) rfl ⟨L, nE, (all_cons T__law_left (all_cons T__law_entry all_nil)), (all_cons M_Cache_find_negative (all_cons M_Cache_find (all_cons M_Cache_find_d1 all_nil))), all_nil, all_nil, all_nil⟩ rfl sc__law_holds U (U.binds fun _ _ _ _ _ _ us hl => match us, hl with | [_, _, _, _, _], _ => rfl) hm d__law_holds rfl
theorem ft__law_trimmed {f : Addr} {fd : FuncData} (L : LwT P mg W lw) (nE : NE W w) (U : Fun W.K "_law_trimmed" "_law_trimmed" s__law_trimmed f fd) (hm : mg "_law_trimmed" = some (.ref f))  : FnT P w mg base W F__law_trimmed :=
  fnT_mk (c := c__law_trimmed) rfl ⟨L, nE, all_nil, all_nil, all_nil, all_nil, all_nil⟩ rfl sc__law_trimmed U (U.binds fun _ _ _ _ _ _ us hl => match us, hl with | [_, _, _], _ => rfl) hm d__law_trimmed rfl
theorem ft__law_remove {f : Addr} {fd : FuncData} (L : LwT P mg W lw) (nE : NE W w) (U : Fun W.K "_law_remove" "_law_remove" s__law_remove f fd) (hm : mg "_law_remove" = some (.ref f))  : FnT P w mg base W F__law_remove :=
  fnT_mk (c := c__law_remove) rfl ⟨L, nE, all_nil, all_nil, all_nil, all_nil, all_nil⟩ rfl sc__law_remove U (U.binds fun _ _ _ _ _ _ us hl => match us, hl with | [_, _], _ => rfl) hm d__law_remove rfl
theorem ft__law_put {f : Addr} {fd : FuncData} (L : LwT P mg W lw) (nE : NE W w) (U : Fun W.K "_law_put" "_law_put" s__law_put f fd) (hm : mg "_law_put" = some (.ref f)) (T__law_remove : FnT P w mg base W F__law_remove) (T__law_entry : FnT P w mg base W F__law_entry) : FnT P w mg base W F__law_put :=
  fnT_mk (c := c__law_put) rfl ⟨L, nE, (all_cons T__law_remove (all_cons T__law_entry all_nil)), all_nil, all_nil, all_nil, all_nil⟩ rfl sc__law_put U (U.binds fun _ _ _ _ _ _ us hl => match us, hl with | [_, _, _, _], _ => rfl) hm d__law_put rfl
theorem ft__law_put_negative {f : Addr} {fd : FuncData} (L : LwT P mg W lw) (nE : NE W w) (U : Fun W.K "_law_put_negative" "_law_put_negative" s__law_put_negative f fd) (hm : mg "_law_put_negative" = some (.ref f)) (T__law_remove : FnT P w mg base W F__law_remove) : FnT P w mg base W F__law_put_negative :=
  fnT_mk (c := c__law_put_negative) rfl ⟨L, nE, (all_cons T__law_remove all_nil), all_nil, all_nil, all_nil, all_nil⟩ rfl sc__law_put_negative U (U.binds fun _ _ _ _ _ _ us hl => match us, hl with | [_, _, _, _, _], _ => rfl) hm d__law_put_negative rfl
theorem ft__law_set {f : Addr} {fd : FuncData} (L : LwT P mg W lw) (nE : NE W w) (U : Fun W.K "_law_set" "_law_set" s__law_set f fd) (hm : mg "_law_set" = some (.ref f)) (T__law_draw : FnT P w mg base W F__law_draw) : FnT P w mg base W F__law_set :=
  fnT_mk (c := c__law_set) rfl ⟨L, nE, (all_cons T__law_draw all_nil), all_nil, all_nil, all_nil, all_nil⟩ rfl sc__law_set U (U.binds fun _ _ _ _ _ _ us hl => match us, hl with | [_, _], _ => rfl) hm d__law_set rfl
theorem ct_Cache_size {f : Addr} {fd : FuncData} (L : LwT P mg W lw) (nE : NE W w) (U : Fun W.K "size" "Cache.size" s_Cache_size f fd)  : CalT P w mg base W F_Cache_size f :=
  calT_mk (c := c_Cache_size) rfl ⟨L, nE, all_nil, all_nil, all_nil, all_nil, all_nil⟩ rfl sc_Cache_size U (U.binds fun _ _ _ _ _ _ us hl => match us, hl with | [_], _ => rfl) d_Cache_size rfl
theorem ct_Cache_trim {f : Addr} {fd : FuncData} (L : LwT P mg W lw) (nE : NE W w) (U : Fun W.K "trim" "Cache.trim" s_Cache_trim f fd)  : CalT P w mg base W F_Cache_trim f :=
  calT_mk (c := c_Cache_trim) rfl ⟨L, nE, all_nil, all_nil, all_nil, all_nil, all_nil⟩ rfl sc_Cache_trim U (U.binds fun _ _ _ _ _ _ us hl => match us, hl with | [_, _], _ => rfl) d_Cache_trim rfl
theorem ct_Cache_ends_of {f : Addr} {fd : FuncData} (L : LwT P mg W lw) (nE : NE W w) (U : Fun W.K "ends_of" "Cache.ends_of" s_Cache_ends_of f fd)  : CalT P w mg base W F_Cache_ends_of f :=
  calT_mk (c := c_Cache_ends_of) rfl ⟨L, nE, all_nil, all_nil, all_nil, all_nil, all_nil⟩ rfl sc_Cache_ends_of U (U.binds fun _ _ _ _ _ _ us hl => match us, hl with | [_, _, _], _ => rfl) d_Cache_ends_of rfl
theorem ct_Entry___init__ {f : Addr} {fd : FuncData} (L : LwT P mg W lw) (nE : NE W w) (U : Fun W.K "__init__" "Entry.__init__" s_Entry___init__ f fd)  : CalT P w mg base W F_Entry___init__ f :=
  calT_mk (c := c_Entry___init__) rfl ⟨L, nE, all_nil, all_nil, all_nil, all_nil, all_nil⟩ rfl sc_Entry___init__ U (U.binds fun _ _ _ _ _ _ us hl => match us, hl with | [_, _, _, _], _ => rfl) d_Entry___init__ rfl
theorem ct_Cache_put {f : Addr} {fd : FuncData} (L : LwT P mg W lw) (nE : NE W w) (U : Fun W.K "put" "Cache.put" s_Cache_put f fd) (M_Cache_trim : MetT P w mg base W ⟨1, 10, F_Cache_trim⟩) (M_Cache_ends_of : MetT P w mg base W ⟨1, 11, F_Cache_ends_of⟩) (N_Entry : MkT P w mg base W K_Entry) : CalT P w mg base W F_Cache_put f :=
  calT_mk (c := c_Cache_put) rfl ⟨L, nE, all_nil, (all_cons M_Cache_trim (all_cons M_Cache_ends_of all_nil)), (all_cons N_Entry all_nil), all_nil, all_nil⟩ rfl sc_Cache_put U (U.binds fun _ _ _ _ _ _ us hl => match us, hl with | [_, _, _, _], _ => rfl) d_Cache_put rfl
theorem ct_Cache_put_negative {f : Addr} {fd : FuncData} (L : LwT P mg W lw) (nE : NE W w) (U : Fun W.K "put_negative" "Cache.put_negative" s_Cache_put_negative f fd) (M_Cache_trim : MetT P w mg base W ⟨1, 10, F_Cache_trim⟩) (M_Cache_ends_of : MetT P w mg base W ⟨1, 11, F_Cache_ends_of⟩) (N_Entry : MkT P w mg base W K_Entry) : CalT P w mg base W F_Cache_put_negative f :=
  calT_mk (c := c_Cache_put_negative) rfl ⟨L, nE, all_nil, (all_cons M_Cache_trim (all_cons M_Cache_ends_of all_nil)), (all_cons N_Entry all_nil), all_nil, all_nil⟩ rfl sc_Cache_put_negative U (U.binds fun _ _ _ _ _ _ us hl => match us, hl with | [_, _, _, _, _], _ => rfl) d_Cache_put_negative rfl
theorem ct_Cache___init__ {f : Addr} {fd : FuncData} (L : LwT P mg W lw) (nE : NE W w) (U : Fun W.K "__init__" "Cache.__init__" s_Cache___init__ f fd)  : CalT P w mg base W F_Cache___init__ f :=
  calT_mk (c := c_Cache___init__) rfl ⟨L, nE, all_nil, all_nil, all_nil, all_nil, all_nil⟩ rfl sc_Cache___init__ U (U.binds fun _ _ _ _ _ _ us hl => match us, hl with | [_, _], _ => rfl) d_Cache___init__ rfl
theorem fo_law {f : Addr} {fd : FuncData} (L : LwT P mg W lw) (nE : NE W w) (U : Fun W.K "law" "law" s_law f fd) (T__law_draw : FnT P w mg base W F__law_draw) (T__law_is_integer : FnT P w mg base W F__law_is_integer) (T__law_holds : FnT P w mg base W F__law_holds) (T__law_trimmed : FnT P w mg base W F__law_trimmed) (T__law_put : FnT P w mg base W F__law_put) (T__law_put_negative : FnT P w mg base W F__law_put_negative) (T__law_set : FnT P w mg base W F__law_set) (M_Cache_size : MetT P w mg base W ⟨1, 0, F_Cache_size⟩) (M_Cache_put : MetT P w mg base W ⟨1, 1, F_Cache_put⟩) (M_Cache_put_negative : MetT P w mg base W ⟨1, 2, F_Cache_put_negative⟩) (N_Cache : MkT P w mg base W K_Cache) : FnOk P w W.K mg base (L2N.CX P w) 4 f fd ["_law_script"] (W.spZ 1 (semD 13 b_law)) :=
  fnOk_mk (c := c_law) (ps := ["_law_script"]) rfl ⟨L, nE, (all_cons T__law_draw (all_cons T__law_is_integer (all_cons T__law_holds (all_cons T__law_trimmed (all_cons T__law_put (all_cons T__law_put_negative (all_cons T__law_set all_nil))))))), (all_cons M_Cache_size (all_cons M_Cache_put (all_cons M_Cache_put_negative all_nil))), (all_cons N_Cache all_nil), all_nil, all_nil⟩ rfl sc_law U d_law
end
def wd (w : World) (K : PySem.W.Frag) (cs : List Addr) : Wd := ⟨K, fun n => cs.getD n 0, atOf ats, fun _ _ _ => False, w⟩
theorem all_mk {w : World} {K : PySem.W.Frag} {h : Heap} {mg : Str → Option Value} {fa f1 f2 f3 f4 f5 f6 f7 f8 f9 f10 f11 f12 f13 f14 f15 f16 f17 f18 f19 f20 f21 T7 C1 C2 : Addr} (X : K.In h) (G : h.Ns mainGlobals mg) (hfa : mg "law" = some (.ref fa))
    {od1 an1 od2 an2 od3 an3 od4 an4 od5 an5 od6 an6 od7 an7 od8 an8 od9 an9 od10 an10 od11 an11 od12 an12 od13 an13 od14 an14 od15 an15 od16 an16 od17 an17 od18 an18 od19 an19 od20 an20 od21 an21 : Option Addr} {sl1 sl2 sl3 sl4 sl5 sl6 sl7 sl8 sl9 sl10 sl11 sl12 sl13 sl14 sl15 sl16 sl17 sl18 sl19 sl20 sl21 : Array (Option Value)} {oc1 kV1 dc1 pm1 cd1 ct1 oc2 kV2 dc2 pm2 cd2 ct2 oc3 kV3 dc3 pm3 cd3 ct3 oc4 kV4 dc4 pm4 cd4 ct4 oc5 kV5 dc5 pm5 cd5 ct5 oc6 kV6 dc6 pm6 cd6 ct6 oc7 kV7 dc7 pm7 cd7 ct7 oc8 kV8 dc8 pm8 cd8 ct8 oc9 kV9 dc9 pm9 cd9 ct9 oc10 kV10 dc10 pm10 cd10 ct10 oc11 kV11 dc11 pm11 cd11 ct11 oc12 kV12 dc12 pm12 cd12 ct12 oc13 kV13 dc13 pm13 cd13 ct13 oc14 kV14 dc14 pm14 cd14 ct14 oc15 kV15 dc15 pm15 cd15 ct15 oc16 kV16 dc16 pm16 cd16 ct16 oc17 kV17 dc17 pm17 cd17 ct17 oc18 kV18 dc18 pm18 cd18 ct18 oc19 kV19 dc19 pm19 cd19 ct19 oc20 kV20 dc20 pm20 cd20 ct20 oc21 kV21 dc21 pm21 cd21 ct21 : Value} {tk1 : Tok} {ocT7 : Value} {odT7 : Option Addr} {nT7 : Nat} {slT7 : Array (Option Value)} {tkT7_0 : Tok}
    (a1 : PySem.W.nsIn K mainGlobals "_law_draw" = some (some (.ref f1)))
    (l1 : K.lookup f1 = some ⟨oc1, od1, .func (PySem.W.fnOf "_law_draw" "_law_draw" (defArgs s__law_draw) (defBody s__law_draw) (defScope s__law_draw) .none kV1 dc1 pm1 an1 cd1 ct1), sl1⟩)
    (c1 : PySem.W.codeIn K cd1 "_law_draw" = true)
    (k1 : PySem.W.keepIn K (.ref f1) = true)
    (a2 : PySem.W.nsIn K mainGlobals "_law_is_integer" = some (some (.ref f2)))
    (l2 : K.lookup f2 = some ⟨oc2, od2, .func (PySem.W.fnOf "_law_is_integer" "_law_is_integer" (defArgs s__law_is_integer) (defBody s__law_is_integer) (defScope s__law_is_integer) .none kV2 dc2 pm2 an2 cd2 ct2), sl2⟩)
    (c2 : PySem.W.codeIn K cd2 "_law_is_integer" = true)
    (k2 : PySem.W.keepIn K (.ref f2) = true)
    (a3 : PySem.W.nsIn K mainGlobals "_law_left" = some (some (.ref f3)))
    (l3 : K.lookup f3 = some ⟨oc3, od3, .func (PySem.W.fnOf "_law_left" "_law_left" (defArgs s__law_left) (defBody s__law_left) (defScope s__law_left) .none kV3 dc3 pm3 an3 cd3 ct3), sl3⟩)
    (c3 : PySem.W.codeIn K cd3 "_law_left" = true)
    (k3 : PySem.W.keepIn K (.ref f3) = true)
    (a4 : PySem.W.nsIn K mainGlobals "_law_entry" = some (some (.ref f4)))
    (l4 : K.lookup f4 = some ⟨oc4, od4, .func (PySem.W.fnOf "_law_entry" "_law_entry" (defArgs s__law_entry) (defBody s__law_entry) (defScope s__law_entry) .none kV4 dc4 pm4 an4 cd4 ct4), sl4⟩)
    (c4 : PySem.W.codeIn K cd4 "_law_entry" = true)
    (k4 : PySem.W.keepIn K (.ref f4) = true)
    (a5 : PySem.W.findIn K (.ref C2) "left" = some (some (.ref f5)))
    (i5 : PySem.W.isFn K (.ref f5) = true)
    (l5 : K.lookup f5 = some ⟨oc5, od5, .func (PySem.W.fnOf "left" "Cache.left" (defArgs s_Cache_left) (defBody s_Cache_left) (defScope s_Cache_left) .none kV5 dc5 pm5 an5 cd5 ct5), sl5⟩)
    (c5 : PySem.W.codeIn K cd5 "Cache.left" = true)
    (k5 : PySem.W.keepIn K (.ref f5) = true)
    (a6 : PySem.W.findIn K (.ref C2) "find_negative" = some (some (.ref f6)))
    (i6 : PySem.W.isFn K (.ref f6) = true)
    (l6 : K.lookup f6 = some ⟨oc6, od6, .func (PySem.W.fnOf "find_negative" "Cache.find_negative" (defArgs s_Cache_find_negative) (defBody s_Cache_find_negative) (defScope s_Cache_find_negative) .none kV6 dc6 pm6 an6 cd6 ct6), sl6⟩)
    (c6 : PySem.W.codeIn K cd6 "Cache.find_negative" = true)
    (k6 : PySem.W.keepIn K (.ref f6) = true)
    (a7 : PySem.W.findIn K (.ref C2) "find" = some (some (.ref f7)))
    (i7 : PySem.W.isFn K (.ref f7) = true)
    (t7 : K.lookup T7 = some ⟨ocT7, odT7, .seq ([Value.int 1 tkT7_0] : List Value).toArray nT7, slT7⟩)
    (l7 : K.lookup f7 = some ⟨oc7, od7, .func (PySem.W.fnOf "find" "Cache.find" (defArgs s_Cache_find) (defBody s_Cache_find) (defScope s_Cache_find) (.ref T7) kV7 dc7 pm7 an7 cd7 ct7), sl7⟩)
    (c7 : PySem.W.codeIn K cd7 "Cache.find" = true)
    (k7 : PySem.W.keepIn K (.ref f7) = true)
    (a8 : PySem.W.nsIn K mainGlobals "_law_holds" = some (some (.ref f8)))
    (l8 : K.lookup f8 = some ⟨oc8, od8, .func (PySem.W.fnOf "_law_holds" "_law_holds" (defArgs s__law_holds) (defBody s__law_holds) (defScope s__law_holds) .none kV8 dc8 pm8 an8 cd8 ct8), sl8⟩)
    (c8 : PySem.W.codeIn K cd8 "_law_holds" = true)
    (k8 : PySem.W.keepIn K (.ref f8) = true)
    (a9 : PySem.W.nsIn K mainGlobals "_law_trimmed" = some (some (.ref f9)))
    (l9 : K.lookup f9 = some ⟨oc9, od9, .func (PySem.W.fnOf "_law_trimmed" "_law_trimmed" (defArgs s__law_trimmed) (defBody s__law_trimmed) (defScope s__law_trimmed) .none kV9 dc9 pm9 an9 cd9 ct9), sl9⟩)
    (c9 : PySem.W.codeIn K cd9 "_law_trimmed" = true)
    (k9 : PySem.W.keepIn K (.ref f9) = true)
    (a10 : PySem.W.nsIn K mainGlobals "_law_remove" = some (some (.ref f10)))
    (l10 : K.lookup f10 = some ⟨oc10, od10, .func (PySem.W.fnOf "_law_remove" "_law_remove" (defArgs s__law_remove) (defBody s__law_remove) (defScope s__law_remove) .none kV10 dc10 pm10 an10 cd10 ct10), sl10⟩)
    (c10 : PySem.W.codeIn K cd10 "_law_remove" = true)
    (k10 : PySem.W.keepIn K (.ref f10) = true)
    (a11 : PySem.W.nsIn K mainGlobals "_law_put" = some (some (.ref f11)))
    (l11 : K.lookup f11 = some ⟨oc11, od11, .func (PySem.W.fnOf "_law_put" "_law_put" (defArgs s__law_put) (defBody s__law_put) (defScope s__law_put) .none kV11 dc11 pm11 an11 cd11 ct11), sl11⟩)
    (c11 : PySem.W.codeIn K cd11 "_law_put" = true)
    (k11 : PySem.W.keepIn K (.ref f11) = true)
    (a12 : PySem.W.nsIn K mainGlobals "_law_put_negative" = some (some (.ref f12)))
    (l12 : K.lookup f12 = some ⟨oc12, od12, .func (PySem.W.fnOf "_law_put_negative" "_law_put_negative" (defArgs s__law_put_negative) (defBody s__law_put_negative) (defScope s__law_put_negative) .none kV12 dc12 pm12 an12 cd12 ct12), sl12⟩)
    (c12 : PySem.W.codeIn K cd12 "_law_put_negative" = true)
    (k12 : PySem.W.keepIn K (.ref f12) = true)
    (a13 : PySem.W.nsIn K mainGlobals "_law_set" = some (some (.ref f13)))
    (l13 : K.lookup f13 = some ⟨oc13, od13, .func (PySem.W.fnOf "_law_set" "_law_set" (defArgs s__law_set) (defBody s__law_set) (defScope s__law_set) .none kV13 dc13 pm13 an13 cd13 ct13), sl13⟩)
    (c13 : PySem.W.codeIn K cd13 "_law_set" = true)
    (k13 : PySem.W.keepIn K (.ref f13) = true)
    (a14 : PySem.W.findIn K (.ref C2) "size" = some (some (.ref f14)))
    (i14 : PySem.W.isFn K (.ref f14) = true)
    (l14 : K.lookup f14 = some ⟨oc14, od14, .func (PySem.W.fnOf "size" "Cache.size" (defArgs s_Cache_size) (defBody s_Cache_size) (defScope s_Cache_size) .none kV14 dc14 pm14 an14 cd14 ct14), sl14⟩)
    (c14 : PySem.W.codeIn K cd14 "Cache.size" = true)
    (k14 : PySem.W.keepIn K (.ref f14) = true)
    (a15 : PySem.W.findIn K (.ref C2) "trim" = some (some (.ref f15)))
    (i15 : PySem.W.isFn K (.ref f15) = true)
    (l15 : K.lookup f15 = some ⟨oc15, od15, .func (PySem.W.fnOf "trim" "Cache.trim" (defArgs s_Cache_trim) (defBody s_Cache_trim) (defScope s_Cache_trim) .none kV15 dc15 pm15 an15 cd15 ct15), sl15⟩)
    (c15 : PySem.W.codeIn K cd15 "Cache.trim" = true)
    (k15 : PySem.W.keepIn K (.ref f15) = true)
    (a16 : PySem.W.findIn K (.ref C2) "ends_of" = some (some (.ref f16)))
    (i16 : PySem.W.isFn K (.ref f16) = true)
    (l16 : K.lookup f16 = some ⟨oc16, od16, .func (PySem.W.fnOf "ends_of" "Cache.ends_of" (defArgs s_Cache_ends_of) (defBody s_Cache_ends_of) (defScope s_Cache_ends_of) .none kV16 dc16 pm16 an16 cd16 ct16), sl16⟩)
    (c16 : PySem.W.codeIn K cd16 "Cache.ends_of" = true)
    (k16 : PySem.W.keepIn K (.ref f16) = true)
    (a17 : PySem.W.findIn K (.ref C1) "__init__" = some (some (.ref f17)))
    (i17 : PySem.W.isFn K (.ref f17) = true)
    (l17 : K.lookup f17 = some ⟨oc17, od17, .func (PySem.W.fnOf "__init__" "Entry.__init__" (defArgs s_Entry___init__) (defBody s_Entry___init__) (defScope s_Entry___init__) .none kV17 dc17 pm17 an17 cd17 ct17), sl17⟩)
    (c17 : PySem.W.codeIn K cd17 "Entry.__init__" = true)
    (k17 : PySem.W.keepIn K (.ref f17) = true)
    (a18 : PySem.W.findIn K (.ref C2) "put" = some (some (.ref f18)))
    (i18 : PySem.W.isFn K (.ref f18) = true)
    (l18 : K.lookup f18 = some ⟨oc18, od18, .func (PySem.W.fnOf "put" "Cache.put" (defArgs s_Cache_put) (defBody s_Cache_put) (defScope s_Cache_put) .none kV18 dc18 pm18 an18 cd18 ct18), sl18⟩)
    (c18 : PySem.W.codeIn K cd18 "Cache.put" = true)
    (k18 : PySem.W.keepIn K (.ref f18) = true)
    (a19 : PySem.W.findIn K (.ref C2) "put_negative" = some (some (.ref f19)))
    (i19 : PySem.W.isFn K (.ref f19) = true)
    (l19 : K.lookup f19 = some ⟨oc19, od19, .func (PySem.W.fnOf "put_negative" "Cache.put_negative" (defArgs s_Cache_put_negative) (defBody s_Cache_put_negative) (defScope s_Cache_put_negative) .none kV19 dc19 pm19 an19 cd19 ct19), sl19⟩)
    (c19 : PySem.W.codeIn K cd19 "Cache.put_negative" = true)
    (k19 : PySem.W.keepIn K (.ref f19) = true)
    (a20 : PySem.W.findIn K (.ref C2) "__init__" = some (some (.ref f20)))
    (i20 : PySem.W.isFn K (.ref f20) = true)
    (l20 : K.lookup f20 = some ⟨oc20, od20, .func (PySem.W.fnOf "__init__" "Cache.__init__" (defArgs s_Cache___init__) (defBody s_Cache___init__) (defScope s_Cache___init__) .none kV20 dc20 pm20 an20 cd20 ct20), sl20⟩)
    (c20 : PySem.W.codeIn K cd20 "Cache.__init__" = true)
    (k20 : PySem.W.keepIn K (.ref f20) = true)
    (a21 : PySem.W.nsIn K mainGlobals "law" = some (some (.ref f21)))
    (l21 : K.lookup f21 = some ⟨oc21, od21, .func (PySem.W.fnOf "law" "law" (defArgs s_law) (defBody s_law) (defScope s_law) .none kV21 dc21 pm21 an21 cd21 ct21), sl21⟩)
    (c21 : PySem.W.codeIn K cd21 "law" = true)
    (k21 : PySem.W.keepIn K (.ref f21) = true)
    (z1 : PySem.W.nsIn K mainGlobals "bool" = some none)
    (z2 : PySem.W.nsIn K mainGlobals "int" = some none)
    (z3 : PySem.W.nsIn K mainGlobals "isinstance" = some none)
    (z4 : PySem.W.nsIn K mainGlobals "len" = some none)
    (z5 : PySem.W.nsIn K mainGlobals "list" = some none)
    (z6 : PySem.W.nsIn K mainGlobals "max" = some none)
    (z7 : PySem.W.nsIn K mainGlobals "min" = some none)
    (z8 : PySem.W.nsIn K mainGlobals "range" = some none)
    (z9 : PySem.W.nsIn K mainGlobals "str" = some none)
    (g1 : PySem.W.nsIn K mainGlobals "MOST_TTL" = some (some (Value.int 86400 tk1)))
    (aC1 : PySem.W.nsIn K mainGlobals "Entry" = some (some (.ref C1)))
    (pg1 : PySem.W.plainGet K C1 Str.empty = true)
    (hd1 : PySem.W.hasDictIn K C1 = true)
    (po1 : PySem.W.plainOver K C1 = true)
    (sa1 : PySem.W.findIn K (.ref C1) "__setattr__" = some (some (.builtin "object.__setattr__")))
    (mk1 : PySem.W.makesIn K C1 = true)
    (kc1 : PySem.W.keepIn K (.ref C1) = true)
    (n1_7 : PySem.W.findIn K (.ref C1) "record_set" = some none)
    (n1_9 : PySem.W.findIn K (.ref C1) "rank" = some none)
    (n1_6 : PySem.W.findIn K (.ref C1) "ends" = some none)
    (aC2 : PySem.W.nsIn K mainGlobals "Cache" = some (some (.ref C2)))
    (pg2 : PySem.W.plainGet K C2 Str.empty = true)
    (hd2 : PySem.W.hasDictIn K C2 = true)
    (po2 : PySem.W.plainOver K C2 = true)
    (sa2 : PySem.W.findIn K (.ref C2) "__setattr__" = some (some (.builtin "object.__setattr__")))
    (mk2 : PySem.W.makesIn K C2 = true)
    (kc2 : PySem.W.keepIn K (.ref C2) = true)
    (n2_12 : PySem.W.findIn K (.ref C2) "limit" = some none)
    (n2_8 : PySem.W.findIn K (.ref C2) "entries" = some none)
    : ∃ fd : FuncData, (∀ (s : Shared) (v : Value), BindsTo s fd ⟨[v], []⟩ [("_law_script", v)]) ∧ ∀ base : Heap, K.In base → base.Ns mainGlobals mg → FnOk PySem.Challenge.pw_zoneward_k21_cache w K mg base (L2N.CX PySem.Challenge.pw_zoneward_k21_cache w) 4 fa fd ["_law_script"] (lawSp w ats K (semD 13 b_law)) := by
  have e := hfa.symm.trans (PySem.W.mg_of X G a21)
  cases e
  have U1 := fun_mk (st := s__law_draw) l1 c1 k1
  have U2 := fun_mk (st := s__law_is_integer) l2 c2 k2
  have U3 := fun_mk (st := s__law_left) l3 c3 k3
  have U4 := fun_mk (st := s__law_entry) l4 c4 k4
  have U5 := fun_mk (st := s_Cache_left) l5 c5 k5
  have U6 := fun_mk (st := s_Cache_find_negative) l6 c6 k6
  have U7 := funD_mk (st := s_Cache_find) (dV := [V.int 1]) (by simp) l7 c7 k7 t7 (.cons ⟨_, rfl⟩ .nil)
  have U8 := fun_mk (st := s__law_holds) l8 c8 k8
  have U9 := fun_mk (st := s__law_trimmed) l9 c9 k9
  have U10 := fun_mk (st := s__law_remove) l10 c10 k10
  have U11 := fun_mk (st := s__law_put) l11 c11 k11
  have U12 := fun_mk (st := s__law_put_negative) l12 c12 k12
  have U13 := fun_mk (st := s__law_set) l13 c13 k13
  have U14 := fun_mk (st := s_Cache_size) l14 c14 k14
  have U15 := fun_mk (st := s_Cache_trim) l15 c15 k15
  have U16 := fun_mk (st := s_Cache_ends_of) l16 c16 k16
  have U17 := fun_mk (st := s_Entry___init__) l17 c17 k17
  have U18 := fun_mk (st := s_Cache_put) l18 c18 k18
  have U19 := fun_mk (st := s_Cache_put_negative) l19 c19 k19
  have U20 := fun_mk (st := s_Cache___init__) l20 c20 k20
  have U21 := fun_mk (st := s_law) l21 c21 k21
  have L : LwT PySem.Challenge.pw_zoneward_k21_cache mg (wd w K [C1, C2]) lw := by
    refine ⟨?_, ?_, atOf_inj (ats := ats) (by decide +kernel), fun i x e => atOf_at e, ?_, ?_, ?_, ?_, ?_, ?_⟩
    · exact (all_cons (PySem.W.mg_none_of X G z1) (all_cons (PySem.W.mg_none_of X G z2) (all_cons (PySem.W.mg_none_of X G z3) (all_cons (PySem.W.mg_none_of X G z4) (all_cons (PySem.W.mg_none_of X G z5) (all_cons (PySem.W.mg_none_of X G z6) (all_cons (PySem.W.mg_none_of X G z7) (all_cons (PySem.W.mg_none_of X G z8) (all_cons (PySem.W.mg_none_of X G z9) all_nil)))))))))
    · exact (all_cons ⟨_, .int 86400, PySem.W.mg_of X G g1, ⟨_, rfl⟩, fun φ H => by rw [Rep]⟩ all_nil)
    · exact (all_cons ⟨⟨pg1, hd1, po1, sa1⟩, n1_7⟩ (all_cons ⟨⟨pg1, hd1, po1, sa1⟩, n1_9⟩ (all_cons ⟨⟨pg1, hd1, po1, sa1⟩, n1_6⟩ (all_cons ⟨⟨pg2, hd2, po2, sa2⟩, n2_12⟩ (all_cons ⟨⟨pg2, hd2, po2, sa2⟩, n2_8⟩ all_nil)))))
    · exact all_nil
    · exact all_nil
    · exact all_nil
    · exact all_nil
    · exact all_nil
  have nE : NE (wd w K [C1, C2]) w := ⟨fun _ _ _ z => z, rfl⟩
  refine ⟨PySem.W.fnOf "law" "law" (defArgs s_law) (defBody s_law) (defScope s_law) .none kV21 dc21 pm21 an21 cd21 ct21, fun s v => .of_eq rfl, fun base _ _ => ?_⟩
  have T__law_draw : FnT PySem.Challenge.pw_zoneward_k21_cache w mg base (wd w K [C1, C2]) F__law_draw := ft__law_draw L nE U1 (PySem.W.mg_of X G a1) 
  have T__law_is_integer : FnT PySem.Challenge.pw_zoneward_k21_cache w mg base (wd w K [C1, C2]) F__law_is_integer := ft__law_is_integer L nE U2 (PySem.W.mg_of X G a2) 
  have T__law_left : FnT PySem.Challenge.pw_zoneward_k21_cache w mg base (wd w K [C1, C2]) F__law_left := ft__law_left L nE U3 (PySem.W.mg_of X G a3) 
  have T__law_entry : FnT PySem.Challenge.pw_zoneward_k21_cache w mg base (wd w K [C1, C2]) F__law_entry := ft__law_entry L nE U4 (PySem.W.mg_of X G a4) 
  have Q_Cache_left : CalT PySem.Challenge.pw_zoneward_k21_cache w mg base (wd w K [C1, C2]) F_Cache_left f5 := ct_Cache_left L nE U5 
  have M_Cache_left : MetT PySem.Challenge.pw_zoneward_k21_cache w mg base (wd w K [C1, C2]) ⟨1, 5, F_Cache_left⟩ := ⟨f5, ⟨pg2, hd2, po2, sa2⟩, ⟨a5, i5, k5⟩, Q_Cache_left⟩
  have Q_Cache_find_negative : CalT PySem.Challenge.pw_zoneward_k21_cache w mg base (wd w K [C1, C2]) F_Cache_find_negative f6 := ct_Cache_find_negative L nE U6 M_Cache_left
  have M_Cache_find_negative : MetT PySem.Challenge.pw_zoneward_k21_cache w mg base (wd w K [C1, C2]) ⟨1, 3, F_Cache_find_negative⟩ := ⟨f6, ⟨pg2, hd2, po2, sa2⟩, ⟨a6, i6, k6⟩, Q_Cache_find_negative⟩
  have Q_Cache_find : CalT PySem.Challenge.pw_zoneward_k21_cache w mg base (wd w K [C1, C2]) F_Cache_find f7 := ct_Cache_find L nE U7 M_Cache_left
  have Q_Cache_find_d1 : CalT PySem.Challenge.pw_zoneward_k21_cache w mg base (wd w K [C1, C2]) F_Cache_find_d1 f7 := ct_Cache_find_d1 L nE U7 M_Cache_left
  have M_Cache_find : MetT PySem.Challenge.pw_zoneward_k21_cache w mg base (wd w K [C1, C2]) ⟨1, 4, F_Cache_find⟩ := ⟨f7, ⟨pg2, hd2, po2, sa2⟩, ⟨a7, i7, k7⟩, Q_Cache_find⟩
  have M_Cache_find_d1 : MetT PySem.Challenge.pw_zoneward_k21_cache w mg base (wd w K [C1, C2]) ⟨1, 4, F_Cache_find_d1⟩ := ⟨f7, ⟨pg2, hd2, po2, sa2⟩, ⟨a7, i7, k7⟩, Q_Cache_find_d1⟩
  have T__law_holds : FnT PySem.Challenge.pw_zoneward_k21_cache w mg base (wd w K [C1, C2]) F__law_holds := ft__law_holds L nE U8 (PySem.W.mg_of X G a8) T__law_left T__law_entry M_Cache_find_negative M_Cache_find M_Cache_find_d1
  have T__law_trimmed : FnT PySem.Challenge.pw_zoneward_k21_cache w mg base (wd w K [C1, C2]) F__law_trimmed := ft__law_trimmed L nE U9 (PySem.W.mg_of X G a9) 
  have T__law_remove : FnT PySem.Challenge.pw_zoneward_k21_cache w mg base (wd w K [C1, C2]) F__law_remove := ft__law_remove L nE U10 (PySem.W.mg_of X G a10) 
  have T__law_put : FnT PySem.Challenge.pw_zoneward_k21_cache w mg base (wd w K [C1, C2]) F__law_put := ft__law_put L nE U11 (PySem.W.mg_of X G a11) T__law_remove T__law_entry
  have T__law_put_negative : FnT PySem.Challenge.pw_zoneward_k21_cache w mg base (wd w K [C1, C2]) F__law_put_negative := ft__law_put_negative L nE U12 (PySem.W.mg_of X G a12) T__law_remove
  have T__law_set : FnT PySem.Challenge.pw_zoneward_k21_cache w mg base (wd w K [C1, C2]) F__law_set := ft__law_set L nE U13 (PySem.W.mg_of X G a13) T__law_draw
  have Q_Cache_size : CalT PySem.Challenge.pw_zoneward_k21_cache w mg base (wd w K [C1, C2]) F_Cache_size f14 := ct_Cache_size L nE U14 
  have M_Cache_size : MetT PySem.Challenge.pw_zoneward_k21_cache w mg base (wd w K [C1, C2]) ⟨1, 0, F_Cache_size⟩ := ⟨f14, ⟨pg2, hd2, po2, sa2⟩, ⟨a14, i14, k14⟩, Q_Cache_size⟩
  have Q_Cache_trim : CalT PySem.Challenge.pw_zoneward_k21_cache w mg base (wd w K [C1, C2]) F_Cache_trim f15 := ct_Cache_trim L nE U15 
  have M_Cache_trim : MetT PySem.Challenge.pw_zoneward_k21_cache w mg base (wd w K [C1, C2]) ⟨1, 10, F_Cache_trim⟩ := ⟨f15, ⟨pg2, hd2, po2, sa2⟩, ⟨a15, i15, k15⟩, Q_Cache_trim⟩
  have Q_Cache_ends_of : CalT PySem.Challenge.pw_zoneward_k21_cache w mg base (wd w K [C1, C2]) F_Cache_ends_of f16 := ct_Cache_ends_of L nE U16 
  have M_Cache_ends_of : MetT PySem.Challenge.pw_zoneward_k21_cache w mg base (wd w K [C1, C2]) ⟨1, 11, F_Cache_ends_of⟩ := ⟨f16, ⟨pg2, hd2, po2, sa2⟩, ⟨a16, i16, k16⟩, Q_Cache_ends_of⟩
  have Q_Entry___init__ : CalT PySem.Challenge.pw_zoneward_k21_cache w mg base (wd w K [C1, C2]) F_Entry___init__ f17 := ct_Entry___init__ L nE U17 
  have N_Entry : MkT PySem.Challenge.pw_zoneward_k21_cache w mg base (wd w K [C1, C2]) K_Entry := ⟨fun _ => ⟨f17, PySem.W.mg_of X G aC1, ⟨mk1, a17, i17, kc1⟩, Q_Entry___init__⟩, fun z => absurd rfl z⟩
  have Q_Cache_put : CalT PySem.Challenge.pw_zoneward_k21_cache w mg base (wd w K [C1, C2]) F_Cache_put f18 := ct_Cache_put L nE U18 M_Cache_trim M_Cache_ends_of N_Entry
  have M_Cache_put : MetT PySem.Challenge.pw_zoneward_k21_cache w mg base (wd w K [C1, C2]) ⟨1, 1, F_Cache_put⟩ := ⟨f18, ⟨pg2, hd2, po2, sa2⟩, ⟨a18, i18, k18⟩, Q_Cache_put⟩
  have Q_Cache_put_negative : CalT PySem.Challenge.pw_zoneward_k21_cache w mg base (wd w K [C1, C2]) F_Cache_put_negative f19 := ct_Cache_put_negative L nE U19 M_Cache_trim M_Cache_ends_of N_Entry
  have M_Cache_put_negative : MetT PySem.Challenge.pw_zoneward_k21_cache w mg base (wd w K [C1, C2]) ⟨1, 2, F_Cache_put_negative⟩ := ⟨f19, ⟨pg2, hd2, po2, sa2⟩, ⟨a19, i19, k19⟩, Q_Cache_put_negative⟩
  have Q_Cache___init__ : CalT PySem.Challenge.pw_zoneward_k21_cache w mg base (wd w K [C1, C2]) F_Cache___init__ f20 := ct_Cache___init__ L nE U20 
  have N_Cache : MkT PySem.Challenge.pw_zoneward_k21_cache w mg base (wd w K [C1, C2]) K_Cache := ⟨fun _ => ⟨f20, PySem.W.mg_of X G aC2, ⟨mk2, a20, i20, kc2⟩, Q_Cache___init__⟩, fun z => absurd rfl z⟩
  exact fnOk_imp (fo_law L nE U21 T__law_draw T__law_is_integer T__law_holds T__law_trimmed T__law_put T__law_put_negative T__law_set M_Cache_size M_Cache_put M_Cache_put_negative N_Cache) fun vs H Q E h => h [C1, C2]
end Z.k21
namespace Z.k21
open PySem PySem.Spec PyProof.Rows L2
local macro_rules | `(tactic| walk_at "z0") => `(tactic| with_reducible first | refine w_K.mpr ?_ | refine w_B.mpr ?_ | refine w_U.mpr ?_ | refine w_C.mpr ?_ | refine w_nil.mpr ?_ | refine w_cons.mpr ?_ | refine w_consR.mpr ?_ | refine w_M.mpr ?_ | refine w_if.mpr ?_ | refine w_tr.mpr ?_ | refine w_tb.mpr ?_ | refine w_not.mpr ?_ | refine w_and.mpr ?_ | refine w_or.mpr ?_ | refine w_andV.mpr ?_ | refine w_orV.mpr ?_ | refine w_notV.mpr ?_ | refine w_ch.mpr ?_ | refine w_nilS.mpr ?_ | refine w_bk.mpr ?_ | refine w_ct.mpr ?_ | refine w_retN.mpr ?_ | refine w_seq.mpr ?_ | refine w_set.mpr ?_ | refine w_asg.mpr ?_ | refine w_ret.mpr ?_ | refine w_exp.mpr ?_ | refine w_aug.mpr ?_ | refine w_sub.mpr ?_ | refine w_iseq.mpr ?_ | refine w_tup.mpr ?_ | refine w_lst.mpr ?_ | refine w_sl.mpr ?_ | refine w_So.mpr ?_ | refine w_No.mpr ?_ | refine w_lc.mpr ?_ | refine w_true.mpr ?_ | refine w_meth.mpr ?_ | refine w_raise.mpr ?_)
local macro_rules | `(tactic| walk_at "z1") => `(tactic| with_reducible first | refine okG_ok.mpr ?_ | refine okG_ex.mpr ?_ | refine okS_nx.mpr ?_ | refine okS_rt.mpr ?_ | refine okS_bk.mpr ?_ | refine okS_ct.mpr ?_ | refine okS_ex.mpr ?_ | refine putM_int.mpr ?_ | refine putM_bl.mpr ?_ | refine putM_ref.mpr ?_ | refine putM_str.mpr ?_ | refine putM_tup.mpr ?_ | refine putM_ro.mpr ?_ | refine putM_non.mpr ?_ | refine putM_exn.mpr ?_ | refine putM_lst.mpr ?_ | refine tbK_bl.mpr ?_ | refine trK_bl.mpr ?_ | refine trK_int.mpr ?_ | refine trK_non.mpr ?_ | refine soK_int.mpr ?_ | refine putM_nm.mpr ?_ | refine iteT ?_ | refine iteF ?_ | refine iteNT ?_ | refine iteNF ?_)
local macro_rules | `(tactic| walk_at "z2") => `(tactic| with_reducible first | refine o_add.mpr ?_ | refine o_mulI.mpr ?_ | refine o_addA.mpr ?_ | refine o_neg.mpr ?_ | refine o_any.mpr ?_ | refine o_eq_int.mpr ?_ | refine o_ne_int.mpr ?_ | refine o_eq_bl.mpr ?_ | refine o_ne_bl.mpr ?_ | refine o_int.mpr ?_ | refine o_int_bl.mpr ?_ | refine o_len_ro.mpr ?_ | refine o_len_tup.mpr ?_ | refine o_len_lst.mpr ?_ | refine oBK_some.mpr ?_ | refine o_eq_str.mpr ?_ | refine o_ne_str.mpr ?_ | refine o_eq_nm.mpr ?_ | refine o_ne_nm.mpr ?_ | refine o_len_nm.mpr ?_ | refine o_sl_nm.mpr ?_ | refine o_sl_tup.mpr ?_ | refine o_sl_ro.mpr ?_ | refine o_sl_lst.mpr ?_ | refine o_tuple_lst.mpr ?_ | refine o_tuple_ro.mpr ?_ | refine o_tuple_tup.mpr ?_ | refine o_list_lst.mpr ?_ | refine o_list_ro.mpr ?_ | refine o_list_tup.mpr ?_ | refine o_is_bl.mpr ?_ | refine o_isnot_bl.mpr ?_ | refine o_inS.mpr ?_ | refine o_notinS.mpr ?_ | refine o_ord.mpr ?_)
local macro_rules | `(tactic| walk_at "z3") => `(tactic| first | ((with_reducible show _ ≤ SZ ∧ _); refine ⟨by first | exact Nat.le_of_ble_eq_true rfl | ((show _ ≤ 16777216); omega), ?_⟩) | ((with_reducible show tyB _ _ _ = true ∧ _); refine ⟨by rfl, ?_⟩) | ((with_reducible show ∃ x, [_] = [x] ∧ _); refine ⟨_, rfl, ?_⟩) | ((with_reducible show srcK _ (nm _) _); refine ⟨_, rfl, ?_⟩) | ((with_reducible show srcK _ (.tup _) _); refine ⟨_, rfl, ?_⟩) | ((with_reducible show srcK _ (.ro _) _); refine ⟨_, rfl, ?_⟩) | ((with_reducible show srcK _ (.lst _) _); refine ⟨_, rfl, ?_⟩) | ((with_reducible refine w_V' ?_); refine ⟨_, rfl, ?_⟩) | ((with_reducible refine o_ix_ref' ?_); refine ⟨_, _, by first | assumption | rfl, by rfl, ?_⟩) | ((with_reducible refine o_ix_tup' ?_); refine ⟨_, by rfl, ?_⟩) | ((with_reducible refine o_ix_ro' ?_); refine ⟨_, by rfl, ?_⟩) | ((with_reducible refine o_ix_lst' ?_); refine ⟨_, by rfl, ?_⟩) | ((with_reducible refine o_len_ref' ?_); refine ⟨_, by first | assumption | rfl, ?_⟩) | ((with_reducible refine set_ref' ?_); refine ⟨_, _, by first | assumption | rfl, by rfl, ?_⟩))
local macro_rules | `(tactic| walk_at "z4") => `(tactic| first | ((with_reducible refine o_mul' ?_); refine ⟨by first | exact cMul_l (by decide) | exact cMul_r (by decide) | exact cMul_l (by omega) | exact cMul_r (by omega), ?_⟩) | ((with_reducible refine o_mod' ?_); refine ⟨by omega, ?_⟩) | ((with_reducible refine o_fdiv' ?_); refine ⟨by omega, ?_⟩) | ((with_reducible refine o_pow' ?_); refine ⟨by decide, ?_⟩))
local macro_rules | `(tactic| walk_at "z5") => `(tactic| ((with_reducible show okG (oIsiB _ _ _) _ _); first | (with_reducible refine isi_int_int.mpr ?_) | (with_reducible refine isi_bool_int.mpr ?_) | (with_reducible refine isi_str_int.mpr ?_) | (with_reducible refine isi_tuple_int.mpr ?_) | (with_reducible refine isi_NoneType_int.mpr ?_) | (with_reducible refine isi_list_int.mpr ?_) | (with_reducible refine isi_int_bool.mpr ?_) | (with_reducible refine isi_bool_bool.mpr ?_) | (with_reducible refine isi_str_bool.mpr ?_) | (with_reducible refine isi_tuple_bool.mpr ?_) | (with_reducible refine isi_NoneType_bool.mpr ?_) | (with_reducible refine isi_list_bool.mpr ?_) | (with_reducible refine isi_int_str.mpr ?_) | (with_reducible refine isi_bool_str.mpr ?_) | (with_reducible refine isi_str_str.mpr ?_) | (with_reducible refine isi_tuple_str.mpr ?_) | (with_reducible refine isi_NoneType_str.mpr ?_) | (with_reducible refine isi_list_str.mpr ?_) | (with_reducible refine isi_int_tuple.mpr ?_) | (with_reducible refine isi_bool_tuple.mpr ?_) | (with_reducible refine isi_str_tuple.mpr ?_) | (with_reducible refine isi_tuple_tuple.mpr ?_) | (with_reducible refine isi_NoneType_tuple.mpr ?_) | (with_reducible refine isi_list_tuple.mpr ?_) | (with_reducible refine isi_int_list.mpr ?_) | (with_reducible refine isi_bool_list.mpr ?_) | (with_reducible refine isi_str_list.mpr ?_) | (with_reducible refine isi_tuple_list.mpr ?_) | (with_reducible refine isi_NoneType_list.mpr ?_) | (with_reducible refine isi_list_list.mpr ?_) | ((with_reducible refine isi_list2_int ?_); refine ⟨_, by first | assumption | rfl, ?_⟩) | ((with_reducible refine isi_list2_bool ?_); refine ⟨_, by first | assumption | rfl, ?_⟩) | ((with_reducible refine isi_list2_str ?_); refine ⟨_, by first | assumption | rfl, ?_⟩) | ((with_reducible refine isi_list2_tuple ?_); refine ⟨_, by first | assumption | rfl, ?_⟩) | ((with_reducible refine isi_list2_list ?_); refine ⟨_, by first | assumption | rfl, ?_⟩)))
local macro_rules | `(tactic| walk_at "z6") => `(tactic| with_reducible first | refine o_is_n_int.mpr ?_ | refine o_isnot_n_int.mpr ?_ | refine o_is_n_bl.mpr ?_ | refine o_isnot_n_bl.mpr ?_ | refine o_is_n_str.mpr ?_ | refine o_isnot_n_str.mpr ?_ | refine o_is_n_tup.mpr ?_ | refine o_isnot_n_tup.mpr ?_ | refine o_is_n_non.mpr ?_ | refine o_isnot_n_non.mpr ?_ | refine o_is_n_lst.mpr ?_ | refine o_isnot_n_lst.mpr ?_ | refine o_is_n_ref.mpr ?_ | refine o_isnot_n_ref.mpr ?_ | refine o_is_n_ro.mpr ?_ | refine o_isnot_n_ro.mpr ?_ | refine o_is_n_exn.mpr ?_ | refine o_isnot_n_exn.mpr ?_)
local macro_rules | `(tactic| walk_at "z7") => `(tactic| first | ((with_reducible refine o_sl_ref' ?_); refine ⟨_, by first | assumption | rfl, ?_⟩) | ((with_reducible refine o_tuple_ref' ?_); refine ⟨_, by first | assumption | rfl, ?_⟩) | ((with_reducible refine o_list_ref' ?_); refine ⟨_, by first | assumption | rfl, ?_⟩) | ((with_reducible refine o_add_nm' ?_); refine ⟨by (show _ ≤ 16777216); omega, ?_⟩) | ((with_reducible refine o_addT' ?_); refine ⟨by (show _ ≤ 16777216); omega, ?_⟩) | ((with_reducible refine o_addS' ?_); refine ⟨by (show _ ≤ 16777216); first | omega | (simp only [List.length_cons, List.length_nil, List.length_append, List.length_map, List.length_replicate, List.length_singleton]; omega), ?_⟩) | ((with_reducible refine o_len_str' ?_); refine ⟨by (show _ ≤ 16777216); first | omega | (simp only [List.length_cons, List.length_nil, List.length_append, List.length_map, List.length_replicate, List.length_singleton]; omega), ?_⟩))
local macro_rules | `(tactic| walk_at "z8") => `(tactic| first | ((with_reducible refine eqO_pl ?_); refine ⟨by rfl, ?_⟩) | ((with_reducible refine neO_pl ?_); refine ⟨by rfl, ?_⟩))
local macro_rules | `(tactic| walk_at "z") => `(tactic| first | walk_at "z0" | walk_at "z1" | walk_at "z2" | walk_at "z3" | walk_at "z4" | walk_at "z5" | walk_at "z6" | walk_at "z7" | walk_at "z8")
local macro_rules | `(tactic| walk_at "zz") => `(tactic| repeat walk_at "z")
local macro_rules | `(tactic| walk_at "zi") => `(tactic| with_reducible first | refine iteD ?_ ?_ | refine iteN ?_ ?_ | refine iteI ?_ ?_)
local macro_rules | `(tactic| walk_at "zs") => `(tactic| with_reducible refine w_seq.mpr ?_)
local macro_rules | `(tactic| walk_at "zf") => `(tactic| ((with_reducible first | refine w_ifS.mpr ?_ | refine w_for.mpr ?_); walk_at "zz"; try walk_at "zi"))
local macro_rules | `(tactic| walk_at "zr") => `(tactic| ((with_reducible refine w_rg1 ?_); walk_at "zz"; refine ⟨_, rfl, by omega, ?_⟩))
local macro_rules | `(tactic| walk_at "zr2") => `(tactic| ((with_reducible refine w_rg2 ?_); walk_at "zz"; refine ⟨_, _, rfl, by omega, ?_⟩))
local macro_rules | `(tactic| walk_at "y0") => `(tactic| with_reducible first | refine w_K.mpr ?_ | refine w_B.mpr ?_ | refine w_U.mpr ?_ | refine w_C.mpr ?_ | refine w_nil.mpr ?_ | refine w_cons.mpr ?_ | refine w_consR.mpr ?_ | refine w_M.mpr ?_ | refine w_if.mpr ?_ | refine w_tr.mpr ?_ | refine w_tb.mpr ?_ | refine w_not.mpr ?_ | refine w_and.mpr ?_ | refine w_or.mpr ?_ | refine w_andV.mpr ?_ | refine w_orV.mpr ?_ | refine w_notV.mpr ?_ | refine w_ch.mpr ?_ | refine w_nilS.mpr ?_ | refine w_bk.mpr ?_ | refine w_ct.mpr ?_ | refine w_retN.mpr ?_ | refine w_seq.mpr ?_ | refine w_set.mpr ?_ | refine w_asg.mpr ?_ | refine w_ret.mpr ?_ | refine w_exp.mpr ?_ | refine w_aug.mpr ?_ | refine w_sub.mpr ?_ | refine w_iseq.mpr ?_ | refine w_tup.mpr ?_ | refine w_lst.mpr ?_ | refine w_sl.mpr ?_ | refine w_So.mpr ?_ | refine w_No.mpr ?_ | refine w_lc.mpr ?_ | refine w_true.mpr ?_ | refine w_meth.mpr ?_ | refine w_raise.mpr ?_)
local macro_rules | `(tactic| walk_at "y1") => `(tactic| with_reducible first | refine okG_ok.mpr ?_ | refine okG_ex.mpr ?_ | refine okS_nx.mpr ?_ | refine okS_rt.mpr ?_ | refine okS_bk.mpr ?_ | refine okS_ct.mpr ?_ | refine okS_ex.mpr ?_ | refine putM_int.mpr ?_ | refine putM_bl.mpr ?_ | refine putM_ref.mpr ?_ | refine putM_str.mpr ?_ | refine putM_tup.mpr ?_ | refine putM_ro.mpr ?_ | refine putM_non.mpr ?_ | refine putM_exn.mpr ?_ | refine tbK_bl.mpr ?_ | refine trK_bl.mpr ?_ | refine trK_int.mpr ?_ | refine trK_non.mpr ?_ | refine soK_int.mpr ?_ | refine putM_nm.mpr ?_ | refine iteT ?_ | refine iteF ?_ | refine iteNT ?_ | refine iteNF ?_)
local macro_rules | `(tactic| walk_at "y2") => `(tactic| with_reducible first | refine o_add.mpr ?_ | refine o_mulI.mpr ?_ | refine o_addA.mpr ?_ | refine o_neg.mpr ?_ | refine o_any.mpr ?_ | refine o_eq_int.mpr ?_ | refine o_ne_int.mpr ?_ | refine o_eq_bl.mpr ?_ | refine o_ne_bl.mpr ?_ | refine o_int.mpr ?_ | refine o_int_bl.mpr ?_ | refine o_len_ro.mpr ?_ | refine o_len_tup.mpr ?_ | refine o_len_lst.mpr ?_ | refine oBK_some.mpr ?_ | refine o_eq_str.mpr ?_ | refine o_ne_str.mpr ?_ | refine o_eq_nm.mpr ?_ | refine o_ne_nm.mpr ?_ | refine o_len_nm.mpr ?_ | refine o_sl_nm.mpr ?_ | refine o_sl_tup.mpr ?_ | refine o_sl_ro.mpr ?_ | refine o_sl_lst.mpr ?_ | refine o_tuple_lst.mpr ?_ | refine o_tuple_ro.mpr ?_ | refine o_tuple_tup.mpr ?_ | refine o_list_lst.mpr ?_ | refine o_list_ro.mpr ?_ | refine o_list_tup.mpr ?_ | refine o_is_bl.mpr ?_ | refine o_isnot_bl.mpr ?_ | refine o_inS.mpr ?_ | refine o_notinS.mpr ?_ | refine o_ord.mpr ?_)
local macro_rules | `(tactic| walk_at "y3") => `(tactic| first | ((with_reducible show _ ≤ SZ ∧ _); refine ⟨by first | exact Nat.le_of_ble_eq_true rfl | ((show _ ≤ 16777216); omega), ?_⟩) | ((with_reducible show tyB _ _ _ = true ∧ _); refine ⟨by rfl, ?_⟩) | ((with_reducible show ∃ x, [_] = [x] ∧ _); refine ⟨_, rfl, ?_⟩) | ((with_reducible show srcK _ (nm _) _); refine ⟨_, rfl, ?_⟩) | ((with_reducible show srcK _ (.tup _) _); refine ⟨_, rfl, ?_⟩) | ((with_reducible show srcK _ (.ro _) _); refine ⟨_, rfl, ?_⟩) | ((with_reducible show srcK _ (.lst _) _); refine ⟨_, rfl, ?_⟩) | ((with_reducible refine w_V' ?_); refine ⟨_, rfl, ?_⟩) | ((with_reducible refine o_ix_ref' ?_); refine ⟨_, _, by first | assumption | (apply F.at_; assumption) | rfl, by rfl, ?_⟩) | ((with_reducible refine o_ix_tup' ?_); refine ⟨_, by rfl, ?_⟩) | ((with_reducible refine o_ix_ro' ?_); refine ⟨_, by rfl, ?_⟩) | ((with_reducible refine o_ix_lst' ?_); refine ⟨_, by rfl, ?_⟩) | ((with_reducible refine o_len_ref' ?_); refine ⟨_, by first | assumption | (apply F.at_; assumption) | rfl, ?_⟩) | ((with_reducible refine set_ref' ?_); refine ⟨_, _, by first | assumption | (apply F.at_; assumption) | rfl, by rfl, ?_⟩))
local macro_rules | `(tactic| walk_at "y4") => `(tactic| first | ((with_reducible refine o_mul' ?_); refine ⟨by first | exact cMul_l (by decide) | exact cMul_r (by decide) | exact cMul_l (by omega) | exact cMul_r (by omega), ?_⟩) | ((with_reducible refine o_mod' ?_); refine ⟨by omega, ?_⟩) | ((with_reducible refine o_fdiv' ?_); refine ⟨by omega, ?_⟩) | ((with_reducible refine o_pow' ?_); refine ⟨by decide, ?_⟩))
local macro_rules | `(tactic| walk_at "y5") => `(tactic| ((with_reducible show okG (oIsiB _ _ _) _ _); first | (with_reducible refine isi_int_int.mpr ?_) | (with_reducible refine isi_bool_int.mpr ?_) | (with_reducible refine isi_str_int.mpr ?_) | (with_reducible refine isi_tuple_int.mpr ?_) | (with_reducible refine isi_NoneType_int.mpr ?_) | (with_reducible refine isi_list_int.mpr ?_) | (with_reducible refine isi_int_bool.mpr ?_) | (with_reducible refine isi_bool_bool.mpr ?_) | (with_reducible refine isi_str_bool.mpr ?_) | (with_reducible refine isi_tuple_bool.mpr ?_) | (with_reducible refine isi_NoneType_bool.mpr ?_) | (with_reducible refine isi_list_bool.mpr ?_) | (with_reducible refine isi_int_str.mpr ?_) | (with_reducible refine isi_bool_str.mpr ?_) | (with_reducible refine isi_str_str.mpr ?_) | (with_reducible refine isi_tuple_str.mpr ?_) | (with_reducible refine isi_NoneType_str.mpr ?_) | (with_reducible refine isi_list_str.mpr ?_) | (with_reducible refine isi_int_tuple.mpr ?_) | (with_reducible refine isi_bool_tuple.mpr ?_) | (with_reducible refine isi_str_tuple.mpr ?_) | (with_reducible refine isi_tuple_tuple.mpr ?_) | (with_reducible refine isi_NoneType_tuple.mpr ?_) | (with_reducible refine isi_list_tuple.mpr ?_) | (with_reducible refine isi_int_list.mpr ?_) | (with_reducible refine isi_bool_list.mpr ?_) | (with_reducible refine isi_str_list.mpr ?_) | (with_reducible refine isi_tuple_list.mpr ?_) | (with_reducible refine isi_NoneType_list.mpr ?_) | (with_reducible refine isi_list_list.mpr ?_) | ((with_reducible refine isi_list2_int ?_); refine ⟨_, by first | assumption | (apply F.at_; assumption) | rfl, ?_⟩) | ((with_reducible refine isi_list2_bool ?_); refine ⟨_, by first | assumption | (apply F.at_; assumption) | rfl, ?_⟩) | ((with_reducible refine isi_list2_str ?_); refine ⟨_, by first | assumption | (apply F.at_; assumption) | rfl, ?_⟩) | ((with_reducible refine isi_list2_tuple ?_); refine ⟨_, by first | assumption | (apply F.at_; assumption) | rfl, ?_⟩) | ((with_reducible refine isi_list2_list ?_); refine ⟨_, by first | assumption | (apply F.at_; assumption) | rfl, ?_⟩)))
local macro_rules | `(tactic| walk_at "y6") => `(tactic| with_reducible first | refine o_is_n_int.mpr ?_ | refine o_isnot_n_int.mpr ?_ | refine o_is_n_bl.mpr ?_ | refine o_isnot_n_bl.mpr ?_ | refine o_is_n_str.mpr ?_ | refine o_isnot_n_str.mpr ?_ | refine o_is_n_tup.mpr ?_ | refine o_isnot_n_tup.mpr ?_ | refine o_is_n_non.mpr ?_ | refine o_isnot_n_non.mpr ?_ | refine o_is_n_lst.mpr ?_ | refine o_isnot_n_lst.mpr ?_ | refine o_is_n_ref.mpr ?_ | refine o_isnot_n_ref.mpr ?_ | refine o_is_n_ro.mpr ?_ | refine o_isnot_n_ro.mpr ?_ | refine o_is_n_exn.mpr ?_ | refine o_isnot_n_exn.mpr ?_)
local macro_rules | `(tactic| walk_at "y7") => `(tactic| first | ((with_reducible refine o_sl_ref' ?_); refine ⟨_, by first | assumption | (apply F.at_; assumption) | rfl, ?_⟩) | ((with_reducible refine o_tuple_ref' ?_); refine ⟨_, by first | assumption | (apply F.at_; assumption) | rfl, ?_⟩) | ((with_reducible refine o_list_ref' ?_); refine ⟨_, by first | assumption | (apply F.at_; assumption) | rfl, ?_⟩) | ((with_reducible refine o_add_nm' ?_); refine ⟨by (show _ ≤ 16777216); omega, ?_⟩) | ((with_reducible refine o_addT' ?_); refine ⟨by (show _ ≤ 16777216); omega, ?_⟩) | ((with_reducible refine o_addS' ?_); refine ⟨by (show _ ≤ 16777216); first | omega | (simp only [List.length_cons, List.length_nil, List.length_append, List.length_map, List.length_replicate, List.length_singleton]; omega), ?_⟩) | ((with_reducible refine o_len_str' ?_); refine ⟨by (show _ ≤ 16777216); first | omega | (simp only [List.length_cons, List.length_nil, List.length_append, List.length_map, List.length_replicate, List.length_singleton]; omega), ?_⟩))
local macro_rules | `(tactic| walk_at "y8") => `(tactic| first | ((with_reducible refine eqO_pl ?_); refine ⟨by rfl, ?_⟩) | ((with_reducible refine neO_pl ?_); refine ⟨by rfl, ?_⟩))
local macro_rules | `(tactic| walk_at "y") => `(tactic| first | walk_at "y0" | walk_at "y1" | walk_at "y2" | walk_at "y3" | walk_at "y4" | walk_at "y5" | walk_at "y6" | walk_at "y7" | walk_at "y8")
local macro_rules | `(tactic| walk_at "yz") => `(tactic| repeat walk_at "y")
local macro_rules | `(tactic| walk_at "yi") => `(tactic| with_reducible first | refine iteD ?_ ?_ | refine iteN ?_ ?_ | refine iteI ?_ ?_)
local macro_rules | `(tactic| walk_at "ys") => `(tactic| with_reducible refine w_seq.mpr ?_)
local macro_rules | `(tactic| walk_at "yf") => `(tactic| ((with_reducible first | refine w_ifS.mpr ?_ | refine w_for.mpr ?_); walk_at "yz"; try walk_at "yi"))
local macro_rules | `(tactic| walk_at "yr") => `(tactic| ((with_reducible refine w_rg1 ?_); walk_at "yz"; refine ⟨_, rfl, by omega, ?_⟩))
local macro_rules | `(tactic| walk_at "yr2") => `(tactic| ((with_reducible refine w_rg2 ?_); walk_at "yz"; refine ⟨_, _, rfl, by omega, ?_⟩))

section
variable {Q : PV → PH → Prop} {E : EX} {h t : PH} {i j : Int} {o : Nm} {l : List St} {n z : Nat}
theorem wp_isint {i : Int} (q : Q (.bl true) h) : okG (oCall F__law_is_integer [.int i] h) Q E := by
  refine wp_F__law_is_integer rfl ?_
  show okS (b__law_is_integer [some (.int i)] h) _ _ _ _ _
  unfold b__law_is_integer
  walk_at "zz"
  exact gc_same rfl q
end

section
variable {Q : PV → PH → Prop} {E : EX} {h : PH} {c d lim : Nat} {es : List Ce} {now : Int} {n : Nm} {k : List Nat} {p : Bool}
def Ce.ob (e : Ce) : OB := .ins C_Entry [(A_record_set, rp e.st), (A_rank, .int e.rank), (A_ends, .int e.ends)]
/-- a cache at c, its dict at d -/
structure CA (h : PH) (c d lim : Nat) (es : List Ce) : Prop where
  c : h[c]? = some (.ins C_Cache [(A_limit, .int lim), (A_entries, .ref d)])
  d : h[d]? = some (.dct (es.map Ce.row))
  e : ∀ x ∈ es, h[x.a]? = some (Ce.ob x)
  nd : keyd es
  len : es.length ≤ 100000
  sd : ∀ x ∈ es, x.st.vs.all (sdF 30) = true
theorem CA.ne (A : CA h c d lim es) : c ≠ d := fun z => by
  have h1 := A.c
  rw [z, A.d] at h1
  cases h1
theorem CA.nea (A : CA h c d lim es) {x : Ce} (hx : x ∈ es) : x.a ≠ d := fun z => by
  have h1 := A.e x hx
  rw [z, A.d] at h1
  cases h1
/-- the dict is another one -/
theorem CA.set (A : CA h c d lim es) {fs : List Ce} (s : fs.Sublist es) : CA (h.set d (.dct (fs.map Ce.row))) c d lim fs where
  c := HQ.set.f A.ne A.c
  d := List.getElem?_set_self (get_lt A.d)
  e := fun x hx => HQ.set.f (A.nea (s.subset hx)) (A.e x (s.subset hx))
  nd := A.nd.sub s
  len := Nat.le_trans s.length_le A.len
  sd := fun x hx => A.sd x (s.subset hx)
theorem CA.app (A : CA h c d lim es) {k : PH} (X : HX h k) : CA k c d lim es := ⟨X.f A.c, X.f A.d, fun x hx => X.f (A.e x hx), A.nd, A.len, A.sd⟩
theorem cl_rows {m : Nat} (q : clO m (.dct (es.map Ce.row)) = true) : ∀ x ∈ es, x.a < m := fun x hx => by
  have := List.all_eq_true.mp q x.row (List.mem_map_of_mem hx)
  have := (Bool.and_eq_true_iff.mp this).2
  exact of_decide_eq_true this
theorem CA.take {k : PH} {fs : List Ce} (A0 : CA h c d lim es) (q : HQ d h k) (A : CA k c d lim fs) (z : clO h.length (.dct (fs.map Ce.row)) = true ∨ h[d]? = some (.dct (fs.map Ce.row))) : CA (k.take h.length) c d lim fs := by
  have lt : ∀ x ∈ fs, x.a < h.length := by
    rcases z with z | z
    · exact cl_rows z
    · have e : fs.map Ce.row = es.map Ce.row := by
        have := A0.d
        rw [z] at this
        injection this with this
        injection this
      intro x hx
      have : x.row ∈ es.map Ce.row := e ▸ List.mem_map_of_mem hx
      obtain ⟨y, hy, ey⟩ := List.mem_map.mp this
      have ea : y.a = x.a := PV.ref.inj (congrArg Prod.snd ey)
      rw [← ea]
      exact get_lt (A0.e y hy)
  refine ⟨?_, ?_, fun x hx => ?_, A.nd, A.len, A.sd⟩
  · rw [List.getElem?_take_of_lt (get_lt A0.c)]; exact A.c
  · rw [List.getElem?_take_of_lt (get_lt A0.d)]; exact A.d
  · rw [List.getElem?_take_of_lt (lt x hx)]; exact A.e x hx
/-- the end of a method that changes the cache -/
theorem gc_CA {k : PH} {fs : List Ce} {x : PV} (A0 : CA h c d lim es) (q : HQ d h k) (A : CA k c d lim fs) (hx : clV h.length x = true) (r : ∀ k' : PH, HQ d h k' → CA k' c d lim fs → Q x k') : gcK h Q E x k :=
  gc_HQ q (get_lt A0.d) A.d hx (r k q A) fun z => r _ q.take (A0.take q A z)
theorem wp_csize (A : CA h c d lim es) (q : Q (.int es.length) h) : okG (oCall F_Cache_size [.ref c] h) Q E := by
  refine wp_F_Cache_size rfl ?_
  show okS (b_Cache_size [some (.ref c)] h) _ _ _ _ _
  unfold b_Cache_size
  walk_at "yz"
  refine o_get' ⟨_, _, _, A.c, rfl, rfl, ?_⟩
  walk_at "yz"
  refine o_len_dct A.d ?_
  rw [List.length_map]
  exact gc_same rfl q
theorem ends_eq {i : Int} : now + (if (if (86400 : Int) < i then 86400 else i) > 1 then (if (86400 : Int) < i then 86400 else i) else 1) = endsF now i := by
  unfold endsF
  split <;> split <;> omega
theorem o_mi2 {i j : Int} : okG (oMin2 [.int i, .int j] h) Q E ↔ Q (.int (if j < i then j else i)) h := Iff.rfl
theorem cl_rpS {st : St} (g : st.vs.all (sdF 30) = true) (t : Int) (m : Nat) : clV m (rp ⟨st.n, st.k, t, st.vs⟩) = true := by
  show (clV m (nm st.n) && (true && (true && (clL m st.vs && true)))) = true
  have := clL_map (f := id) (n := m) (l := st.vs) fun a ha => sd_cl (List.all_eq_true.mp g a ha) m
  rw [List.map_id] at this
  rw [clV_nm, this]; rfl
theorem gc_len {k : PH} {x : PV} (hl : k.length = h.length) (hx : clV h.length x = true) (q : Q x k) : gcK h Q E x k := by
  by_cases c : gcC h k
  · unfold gcK gcR
    dsimp only
    rw [if_pos c]
    unfold gcX
    rw [if_pos hx]
    dsimp only
    rw [← hl, List.take_length]
    exact q
  · exact gc_not c q
theorem wp_ends {st : St} (q : Q (.int (endsF now st.t)) h) : okG (oCall F_Cache_ends_of [.ref c, .int now, rp st] h) Q E := by
  refine wp_F_Cache_ends_of rfl ?_
  show okS (b_Cache_ends_of [some (.ref c), some (.int now), some (rp st)] h) _ _ _ _ _
  unfold b_Cache_ends_of
  walk_at "yz"
  refine o_mi2.mpr ?_
  walk_at "yz"
  refine o_max2.mpr ?_
  walk_at "yz"
  rw [ends_eq]
  exact gc_same rfl q
theorem wp_mkE {st : St} {r e : Int} (q : ∀ (k : PH) (a : Nat), HX h k → a = h.length → k[a]? = some (.ins C_Entry [(A_record_set, rp st), (A_rank, .int r), (A_ends, .int e)]) → Q (.ref a) k) : okG (oMk K_Entry [rp st, .int r, .int e] h) Q E := by
  refine o_mk' ?_
  refine wp_F_Entry___init__ rfl ?_
  show okS (b_Entry___init__ [some (.ref h.length), some (rp st), some (.int r), some (.int e)] (h ++ [.ins C_Entry []])) _ _ _ _ _
  unfold b_Entry___init__
  walk_at "yz"
  refine w_put.mpr ?_
  walk_at "yz"
  refine put' ⟨_, _, get_end, rfl, by decide, ?_⟩
  rw [set_end]
  walk_at "yz"
  refine w_put.mpr ?_
  walk_at "yz"
  refine put' ⟨_, _, get_end, rfl, Nat.le_of_ble_eq_true rfl, ?_⟩
  rw [set_end]
  refine w_put.mpr ?_
  walk_at "yz"
  refine put' ⟨_, _, get_end, rfl, Nat.le_of_ble_eq_true rfl, ?_⟩
  rw [set_end]
  exact gc_len (by simp) rfl ⟨rfl, q _ _ .app rfl get_end⟩
/-- one entry of the dict -/
theorem CA.get (A : CA h c d lim es) {e : Ce} (he : es.find? (Ce.is n k p) = some e) : kget (es.map Ce.row) (kqk n k p) = some (.ref e.a) ∧ h[e.a]? = some (Ce.ob e) ∧ e ∈ es := ⟨by rw [kget_ce, he]; rfl, A.e e (List.mem_of_find?_eq_some he), List.mem_of_find?_eq_some he⟩
theorem wp_left (A : CA h c d lim es) (q : Q (oSt (leftF es now n k p)) h) : okG (oCall F_Cache_left [.ref c, .int now, kq n k p] h) Q E := by
  refine wp_F_Cache_left rfl ?_
  show okS (b_Cache_left [some (.ref c), some (.int now), some (kq n k p), none, none, none, none, none] h) _ _ _ _ _
  unfold b_Cache_left
  walk_at "yz"
  refine o_get' ⟨_, _, _, A.c, rfl, rfl, ?_⟩
  refine ⟨tyB_d A.d, ?_⟩
  walk_at "yz"
  refine o_dget' A.d (keyT_kq n k p) ?_
  unfold leftF at q
  cases he : es.find? (Ce.is n k p) with
  | none =>
    rw [he] at q
    rw [kget_ce, he]
    show putM _ .non _
    walk_at "yz"
    refine w_ifS.mpr ?_
    walk_at "yz"
    exact gc_same rfl q
  | some e =>
    rw [he] at q
    obtain ⟨g1, g2, g3⟩ := A.get he
    rw [g1]
    show putM _ (.ref e.a) _
    walk_at "yz"
    refine w_ifS.mpr ?_
    walk_at "yz"
    refine o_get' ⟨_, _, _, g2, rfl, rfl, ?_⟩
    walk_at "yz"
    dsimp only at q
    walk_at "yi"
    · intro cc
      rw [if_neg (by omega)] at q
      walk_at "yz"
      exact gc_same rfl q
    · intro cc
      rw [if_pos (by omega)] at q
      walk_at "yz"
      refine o_get' ⟨_, _, _, g2, rfl, rfl, ?_⟩
      walk_at "yz"
      refine ⟨_, rfl, ?_⟩
      walk_at "yz"
      refine o_get' ⟨_, _, _, g2, rfl, rfl, ?_⟩
      walk_at "yz"
      exact gc_same (cl_rpS (A.sd e g3) _ _) q
theorem oSt_cl {s : Option St} {m : Nat} (g : ∀ x, s = some x → x.vs.all (sdF 30) = true) : clV m (oSt s) = true := by
  cases s with
  | none => rfl
  | some s => exact cl_rpS (st := s) (g s rfl) s.t m
theorem CA.left (A : CA h c d lim es) : ∀ x, leftF es now n k p = some x → x.vs.all (sdF 30) = true := by
  intro x e
  unfold leftF at e
  split at e
  · rename_i y ey
    split at e
    · cases e; exact A.sd y (List.mem_of_find?_eq_some ey)
    · cases e
  · cases e
theorem find_okS (A : CA h c d lim es) {r : Int} (q : Q (oSt (findC es now n k r)) h) : okS (b_Cache_find [some (.ref c), some (.int now), some (nm n), some (.str k), some (.int r), none] h) (fun _ => gcK h Q E .non) (gcK h Q E) (fun _ _ => False) (fun _ _ => False) (fun c p _ k => gcE h E c p k) := by
  unfold b_Cache_find
  walk_at "yz"
  refine o_get' ⟨_, _, _, A.c, rfl, rfl, ?_⟩
  refine ⟨tyB_d A.d, ?_⟩
  walk_at "yz"
  refine o_dget' A.d (keyT_kq n k true) ?_
  unfold findC at q
  cases he : es.find? (Ce.is n k true) with
  | none =>
    rw [he] at q
    rw [kget_ce, he]
    show putM _ .non _
    walk_at "yz"
    refine w_ifS.mpr ?_
    walk_at "yz"
    exact gc_same rfl q
  | some e =>
    rw [he] at q
    obtain ⟨g1, g2, g3⟩ := A.get he
    rw [g1]
    show putM _ (.ref e.a) _
    walk_at "yz"
    refine w_ifS.mpr ?_
    walk_at "yz"
    refine o_get' ⟨_, _, _, g2, rfl, rfl, ?_⟩
    dsimp only at q
    walk_at "yz"
    walk_at "yi"
    · intro cc
      rw [if_pos cc] at q
      walk_at "yz"
      exact gc_same rfl q
    · intro cc
      rw [if_neg cc] at q
      walk_at "yz"
      refine w_met ?_
      walk_at "yz"
      refine ⟨_, metOf_ins A.c rfl rfl, ?_⟩
      walk_at "yz"
      with_reducible refine wp_left A ?_
      exact gc_same (oSt_cl A.left) q
theorem wp_find (A : CA h c d lim es) {r : Int} (q : Q (oSt (findC es now n k r)) h) : okG (oCall F_Cache_find [.ref c, .int now, nm n, .str k, .int r] h) Q E := by
  refine wp_F_Cache_find rfl ?_
  show okS (b_Cache_find [some (.ref c), some (.int now), some (nm n), some (.str k), some (.int r), none] h) _ _ _ _ _
  exact find_okS A q
theorem wp_find1 (A : CA h c d lim es) (q : Q (oSt (findC es now n k 1)) h) : okG (oCall F_Cache_find_d1 [.ref c, .int now, nm n, .str k] h) Q E := by
  refine wp_F_Cache_find_d1 rfl ?_
  show okS (b_Cache_find [some (.ref c), some (.int now), some (nm n), some (.str k), some (.int 1), none] h) _ _ _ _ _
  exact find_okS A q
theorem wp_findn (A : CA h c d lim es) (q : Q (oStB (findN es now n k)) h) : okG (oCall F_Cache_find_negative [.ref c, .int now, nm n, .str k] h) Q E := by
  refine wp_F_Cache_find_negative rfl ?_
  show okS (b_Cache_find_negative [some (.ref c), some (.int now), some (nm n), some (.str k), none, none] h) _ _ _ _ _
  unfold b_Cache_find_negative
  walk_at "yz"
  walk_at "yf"
  refine forL_c trivial rfl ?_
  unfold b_Cache_find_negative_l1
  unfold findN at q
  walk_at "yz"
  refine w_met ?_
  walk_at "yz"
  refine ⟨_, metOf_ins A.c rfl rfl, ?_⟩
  walk_at "yz"
  with_reducible refine wp_left A (p := false) ?_
  cases e1 : leftF es now n [] false with
  | some s =>
    rw [e1] at q
    show putM _ (rp s) _
    walk_at "yz"
    refine w_ifS.mpr ?_
    walk_at "yz"
    exact gc_same (show (clV h.length (rp s) && true) = true by rw [show clV h.length (rp s) = true from cl_rpS (st := s) (A.left s e1) s.t _]; rfl) q
  | none =>
    rw [e1] at q
    show putM _ .non _
    walk_at "yz"
    refine w_ifS.mpr ?_
    walk_at "yz"
    refine forL_c trivial rfl ?_
    walk_at "yz"
    refine w_met ?_
    walk_at "yz"
    refine ⟨_, metOf_ins A.c rfl rfl, ?_⟩
    walk_at "yz"
    with_reducible refine wp_left A (p := false) ?_
    cases e2 : leftF es now n k false with
    | some s =>
      rw [e2] at q
      show putM _ (rp s) _
      walk_at "yz"
      refine w_ifS.mpr ?_
      walk_at "yz"
      exact gc_same (show (clV h.length (rp s) && true) = true by rw [show clV h.length (rp s) = true from cl_rpS (st := s) (A.left s e2) s.t _]; rfl) q
    | none =>
      rw [e2] at q
      show putM _ .non _
      walk_at "yz"
      refine w_ifS.mpr ?_
      walk_at "yz"
      refine forL_n trivial ?_
      walk_at "yz"
      exact gc_same rfl q
theorem find_at {fs gs : List Ce} {x : Ce} (h : keyd (fs ++ x :: gs)) : (fs ++ x :: gs).find? (Ce.is x.n x.k x.p) = some x := find_nd h (by simp)
theorem erase_at {fs gs : List Ce} {x : Ce} (h : keyd (fs ++ x :: gs)) : (fs ++ x :: gs).filter (fun y => !y.is x.n x.k x.p) = fs ++ gs := by
  rw [kqk_nd h (j := fs.length) (by simp)]
  rw [List.eraseIdx_append_of_length_le (Nat.le_refl _), Nat.sub_self, List.eraseIdx_cons_zero]
theorem filter_snoc {α : Type} {f : α → Bool} {l : List α} {x : α} : (l ++ [x]).filter f = l.filter f ++ (if f x then [x] else []) := by
  rw [List.filter_append]
  cases e : f x <;> simp [e]
/-- the least of a list of entries so far -/
def fstV (l : List Ce) (x : PV) : Prop := (l = [] ∧ x = .non) ∨ ∃ (j : Nat) (e : Ce), fmI (l.map Ce.ends) j ∧ l[j]? = some e ∧ x = kq e.n e.k e.p
theorem wp_trim (A : CA h c d lim es) (q : ∀ k : PH, HQ d h k → CA k c d lim (trimE lim now es) → Q .non k) : okG (oCall F_Cache_trim [.ref c, .int now] h) Q E := by
  refine wp_F_Cache_trim rfl ?_
  show okS (b_Cache_trim [some (.ref c), some (.int now), none, none] h) _ _ _ _ _
  unfold b_Cache_trim
  walk_at "yz"
  refine w_ifS.mpr ?_
  walk_at "yz"
  refine o_get' ⟨_, _, _, A.c, rfl, rfl, ?_⟩
  walk_at "yz"
  refine o_len_dct A.d ?_
  rw [List.length_map]
  refine o_get' ⟨_, _, _, A.c, rfl, rfl, ?_⟩
  walk_at "yz"
  walk_at "yi"
  · intro cc
    walk_at "yz"
    refine gc_same rfl (q h .refl ?_)
    unfold trimE
    rw [if_pos (by omega)]
    exact A
  intro cc
  walk_at "yz"
  walk_at "yf"
  refine o_get' ⟨_, _, _, A.c, rfl, rfl, ?_⟩
  walk_at "yz"
  refine o_list_dct A.d ?_
  walk_at "yz"
  dsimp only
  rw [List.map_map]
  refine okForM (f := fun e : Ce => kq e.n e.k e.p) (l := es) (fun l1 e k => (∃ (x2 x3 : Option PV) (l2 : List Ce), e = [some (.ref c), some (.int now), x2, x3] ∧ HQ d h k ∧ es = l1 ++ l2 ∧ CA k c d lim (l1.filter (fun x => decide (now < x.ends)) ++ l2))) (by intro _ _ _ _; exact True.intro) (fun l1 x l2 e k el i => ?_) (fun e k i => ?_) ⟨none, none, es, rfl, .refl, rfl, A⟩
  · obtain ⟨x2, x3, l2', rfl, Hk, el', Ak⟩ := i
    have el2 : l2' = x :: l2 := List.append_cancel_left (el'.symm.trans el)
    subst el2
    refine ⟨_, rfl, ?_⟩
    unfold b_Cache_trim_l3
    obtain ⟨g1, g2, g3⟩ := Ak.get (find_at Ak.nd)
    refine w_ifS.mpr ?_
    walk_at "yz"
    refine o_get' ⟨_, _, _, Ak.c, rfl, rfl, ?_⟩
    walk_at "yz"
    refine o_ix_dct Ak.d (keyT_kq _ _ _) g1 ?_
    refine o_get' ⟨_, _, _, g2, rfl, rfl, ?_⟩
    walk_at "yz"
    walk_at "yi"
    · intro cx
      walk_at "yz"
      refine o_get' ⟨_, _, _, Ak.c, rfl, rfl, ?_⟩
      refine ⟨tyB_d Ak.d, ?_⟩
      walk_at "yz"
      refine o_dpop' Ak.d (keyT_kq _ _ _) g1 ?_
      rw [kdel_ce, erase_at Ak.nd]
      refine ⟨_, _, l2, rfl, Hk.trans .set, by rw [el]; simp, ?_⟩
      rw [filter_snoc, if_neg (by simpa using cx), List.append_nil]
      exact Ak.set (List.Sublist.append_left (List.sublist_cons_self ..) _)
    · intro cx
      walk_at "yz"
      refine ⟨_, _, l2, rfl, Hk, by rw [el]; simp, ?_⟩
      rw [filter_snoc, if_pos (by simpa using cx), List.append_assoc]
      exact Ak
  · obtain ⟨x2, x3, l2', rfl, Hk, el', Ak⟩ := i
    have el2 : l2' = [] := by
      have := congrArg List.length el'
      rw [List.length_append] at this
      exact List.length_eq_zero_iff.mp (by omega)
    subst el2
    rw [List.append_nil] at Ak
    have goal : dropE lim (es.filter (fun x => decide (now < x.ends))).length (es.filter (fun x => decide (now < x.ends))) = trimE lim now es := by
      unfold trimE
      rw [if_neg (by omega)]
      exact (dropE_up (Nat.le_refl _) (List.length_filter_le ..)).symm
    refine okWh (fun m e k => ∃ (x2 x3 : Option PV) (fs : List Ce), e = [some (.ref c), some (.int now), x2, x3] ∧ HQ d h k ∧ CA k c d lim fs ∧ fs.length = m ∧ dropE lim m fs = trimE lim now es) (fun m e k i => ?_) _ _ _ ⟨x2, x3, _, rfl, Hk, Ak, rfl, goal⟩
    obtain ⟨x2, x3, fs, rfl, Hk, Ak, hm, hd⟩ := i
    walk_at "yz"
    refine o_get' ⟨_, _, _, Ak.c, rfl, rfl, ?_⟩
    walk_at "yz"
    refine o_len_dct Ak.d ?_
    rw [List.length_map]
    refine o_get' ⟨_, _, _, Ak.c, rfl, rfl, ?_⟩
    walk_at "yz"
    walk_at "yi"
    rotate_left
    · intro cx
      refine gc_CA A Hk ?_ rfl q
      rw [← hd, dropE_fix (by omega)]
      exact Ak
    intro cx
    obtain ⟨m, rfl⟩ : ∃ i, m = i + 1 := ⟨m - 1, by omega⟩
    have ne : fs ≠ [] := fun z => by rw [z] at hm; cases hm
    unfold b_Cache_trim_w2
    walk_at "yz"
    have dF : ∀ y, (k.set d y)[c]? = some (.ins C_Cache [(A_limit, .int lim), (A_entries, .ref d)]) := fun y => HQ.set.f Ak.ne Ak.c
    refine okForD (mget_eq rfl Ak.c rfl rfl) Ak.d (mget_eq rfl (dF _) rfl rfl) ?_
    rw [List.map_map]
    have frz : (k.set d (.fdc (fs.map Ce.row)))[d]? = some (.fdc (fs.map Ce.row)) := List.getElem?_set_self (get_lt Ak.d)
    refine okForM (f := fun e : Ce => kq e.n e.k e.p) (l := fs) (fun l1 e k' => k' = k.set d (.fdc (fs.map Ce.row)) ∧ ∃ (x2 : Option PV) (x3 : PV), e = [some (.ref c), some (.int now), x2, some x3] ∧ fstV l1 x3) (by intro _ _ _ _; exact True.intro) (fun l1 x l2 e k' el i => ?_) (fun e k' i => ?_) ⟨rfl, x2, .non, rfl, .inl ⟨rfl, rfl⟩⟩
    · obtain ⟨rfl, y2, y3, rfl, hv⟩ := i
      refine ⟨_, rfl, ?_⟩
      unfold b_Cache_trim_l1
      have mx : x ∈ fs := by rw [el]; simp
      have ex := (HQ.set (o := .fdc (fs.map Ce.row))).f (Ak.nea mx) (Ak.e x mx)
      have gx : kget (fs.map Ce.row) (kqk x.n x.k x.p) = some (.ref x.a) := (Ak.get (find_nd Ak.nd mx)).1
      rcases hv with ⟨rfl, rfl⟩ | ⟨j, e0, h1, h2, rfl⟩
      · refine w_ifS.mpr ?_
        walk_at "yz"
        exact ⟨rfl, _, _, rfl, .inr ⟨0, x, fm_one _, rfl, rfl⟩⟩
      · have m0 : e0 ∈ fs := by rw [el]; exact List.mem_append_left _ (List.mem_of_getElem? h2)
        have ex0 := (HQ.set (o := .fdc (fs.map Ce.row))).f (Ak.nea m0) (Ak.e e0 m0)
        have gx0 : kget (fs.map Ce.row) (kqk e0.n e0.k e0.p) = some (.ref e0.a) := (Ak.get (find_nd Ak.nd m0)).1
        refine w_ifS.mpr ?_
        walk_at "yz"
        refine o_get' ⟨_, _, _, dF _, rfl, rfl, ?_⟩
        walk_at "yz"
        refine o_ix_fdc frz (keyT_kq _ _ _) gx ?_
        refine o_get' ⟨_, _, _, ex, rfl, rfl, ?_⟩
        walk_at "yz"
        refine o_get' ⟨_, _, _, dF _, rfl, rfl, ?_⟩
        walk_at "yz"
        refine o_ix_fdc frz (keyT_kq _ _ _) gx0 ?_
        refine o_get' ⟨_, _, _, ex0, rfl, rfl, ?_⟩
        have sn := fm_snoc (x := x.ends) h1 (by rw [List.getElem?_map, h2]; rfl)
        walk_at "yz"
        walk_at "yi"
        · intro cx
          rw [if_pos cx] at sn
          walk_at "yz"
          exact ⟨rfl, _, _, rfl, .inr ⟨l1.length, x, by rw [List.map_append]; rw [List.length_map] at sn; exact sn, by simp, rfl⟩⟩
        · intro cx
          rw [if_neg cx] at sn
          walk_at "yz"
          exact ⟨rfl, _, _, rfl, .inr ⟨j, e0, by rw [List.map_append]; exact sn, by rw [List.getElem?_append_left (List.getElem?_eq_some_iff.mp h2).1]; exact h2, rfl⟩⟩
    · obtain ⟨rfl, y2, y3, rfl, hv⟩ := i
      refine ⟨⟨_, frz⟩, ?_⟩
      rcases hv with ⟨z, _⟩ | ⟨j, e0, h1, h2, rfl⟩
      · exact absurd z ne
      have back : (k.set d (.fdc (fs.map Ce.row))).set d (.dct (fs.map Ce.row)) = k := by
        rw [List.set_set]; exact list_set_same Ak.d
      rw [back]
      have g0 := (Ak.get (find_nd Ak.nd (List.mem_of_getElem? h2))).1
      walk_at "yz"
      refine o_get' ⟨_, _, _, Ak.c, rfl, rfl, ?_⟩
      refine ⟨tyB_d Ak.d, ?_⟩
      walk_at "yz"
      refine o_dpop' Ak.d (keyT_kq _ _ _) g0 ?_
      rw [kdel_ce, kqk_nd Ak.nd h2, ← cutE_of h1]
      refine ⟨m, Nat.lt_succ_self _, _, _, cutE fs, rfl, Hk.trans .set, Ak.set cutE_sub, by have := cutE_len ne; omega, ?_⟩
      rw [← hd]
      unfold dropE
      rw [if_pos (by omega)]
      cases m with
      | zero => rfl
      | succ m => rfl
/-- a new entry -/
theorem CA.new (A : CA h c d lim es) {x : Ce} {k : PH} (X : HX h k) (ha : h.length ≤ x.a) (ex : k[x.a]? = some (Ce.ob x)) (nf : es.find? (Ce.is x.n x.k x.p) = none) (g : x.st.vs.all (sdF 30) = true) (hl : es.length < 100000) : CA (k.set d (.dct ((es ++ [x]).map Ce.row))) c d lim (es ++ [x]) := by
  have nd : x.a ≠ d := fun z => by
    have := get_lt A.d
    omega
  have B := A.app X
  refine ⟨HQ.set.f B.ne B.c, List.getElem?_set_self (get_lt B.d), fun y hy => ?_, A.nd.snoc fun y hy => ?_, by rw [List.length_append, List.length_singleton]; omega, fun y hy => ?_⟩
  · rcases List.mem_append.mp hy with hy | hy
    · exact HQ.set.f (B.nea hy) (B.e y hy)
    · rw [List.mem_singleton.mp hy]; exact HQ.set.f nd ex
  · have := List.find?_eq_none.mp nf y hy
    simpa using this
  · rcases List.mem_append.mp hy with hy | hy
    · exact A.sd y hy
    · rw [List.mem_singleton.mp hy]; exact g
theorem fil_snoc {l1 : List (Nm × List Nat × Bool)} {t : Nm × List Nat × Bool} : es.filter (fun e => !(l1 ++ [t]).any fun t => e.is t.1 t.2.1 t.2.2) = (es.filter fun e => !l1.any fun t => e.is t.1 t.2.1 t.2.2).filter fun e => !e.is t.1 t.2.1 t.2.2 := by
  rw [List.filter_filter]
  refine congrArg (fun f => es.filter f) ?_
  funext e
  rw [List.any_append, Bool.not_or, Bool.and_comm]
  simp
theorem wp_cput (A : CA h c d lim es) {st : St} {rank : Int} (g : st.vs.all (sdF 30) = true) (hl : es.length < 90000) (q : ∀ (k : PH) (a : Nat), HQ d h k → CA k c d lim (putE lim now es st rank a) → Q .non k) : okG (oCall F_Cache_put [.ref c, .int now, rp st, .int rank] h) Q E := by
  refine wp_F_Cache_put rfl ?_
  show okS (b_Cache_put [some (.ref c), some (.int now), some (rp st), some (.int rank), none, none, none, none, none] h) _ _ _ _ _
  unfold b_Cache_put
  walk_at "yz"
  refine ⟨_, rfl, ?_⟩
  walk_at "yz"
  refine o_get' ⟨_, _, _, A.c, rfl, rfl, ?_⟩
  refine ⟨tyB_d A.d, ?_⟩
  walk_at "yz"
  refine o_dget' A.d (keyT_kq st.n st.k true) ?_
  obtain ⟨v, ev⟩ : ∃ v, v = (kget (es.map Ce.row) (kqk st.n st.k true)).getD .non := ⟨_, rfl⟩
  rw [← ev]
  have hv : (es.find? (Ce.is st.n st.k true) = none ∧ v = .non) ∨ ∃ o, es.find? (Ce.is st.n st.k true) = some o ∧ v = .ref o.a := by
    rw [kget_ce] at ev
    cases e : es.find? (Ce.is st.n st.k true) with
    | none => rw [e] at ev; exact .inl ⟨rfl, ev⟩
    | some o => rw [e] at ev; exact .inr ⟨o, rfl, ev⟩
  have pv : ∀ {Q : PV → PH → Prop} {h : PH}, putM Q v h ↔ Q v h := fun {Q h} => by
    rcases hv with ⟨_, rfl⟩ | ⟨o, _, rfl⟩ <;> exact Iff.rfl
  refine pv.mpr ?_
  walk_at "ys"
  refine okS_mid (fun e k => e = [some (.ref c), some (.int now), some (rp st), some (.int rank), some (nm st.n), some (.str st.k), some (kq st.n st.k true), some v, none] ∧ k = h ∧ hidden es now st rank = false) ?_ fun e k ⟨e1, e2, hid⟩ => ?_
  · rcases hv with ⟨e, rfl⟩ | ⟨o, e, rfl⟩
    · refine w_ifS.mpr ?_
      walk_at "yz"
      exact ⟨rfl, rfl, by unfold hidden; rw [e]⟩
    · obtain ⟨g1, g2, g3⟩ := A.get e
      have hh : hidden es now st rank = (decide (now < o.ends) && decide (rank < o.rank)) := by unfold hidden; rw [e]
      refine w_ifS.mpr ?_
      walk_at "yz"
      refine o_get' ⟨_, _, _, g2, rfl, rfl, ?_⟩
      walk_at "yz"
      walk_at "yi"
      · intro c1
        walk_at "yz"
        refine o_get' ⟨_, _, _, g2, rfl, rfl, ?_⟩
        walk_at "yz"
        walk_at "yi"
        · intro c2
          walk_at "yz"
          refine gc_same rfl (q h 0 .refl ?_)
          unfold putE
          rw [if_pos (by rw [hh, decide_eq_true (by omega), decide_eq_true (by omega)]; rfl)]
          exact A
        · intro c2
          walk_at "yz"
          exact ⟨rfl, rfl, by rw [hh, decide_eq_false (p := rank < o.rank) (by omega), Bool.and_false]⟩
      · intro c1
        walk_at "yz"
        exact ⟨rfl, rfl, by rw [hh, decide_eq_false (p := now < o.ends) (by omega), Bool.false_and]⟩
  subst e1 e2
  walk_at "yz"
  walk_at "yf"
  refine okForM (f := fun t : Nm × List Nat × Bool => kq t.1 t.2.1 t.2.2) (l := [(st.n, st.k, true), (st.n, st.k, false), (st.n, [], false)]) (fun l1 e k' => ∃ x8 : Option PV, e = [some (.ref c), some (.int now), some (rp st), some (.int rank), some (nm st.n), some (.str st.k), some (kq st.n st.k true), some v, x8] ∧ HQ d k k' ∧ CA k' c d lim (es.filter fun e => !l1.any fun t => e.is t.1 t.2.1 t.2.2)) (by intro _ _ _ _; exact True.intro) (fun l1 t l2 e k' el i => ?_) (fun e k' i => ?_) ⟨none, rfl, .refl, by rw [List.filter_eq_self.mpr (by simp)]; exact A⟩
  · obtain ⟨x8, rfl, Hk, Ak⟩ := i
    refine ⟨_, rfl, ?_⟩
    unfold b_Cache_put_l1
    refine w_ifS.mpr ?_
    walk_at "yz"
    refine o_get' ⟨_, _, _, Ak.c, rfl, rfl, ?_⟩
    refine o_in_dct Ak.d (keyT_kq _ _ _) ?_
    rw [fil_snoc]
    cases e : (es.filter fun e => !l1.any fun t => e.is t.1 t.2.1 t.2.2).find? (Ce.is t.1 t.2.1 t.2.2) with
    | none =>
      rw [kget_ce, e, Option.map_none, Option.isSome_none]
      walk_at "yz"
      refine ⟨_, rfl, Hk, ?_⟩
      rw [List.filter_eq_self.mpr fun y hy => by
        have := List.find?_eq_none.mp e y hy
        simpa using this]
      exact Ak
    | some x =>
      have g1 := (Ak.get e).1
      rw [g1, Option.isSome_some]
      walk_at "yz"
      refine o_get' ⟨_, _, _, Ak.c, rfl, rfl, ?_⟩
      refine ⟨tyB_d Ak.d, ?_⟩
      walk_at "yz"
      refine o_dpop' Ak.d (keyT_kq _ _ _) g1 ?_
      rw [kdel_ce]
      exact ⟨_, rfl, Hk.trans .set, Ak.set List.filter_sublist⟩
  · obtain ⟨x8, rfl, Hk, Ak⟩ := i
    have eb : (es.filter fun e => ![(st.n, st.k, true), (st.n, st.k, false), (st.n, [], false)].any fun t => e.is t.1 t.2.1 t.2.2) = putB es st := by
      unfold putB
      refine congrArg (fun f => es.filter f) ?_
      funext e
      simp [List.any_cons, Bool.or_assoc]
    rw [eb] at Ak
    have lb : (putB es st).length ≤ es.length := List.length_filter_le ..
    have nb : (putB es st).find? (Ce.is st.n st.k true) = none := List.find?_eq_none.mpr fun y hy => by
      have := (List.mem_filter.mp hy).2
      revert this
      cases y.is st.n st.k true <;> simp
    walk_at "yz"
    refine w_met ?_
    walk_at "yz"
    refine ⟨_, metOf_ins Ak.c rfl rfl, ?_⟩
    walk_at "yz"
    with_reducible refine wp_ends ?_
    walk_at "yz"
    with_reducible refine wp_mkE fun k2 a X2 ea e2 => ?_
    walk_at "yz"
    have A2 := Ak.app X2
    refine o_get' ⟨_, _, _, A2.c, rfl, rfl, ?_⟩
    walk_at "yz"
    refine set_dctP A2.d (keyT_kq _ _ _) (by rw [List.length_map]; omega) ?_
    rw [kput_ce nb]
    have A3 := Ak.new (x := ⟨st.n, st.k, true, st, rank, endsF now st.t, a⟩) X2 (by dsimp only; omega) e2 nb g (by omega)
    rw [List.map_append] at A3
    have A3 : CA (k2.set d (.dct ((putB es st).map Ce.row ++ [(kq st.n st.k true, .ref a)]))) c d lim (putB es st ++ [⟨st.n, st.k, true, st, rank, endsF now st.t, a⟩]) := A3
    walk_at "yz"
    refine w_met ?_
    walk_at "yz"
    refine ⟨_, metOf_ins A3.c rfl rfl, ?_⟩
    walk_at "yz"
    with_reducible refine wp_trim A3 fun k4 H4 A4 => ?_
    refine gc_CA A (((Hk.trans (.of X2)).trans .set).trans H4) A4 rfl fun k5 H5 A5 => q k5 a H5 ?_
    unfold putE
    rw [if_neg (by rw [hid]; simp)]
    exact A5
/-- what stands for no kind -/
def okN (k : List Nat) : PV := if k = [] then .non else .str k
theorem wp_cneg (A : CA h c d lim es) {st : St} (g : st.vs.all (sdF 30) = true) (hl : es.length < 90000) {kv : PV} (hk : (kv = .non ∧ k = []) ∨ kv = .str k) (q : ∀ (k' : PH) (a : Nat), HQ d h k' → CA k' c d lim (negE lim now es n k st a) → Q .non k') : okG (oCall F_Cache_put_negative [.ref c, .int now, nm n, kv, rp st] h) Q E := by
  refine wp_F_Cache_put_negative rfl ?_
  show okS (b_Cache_put_negative [some (.ref c), some (.int now), some (nm n), some kv, some (rp st), none] h) _ _ _ _ _
  unfold b_Cache_put_negative
  walk_at "ys"
  refine okS_mid (fun e k' => e = [some (.ref c), some (.int now), some (nm n), some kv, some (rp st), some (kq n k false)] ∧ k' = h) ?_ fun e k' ⟨e1, e2⟩ => ?_
  · rcases hk with ⟨rfl, rfl⟩ | rfl
    · walk_at "yz"
      exact ⟨rfl, rfl⟩
    · walk_at "yz"
      exact ⟨rfl, rfl⟩
  subst e1 e2
  walk_at "ys"
  refine okS_mid (fun e k2 => e = [some (.ref c), some (.int now), some (nm n), some kv, some (rp st), some (kq n k false)] ∧ HQ d k' k2 ∧ CA k2 c d lim (es.filter fun e => !e.is n k false)) ?_ fun e k2 ⟨e1, Hk, Ak⟩ => ?_
  · refine w_ifS.mpr ?_
    walk_at "yz"
    refine o_get' ⟨_, _, _, A.c, rfl, rfl, ?_⟩
    refine o_in_dct A.d (keyT_kq _ _ _) ?_
    cases e : es.find? (Ce.is n k false) with
    | none =>
      rw [kget_ce, e, Option.map_none, Option.isSome_none]
      walk_at "yz"
      refine ⟨rfl, .refl, ?_⟩
      rw [List.filter_eq_self.mpr fun y hy => by
        have := List.find?_eq_none.mp e y hy
        simpa using this]
      exact A
    | some x =>
      have g1 := (A.get e).1
      rw [g1, Option.isSome_some]
      walk_at "yz"
      refine o_get' ⟨_, _, _, A.c, rfl, rfl, ?_⟩
      refine ⟨tyB_d A.d, ?_⟩
      walk_at "yz"
      refine o_dpop' A.d (keyT_kq _ _ _) g1 ?_
      rw [kdel_ce]
      exact ⟨rfl, .set, A.set List.filter_sublist⟩
  subst e1
  have lb : (es.filter fun e => !e.is n k false).length ≤ es.length := List.length_filter_le ..
  have nb : (es.filter fun e => !e.is n k false).find? (Ce.is n k false) = none := List.find?_eq_none.mpr fun y hy => by
    have := (List.mem_filter.mp hy).2
    simpa using this
  walk_at "yz"
  refine w_met ?_
  walk_at "yz"
  refine ⟨_, metOf_ins Ak.c rfl rfl, ?_⟩
  walk_at "yz"
  with_reducible refine wp_ends ?_
  walk_at "yz"
  with_reducible refine wp_mkE fun k3 a X2 ea e2 => ?_
  walk_at "yz"
  have A2 := Ak.app X2
  refine o_get' ⟨_, _, _, A2.c, rfl, rfl, ?_⟩
  walk_at "yz"
  refine set_dctP A2.d (keyT_kq _ _ _) (by rw [List.length_map]; omega) ?_
  rw [kput_ce nb]
  have A3 := Ak.new (x := ⟨n, k, false, st, 0, endsF now st.t, a⟩) X2 (by dsimp only; omega) e2 nb g (by omega)
  rw [List.map_append] at A3
  have A3 : CA (k3.set d (.dct ((es.filter fun e => !e.is n k false).map Ce.row ++ [(kq n k false, .ref a)]))) c d lim ((es.filter fun e => !e.is n k false) ++ [⟨n, k, false, st, 0, endsF now st.t, a⟩]) := A3
  walk_at "yz"
  refine w_met ?_
  walk_at "yz"
  refine ⟨_, metOf_ins A3.c rfl rfl, ?_⟩
  walk_at "yz"
  with_reducible refine wp_trim A3 fun k4 H4 A4 => ?_
  exact gc_CA A (((Hk.trans (.of X2)).trans .set).trans H4) A4 rfl fun k5 H5 A5 => q k5 a H5 A5
/-- a new cache -/
theorem wp_cinit {lm : Nat} (q : ∀ (k : PH) (c d : Nat), HX h k → CA k c d lm [] → h.length ≤ c → h.length ≤ d → Q (.ref c) k) : okG (oMk K_Cache [.int lm] h) Q E := by
  refine o_mk' ?_
  refine wp_F_Cache___init__ rfl ?_
  show okS (b_Cache___init__ [some (.ref h.length), some (.int lm)] (h ++ [.ins C_Cache []])) _ _ _ _ _
  unfold b_Cache___init__
  walk_at "yz"
  refine w_put.mpr ?_
  walk_at "yz"
  refine put' ⟨_, _, get_end, rfl, by decide, ?_⟩
  rw [set_end]
  walk_at "yz"
  refine w_put.mpr ?_
  refine w_dnew.mpr ?_
  walk_at "yz"
  rw [List.append_assoc]
  refine put' ⟨_, _, get_end, rfl, Nat.le_of_ble_eq_true rfl, ?_⟩
  rw [List.singleton_append, set_end]
  have e1 : (h ++ [OB.ins C_Cache (putN A_limit (PV.int lm) [])]).length = h.length + 1 := by rw [List.length_append]; rfl
  rw [e1]
  have X : HX (h ++ [OB.ins C_Cache []]) (h ++ [OB.ins C_Cache []]) := .refl
  refine gc_not (fun c => ?_) ⟨rfl, ?_⟩
  · have := c.2 h.length (by rw [List.length_append]; exact Nat.lt_succ_self _)
    rcases this with z | ⟨u, z, zc⟩
    · rw [get_end, get_end] at z
      cases z
    · rw [get_end] at z
      cases z
      rw [List.length_append] at zc
      have zc : (true && (decide (h.length + 1 < h.length + 1) && true)) = true := zc
      rw [decide_eq_false (by omega)] at zc
      cases zc
  · refine q _ h.length (h.length + 1) .app ⟨get_end, ?_, by simp, List.nodup_nil, Nat.zero_le _, by simp⟩ (Nat.le_refl _) (Nat.le_succ _)
    rw [List.getElem?_append_right (by omega), Nat.add_sub_cancel_left]; rfl
/-! the cache behind a law's state -/
def CT (T : PH) (c d lim : Nat) (es : List Ce) : Prop := ∀ s, CA (SH s T) c d lim es
theorem CT.on {T : PH} (A : CT T c d lim es) (s : Sd) : CA (SH s T) c d lim es := A s
theorem CT.of {T : PH} {s : Sd} (A : CA (SH s T) c d lim es) : CT T c d lim es := by
  have z : ∀ {r : Nat} {x : OB}, (∀ xs, x ≠ .lst xs) → (SH s T)[r]? = some x → F T r x := fun {r x} hx e => by
    refine F.ofS e ?_
    cases r with
    | zero =>
      have : (SH s T)[0]? = some (.lst [.int s.1.1, .int s.1.2]) := rfl
      rw [this] at e
      exact absurd (Option.some.inj e).symm (hx _)
    | succ r => omega
  intro s'
  exact ⟨z (by simp) A.c s', z (by simp) A.d s', fun x hx => z (by unfold Ce.ob; simp) (A.e x hx) s', A.nd, A.len, A.sd⟩
theorem CT.up {T T' : PH} (X : TX T T') (A : CT T c d lim es) : CT T' c d lim es := by
  have f1 : F T c _ := fun s => (A s).c
  have f2 : F T d _ := fun s => (A s).d
  have f3 : ∀ x ∈ es, F T x.a (Ce.ob x) := fun x hx s => (A s).e x hx
  intro s
  exact ⟨X.f f1 s, X.f f2 s, fun x hx => X.f (f3 x hx) s, (A s).nd, (A s).len, (A s).sd⟩
theorem CT.hq {T k : PH} {s : Sd} {fs : List Ce} (A : CT T c d lim es) (H : HQ d (SH s T) k) (B : CA k c d lim fs) : ∃ T', k = SH s T' ∧ TQ d T T' ∧ CT T' c d lim fs := by
  have hd : d ≠ 0 := fun z => by
    subst z
    have := (A s).d
    have e : (SH s T)[0]? = some (.lst [.int s.1.1, .int s.1.2]) := rfl
    rw [e] at this
    cases this
  have e0 : k[0]? = some (.lst [.int s.1.1, .int s.1.2]) := H.f (Ne.symm hd) rfl
  cases k with
  | nil => cases e0
  | cons x T' =>
    have ex : x = .lst [.int s.1.1, .int s.1.2] := by simpa using e0
    subst ex
    refine ⟨T', rfl, ⟨fun {r' x} hne f => ?_, ?_⟩, CT.of (s := s) B⟩
    · refine F.ofS (s := s) (H.f hne (f s)) ?_
      obtain ⟨m, rfl, _⟩ := f.ne0
      omega
    · have := H.le
      simp only [SH, List.length_cons] at this
      omega
end

section
variable {Q : PV → PH → Prop} {E : EX} {h : PH} {T : PH} {s : Sd} {ns : List Int} {c d r lim : Nat} {es : List Ce} {now : Int} {n : Nm} {k : List Nat} {p : Bool}
abbrev pI (p : Bool) : Int := if p = true then 1 else 0
abbrev lkey (n : Nm) (k : List Nat) (p : Bool) : PV := .tup [nm n, .str k, .int (pI p)]
abbrev lrow (e : Ce) : PV := .tup [lkey e.n e.k e.p, rp e.st, .int e.rank, .int e.ends]
theorem lkey_inj {m : Nm} {l : List Nat} {q : Bool} : lkey n k p = lkey m l q ↔ n = m ∧ k = l ∧ p = q := by
  unfold lkey
  rw [PV.tup.injEq, List.cons.injEq, List.cons.injEq, List.cons.injEq, nm_inj, PV.str.injEq, PV.int.injEq]
  constructor
  · rintro ⟨h1, h2, h3, _⟩
    refine ⟨h1, h2, ?_⟩
    revert h3
    cases p <;> cases q <;> simp [pI]
  · rintro ⟨rfl, rfl, rfl⟩; exact ⟨rfl, rfl, rfl, rfl⟩
theorem pd_lkey : pd 50 (lkey n k p) = true := by
  show (pd 49 (nm n) && (true && (true && true))) = true
  rw [pd_nm]; rfl
theorem is_lkey {e : Ce} : (lkey e.n e.k e.p = lkey n k p) ↔ e.is n k p = true := by
  rw [lkey_inj, Ce.is, decide_eq_true_iff]
theorem cl_lrow {e : Ce} {m : Nat} (g : e.st.vs.all (sdF 30) = true) : clV m (lrow e) = true := by
  show ((clV m (nm e.n) && (true && (true && true))) && (clV m (rp e.st) && (true && (true && true)))) = true
  rw [clV_nm, show clV m (rp e.st) = true from cl_rpS (st := e.st) g e.st.t m]; rfl
theorem cl_lrows {m : Nat} (g : ∀ x ∈ es, x.st.vs.all (sdF 30) = true) : clL m (es.map lrow) = true := clL_map fun x hx => cl_lrow (g x hx)
theorem wp_lremove (er : h[r]? = some (.lst (es.map lrow))) (g : ∀ x ∈ es, x.st.vs.all (sdF 30) = true) (q : Q (.lst ((es.filter fun e => !e.is n k p).map lrow)) h) : okG (oCall F__law_remove [.ref r, lkey n k p] h) Q E := by
  refine wp_F__law_remove rfl ?_
  show okS (b__law_remove [some (.ref r), some (lkey n k p), none] h) _ _ _ _ _
  unfold b__law_remove
  walk_at "yz"
  refine src_ref er fun src es' g0 gk => ?_
  rw [es']
  refine filt_lc (c := fun e : Ce => !e.is n k p) (p := lrow) g0 (fun x hx => ⟨_, rfl, ?_, fun hc => ?_⟩) ?_
  · walk_at "yz"
    refine o_neD pd_lkey pd_lkey fun b hb => ?_
    walk_at "yz"
    refine ⟨?_, rfl⟩
    rw [is_lkey] at hb
    rw [Bool.eq_iff_iff.mpr hb]
  · walk_at "yz"
    exact ⟨rfl, rfl⟩
  · exact gc_same (show clL h.length _ = true from cl_lrows fun x hx => g x (List.mem_filter.mp hx).1) q
def oCe : Option Ce → PV
  | none => .non
  | some e => lrow e
theorem wp_lentry (er : h[r]? = some (.lst (es.map lrow))) (g : ∀ x ∈ es, x.st.vs.all (sdF 30) = true) (q : Q (oCe (es.find? (Ce.is n k p))) h) : okG (oCall F__law_entry [.ref r, lkey n k p] h) Q E := by
  refine wp_F__law_entry rfl ?_
  show okS (b__law_entry [some (.ref r), some (lkey n k p), none] h) _ _ _ _ _
  unfold b__law_entry
  walk_at "yz"
  walk_at "yf"
  refine src_ref er fun src es' g0 gk => ?_
  rw [es']
  refine okForM (f := lrow) (l := es) (fun l1 e k' => k' = h ∧ (∃ x : Option PV, e = [some (.ref r), some (lkey n k p), x]) ∧ ∀ x ∈ l1, x.is n k p = false) (fun _ _ _ i => by rw [i.1]; exact g0) (fun l1 x l2 e k' el i => ?_) (fun e k' i => ?_) ⟨rfl, ⟨none, rfl⟩, by simp⟩
  · obtain ⟨rfl, ⟨y, rfl⟩, hn⟩ := i
    refine ⟨_, rfl, ?_⟩
    unfold b__law_entry_l1
    refine w_ifS.mpr ?_
    walk_at "yz"
    refine o_eqD pd_lkey pd_lkey fun b hb => ?_
    rw [is_lkey] at hb
    cases b with
    | true =>
      walk_at "yz"
      have e1 : es.find? (Ce.is n k p) = some x := by
        rw [el, List.find?_append, List.find?_eq_none.mpr (fun y hy => by rw [hn y hy]; simp)]
        rw [List.find?_cons_of_pos (hb.mp rfl)]; rfl
      rw [e1] at q
      exact gc_same (cl_lrow (g x (by rw [el]; simp))) q
    | false =>
      walk_at "yz"
      refine ⟨rfl, ⟨_, rfl⟩, fun y hy => ?_⟩
      rcases List.mem_append.mp hy with hy | hy
      · exact hn y hy
      · rw [List.mem_singleton.mp hy]
        cases e : x.is n k p with
        | false => rfl
        | true => exact absurd (hb.mpr e) (by simp)
  · obtain ⟨rfl, ⟨y, rfl⟩, hn⟩ := i
    rw [List.find?_eq_none.mpr (fun y hy => by rw [hn y hy]; simp)] at q
    walk_at "yz"
    exact gc_same rfl q
def leftO (now : Int) : Option Ce → Option St
  | none => none
  | some e => if now < e.ends then some ⟨e.st.n, e.st.k, e.ends - now, e.st.vs⟩ else none
theorem leftO_eq : leftO now (es.find? (Ce.is n k p)) = leftF es now n k p := by
  unfold leftO leftF
  cases es.find? (Ce.is n k p) <;> rfl
theorem wp_lleft {o : Option Ce} (g : ∀ x, o = some x → x.st.vs.all (sdF 30) = true) (q : Q (oSt (leftO now o)) h) : okG (oCall F__law_left [oCe o, .int now] h) Q E := by
  refine wp_F__law_left rfl ?_
  cases o with
  | none =>
    show okS (b__law_left [some .non, some (.int now)] h) _ _ _ _ _
    unfold b__law_left
    walk_at "ys"
    refine w_ifS.mpr ?_
    walk_at "yz"
    exact gc_same rfl q
  | some e =>
    show okS (b__law_left [some (lrow e), some (.int now)] h) _ _ _ _ _
    unfold b__law_left
    walk_at "ys"
    refine w_ifS.mpr ?_
    walk_at "yz"
    unfold leftO at q
    dsimp only at q
    walk_at "yi"
    · intro cc
      rw [if_neg (by omega)] at q
      walk_at "yz"
      exact gc_same rfl q
    · intro cc
      rw [if_pos (by omega)] at q
      walk_at "yz"
      exact gc_same (cl_rpS (g e rfl) _ _) q
theorem intsV_mapE {α : Type} {f : α → Int} : ∀ {l : List α}, intsV (l.map fun x => .int (f x)) = some (l.map f)
  | [] => rfl
  | x :: l => by
    show (intsV (l.map fun x => .int (f x))).map (f x :: ·) = _
    rw [intsV_mapE]; rfl
theorem leastI_ok {l : List Int} {v : Int} (e : leastI l = some v) : v ∈ l ∧ ∀ w ∈ l, v ≤ w := by
  cases l with
  | nil => cases e
  | cons x l =>
    have e : l.foldl (fun a b => if b < a then b else a) x = v := Option.some.inj e
    have key : ∀ (l : List Int) (a : Int), ((l.foldl (fun a b => if b < a then b else a) a) = a ∨ (l.foldl (fun a b => if b < a then b else a) a) ∈ l) ∧ (l.foldl (fun a b => if b < a then b else a) a) ≤ a ∧ ∀ w ∈ l, (l.foldl (fun a b => if b < a then b else a) a) ≤ w := by
      intro l
      induction l with
      | nil => intro a; exact ⟨.inl rfl, Int.le_refl _, by simp⟩
      | cons b l ih =>
        intro a
        rw [List.foldl_cons]
        obtain ⟨h1, h2, h3⟩ := ih (if b < a then b else a)
        by_cases c : b < a
        · rw [if_pos c] at h1 h2 h3 ⊢
          refine ⟨.inr (h1.elim (fun e => by rw [e]; exact List.mem_cons_self ..) (List.mem_cons_of_mem _)), by omega, fun w hw => ?_⟩
          rcases List.mem_cons.mp hw with e | hw
          · rw [e]; exact h2
          · exact h3 w hw
        · rw [if_neg c] at h1 h2 h3 ⊢
          refine ⟨h1.imp id (List.mem_cons_of_mem _), h2, fun w hw => ?_⟩
          rcases List.mem_cons.mp hw with e | hw
          · rw [e]; omega
          · exact h3 w hw
    obtain ⟨h1, h2, h3⟩ := key l x
    rw [e] at h1 h2 h3
    refine ⟨?_, fun w hw => ?_⟩
    · rcases h1 with h1 | h1
      · rw [h1]; exact List.mem_cons_self ..
      · exact List.mem_cons_of_mem _ h1
    · rcases List.mem_cons.mp hw with e | hw
      · rw [e]; exact h2
      · exact h3 w hw
theorem o_minI {i : Int} (e : leastI (es.map Ce.ends) = some i) (q : Q (.int i) h) : okG (oMinL [.lst (es.map fun e => .int e.ends)] h) Q E := by
  unfold oMinL oOn seqV
  dsimp only
  rw [intsV_mapE (f := Ce.ends), Option.bind_some, e]; exact q
theorem wp_ltrim (er : h[r]? = some (.lst (es.map lrow))) (g : ∀ x ∈ es, x.st.vs.all (sdF 30) = true) (hl : es.length ≤ 1000000) (q1 : es.length ≤ lim → Q (.ref r) h) (q2 : lim < es.length → Q (.lst ((trimE lim now es).map lrow)) h) : okG (oCall F__law_trimmed [.ref r, .int lim, .int now] h) Q E := by
  have hr := get_lt er
  refine wp_F__law_trimmed rfl ?_
  show okS (b__law_trimmed [some (.ref r), some (.int lim), some (.int now), none, none, none] h) _ _ _ _ _
  unfold b__law_trimmed
  walk_at "ys"
  refine w_ifS.mpr ?_
  walk_at "yz"
  rw [List.length_map]
  walk_at "yi"
  rotate_left
  · intro cc
    walk_at "yz"
    refine okWh (fun m e k => e = [some (.ref r), some (.int lim), some (.int now), none, none, none] ∧ k = h) (fun m e k i => ?_) 0 _ _ ⟨rfl, rfl⟩
    obtain ⟨rfl, rfl⟩ := i
    walk_at "yz"
    rw [List.length_map]
    walk_at "yi"
    · intro c2; exact absurd c2 cc
    · intro c2
      walk_at "yz"
      exact gc_same (decide_eq_true hr) (q1 (by omega))
  intro cc
  walk_at "yz"
  refine src_ref er fun src es' g0 gk => ?_
  rw [es']
  refine filt_lc (c := fun e : Ce => decide (now < e.ends)) (p := lrow) g0 (fun x hx => ⟨_, rfl, ?_, fun hc => ?_⟩) ?_
  · walk_at "yz"
    exact ⟨rfl, rfl⟩
  · walk_at "yz"
    exact ⟨rfl, rfl⟩
  refine new_H fun k1 r1 X1 f1 l1 => ?_
  walk_at "yz"
  have goal : dropE lim (es.filter (fun x => decide (now < x.ends))).length (es.filter (fun x => decide (now < x.ends))) = trimE lim now es := by
    unfold trimE
    rw [if_neg (by omega)]
    exact (dropE_up (Nat.le_refl _) (List.length_filter_le ..)).symm
  refine okWh (fun m e k => ∃ (r : Nat) (x3 x4 x5 : Option PV) (fs : List Ce), e = [some (.ref r), some (.int lim), some (.int now), x3, x4, x5] ∧ HX h k ∧ h.length ≤ r ∧ k[r]? = some (.lst (fs.map lrow)) ∧ fs.Sublist es ∧ fs.length = m ∧ dropE lim m fs = trimE lim now es) (fun m e k i => ?_) _ _ _ ⟨r1, none, none, none, _, rfl, X1, l1, f1, List.filter_sublist, rfl, goal⟩
  obtain ⟨r2, x3, x4, x5, fs, rfl, X, hr2, e2, sub, hm, hd⟩ := i
  have lfs : fs.length ≤ es.length := sub.length_le
  walk_at "yz"
  rw [List.length_map]
  walk_at "yi"
  rotate_left
  · intro cx
    walk_at "yz"
    rw [dropE_fix (by omega)] at hd
    subst hd
    exact gc_XL X e2 hr2 (cl_lrows fun x hx => g x (sub.subset hx)) (q2 (by omega))
  intro cx
  obtain ⟨m, rfl⟩ : ∃ i, m = i + 1 := ⟨m - 1, by omega⟩
  have ne : fs ≠ [] := fun z => by rw [z] at hm; cases hm
  unfold b__law_trimmed_w1
  walk_at "yz"
  refine src_ref e2 fun src es2 g2 gk2 => ?_
  rw [es2]
  refine okLcS (f := lrow) (p := fun e : Ce => .int e.ends) (l := fs) g2 (fun x hx => ⟨_, rfl, ?_⟩) ?_
  · walk_at "yz"
    exact ⟨rfl, rfl⟩
  obtain ⟨v, hv⟩ := leastI_some (l := fs.map Ce.ends) (by simpa using ne)
  obtain ⟨v1, v2⟩ := leastI_ok hv
  walk_at "yz"
  refine o_minI hv ?_
  walk_at "yz"
  refine src_ref e2 fun src es3 g3 gk3 => ?_
  rw [es3]
  refine okLcS (f := lrow) (p := fun e : Ce => .int e.ends) (l := fs) g3 (fun x hx => ⟨_, rfl, ?_⟩) ?_
  · walk_at "yz"
    exact ⟨rfl, rfl⟩
  walk_at "yz"
  have em : (fs.map fun e : Ce => PV.int e.ends) = (fs.map Ce.ends).map PV.int := by rw [List.map_map]; rfl
  refine o_idxD (ys := fs.map fun e : Ce => PV.int e.ends) rfl rfl (fun z hz => by
    obtain ⟨x, _, rfl⟩ := List.mem_map.mp hz; rfl) (by rw [em]; exact List.mem_map_of_mem v1) fun j hj ej nj => ?_
  rw [List.length_map] at hj
  have fm : fmI (fs.map Ce.ends) j := by
    refine ⟨v, ?_, v2, fun i w hi hw => ?_⟩
    · rw [List.getElem?_map, List.getElem?_eq_getElem hj]
      rw [List.getElem_map] at ej
      have := PV.int.inj ej
      rw [Option.map_some, this]
    · have hi2 : i < fs.length := by omega
      rw [List.getElem?_map, List.getElem?_eq_getElem hi2, Option.map_some] at hw
      have h1 := v2 w (List.mem_of_getElem? (i := i) (by rw [List.getElem?_map, List.getElem?_eq_getElem hi2]; exact hw))
      have h2 := nj i hi
      rw [List.getElem_map] at h2
      have hw := Option.some.inj hw
      have : w ≠ v := fun z => h2 (by rw [hw, z])
      omega
  walk_at "yz"
  rw [cut_to]
  have e1 : (j : Int) + 1 = ((j + 1 : Nat) : Int) := by omega
  rw [e1]
  rw [cut_from]
  refine o_addLL' ⟨by show _ ≤ 16777216; rw [List.length_take, List.length_drop, List.length_map]; omega, ?_⟩
  have ee : (fs.map lrow).take j ++ (fs.map lrow).drop (j + 1) = (cutE fs).map lrow := by
    rw [cutE_of fm, List.eraseIdx_eq_take_drop_succ, List.map_append, List.map_take, List.map_drop]
  rw [ee]
  refine new_H fun k3 r3 X3 f3 l3 => ?_
  have lk : h.length ≤ k.length := X.le
  refine ⟨m, Nat.lt_succ_self _, r3, _, _, _, cutE fs, rfl, X.trans X3, by omega, f3, cutE_sub.trans sub, by have := cutE_len ne; omega, ?_⟩
  rw [← hd]
  conv => rhs; unfold dropE
  rw [if_pos (by omega)]
/-- rank of what stands -/
def rkOk (es : List Ce) : Prop := ∀ x ∈ es, x.p = true → x.rank = 1 ∨ x.rank = 2
theorem hid_eq (hr : rkOk es) {st : St} {rank : Int} (h : rank = 1 ∨ rank = 2) : hidden es now st rank = (match es.find? (Ce.is st.n st.k true) with
    | some o => decide (now < o.ends) && (decide (o.rank = 2) && decide (rank = 1))
    | none => false) := by
  unfold hidden
  cases e : es.find? (Ce.is st.n st.k true) with
  | none => rfl
  | some o =>
    have hp : o.p = true := by
      have := List.find?_some e
      rw [Ce.is, decide_eq_true_iff] at this
      exact this.2.2
    have := hr o (List.mem_of_find?_eq_some e) hp
    dsimp only
    congr 1
    rw [Bool.eq_iff_iff, Bool.and_eq_true, decide_eq_true_iff, decide_eq_true_iff, decide_eq_true_iff]
    omega
theorem ends_eq' {i : Int} : now + (if (if i < (86400 : Int) then i else 86400) > 1 then (if i < (86400 : Int) then i else 86400) else 1) = endsF now i := by
  unfold endsF
  split <;> split <;> omega
theorem wp_lput (er : h[r]? = some (.lst (es.map lrow))) (g : ∀ x ∈ es, x.st.vs.all (sdF 30) = true) (hl : es.length ≤ 1000000) (hr : rkOk es) {st : St} {rank : Int} (hk : rank = 1 ∨ rank = 2) (gs : st.vs.all (sdF 30) = true)
    (q1 : hidden es now st rank = true → Q (.ref r) h) (q2 : hidden es now st rank = false → ∀ a, Q (.lst ((putB es st ++ [(⟨st.n, st.k, true, st, rank, endsF now st.t, a⟩ : Ce)]).map lrow)) h) : okG (oCall F__law_put [.ref r, .int now, rp st, .int rank] h) Q E := by
  have hrl := get_lt er
  have hh := hid_eq (now := now) hr (st := st) hk
  refine wp_F__law_put rfl ?_
  show okS (b__law_put [some (.ref r), some (.int now), some (rp st), some (.int rank), none, none, none] h) _ _ _ _ _
  unfold b__law_put
  walk_at "yz"
  rw [show PV.tup [nm st.n, .str st.k, .int 1] = lkey st.n st.k true from rfl]
  with_reducible refine wp_lentry (n := st.n) (k := st.k) (p := true) er g ?_
  have pv : ∀ {Q : PV → PH → Prop} {h : PH}, putM Q (oCe (es.find? (Ce.is st.n st.k true))) h ↔ Q (oCe (es.find? (Ce.is st.n st.k true))) h := fun {Q h} => by
    cases es.find? (Ce.is st.n st.k true) <;> exact Iff.rfl
  refine pv.mpr ?_
  walk_at "ys"
  refine okS_mid (fun e k => e = [some (.ref r), some (.int now), some (rp st), some (.int rank), some (lkey st.n st.k true), some (oCe (es.find? (Ce.is st.n st.k true))), none] ∧ k = h ∧ hidden es now st rank = false) ?_ fun e k ⟨e1, e2, hid⟩ => ?_
  · cases e : es.find? (Ce.is st.n st.k true) with
    | none =>
      rw [e] at hh
      show okS (sIf _ _ _ [some (.ref r), some (.int now), some (rp st), some (.int rank), some (lkey st.n st.k true), some .non, none] h) _ _ _ _ _
      refine w_ifS.mpr ?_
      walk_at "yz"
      exact ⟨rfl, rfl, hh⟩
    | some o =>
      rw [e] at hh
      dsimp only at hh
      show okS (sIf _ _ _ [some (.ref r), some (.int now), some (rp st), some (.int rank), some (lkey st.n st.k true), some (lrow o), none] h) _ _ _ _ _
      refine w_ifS.mpr ?_
      walk_at "yz"
      walk_at "yi"
      · intro c1
        walk_at "yz"
        walk_at "yi"
        · intro c2
          walk_at "yz"
          walk_at "yi"
          · intro c3
            walk_at "yz"
            refine gc_same (decide_eq_true hrl) (q1 ?_)
            rw [hh, decide_eq_true (by omega), decide_eq_true c2, decide_eq_true c3]; rfl
          · intro c3
            walk_at "yz"
            exact ⟨rfl, rfl, by rw [hh, decide_eq_false c3, Bool.and_false, Bool.and_false]⟩
        · intro c2
          walk_at "yz"
          exact ⟨rfl, rfl, by rw [hh, decide_eq_false c2, Bool.false_and, Bool.and_false]⟩
      · intro c1
        walk_at "yz"
        exact ⟨rfl, rfl, by rw [hh, decide_eq_false (p := now < o.ends) (by omega), Bool.false_and]⟩
  subst e1 e2
  walk_at "yz"
  walk_at "yf"
  refine okForM (f := fun t : Nm × List Nat × Bool => lkey t.1 t.2.1 t.2.2) (l := [(st.n, st.k, true), (st.n, st.k, false), (st.n, [], false)]) (fun l1 e k' => ∃ (r' : Nat) (x6 : Option PV), e = [some (.ref r'), some (.int now), some (rp st), some (.int rank), some (lkey st.n st.k true), some (oCe (es.find? (Ce.is st.n st.k true))), x6] ∧ HX k k' ∧ k'[r']? = some (.lst ((es.filter fun e => !l1.any fun t => e.is t.1 t.2.1 t.2.2).map lrow))) (by intro _ _ _ _; exact True.intro) (fun l1 t l2 e k' el i => ?_) (fun e k' i => ?_) ⟨r, none, rfl, .refl, by rw [List.filter_eq_self.mpr (by simp)]; exact er⟩
  · obtain ⟨r', x6, rfl, X, e'⟩ := i
    refine ⟨_, rfl, ?_⟩
    unfold b__law_put_l1
    walk_at "yz"
    with_reducible refine wp_lremove (n := t.1) (k := t.2.1) (p := t.2.2) e' (fun x hx => g x (List.mem_filter.mp hx).1) ?_
    rw [← fil_snoc]
    refine new_H fun k3 r3 X3 f3 l3 => ?_
    exact ⟨r3, _, rfl, X.trans X3, f3⟩
  · obtain ⟨r', x6, rfl, X, e'⟩ := i
    have eb : (es.filter fun e => ![(st.n, st.k, true), (st.n, st.k, false), (st.n, [], false)].any fun t => e.is t.1 t.2.1 t.2.2) = putB es st := by
      unfold putB
      refine congrArg (fun f => es.filter f) ?_
      funext e
      simp [List.any_cons, Bool.or_assoc]
    rw [eb] at e'
    have lb : (putB es st).length ≤ es.length := List.length_filter_le ..
    walk_at "yz"
    refine o_mi2.mpr ?_
    walk_at "yz"
    refine o_max2.mpr ?_
    walk_at "yz"
    rw [ends_eq']
    refine o_addL' ⟨_, e', by show _ + 1 ≤ 16777216; rw [List.length_map]; omega, ?_⟩
    have q2 := q2 hid 0
    rw [List.map_append] at q2
    refine gc_X X ?_ q2
    show clL k.length _ = true
    rw [← List.map_singleton (f := lrow) (a := (⟨st.n, st.k, true, st, rank, endsF now st.t, 0⟩ : Ce)), ← List.map_append]
    refine cl_lrows fun x hx => ?_
    rcases List.mem_append.mp hx with hx | hx
    · exact g x (List.mem_filter.mp hx).1
    · rw [List.mem_singleton.mp hx]; exact gs
theorem wp_lneg (er : h[r]? = some (.lst (es.map lrow))) (g : ∀ x ∈ es, x.st.vs.all (sdF 30) = true) (hl : es.length ≤ 1000000) {st : St} (gs : st.vs.all (sdF 30) = true)
    (q : ∀ a, Q (.lst (((es.filter fun e => !e.is n k false) ++ [(⟨n, k, false, st, 0, endsF now st.t, a⟩ : Ce)]).map lrow)) h) : okG (oCall F__law_put_negative [.ref r, .int now, nm n, .str k, rp st] h) Q E := by
  refine wp_F__law_put_negative rfl ?_
  show okS (b__law_put_negative [some (.ref r), some (.int now), some (nm n), some (.str k), some (rp st), none] h) _ _ _ _ _
  unfold b__law_put_negative
  walk_at "yz"
  rw [show PV.tup [nm n, .str k, .int 0] = lkey n k false from rfl]
  with_reducible refine wp_lremove (n := n) (k := k) (p := false) er g ?_
  have lb : (es.filter fun e => !e.is n k false).length ≤ es.length := List.length_filter_le ..
  walk_at "yz"
  refine o_mi2.mpr ?_
  walk_at "yz"
  refine o_max2.mpr ?_
  walk_at "yz"
  rw [ends_eq']
  refine o_addLL' ⟨by show _ + 1 ≤ 16777216; rw [List.length_map]; omega, ?_⟩
  have q := q 0
  rw [List.map_append] at q
  refine gc_same ?_ q
  show clL h.length _ = true
  rw [← List.map_singleton (f := lrow) (a := (⟨n, k, false, st, 0, endsF now st.t, 0⟩ : Ce)), ← List.map_append]
  refine cl_lrows fun x hx => ?_
  rcases List.mem_append.mp hx with hx | hx
  · exact g x (List.mem_filter.mp hx).1
  · rw [List.mem_singleton.mp hx]; exact gs
end

section
variable {Q : PV → PH → Prop} {E : EX} {h : PH} {T : PH} {s : Sd} {ns : List Int} {c d r lim : Nat} {es : List Ce} {now : Int} {n : Nm} {k : List Nat} {p : Bool}
theorem pd_oSt {s : Option St} (g : ∀ x, s = some x → x.vs.all (sdF 30) = true) {m : Nat} (hm : 40 ≤ m) : pd m (oSt s) = true := by
  cases s with
  | none => obtain ⟨m, rfl⟩ : ∃ i, m = i + 1 := ⟨m - 1, by omega⟩; rfl
  | some s =>
    refine pd_sd ?_
    obtain ⟨m, rfl⟩ : ∃ i, m = i + 2 := ⟨m - 2, by omega⟩
    have : s.vs.all (sdF m) = true := List.all_eq_true.mpr fun x hx => sd_le (by omega) (List.all_eq_true.mp (g s rfl) x hx)
    show (sdF (m + 1) (nm s.n) && (sdF (m + 1) (.str s.k) && (sdF (m + 1) (.int s.t) && (s.vs.all (sdF m) && true)))) = true
    rw [sd_nm, sd_str, sd_int, this]; rfl
theorem ne_self {x : PV} (hx : pd 50 x = true) (q : Q (.bl false) h) : okG (oNe x x h) Q E := o_neD hx hx fun b hb => by rw [hb.mpr rfl]; exact q
theorem eq_self {x : PV} (hx : pd 50 x = true) (q : Q (.bl true) h) : okG (oEq x x h) Q E := o_eqD hx hx fun b hb => by rw [hb.mpr rfl]; exact q
theorem wp_lset (q : ∀ (s' : Sd) (st : St), st.vs.all (sdF 30) = true → Q (rp st) (SH s' T)) : okG (oCall F__law_set [.ref 0, .ro (ns.map .int)] (SH s T)) Q E := by
  refine wp_F__law_set rfl ?_
  show okS (b__law_set [some (.ref 0), some (.ro (ns.map .int)), none, none, none] (SH s T)) _ _ _ _ _
  unfold b__law_set
  walk_at "yz"
  with_reducible refine wp_dr ⟨by omega, fun d1 s hd1 => ?_⟩
  refine ix_of (by show d1 < 3; omega) fun x hx => ?_
  obtain ⟨n, rfl⟩ : ∃ n, x = nm n := by
    simp only [List.mem_cons, List.not_mem_nil, or_false] at hx
    rcases hx with rfl | rfl | rfl
    · exact ⟨[], rfl⟩
    · exact ⟨[[97]], rfl⟩
    · exact ⟨[[98], [97]], rfl⟩
  walk_at "yz"
  with_reducible refine wp_dr ⟨by omega, fun d2 s hd2 => ?_⟩
  refine ix_of (by show d2 < 2; omega) fun x hx => ?_
  obtain ⟨k, rfl⟩ : ∃ k, x = .str k := by
    simp only [List.mem_cons, List.not_mem_nil, or_false] at hx
    rcases hx with rfl | rfl <;> exact ⟨_, rfl⟩
  walk_at "yz"
  with_reducible refine wp_dr ⟨by omega, fun d3 s hd3 => ?_⟩
  walk_at "yz"
  with_reducible refine wp_dr ⟨by omega, fun d4 s hd4 => ?_⟩
  refine ix_of (by show d4 < 6; omega) fun x hx => ?_
  obtain ⟨t, rfl⟩ : ∃ t, x = .int t := by
    simp only [List.mem_cons, List.not_mem_nil, or_false] at hx
    rcases hx with rfl | rfl | rfl | rfl | rfl | rfl <;> exact ⟨_, rfl⟩
  walk_at "yz"
  walk_at "yf"
  · intro hk
    walk_at "yz"
    with_reducible refine wp_dr ⟨by omega, fun d5 s hd5 => ?_⟩
    walk_at "yz"
    refine gc_sh0 ?_ (q s ⟨n, k, t, [.int d5]⟩ rfl)
    exact cl_rpS (st := ⟨n, k, t, [.int d5]⟩) rfl t _
  · intro hk
    walk_at "yz"
    with_reducible refine wp_dr ⟨by omega, fun d5 s hd5 => ?_⟩
    walk_at "yz"
    have ls := str9 d5 (by omega)
    refine o_str' ⟨?_, ?_⟩
    · have : (d5 : Int).natAbs = d5 := by omega
      rw [this]
      calc d5.log2 ≤ d5 := Nat.log2_le_self d5
        _ < 1920 := by omega
    generalize strI (d5 : Int) = sd at ls
    walk_at "yz"
    refine gc_sh0 ?_ (q s ⟨n, k, t, [.str ([116] ++ sd)]⟩ rfl)
    exact cl_rpS (st := ⟨n, k, t, [.str ([116] ++ sd)]⟩) rfl t _
theorem wp_lholds (A : CA h c d lim es) (er : h[r]? = some (.lst (es.map lrow))) (hr : rkOk es) (q : Q (.bl true) h) : okG (oCall F__law_holds [.ref c, .ref r, .int now, nm n, .str k] h) Q E := by
  refine wp_F__law_holds rfl ?_
  show okS (b__law_holds [some (.ref c), some (.ref r), some (.int now), some (nm n), some (.str k), none, none, none, none, none] h) _ _ _ _ _
  unfold b__law_holds
  walk_at "yz"
  rw [show PV.tup [nm n, .str k, .int 1] = lkey n k true from rfl]
  with_reducible refine wp_lentry (n := n) (k := k) (p := true) er A.sd ?_
  have gO : ∀ x, es.find? (Ce.is n k true) = some x → x.st.vs.all (sdF 30) = true := fun x hx => A.sd x (List.mem_of_find?_eq_some hx)
  have rO : ∀ x, es.find? (Ce.is n k true) = some x → x.rank = 1 ∨ x.rank = 2 := fun x hx => hr x (List.mem_of_find?_eq_some hx) (by
    have := List.find?_some hx
    rw [Ce.is, decide_eq_true_iff] at this
    exact this.2.2)
  have f1 : findC es now n k 1 = leftO now (es.find? (Ce.is n k true)) := by
    rw [leftO_eq]
    unfold findC
    cases e : es.find? (Ce.is n k true) with
    | none => unfold leftF; rw [e]
    | some o =>
      have := rO o e
      dsimp only
      rw [if_neg (by omega)]
  have gL : ∀ (o : Option Ce), (∀ x, o = some x → x.st.vs.all (sdF 30) = true) → ∀ x, leftO now o = some x → x.vs.all (sdF 30) = true := fun o g x e => by
    cases o with
    | none => cases e
    | some y =>
      unfold leftO at e
      dsimp only at e
      split at e
      · cases e; exact g y rfl
      · cases e
  have f2 : findC es now n k 2 = leftO now (match es.find? (Ce.is n k true) with
      | some o => if o.rank = 1 then none else some o
      | none => none) := by
    unfold findC leftF
    cases e : es.find? (Ce.is n k true) with
    | none => rfl
    | some o =>
      have := rO o e
      dsimp only
      by_cases c1 : o.rank = 1
      · rw [if_pos (by omega), if_pos c1]; rfl
      · rw [if_neg (by omega), if_neg c1]; rfl
  have pv : ∀ (o : Option Ce) {Q : PV → PH → Prop} {h : PH}, putM Q (oCe o) h ↔ Q (oCe o) h := fun o {Q h} => by cases o <;> exact Iff.rfl
  refine (pv _).mpr ?_
  walk_at "ys"
  refine w_ifS.mpr ?_
  walk_at "yz"
  refine w_met ?_
  walk_at "yz"
  refine ⟨_, metOf_ins A.c rfl rfl, ?_⟩
  walk_at "yz"
  with_reducible refine wp_find1 A ?_
  walk_at "yz"
  refine (pv _).mpr ?_
  walk_at "yz"
  with_reducible refine wp_lleft gO ?_
  rw [f1]
  refine ne_self (pd_oSt (gL _ gO) (by omega)) ?_
  walk_at "yz"
  refine w_met ?_
  walk_at "yz"
  refine ⟨_, metOf_ins A.c rfl rfl, ?_⟩
  walk_at "yz"
  with_reducible refine wp_find A ?_
  walk_at "yz"
  refine (pv _).mpr ?_
  walk_at "yz"
  with_reducible refine wp_lleft gO ?_
  rw [f1]
  refine ne_self (pd_oSt (gL _ gO) (by omega)) ?_
  walk_at "yz"
  obtain ⟨o2, eo2⟩ : ∃ o2, o2 = (match es.find? (Ce.is n k true) with
      | some o => if o.rank = 1 then none else some o
      | none => none) := ⟨_, rfl⟩
  rw [← eo2] at f2
  have gO2 : ∀ x, o2 = some x → x.st.vs.all (sdF 30) = true := fun x hx => by
    rw [hx] at eo2
    cases e : es.find? (Ce.is n k true) with
    | none => rw [e] at eo2; cases eo2
    | some o =>
      rw [e] at eo2
      dsimp only at eo2
      split at eo2
      · cases eo2
      · cases eo2; exact gO _ e
  refine okS_mid (fun e k' => e = [some (.ref c), some (.ref r), some (.int now), some (nm n), some (.str k), some (oCe o2), none, none, none, none] ∧ k' = h) ?_ fun e k' ⟨e1, e2⟩ => ?_
  · cases e : es.find? (Ce.is n k true) with
    | none =>
      rw [e] at eo2
      subst eo2
      show okS (sIf _ _ _ [some (.ref c), some (.ref r), some (.int now), some (nm n), some (.str k), some .non, none, none, none, none] h) _ _ _ _ _
      refine w_ifS.mpr ?_
      walk_at "yz"
      exact ⟨rfl, rfl⟩
    | some o =>
      rw [e] at eo2
      dsimp only at eo2
      show okS (sIf _ _ _ [some (.ref c), some (.ref r), some (.int now), some (nm n), some (.str k), some (lrow o), none, none, none, none] h) _ _ _ _ _
      refine w_ifS.mpr ?_
      walk_at "yz"
      walk_at "yi"
      · intro c1
        rw [if_pos c1] at eo2
        subst eo2
        walk_at "yz"
        exact ⟨rfl, rfl⟩
      · intro c1
        rw [if_neg c1] at eo2
        subst eo2
        walk_at "yz"
        exact ⟨rfl, rfl⟩
  subst e1 e2
  walk_at "ys"
  refine w_ifS.mpr ?_
  walk_at "yz"
  refine w_met ?_
  walk_at "yz"
  refine ⟨_, metOf_ins A.c rfl rfl, ?_⟩
  walk_at "yz"
  with_reducible refine wp_find A ?_
  walk_at "yz"
  refine (pv _).mpr ?_
  walk_at "yz"
  with_reducible refine wp_lleft gO2 ?_
  rw [f2]
  refine ne_self (pd_oSt (gL _ gO2) (by omega)) ?_
  walk_at "yz"
  walk_at "yf"
  -- the two keys of what is not there
  have gN : ∀ kk, ∀ x, es.find? (Ce.is n kk false) = some x → x.st.vs.all (sdF 30) = true := fun kk x hx => A.sd x (List.mem_of_find?_eq_some hx)
  obtain ⟨d1, ed1⟩ : ∃ d1 : Option (St × Bool), d1 = (leftF es now n k false).map fun s => (s, decide (k = [])) := ⟨_, rfl⟩
  have ef : findN es now n k = match leftF es now n [] false with
    | some s => some (s, true)
    | none => d1 := by rw [ed1]; rfl
  have pd1 : ∀ s : St, s.vs.all (sdF 30) = true → ∀ (b : Bool) (h : PH), eqF h 50 (.tup [rp s, .bl b]) (.tup [rp s, .bl b]) = some true := fun s hs b h => by
    have := pd_oSt (s := some s) (m := 49) (fun x hx => by cases hx; exact hs) (by omega)
    refine eqF_tup rfl fun p hp => ?_
    simp only [List.zip_cons_cons, List.zip_nil_left, List.mem_cons, List.not_mem_nil, or_false] at hp
    rcases hp with rfl | rfl
    · exact eqF_self this
    · rw [eqF_bl]; simp
  have pdN : ∀ h : PH, eqF h 50 (oStB (findN es now n k)) (oStB (findN es now n k)) = some true := fun h => by
    rw [ef]
    cases e0 : leftF es now n [] false with
    | some s => exact pd1 s (A.left s e0) true h
    | none =>
      rw [ed1]
      cases e1 : leftF es now n k false with
      | some s => exact pd1 s (A.left s e1) _ h
      | none => rfl
  refine forL_c trivial rfl ?_
  refine okS_mid (fun e k2 => ∃ x8 : Option PV, e = [some (.ref c), some (.ref r), some (.int now), some (nm n), some (.str k), some (oCe o2), some (oStB d1), some (.str k), x8, none] ∧ k2 = k') ?_ fun e k2 ⟨x8, e1, e2⟩ => ?_
  · unfold b__law_holds_l1
    walk_at "yz"
    rw [show PV.tup [nm n, .str k, .int 0] = lkey n k false from rfl]
    with_reducible refine wp_lentry (n := n) (k := k) (p := false) er A.sd ?_
    refine (pv _).mpr ?_
    walk_at "yz"
    with_reducible refine wp_lleft (gN k) ?_
    rw [leftO_eq]
    cases e1 : leftF es now n k false with
    | some s =>
      rw [e1] at ed1
      subst ed1
      show putM _ (rp s) _
      walk_at "yz"
      refine w_ifS.mpr ?_
      walk_at "yz"
      exact ⟨_, rfl, rfl⟩
    | none =>
      rw [e1] at ed1
      subst ed1
      show putM _ .non _
      walk_at "yz"
      refine w_ifS.mpr ?_
      walk_at "yz"
      exact ⟨_, rfl, rfl⟩
  subst e1 e2
  refine forL_c trivial rfl ?_
  refine okS_mid (fun e k3 => ∃ x7 x8 : Option PV, e = [some (.ref c), some (.ref r), some (.int now), some (nm n), some (.str k), some (oCe o2), some (oStB (findN es now n k)), x7, x8, none] ∧ k3 = k2) ?_ fun e k3 ⟨x7, x8', e1, e2⟩ => ?_
  · unfold b__law_holds_l1
    walk_at "yz"
    rw [show PV.tup [nm n, .str [], .int 0] = lkey n [] false from rfl]
    with_reducible refine wp_lentry (n := n) (k := []) (p := false) er A.sd ?_
    refine (pv _).mpr ?_
    walk_at "yz"
    with_reducible refine wp_lleft (gN []) ?_
    rw [leftO_eq, ef]
    cases e1 : leftF es now n [] false with
    | some s =>
      show putM _ (rp s) _
      walk_at "yz"
      refine w_ifS.mpr ?_
      walk_at "yz"
      exact ⟨_, _, rfl, rfl⟩
    | none =>
      show putM _ .non _
      walk_at "yz"
      refine w_ifS.mpr ?_
      walk_at "yz"
      exact ⟨_, _, rfl, rfl⟩
  subst e1 e2
  refine forL_n trivial ?_
  walk_at "ys"
  refine okS_mid (fun e k4 => ∃ x7 x8 : Option PV, e = [some (.ref c), some (.ref r), some (.int now), some (nm n), some (.str k), some (oCe o2), some (oStB (findN es now n k)), x7, x8, some (oStB (findN es now n k))] ∧ k4 = k3) ?_ fun e k4 ⟨x7', x8'', e1, e2⟩ => ?_
  · walk_at "yz"
    refine w_met ?_
    walk_at "yz"
    refine ⟨_, metOf_ins A.c rfl rfl, ?_⟩
    walk_at "yz"
    with_reducible refine wp_findn A ?_
    have pb : ∀ (o : Option (St × Bool)) {Q : PV → PH → Prop} {h : PH}, putM Q (oStB o) h ↔ Q (oStB o) h := fun o {Q h} => by cases o <;> exact Iff.rfl
    refine (pb _).mpr ?_
    walk_at "yz"
    exact ⟨_, _, rfl, rfl⟩
  subst e1 e2
  walk_at "ys"
  refine okS_mid (fun e k5 => e = [some (.ref c), some (.ref r), some (.int now), some (nm n), some (.str k), some (oCe o2), some (oStB (findN es now n k)), x7', x8'', some (oStB (findN es now n k))] ∧ k5 = k4) ?_ fun e k5 ⟨e1, e2⟩ => ?_
  · cases e0 : findN es now n k with
    | none =>
      show okS (sIf _ _ _ [some (.ref c), some (.ref r), some (.int now), some (nm n), some (.str k), some (oCe o2), some .non, x7', x8'', some .non] k4) _ _ _ _ _
      refine w_ifS.mpr ?_
      walk_at "yz"
      exact ⟨rfl, rfl⟩
    | some s =>
      show okS (sIf _ _ _ [some (.ref c), some (.ref r), some (.int now), some (nm n), some (.str k), some (oCe o2), some (.tup [rp s.1, .bl s.2]), x7', x8'', some (.tup [rp s.1, .bl s.2])] k4) _ _ _ _ _
      refine w_ifS.mpr ?_
      walk_at "yz"
      exact ⟨rfl, rfl⟩
  subst e1 e2
  walk_at "yz"
  refine o_eq.mpr ?_
  rw [pdN]
  exact oBK_some.mpr (gc_same rfl q)
theorem rk_sub {es fs : List Ce} (hr : rkOk es) (s : fs.Sublist es) : rkOk fs := fun x hx hp => hr x (s.subset hx) hp
theorem rk_put (hr : rkOk es) {st : St} {rank : Int} {a : Nat} (h : rank = 1 ∨ rank = 2) : rkOk (putE lim now es st rank a) := by
  unfold putE
  split
  · exact hr
  · refine rk_sub ?_ trimE_sub
    intro x hx hp
    rcases List.mem_append.mp hx with hx | hx
    · exact hr x (List.mem_filter.mp hx).1 hp
    · rw [List.mem_singleton.mp hx]; exact h
theorem rk_neg (hr : rkOk es) {st : St} {a : Nat} : rkOk (negE lim now es n k st a) := by
  refine rk_sub ?_ trimE_sub
  intro x hx hp
  rcases List.mem_append.mp hx with hx | hx
  · exact hr x (List.mem_filter.mp hx).1 hp
  · rw [List.mem_singleton.mp hx] at hp; cases hp
end

section
variable {Q : PV → PH → Prop} {E : EX} {h : PH} {T : PH} {s : Sd} {ns : List Int} {c d r lim : Nat} {es : List Ce} {now : Int} {n : Nm} {k : List Nat} {p : Bool}
/-- the state of the law's loop -/
structure LC (T : PH) (c d r lim : Nat) (es : List Ce) : Prop where
  A : CT T c d lim es
  f : F T r (.lst (es.map lrow))
  k : rkOk es
  l : es.length ≤ lim
theorem LC.ne {T : PH} (L : LC T c d r lim es) : r ≠ d := fun z => by
  have h1 := L.f ⟨(0, 0), by decide, by decide⟩
  have h2 := (L.A.on ⟨(0, 0), by decide, by decide⟩).d
  rw [z, h2] at h1
  cases h1
theorem pure (ns : List Int) (hn : ns.length ≤ 63) : ∃ h', semD 13 b_law [.ro (ns.map .int)] [] = .ok (.bl true) h' := by
  refine law_of ?_
  show okS (b_law [some (.ro (ns.map .int)), none, none, none, none, none, none, none, none, none, none, none, none] []) _ _ _ _ _
  unfold b_law
  walk_at "zz"
  rw [show ([] : PH).length = 0 from rfl]
  show okG (oCall F__law_draw [.ref 0, .ro (ns.map .int), .int 9] (SH ⟨(0, 0), by decide, by decide⟩ [])) _ _
  refine wp_dr (size := 9) ⟨by decide, fun d1 s hd1 => ?_⟩
  walk_at "yz"
  with_reducible refine wp_dr ⟨by omega, fun d2 s hd2 => ?_⟩
  refine ix_of (by show d2 < 2; omega) fun x hx => ?_
  obtain ⟨lim, rfl, hlim⟩ : ∃ lim : Nat, x = .int lim ∧ lim ≤ 1000 ∧ 1 ≤ lim := by
    simp only [List.mem_cons, List.not_mem_nil, or_false] at hx
    rcases hx with rfl | rfl
    · exact ⟨1 + d1, by rw [show ((1 + d1 : Nat) : Int) = 1 + (d1 : Int) by omega], by omega, by omega⟩
    · exact ⟨1000, rfl, by omega, by omega⟩
  walk_at "yz"
  with_reducible refine wp_cinit fun k c d X A lc ld => ?_
  obtain ⟨T, rfl, X⟩ := X.tx
  have A : CT T c d lim [] := CT.of A
  walk_at "yz"
  refine new_T fun T1 r X1 f1 _ => ?_
  have A := A.up X1
  walk_at "yz"
  with_reducible refine wp_dr ⟨by omega, fun d3 s hd3 => ?_⟩
  walk_at "yz"
  walk_at "yf"
  refine w_rg1 ?_
  walk_at "yz"
  with_reducible refine wp_dr ⟨by omega, fun d4 s hd4 => ?_⟩
  walk_at "yz"
  refine ⟨(d4 : Nat), rfl, by omega, ?_⟩
  refine okForR (fun k e h' => ∃ (s : Sd) (T : PH) (r : Nat) (es : List Ce) (now : Int) (x6 x7 x8 x9 x10 x11 x12 : Option PV), e = [some (.ro (ns.map .int)), some (.ref 0), some (.int lim), some (.ref c), some (.ref r), some (.int now), x6, x7, x8, x9, x10, x11, x12] ∧ SH s T = h' ∧ LC T c d r lim es) (fun k e h' hk w => ?_) (fun e h' w => ?_) ⟨s, T1, r, [], d3, none, none, none, none, none, none, none, rfl, rfl, A, f1, (fun x hx => nomatch hx), Nat.zero_le _⟩
  rotate_left
  · obtain ⟨s, T, r, es, now, x6, x7, x8, x9, x10, x11, x12, rfl, rfl, L⟩ := w
    walk_at "yz"
    rfl
  obtain ⟨s, T, r, es, now, x6, x7, x8, x9, x10, x11, x12, rfl, rfl, L⟩ := w
  refine ⟨_, rfl, ?_⟩
  unfold b_law_l1
  walk_at "yz"
  with_reducible refine wp_dr ⟨by omega, fun e1 s he1 => ?_⟩
  walk_at "yz"
  with_reducible refine wp_dr ⟨by omega, fun e2 s he2 => ?_⟩
  walk_at "yz"
  refine okS_mid (fun e' k' => ∃ (s' : Sd) (now' : Int), e' = [some (.ro (ns.map .int)), some (.ref 0), some (.int lim), some (.ref c), some (.ref r), some (.int now'), some (.int (0 + (k : Nat))), x7, x8, x9, x10, x11, x12] ∧ k' = SH s' T) ?_ fun e' k' ⟨s', now', e1, e2⟩ => ?_
  · refine w_ifS.mpr ?_
    walk_at "yz"
    with_reducible refine wp_dr ⟨by omega, fun e3 s he3 => ?_⟩
    walk_at "yz"
    walk_at "yi"
    · intro c1
      walk_at "yz"
      exact ⟨_, _, rfl, rfl⟩
    · intro c1
      walk_at "yz"
      exact ⟨_, _, rfl, rfl⟩
  subst e1 e2
  walk_at "yz"
  with_reducible refine wp_dr ⟨by omega, fun sp s hsp => ?_⟩
  walk_at "yz"
  with_reducible refine wp_lset fun s st gst => ?_
  walk_at "yz"
  have cpe : es.length < 90000 := by have := L.l; omega
  have sdE : ∀ {s : Sd} {T : PH} {es : List Ce}, CT T c d lim es → ∀ x ∈ es, x.st.vs.all (sdF 30) = true := fun {s T es} A => (A.on s).sd
  refine okS_mid (fun e' k' => ∃ (s' : Sd) (T' : PH) (r' : Nat) (es' : List Ce) (x9 x10 x11 : Option PV), e' = [some (.ro (ns.map .int)), some (.ref 0), some (.int lim), some (.ref c), some (.ref r'), some (.int now'), some (.int (0 + (k : Nat))), some (.int sp), some (rp st), x9, x10, x11, x12] ∧ k' = SH s' T' ∧ LC T' c d r' lim es') ?_ fun e' k' ⟨s', T', r', es', x9', x10', x11', e1, e2, L'⟩ => ?_
  · refine w_ifS.mpr ?_
    walk_at "yz"
    walk_at "yi"
    · intro c1
      walk_at "yz"
      with_reducible refine wp_dr ⟨by omega, fun rk s hrk => ?_⟩
      walk_at "yz"
      obtain ⟨rank, er, hrank⟩ : ∃ rank : Int, rank = 1 + (rk : Int) ∧ (rank = 1 ∨ rank = 2) := ⟨_, rfl, by omega⟩
      rw [← er]
      refine w_ifS.mpr ?_
      walk_at "yz"
      refine w_met ?_
      walk_at "yz"
      refine ⟨_, metOf_ins (L.A.on s).c rfl rfl, ?_⟩
      walk_at "yz"
      with_reducible refine wp_cput (L.A.on s) gst cpe fun k' a H A' => ?_
      obtain ⟨T', rfl, TQ', A'⟩ := L.A.hq H A'
      have f' := TQ'.f L.ne L.f
      walk_at "yz"
      with_reducible refine wp_lput f'.at_ (sdE (s := s) L.A) (by omega) L.k hrank gst (fun hh => ?_) fun hh => ?_
      · have eE : putE lim now' es st rank a = es := by unfold putE; rw [if_pos hh]
        rw [eE] at A'
        walk_at "yz"
        with_reducible refine wp_ltrim f'.at_ (sdE (s := s) L.A) (by omega) (fun _ => ?_) fun z => absurd L.l (by omega)
        walk_at "yz"
        exact ⟨s, T', r, es, _, _, _, rfl, rfl, A', f', L.k, L.l⟩
      · intro a'
        have eE : putE lim now' es st rank a = trimE lim now' (putB es st ++ [⟨st.n, st.k, true, st, rank, endsF now' st.t, a⟩]) := by unfold putE; rw [if_neg (by rw [hh]; simp)]
        have rk' : rkOk (putE lim now' es st rank a) := rk_put L.k hrank
        rw [eE] at A' rk'
        have er2 : (putB es st ++ [(⟨st.n, st.k, true, st, rank, endsF now' st.t, a'⟩ : Ce)]).map lrow = (putB es st ++ [(⟨st.n, st.k, true, st, rank, endsF now' st.t, a⟩ : Ce)]).map lrow := by
          rw [List.map_append, List.map_append]; rfl
        rw [er2]
        have sd2 : ∀ x ∈ putB es st ++ [(⟨st.n, st.k, true, st, rank, endsF now' st.t, a⟩ : Ce)], x.st.vs.all (sdF 30) = true := fun x hx => by
          rcases List.mem_append.mp hx with hx | hx
          · exact (L.A.on s).sd x (List.mem_filter.mp hx).1
          · rw [List.mem_singleton.mp hx]; exact gst
        have lb : (putB es st).length ≤ es.length := List.length_filter_le ..
        have ll := L.l
        generalize hfs : putB es st ++ [(⟨st.n, st.k, true, st, rank, endsF now' st.t, a⟩ : Ce)] = fs at *
        have lf : fs.length ≤ 2000 := by
          rw [← hfs, List.length_append, List.length_singleton]; omega
        refine new_T fun T2 r2 X2 f2 _ => ?_
        have A2 := A'.up X2
        walk_at "yz"
        with_reducible refine wp_ltrim f2.at_ sd2 (by omega) (fun z => ?_) fun z => ?_
        · have eT : trimE lim now' fs = fs := by unfold trimE; rw [if_pos z]
          rw [eT] at A2 rk'
          walk_at "yz"
          exact ⟨s, T2, r2, fs, _, _, _, rfl, rfl, A2, f2, rk', z⟩
        · refine new_T fun T3 r3 X3 f3 _ => ?_
          exact ⟨s, T3, r3, _, _, _, _, rfl, rfl, A2.up X3, f3, rk', trimE_len⟩
    · intro c1
      refine w_ifS.mpr ?_
      walk_at "yz"
      walk_at "yi"
      rotate_left
      · intro c2
        walk_at "yz"
        exact ⟨s, T, r, es, _, _, _, rfl, rfl, L⟩
      intro c2
      walk_at "yz"
      obtain ⟨soa, esoa⟩ : ∃ soa : St, soa = ⟨st.n, [83, 79, 65], st.t, [.tup [.tup [.str [115]], .int 1, .int 2, .int 3, .int 4, .int 5]]⟩ := ⟨_, rfl⟩
      have gso : soa.vs.all (sdF 30) = true := by rw [esoa]; rfl
      rw [show PV.tup [nm st.n, .str [83, 79, 65], .int st.t, .tup [.tup [.tup [.str [115]], .int 1, .int 2, .int 3, .int 4, .int 5]]] = rp soa by rw [esoa]]
      with_reducible refine wp_dr ⟨by omega, fun dk s hdk => ?_⟩
      refine ix_of (by show dk < 2; omega) fun x hx => ?_
      obtain ⟨kd, rfl⟩ : ∃ kd, x = .str kd := by
        simp only [List.mem_cons, List.not_mem_nil, or_false] at hx
        rcases hx with rfl | rfl <;> exact ⟨_, rfl⟩
      walk_at "yz"
      refine w_ifS.mpr ?_
      walk_at "yz"
      refine w_met ?_
      walk_at "yz"
      refine ⟨_, metOf_ins (L.A.on s).c rfl rfl, ?_⟩
      walk_at "yz"
      obtain ⟨kv, hkv, ekv⟩ : ∃ kv : PV, ((kv = .non ∧ kd = []) ∨ kv = .str kd) ∧ atI [PV.str kd, .non] (if decide (kd = []) = true then 1 else 0) = some kv := by
        by_cases c : kd = []
        · exact ⟨.non, .inl ⟨rfl, c⟩, by rw [decide_eq_true c]; rfl⟩
        · exact ⟨.str kd, .inr rfl, by rw [decide_eq_false c]; rfl⟩
      refine o_ix_lst' ⟨kv, ekv, ?_⟩
      have pk : ∀ {Q : PV → PH → Prop} {h : PH}, putM Q kv h ↔ Q kv h := fun {Q h} => by
        rcases hkv with ⟨rfl, _⟩ | rfl <;> exact Iff.rfl
      refine pk.mpr ?_
      walk_at "yz"
      with_reducible refine wp_cneg (L.A.on s) gso cpe hkv fun k' a H A' => ?_
      obtain ⟨T', rfl, TQ', A'⟩ := L.A.hq H A'
      have f' := TQ'.f L.ne L.f
      walk_at "yz"
      with_reducible refine wp_lneg f'.at_ (sdE (s := s) L.A) (by have := L.l; omega) gso fun a' => ?_
      have rk' : rkOk (negE lim now' es st.n kd soa a) := rk_neg L.k
      have eE : negE lim now' es st.n kd soa a = trimE lim now' ((es.filter fun e => !e.is st.n kd false) ++ [⟨st.n, kd, false, soa, 0, endsF now' soa.t, a⟩]) := rfl
      rw [eE] at A' rk'
      have er2 : ((es.filter fun e => !e.is st.n kd false) ++ [(⟨st.n, kd, false, soa, 0, endsF now' soa.t, a'⟩ : Ce)]).map lrow = ((es.filter fun e => !e.is st.n kd false) ++ [(⟨st.n, kd, false, soa, 0, endsF now' soa.t, a⟩ : Ce)]).map lrow := by
        rw [List.map_append, List.map_append]; rfl
      rw [er2]
      have sd2 : ∀ x ∈ (es.filter fun e => !e.is st.n kd false) ++ [(⟨st.n, kd, false, soa, 0, endsF now' soa.t, a⟩ : Ce)], x.st.vs.all (sdF 30) = true := fun x hx => by
        rcases List.mem_append.mp hx with hx | hx
        · exact (L.A.on s).sd x (List.mem_filter.mp hx).1
        · rw [List.mem_singleton.mp hx]; exact gso
      have lb : (es.filter fun e => !e.is st.n kd false).length ≤ es.length := List.length_filter_le ..
      have ll := L.l
      have lf : ((es.filter fun e => !e.is st.n kd false) ++ [(⟨st.n, kd, false, soa, 0, endsF now' soa.t, a⟩ : Ce)]).length ≤ 2000 := by
        rw [List.length_append, List.length_singleton]; omega
      revert lf sd2 rk' A'
      generalize (es.filter fun e => !e.is st.n kd false) ++ [(⟨st.n, kd, false, soa, 0, endsF now' soa.t, a⟩ : Ce)] = fs
      intro A' rk' sd2 lf
      refine new_T fun T2 r2 X2 f2 _ => ?_
      have A2 := A'.up X2
      walk_at "yz"
      with_reducible refine wp_ltrim f2.at_ sd2 (by omega) (fun z => ?_) fun z => ?_
      · have eT : trimE lim now' fs = fs := by unfold trimE; rw [if_pos z]
        rw [eT] at A2 rk'
        walk_at "yz"
        exact ⟨s, T2, r2, fs, _, _, _, rfl, rfl, A2, f2, rk', z⟩
      · refine new_T fun T3 r3 X3 f3 _ => ?_
        exact ⟨s, T3, r3, _, _, _, _, rfl, rfl, A2.up X3, f3, rk', trimE_len⟩
  subst e1 e2
  walk_at "ys"
  refine w_ifS.mpr ?_
  walk_at "yz"
  with_reducible refine wp_lholds (L'.A.on s') L'.f.at_ L'.k ?_
  walk_at "yz"
  refine w_met ?_
  walk_at "yz"
  refine ⟨_, metOf_ins (L'.A.on s').c rfl rfl, ?_⟩
  walk_at "yz"
  with_reducible refine wp_csize (L'.A.on s') ?_
  walk_at "yz"
  refine w_ifS.mpr ?_
  walk_at "yz"
  with_reducible refine wp_isint ?_
  walk_at "yz"
  refine o_len_ref' ⟨_, L'.f.at_, ?_⟩
  rw [List.length_map]
  walk_at "yz"
  rw [show decide (((es'.length : Nat) : Int) = ((es'.length : Nat) : Int)) = true from decide_eq_true rfl]
  walk_at "yz"
  exact ⟨s', T', r', es', now', _, _, _, _, _, _, _, rfl, rfl, L'⟩
end
end Z.k21

open PySem PySem.W PyProof.Rows
set_option maxHeartbeats 0 in
theorem PySem.Challenge.cw_zoneward_k21_cache_holds : PySem.Challenge.rw_zoneward_k21_cache.Holds := by
  w_on; o_law; k_head; (case hw => w_witness2)
  k_fill
  refine L2.walk_of (l := PySem.Challenge.rw_zoneward_k21_cache) (n := 63) (k := 4) (x := "_law_script") (CX := fun w => L2N.CX PySem.Challenge.pw_zoneward_k21_cache w) (sp := fun w => Z.lawSp w Z.k21.ats _ (Z.semD 13 Z.k21.b_law)) rfl (by decide) rfl ⟨rfl, by decide, by decide⟩ (fun w h Y => PySem.W.kIn_of Y) ?F (fun _ H a ns hl hO hS cs => Z.law_sp hO hS (Z.k21.pure ns hl)) (fun _ _ _ _ _ h => Z.hcx h)
  case F =>
    intro w mg fa h KX G hmg
    refine' Z.k21.all_mk KX G hmg ?a1 ?l1 ?c1 ?k1 ?a2 ?l2 ?c2 ?k2 ?a3 ?l3 ?c3 ?k3 ?a4 ?l4 ?c4 ?k4 ?a5 ?i5 ?l5 ?c5 ?k5 ?a6 ?i6 ?l6 ?c6 ?k6 ?a7 ?i7 ?t7 ?l7 ?c7 ?k7 ?a8 ?l8 ?c8 ?k8 ?a9 ?l9 ?c9 ?k9 ?a10 ?l10 ?c10 ?k10 ?a11 ?l11 ?c11 ?k11 ?a12 ?l12 ?c12 ?k12 ?a13 ?l13 ?c13 ?k13 ?a14 ?i14 ?l14 ?c14 ?k14 ?a15 ?i15 ?l15 ?c15 ?k15 ?a16 ?i16 ?l16 ?c16 ?k16 ?a17 ?i17 ?l17 ?c17 ?k17 ?a18 ?i18 ?l18 ?c18 ?k18 ?a19 ?i19 ?l19 ?c19 ?k19 ?a20 ?i20 ?l20 ?c20 ?k20 ?a21 ?l21 ?c21 ?k21 ?z1 ?z2 ?z3 ?z4 ?z5 ?z6 ?z7 ?z8 ?z9 ?g1 ?aC1 ?pg1 ?hd1 ?po1 ?sa1 ?mk1 ?kc1 ?n1_7 ?n1_9 ?n1_6 ?aC2 ?pg2 ?hd2 ?po2 ?sa2 ?mk2 ?kc2 ?n2_12 ?n2_8
    (case aC1 => k_is)
    (case aC2 => k_is)
    (case a1 => k_is)
    (case l1 => k_is)
    (case c1 => k_is)
    (case k1 => k_is)
    (case a2 => k_is)
    (case l2 => k_is)
    (case c2 => k_is)
    (case k2 => k_is)
    (case a3 => k_is)
    (case l3 => k_is)
    (case c3 => k_is)
    (case k3 => k_is)
    (case a4 => k_is)
    (case l4 => k_is)
    (case c4 => k_is)
    (case k4 => k_is)
    (case a5 => k_is)
    (case i5 => k_is)
    (case l5 => k_is)
    (case c5 => k_is)
    (case k5 => k_is)
    (case a6 => k_is)
    (case i6 => k_is)
    (case l6 => k_is)
    (case c6 => k_is)
    (case k6 => k_is)
    (case a7 => k_is)
    (case i7 => k_is)
    (case l7 => k_is)
    (case c7 => k_is)
    (case k7 => k_is)
    (case a8 => k_is)
    (case l8 => k_is)
    (case c8 => k_is)
    (case k8 => k_is)
    (case a9 => k_is)
    (case l9 => k_is)
    (case c9 => k_is)
    (case k9 => k_is)
    (case a10 => k_is)
    (case l10 => k_is)
    (case c10 => k_is)
    (case k10 => k_is)
    (case a11 => k_is)
    (case l11 => k_is)
    (case c11 => k_is)
    (case k11 => k_is)
    (case a12 => k_is)
    (case l12 => k_is)
    (case c12 => k_is)
    (case k12 => k_is)
    (case a13 => k_is)
    (case l13 => k_is)
    (case c13 => k_is)
    (case k13 => k_is)
    (case a14 => k_is)
    (case i14 => k_is)
    (case l14 => k_is)
    (case c14 => k_is)
    (case k14 => k_is)
    (case a15 => k_is)
    (case i15 => k_is)
    (case l15 => k_is)
    (case c15 => k_is)
    (case k15 => k_is)
    (case a16 => k_is)
    (case i16 => k_is)
    (case l16 => k_is)
    (case c16 => k_is)
    (case k16 => k_is)
    (case a17 => k_is)
    (case i17 => k_is)
    (case l17 => k_is)
    (case c17 => k_is)
    (case k17 => k_is)
    (case a18 => k_is)
    (case i18 => k_is)
    (case l18 => k_is)
    (case c18 => k_is)
    (case k18 => k_is)
    (case a19 => k_is)
    (case i19 => k_is)
    (case l19 => k_is)
    (case c19 => k_is)
    (case k19 => k_is)
    (case a20 => k_is)
    (case i20 => k_is)
    (case l20 => k_is)
    (case c20 => k_is)
    (case k20 => k_is)
    (case a21 => k_is)
    (case l21 => k_is)
    (case c21 => k_is)
    (case k21 => k_is)
    (case z1 => k_is)
    (case z2 => k_is)
    (case z3 => k_is)
    (case z4 => k_is)
    (case z5 => k_is)
    (case z6 => k_is)
    (case z7 => k_is)
    (case z8 => k_is)
    (case z9 => k_is)
    (case g1 => k_is)
    (case pg1 => k_is)
    (case hd1 => k_is)
    (case po1 => k_is)
    (case sa1 => k_is)
    (case mk1 => k_is)
    (case kc1 => k_is)
    (case n1_7 => k_is)
    (case n1_9 => k_is)
    (case n1_6 => k_is)
    (case pg2 => k_is)
    (case hd2 => k_is)
    (case po2 => k_is)
    (case sa2 => k_is)
    (case mk2 => k_is)
    (case kc2 => k_is)
    (case n2_12 => k_is)
    (case n2_8 => k_is)
    (case t7 => k_is)

