import PyProof.Rows.All
import Wide.All
import OpenK.AllK
import Wide.FinOn
import HandS.ForMost
import HandS.ForExc
import HandS.Defaults
import HandS.Walk
import HandS.SortKw
import PyProof.EqAt
import PyProof.EqKinds
import PyProof.TupleCall
import KE.KExcSuper
import KE.KFromBytes
import HandS.ExcInit
import HandS.ExcField
import HandS.ExcIs
import KE.KSortKey
import KE.KSortTup
import PyProof.Draws
import PyProof.EnumMake
import HandS.Zip0
import PyProof.ListRange
import HandS.Rev
import PySem.Challenge.RW_rulesonrules_k87_great_terms_shared
import HandS.DictComp
import KE.IntTextLaws
import HandS.Conv
import HandS.TupAny
import HandS.SortInts
import HandS.Text
import HandS.ExcOwn
import HandS.Deep
import HandS.IsInst
import HandS.HeadHook1
import HandS.HeadHook2
import KE.KStateDown
import HandS.Head0
import HandS.Head1
import HandS.Head2
import HandS.HeadEnd
set_option Elab.async false
set_option linter.all false
set_option maxRecDepth 100000
set_option maxHeartbeats 4000000
/-! ## Help -/
set_option maxHeartbeats 4000000
namespace L2
open PySem PySem.Spec PyProof.Rows
theorem ifT {c : Bool} {A B : Prop} (h : c = true) (a : A) : if c = true then A else B := by rw [if_pos h]; exact a
theorem ifF {c : Bool} {A B : Prop} (h : c = false) (b : B) : if c = true then A else B := by rw [h, if_neg Bool.false_ne_true]; exact b
theorem ifC {c : Bool} {A B : Prop} (h1 : c = true → A) (h2 : c = false → B) : if c = true then A else B := by
  cases c with
  | true => exact iteT (h1 rfl)
  | false => exact iteF (h2 rfl)
theorem at0 {α : Type} {x : α} {l : List α} : atI (x :: l) 0 = some x := atI_nat (j := 0) rfl
theorem at1 {α : Type} {x y : α} {l : List α} : atI (x :: y :: l) 1 = some y := atI_nat (j := 1) rfl
theorem at2 {α : Type} {x y z : α} {l : List α} : atI (x :: y :: z :: l) 2 = some z := atI_nat (j := 2) rfl
theorem dT {p : Prop} [Decidable p] (h : p) : decide p = true := decide_eq_true h
theorem dF {p : Prop} [Decidable p] (h : ¬ p) : decide p = false := decide_eq_false h
theorem dnT {p : Prop} [Decidable p] (h : ¬ p) : (!decide p) = true := by rw [decide_eq_false h]; rfl
theorem dnF {p : Prop} [Decidable p] (h : p) : (!decide p) = false := by rw [decide_eq_true h]; rfl
theorem oT {p : Prop} [Decidable p] (h : decide p = true) : p := of_decide_eq_true h
theorem oF {p : Prop} [Decidable p] (h : decide p = false) : ¬ p := of_decide_eq_false h
theorem onT {p : Prop} [Decidable p] (h : (!decide p) = true) : ¬ p := fun q => by rw [decide_eq_true q] at h; cases h
theorem onF {p : Prop} [Decidable p] (h : (!decide p) = false) : p := by
  by_cases q : p
  · exact q
  · rw [decide_eq_false q] at h; cases h
theorem pgS {X : Cx} {x z : Str} {t : Tok} {pos : Pos} (hm : X.mg x = some (.str z t)) (hg : Gl X x := by rfl) (hd : (x == ("__debug__" : Str)) = false := by decide) : PE X (.Name x pos) (tC (.str z)) := pe_glob hg hm ⟨t, rfl⟩ hd
theorem pgI {X : Cx} {x : Str} {i : Int} {t : Tok} {pos : Pos} (hm : X.mg x = some (.int i t)) (hg : Gl X x := by rfl) (hd : (x == ("__debug__" : Str)) = false := by decide) : PE X (.Name x pos) (tC (.int i)) := pe_glob hg hm ⟨t, rfl⟩ hd
theorem len_cps (x : Str) : x.length = x.cps.toList.length := by show x.cps.size = _; simp
theorem cps_get (x : Str) (i : Nat) : x.cps[i]? = x.cps.toList[i]? := by simp
theorem take_succ_all {α : Type} {p : α → Bool} {l : List α} {i : Nat} {x : α} (h : l[i]? = some x) : (l.take (i + 1)).all p = ((l.take i).all p && p x) := by
  have e : l.take (i + 1) = l.take i ++ [x] := by rw [List.take_add_one, h]; rfl
  rw [e, List.all_append]
  simp
theorem take_snoc {α : Type} {l : List α} {i : Nat} {x : α} (h : l[i]? = some x) : l.take (i + 1) = l.take i ++ [x] := by
  rw [List.take_add_one, h]; rfl

/-! ### heaps: what stays, but for what M names (tuples always stay) -/
def But (M : Addr → Prop) (H H' : Hp) : Prop := ∀ a o, H a = some o → (¬ M a ∨ ∃ xs, o = .tup xs) → H' a = some o
theorem But.refl {M : Addr → Prop} (H : Hp) : But M H H := fun _ _ h _ => h
theorem But.trans {M : Addr → Prop} {H H1 H2 : Hp} (a : But M H H1) (b : But M H1 H2) : But M H H2 := fun x o h m => b x o (a x o h m) m
theorem But.of_same {M : Addr → Prop} {H H' : Hp} (e : Same H H') : But M H H' := fun a o h _ => e a o h
theorem But.mono {M M' : Addr → Prop} {H H' : Hp} (b : But M H H') (h : ∀ a, M a → M' a) : But M' H H' := fun a o e m => b a o e (m.imp (fun n q => n (h a q)) id)
theorem But.same {H H' : Hp} (b : But (fun _ => False) H H') : Same H H' := fun a o e => b a o e (.inl id)
theorem But.new {M : Addr → Prop} {H H' : Hp} (b : But M H H') {p : Addr} {o : HO} (h : H p = none) : But M H (upd H' p o) := fun a u e m => by
  rw [upd_ne (ne_of_none e h)]
  exact b a u e m
theorem But.mut {M : Addr → Prop} {H H' : Hp} (b : But M H H') {p : Addr} {o u : HO} (hm : M p) (hp : H' p = some u) (hu : ∀ xs, u ≠ .tup xs) : But M H (upd H' p o) := fun a v e m => by
  have q := b a v e m
  by_cases h : a = p
  · subst h
    rw [hp] at q
    cases q
    rcases m with m | ⟨xs, m⟩
    · exact absurd hm m
    · exact absurd m (hu xs)
  · rw [upd_ne h]
    exact q
/-- a thing made since then may change -/
theorem But.own {M : Addr → Prop} {H H' : Hp} (b : But M H H') {p : Addr} {o : HO} (h : H p = none) : But M H (upd H' p o) := b.new h
theorem But.tup {M : Addr → Prop} {H H' : Hp} (b : But M H H') {a : Addr} {xs : List V} (h : H a = some (.tup xs)) : H' a = some (.tup xs) := b a _ h (.inr ⟨xs, rfl⟩)
theorem But.at {M : Addr → Prop} {H H' : Hp} (b : But M H H') {a : Addr} {o : HO} (h : H a = some o) (m : ¬ M a) : H' a = some o := b a _ h (.inl m)
theorem But.free {M : Addr → Prop} {H H' : Hp} (b : But M H H') {a : Addr} (h : H' a = none) (m : ¬ M a) : H a = none := by
  cases q : H a with
  | none => rfl
  | some o => rw [b.at q m] at h; cases h
theorem Same.seqT {K : PySem.W.Frag} {H H' : Hp} {a : Addr} {xs : List V} (e : Same H H') (h : SqT K H a xs) : SqT K H' a xs := by
  rcases h with (h | ⟨o, h⟩) | h
  · exact .inl (.inl (e _ _ h))
  · exact .inl (.inr ⟨o, e _ _ h⟩)
  · exact .inr h
theorem Same.new {H : Hp} {p : Addr} {o : HO} (h : H p = none) : Same H (upd H p o) := fun a u e => by
  rw [upd_ne (ne_of_none e h)]
  exact e
theorem Same.new' {H H' : Hp} (b : Same H H') {p : Addr} {o : HO} (h : H p = none) : Same H (upd H' p o) := fun a u e => by
  rw [upd_ne (ne_of_none e h)]
  exact b a u e
abbrev Fn (K : PySem.W.Frag) (x qual : Str) (st : Stmt) (dvs : List V) (f : Addr) (fd : FuncData) : Prop := FunD K x qual (defArgs st) (defBody st) (defScope st) dvs [] f fd
/-! ### slices -/
theorem cutV_from (xs : List V) (k : Nat) : cutV xs (some (k : Int)) none = xs.drop k := by
  unfold cutV
  rw [HT.sIx_nat, HT.sIx_none]
  by_cases h : k ≤ xs.length
  · rw [Nat.min_eq_left h, List.take_of_length_le (by rw [List.length_drop]; exact Nat.le_refl _)]
  · rw [Nat.min_eq_right (by omega), Nat.sub_self, List.take_zero, List.drop_eq_nil_of_le (by omega)]
theorem cutV_to (xs : List V) (k : Nat) : cutV xs none (some (k : Int)) = xs.take k := by
  unfold cutV
  rw [HT.sIx_nat, HT.sIx_none, List.drop_zero, Nat.sub_zero]
  by_cases h : k ≤ xs.length
  · rw [Nat.min_eq_left h]
  · rw [Nat.min_eq_right (by omega), List.take_of_length_le (Nat.le_refl _), List.take_of_length_le (by omega)]
theorem cutS_from (z : Str) (k : Nat) : (cutS z (some (k : Int)) none).cps.toList = z.cps.toList.drop k := by
  unfold cutS
  rw [HT.sIx_nat, HT.sIx_none, List.toList_toArray]
  have hl := len_cps z
  rw [hl]
  by_cases h : k ≤ z.cps.toList.length
  · rw [Nat.min_eq_left h, List.take_of_length_le (by rw [List.length_drop]; exact Nat.le_refl _)]
  · rw [Nat.min_eq_right (by omega), Nat.sub_self, List.take_zero, List.drop_eq_nil_of_le (by omega)]
theorem cutS1 (z : Str) : (cutS z (some 1) none).cps.toList = z.cps.toList.drop 1 := cutS_from z 1
theorem cutV1 (xs : List V) : cutV xs (some 1) none = xs.drop 1 := cutV_from xs 1
end L2

/-! ## ExcR -/
set_option maxHeartbeats 4000000
/-! an own error over an own base over ValueError, whose __init__ says super().__init__(text) and stores its arguments as fields -/
namespace PySem
namespace ErrX
open PySem.W PySem.Calls PyProof.Rows PySem.HandSPX
/-- self.f = f, one after the other -/
def stores : List Str → List Stmt → Prop
  | [], st => st = []
  | f :: fs, st => ∃ (q1 q2 q3 q4 : Pos) (rest : List Stmt), st = .Assign [.Attribute (.Name "self" q1) f q2] (.Name f q3) q4 :: rest ∧ (∀ env : Env, swapsWith (.Name f q3) (some (.Attribute (.Name "self" q1) f q2)) q4.line env = pure false) ∧ stores fs rest
/-- what the written part says of the class at C -/
structure ErrC (K : Frag) (C : Addr) : Prop where
  cls : ∃ nm q N bs bm sn sub ab col dd k0 k1 k2 k3 k5, K.lookup C = some (excClassObj nm q C N bs bm true sn sub ab col dd k0 k1 k2 k3 k5 "ValueError.__new__") ∧ refsVE bm = true
  sa : findIn K (.ref C) "__setattr__" = some (some (.builtin "object.__setattr__"))
  exC : subIn K (.ref C) (.type "BaseException") = some true
  veC : subIn K (.ref C) (.type "ValueError") = some true
  tyC : typeIn K (.ref C) = some (.type "type")
  kC : keepIn K (.ref C) = true
  self : mroIn K C (.ref C) = some true
  up : ks_superIn K C C "__init__" = some (some (.builtin "ValueError.__init__"))
  opq : nsIn K cStatics "thirdparty.any" = some none
/-- the statement super().__init__(text) -/
structure SupSt (prog : Program) (st : Stmt) : Prop where
  is : ∃ (p0 p1 pa pc pe px : Pos) (txt : Str) (ck : Nat) (pl : Sem Bool),
    st = .Expr (.Call (.Attribute (.Call (.Name "super" p0) [] [] p1) "__init__" pa) [.Constant (.str txt) ck pc] [] pe) px ∧
    (∀ env : Env, eval (.Call (.Attribute (.Call (.Name "super" p0) [] [] p1) "__init__" pa) [.Constant (.str txt) ck pc] [] pe) env = (do
      let ov ← attributeBase (.Call (.Name "super" p0) [] [] p1) "__init__" env (eval (.Call (.Name "super" p0) [] [] p1) env)
      standAt pa.atName
      let (f, first) ← holding [ov] (getMethod ov "__init__" pl)
      callWith pe f first (backTo pe (starEach [.Constant (.str txt) ck pc] env)) [])) ∧
    (∀ env : Env, swapsWith (.Call (.Attribute (.Call (.Name "super" p0) [] [] p1) "__init__" pa) [.Constant (.str txt) ck pc] [] pe) none px.line env = pure false)
structure ErrFn (K : Frag) (prog : Program) (C fI : Addr) (ns : List Str) : Prop where
  fn : ∃ (qual : Str) (params : Arguments) (st : Stmt) (rest : List Stmt) (scope : Scope) (oc kV doc pm : Value) (an od : Option Addr) (cda : Addr) (ct : Value) (cc : Addr) (osl : Array (Option Value)) (ar : Arg)
      (vs : Array Value) (file : Str) (tf : Tok) (ccl cl : Value) (cdd cld : Option Addr) (ccs csl : Array (Option Value)),
    K.lookup fI = some ⟨oc, od, .func (ksFn "__init__" qual params (st :: rest) scope .none kV doc pm an (.ref cda) ct cc), osl⟩ ∧ codeIn K (.ref cda) qual = true ∧
    (params.posonlyargs ++ params.args).head? = some ar ∧ ar.arg = ("self" : Str) ∧ K.lookup cda = some ⟨ccl, cdd, .fields vs, ccs⟩ ∧ vs[2]? = some (.str file tf) ∧ ((prog.main.file : Str) == file) = true ∧
    K.lookup cc = some ⟨cl, cld, .cell (some (.ref C)), csl⟩ ∧ SupSt prog st ∧ stores ns rest ∧
    (∀ (s : Shared) (us : List Value), us.length = ns.length → ∀ x : Value, BindsTo s (ksFn "__init__" qual params (st :: rest) scope .none kV doc pm an (.ref cda) ct cc) ⟨x :: us, []⟩ (("self", x) :: ns.zip us)) ∧
    scope.names.lookup ("super" : Str) = some .globalImplicit ∧ scope.names.lookup ("__class__" : Str) = some .free ∧ scope.names.lookup ("self" : Str) = some .local ∧ (∀ n ∈ ns, scope.names.lookup n = some .local) ∧
    scope.kind = .function ∧ scope.isCoroutine = false ∧ scope.isGenerator = false ∧ (∀ x ∈ scope.names, x.2 ≠ .cell)
  tI : typeIn K (.ref fI) = some (.type "function")
  iC : findIn K (.ref C) "__init__" = some (some (.ref fI))
  no : ∀ n ∈ ns, findIn K (.ref C) n = some none
  hsuper : (prog.main.scope.names.lookup ("super" : Str)).isSome = false
theorem ld {M : Model} {A : Around} {E : Value → Shared → Prop} {s : Shared} {env : Env} {m : Str → Option Value} {x : Str} {pos : Pos} {v : Value} {Q : Value → Shared → Prop} (hk : env.scope.kind = .function) (hl : env.kindOf x = some .local)
    (hn : s.heap.Ns env.locals m) (hv : m x = some v) (h : Q v s) (hd : (x == ("__debug__" : Str)) = false) : wpAny M A (eval (.Name x pos) env) Q E s :=
  wpAny_Name (wpAny_loadName_local hk hl hn hv h) hd
section
variable {prog : Program} {w : World} {A : Around} {E : Value → Shared → Prop} {s : Shared} {K : Frag} {C fI : Addr}
theorem call_mw {u e t0 : Addr} {rest : List Value} {Q : Value → Shared → Prop} (T : ErrC K C) (X : K.In s.heap) (he : s.heap.get? e = some (excO C t0)) (hu : s.heap.get? u = some (kxs_mw "ValueError.__init__" e)) (hz : rest.length ≤ sizeLine)
    (h : ∀ h' t1, (∀ b o, b ≠ e → s.heap.get? b = some o → h'.get? b = some o) → h'.get? e = some (excO C t1) → Q .none { s with heap := h' }) :
    wpAny (model prog w) A (call (.ref u) rest) Q E s := by
  obtain ⟨nm, q, N, bs, bm, sn, sub, ab, col, dd, k0, k1, k2, k3, k5, hC, hbm⟩ := T.cls
  have hC' := X _ _ hC
  obtain ⟨hh, g, d, tk, os⟩ := s
  refine wpAny_call (codeAny_of_tree ?_)
  show wpAny _ A.in1 (callAny (.ref u) ⟨rest, []⟩) _ _ _
  simp only [callAny]
  refine wpAny_bind (wpAny_load hu ?_)
  simp only [kxs_mw, show (Value.type "method-wrapper" == Value.type "method" || Value.type "method-wrapper" == Value.type "builtin_function_or_method" || Value.type "method-wrapper" == Value.type "method-wrapper") = true by decide, if_true]
  refine KFB.if_so (by decide) ?_
  refine wpAny_bind (check_bound_init (F.excBase_ValueError).toExcCallFacts hC' he rfl ?_)
  refine wpAny_bind (wpAny_pure (wpAny_pure ?_))
  refine ⟨plainId_quiet F.excBase_ValueError.init.plain _, codeAny_builtin F.excBase_ValueError.initEntry ?_⟩
  exact exc_init_tree (cls := .ref C) (t0 := t0) (dv := none) (c2 := .none) (c3 := .none) (b4 := .bool false) he hz fun h' k e' _ => h h' _ k e'

theorem ne_cls {h : Heap} {x t0 : Addr} (T : ErrC K C) (X : K.In h) (hx : h.get? x = some (excO C t0)) : x ≠ C := by
  rintro rfl
  obtain ⟨nm, q, N, bs, bm, sn, sub, ab, col, dd, k0, k1, k2, k3, k5, hC, hbm⟩ := T.cls
  have e := X _ _ hC
  rw [hx] at e
  have e2 := congrArg (fun o : Option Obj => o.map Obj.data) e
  cases e2
theorem sup_stmt {st : Stmt} {env : Env} {body : List Stmt} {x t0 cda cc L : Addr} {of occ : Obj} {fd : FuncData} {ar : Arg} {vs : Array Value} {file : Str} {tf : Tok} {m mg mb : Str → Option Value} {Q : Flow → Shared → Prop}
    (T : ErrC K C) (S : SupSt prog st) (X : K.In s.heap) (hk : env.scope.kind = .function) (hs1 : env.kindOf "super" = some .globalImplicit) (hs2 : env.kindOf "__class__" = some .free) (hs3 : env.kindOf "self" = some .local)
    (hfu : env.func = some fI) (hf : s.heap.get? fI = some of) (hfd : of.data = .func fd) (hp : (fd.params.posonlyargs ++ fd.params.args).head? = some ar) (har : ar.arg = ("self" : Str))
    (hco : env.code = .ref cda) (hcc : s.heap.get? cda = some occ) (hoc : occ.data = .fields vs) (hvs : vs[2]? = some (.str file tf)) (hfile : ((prog.main.file : Str) == file) = true) (htop : (prog.main.scope.names.lookup ("super" : Str)).isSome = false)
    (hcell : env.cells.lookup ("__class__" : Str) = some cc) (hcv : s.heap.IsCell cc (some (.ref C))) (hL : env.locals = L) (hn : s.heap.Ns L m) (hm : m "self" = some (.ref x)) (hx : s.heap.get? x = some (excO C t0))
    (hg : s.heap.Ns env.globals mg) (hgs : mg "super" = none) (hb : s.heap.Ns env.builtins mb) (hbs : mb "super" = some (.type "super"))
    (h : ∀ h' t1 tk', (∀ b o, b ≠ x → s.heap.get? b = some o → h'.get? b = some o) → h'.get? x = some (excO C t1) → Q .next { s with heap := h', toks := tk' }) :
    _root_.PySem.wpAt (model prog w) A (.func body env) (exec st env) Q E s := by
  obtain ⟨p0, p1, pa, pc, pe, px, txt, ck, pl, rfl, heq, hsw⟩ := S.is
  obtain ⟨nm, q, N, bs, bm, sn, sub, ab, col, dd, k0, k1, k2, k3, k5, hC, hbm⟩ := T.cls
  have hint : interactive env = false := by unfold interactive; rw [hk]; rfl
  have hcl : clsIn K C = some { name := nm, bases := bs, mro := .ref C :: bm, ns := N, qualname := q, hasDict := true, slotNames := sn, subclasses := sub, abstract := ab, collection := col, hasDel := false } := by unfold clsIn; rw [hC] <;> rfl
  refine ks_wpAt_Expr_any ?_ hint (hsw env)
  refine ks_wpAt_MethodCall ?_ (heq env)
  refine ks_wpAt_super_base hs1 hs2 (by decide) hfu hf hfd hp hco hcc hoc hvs hfile htop ?_
  refine ks_loadName_global hk hs1 (loadGlobal_builtin hg hgs hb hbs ⟨rfl, ?_⟩)
  refine wpAny_loadName_free hk hs2 hcell hcv ?_
  rw [har]
  refine wpAny_loadName_local hk hs3 (by rw [hL]; exact hn) hm ?_
  obtain ⟨hh, g, d, tk, os⟩ := s
  have hC' := X _ _ hC
  refine ks_wpAny_isType_cls hC' rfl ⟨rfl, ?_⟩
  refine ks_wpAny_call_super hC' rfl hx rfl (fun c e => by cases e) (looks_mroIn X T.self) (fun h1 e1 kk1 => ?_)
  have X1 : K.In h1 := X.keeps kk1
  have hx1 := kk1 _ _ hx
  have hxC := ne_cls T X1 hx1
  have hup := T.up
  unfold ks_superIn at hup
  rw [hcl] at hup
  have J : InstAt h1 x (excO C t0) C none := ⟨hx1, rfl, rfl, trivial⟩
  refine kxs_getMethod kxs_ValueError e1 (looks_opaque X1 T.opq) (l₀ := .ref C :: bm) (fun A Q E s k q => wpAny_bind ((looks_clsIn X1 hcl) A _ E s k (wpAny_pure q))) rfl X1 hup (J.type.andThen (looks_subIn X1 T.veC)) hxC (by decide) ?_
  have hu : (h1.push (kxs_mw "ValueError.__init__" x)).get? h1.objs.size = some (kxs_mw "ValueError.__init__" x) := Heap.get?_push_at rfl rfl
  have kk2 : ∀ b o, h1.get? b = some o → (h1.push (kxs_mw "ValueError.__init__" x)).get? b = some o := fun b o e => Heap.get?_push_of_some _ e
  refine kxs_callWith (i := "ValueError.__init__") (x := x) (by rfl) ?_
  have hst : starEach [Expr.Constant (.str txt) ck pc] env = (false, eval (.Constant (.str txt) ck pc) env) :: starEach [] env := rfl
  rw [hst]
  refine evalArgs_plain (spliced_cons (Calls.Constant_str (k := ck) (pos := pc) (spliced_nil ?_)))
  refine ⟨hu, ?_⟩
  refine call_mw T (X1.keeps kk2) (kk2 _ _ hx1) hu (by show 1 ≤ sizeLine; decide) fun h' t1 k3 e3 => ?_
  exact h h' t1 _ (fun b o hb e => k3 b o hb (kk2 _ _ (kk1 _ _ e))) e3
/-- the fields, one after the other: the newest first -/
def put : List Str → List Value → (Str → Option Value) → Str → Option Value
  | f :: fs, v :: us, m => put fs us fun y => if y = f then some v else m y
  | _, _, m => m
theorem stores_old {env : Env} {x t1 dx L : Addr} {m : Str → Option Value} (T : ErrC K C) (hk : env.scope.kind = .function) (hs3 : env.kindOf "self" = some .local) (hL : env.locals = L) (hm : m "self" = some (.ref x)) (hLd : L ≠ dx) (hKd : K.lookup dx = none) {Q : Flow → Shared → Prop} :
    ∀ (ns : List Str) (us : List Value) (st : List Stmt) (s : Shared) (m0 : Str → Option Value) (nl : List Str), stores ns st → us.length = ns.length → (∀ n ∈ ns, findIn K (.ref C) n = some none ∧ env.kindOf n = some .local ∧ (n == ("__debug__" : Str)) = false) → (∀ (i : Nat) (n : Str), ns[i]? = some n → m n = us[i]?) →
      K.In s.heap → s.heap.get? x = some { cls := .ref C, dict := some dx, data := .fields #[.ref t1, .none, .none, .none, .bool false, .none] } → x ≠ dx → s.heap.Ns1 dx m0 → Within m0 nl → nl.length + ns.length ≤ 900 → s.heap.Ns L m →
      (∀ h' tk', (∀ b o, b ≠ dx → s.heap.get? b = some o → h'.get? b = some o) → h'.Ns1 dx (put ns us m0) → Q .next { s with heap := h', toks := tk' }) → wpAny (model prog w) A (execs st env) Q E s
  | [], us, st, s, m0, nl, hst, _, _, _, _, _, _, hns, _, _, _, h => by
    obtain rfl : st = [] := hst
    refine wpAny_execs_nil ?_
    have e : put [] us m0 = m0 := rfl
    exact h s.heap s.toks (fun _ _ _ e => e) (by rw [e]; exact hns)
  | n :: ns, [], _, _, _, _, _, hl, _, _, _, _, _, _, _, _, _, _ => by cases hl
  | n :: ns, v :: us, st, s, m0, nl, hst, hl, hno, hmv, X, hx, hxd, hns, hw, hz, hnL, h => by
    obtain ⟨q1, q2, q3, q4, rest, rfl, hsw, hrest⟩ := hst
    obtain ⟨nm, q, N, bs, bm, sn, sub, ab, col, dd, k0, k1, k2, k3, k5, hC, hbm⟩ := T.cls
    have hcl : clsIn K C = some { name := nm, bases := bs, mro := .ref C :: bm, ns := N, qualname := q, hasDict := true, slotNames := sn, subclasses := sub, abstract := ab, collection := col, hasDel := false } := by unfold clsIn; rw [hC] <;> rfl
    obtain ⟨hn1, hn2, hn3⟩ := hno n List.mem_cons_self
    have hv : m n = some v := hmv 0 n rfl
    obtain ⟨oD, esD, epD, hoD, hdD, _⟩ := hns.count hw
    refine wpAny_execs_cons (plainObj_wpAny_Assign_Attribute ?_ (hsw env))
    refine ld (v := v) hk hn2 (by rw [hL]; exact hnL) hv (ld (v := .ref x) hk hs3 (by rw [hL]; exact hnL) hm ?_ (by decide)) hn3
    refine set_plain X (ox := _) (od := some oD) ⟨hx, rfl, rfl, hoD⟩ T.sa ?_
    obtain ⟨hh, g, d, tk, os⟩ := s
    refine PySem.OEX.osa_old X hx hns hw (by simp only [List.length_cons] at hz; omega) hcl (show refsVE (.ref C :: bm) = true from hbm) rfl hn1 (fun h' tk' k' hn' => ?_)
    show wpAny _ _ (execs rest env) _ _ _
    have X' : K.In h' := fun a o e => k' a o (fun z => by rw [z, hKd] at e; cases e) (X a o e)
    refine stores_old T hk hs3 hL hm hLd hKd ns us rest _ _ (n :: nl) hrest (by simpa using hl) (fun a ha => hno a (List.mem_cons_of_mem _ ha)) (fun i a ha => hmv (i + 1) a ha) X' (k' _ _ hxd hx) hxd hn' (Within.cons n v hw) (by simp only [List.length_cons] at hz ⊢; omega)
      (hnL.at (fun o e => k' _ _ hLd e)) fun h2 tk2 kk hq => ?_
    exact h h2 tk2 (fun b o hb e => kk b o hb (k' b o hb e)) hq

theorem stores_new {env : Env} {x t1 L : Addr} {m : Str → Option Value} (T : ErrC K C) (hk : env.scope.kind = .function) (hs3 : env.kindOf "self" = some .local) (hL : env.locals = L) (hm : m "self" = some (.ref x)) (hxK : K.lookup x = none) {Q : Flow → Shared → Prop}
    (n : Str) (ns : List Str) (us : List Value) (st : List Stmt) (s : Shared) (hst : stores (n :: ns) st) (hl : us.length = (n :: ns).length) (hno : ∀ a ∈ n :: ns, findIn K (.ref C) a = some none ∧ env.kindOf a = some .local ∧ (a == ("__debug__" : Str)) = false)
    (hmv : ∀ (i : Nat) (a : Str), (n :: ns)[i]? = some a → m a = us[i]?) (hz : ns.length ≤ 800) (X : K.In s.heap) (hx : s.heap.get? x = some (excO C t1)) (hnL : s.heap.Ns L m)
    (h : ∀ h' tk' dx, (∀ b o, b ≠ x → s.heap.get? b = some o → h'.get? b = some o) → s.heap.objs.size ≤ dx → dx ≠ x → h'.get? x = some { cls := .ref C, dict := some dx, data := .fields #[.ref t1, .none, .none, .none, .bool false, .none] } →
      h'.Ns1 dx (put (n :: ns) us fun _ => none) → Q .next { s with heap := h', toks := tk' }) : wpAny (model prog w) A (execs st env) Q E s := by
  obtain ⟨q1, q2, q3, q4, rest, rfl, hsw, hrest⟩ := hst
  obtain ⟨nm, q, N, bs, bm, sn, sub, ab, col, dd, k0, k1, k2, k3, k5, hC, hbm⟩ := T.cls
  have hcl : clsIn K C = some { name := nm, bases := bs, mro := .ref C :: bm, ns := N, qualname := q, hasDict := true, slotNames := sn, subclasses := sub, abstract := ab, collection := col, hasDel := false } := by unfold clsIn; rw [hC] <;> rfl
  cases us with
  | nil => cases hl
  | cons v us =>
    obtain ⟨hn1, hn2, hn3⟩ := hno n List.mem_cons_self
    have hv : m n = some v := hmv 0 n rfl
    refine wpAny_execs_cons (plainObj_wpAny_Assign_Attribute ?_ (hsw env))
    refine ld (v := v) hk hn2 (by rw [hL]; exact hnL) hv (ld (v := .ref x) hk hs3 (by rw [hL]; exact hnL) hm ?_ (by decide)) hn3
    refine set_plain X (ox := excO C t1) (od := none) ⟨hx, rfl, rfl, trivial⟩ T.sa ?_
    obtain ⟨hh, g, d, tk, os⟩ := s
    refine exc_osa X hx hcl (show refsVE (.ref C :: bm) = true from hbm) rfl hn1 (fun h3 tk3 dx k3 dn dne hx3 hn3 => ?_)
    show wpAny _ _ (execs rest env) _ _ _
    have X3 : K.In h3 := fun a o e => k3 a o (fun z => by rw [z, hxK] at e; cases e) (X a o e)
    have hKd : K.lookup dx = none := by
      cases e : K.lookup dx with
      | none => rfl
      | some o => exact absurd (Heap.lt_size (X _ _ e)) (Nat.not_lt.mpr dn)
    obtain ⟨oL, esL, epL, hoL, hrL⟩ := id hnL
    have hLx : L ≠ x := fun z => by
      rw [z, hx] at hoL
      cases hoL
      exact Data.noConfusion hrL.1
    have hLd : L ≠ dx := Nat.ne_of_lt (Nat.lt_of_lt_of_le (Heap.lt_size hoL) dn)
    refine stores_old T hk hs3 hL hm hLd hKd ns us rest _ _ [n] hrest (by simpa using hl) (fun a ha => hno a (List.mem_cons_of_mem _ ha)) (fun i a ha => hmv (i + 1) a ha) X3 hx3 dne.symm hn3
      (fun y hy => by
        by_cases e : y = n
        · rw [e]; exact List.mem_cons_self
        · exact absurd (if_neg e) hy) (by simp only [List.length_cons, List.length_nil]; omega) (hnL.at (fun o e => k3 _ _ hLx e)) fun h2 tk2 kk hq => ?_
    have hne : ∀ b o, hh.get? b = some o → b ≠ dx := fun b o e => Nat.ne_of_lt (Nat.lt_of_lt_of_le (Heap.lt_size e) dn)
    exact h h2 tk2 dx (fun b o hb e => kk b o (hne b o e) (k3 b o hb e)) dn dne (kk _ _ dne.symm hx3) hq

theorem look_mem {k : Str} {v : Value} : ∀ l : List (Str × Value), (l.map (·.1)).Nodup → (k, v) ∈ l → l.lookup k = some v
  | [], _, h => by cases h
  | (a, b) :: l, hn, h => by
    rw [List.map_cons, List.nodup_cons] at hn
    rcases List.mem_cons.mp h with e | h
    · cases e
      simp [List.lookup]
    · have hne : k ≠ a := fun e => hn.1 (by rw [← e]; exact List.mem_map.mpr ⟨(k, v), h, rfl⟩)
      have e : (k == a) = false := by simpa using hne
      simp only [List.lookup, e]
      exact look_mem l hn.2 h
theorem look_rev {k : Str} {v : Value} {l : List (Str × Value)} (hn : (l.map (·.1)).Nodup) (h : (k, v) ∈ l) : l.reverse.lookup k = some v :=
  look_mem _ (by rw [List.map_reverse]; exact List.pairwise_reverse.mpr (hn.imp fun ne e => ne e.symm)) (List.mem_reverse.mpr h)
theorem zip_keys : ∀ (ns : List Str) (us : List Value), us.length = ns.length → (ns.zip us).map (·.1) = ns
  | [], [], _ => rfl
  | [], _ :: _, h => by cases h
  | _ :: _, [], h => by cases h
  | n :: ns, u :: us, h => by
    show n :: (ns.zip us).map (·.1) = n :: ns
    rw [zip_keys ns us (by simpa using h)]
theorem zip_at : ∀ (ns : List Str) (us : List Value) (i : Nat) (n : Str) (u : Value), ns[i]? = some n → us[i]? = some u → (n, u) ∈ ns.zip us
  | n :: ns, u :: us, 0, a, b, h1, h2 => by
    cases h1; cases h2; exact List.mem_cons_self
  | n :: ns, u :: us, i + 1, a, b, h1, h2 => List.mem_cons_of_mem _ (zip_at ns us i a b h1 h2)
  | [], _, i, a, b, h1, _ => by simp at h1
  | _ :: _, [], i, a, b, _, h2 => by simp at h2
/-- what __init__ leaves of a fresh error at x -/
structure InitEnd (h h' : Heap) (x C dx t1 : Addr) (ns : List Str) (us : List Value) : Prop where
  keep : ∀ b o, b ≠ x → h.get? b = some o → h'.get? b = some o
  obj : h'.get? x = some { cls := .ref C, dict := some dx, data := .fields #[.ref t1, .none, .none, .none, .bool false, .none] }
  dbig : h.objs.size ≤ dx
  dne : dx ≠ x
  ns : h'.Ns1 dx (put ns us fun _ => none)
structure NsOk (ns : List Str) : Prop where
  nd : ("self" :: ns : List Str).Nodup
  db : ∀ n ∈ ns, (n == ("__debug__" : Str)) = false
  sz : ns.length ≤ 800
theorem err_init {R : Result → Shared → Prop} {n : Str} {ns : List Str} {us : List Value} {x t0 : Addr} {mg mb : Str → Option Value} (T : ErrC K C) (F : ErrFn K prog C fI (n :: ns)) (No : NsOk (n :: ns)) (X : K.In s.heap) (hlim : s.heap.NoLimit) (hx : s.heap.get? x = some (excO C t0)) (hnx : K.lookup x = none)
    (hg : s.heap.Ns mainGlobals mg) (hgs : mg "super" = none) (hb : s.heap.Ns builtinsNs mb) (hbs : mb "super" = some (.type "super")) (hroom : A.depth < recursionLimit) (hl : us.length = (n :: ns).length)
    (hq : ∀ h' tk dx t1, InitEnd s.heap h' x C dx t1 (n :: ns) us → R (.ok (.ret .none)) { s with heap := h', toks := tk }) :
    codeAny (model prog w) A (.call (.ref fI) ⟨.ref x :: us, []⟩) R s := by
  obtain ⟨qual, params, st, rest, scope, oc, kV, doc, pm, an, od, cda, ct, cc, osl, ar, vs, file, tf, ccl, cl, cdd, cld, ccs, csl, ho, hcd, hp, har, hcda, hvs, hfile, hcc, hS, hst, hbind, k1, k2, k3, k4, k5, k6, k7, k8⟩ := F.fn
  have hnd : ((("self" : Str), Value.ref x) :: (n :: ns).zip us).map (·.1) = ("self" : Str) :: (n :: ns) := by
    rw [List.map_cons, zip_keys _ _ hl]
  have hms : ((("self" : Str), Value.ref x) :: (n :: ns).zip us).reverse.lookup ("self" : Str) = some (.ref x) := look_rev (by rw [hnd]; exact No.nd) List.mem_cons_self
  have hmn : ∀ (i : Nat) (a : Str), (n :: ns)[i]? = some a → ((("self" : Str), Value.ref x) :: (n :: ns).zip us).reverse.lookup a = us[i]? := fun i a ha => by
    have hi : i < us.length := by rw [hl]; exact (List.getElem?_eq_some_iff.mp ha).1
    rw [List.getElem?_eq_getElem hi]
    exact look_rev (by rw [hnd]; exact No.nd) (List.mem_cons_of_mem _ (zip_at _ _ i _ _ ha (List.getElem?_eq_getElem hi)))
  refine ks_codeAny_call_defAt (binds := (("self" : Str), Value.ref x) :: (n :: ns).zip us) hroom (X _ _ ho) rfl hlim (codeRec_of X hcd) rfl (hbind s us hl (.ref x)) k8 (fun y hy => ?_) (fun h1 hns kk => ?_) k6 k7 k5
  · rcases List.mem_cons.mp hy with rfl | hy
    · exact k3
    · exact k4 _ (by
        have := List.mem_map_of_mem (f := (·.1)) hy
        rw [zip_keys _ _ hl] at this
        exact this)
  · have X1 : K.In h1 := X.keeps kk
    have hx1 := kk _ _ hx
    refine ks_wpAt_execs_cons ?_
    refine sup_stmt (mg := mg) (mb := mb) T hS X1 k5 k1 k2 k3 rfl (X1 _ _ ho) rfl hp har rfl (X1 _ _ hcda) rfl hvs hfile F.hsuper (cc := cc) (by show (match ("__class__" : Str) == ("__class__" : Str) with | true => some cc | false => none) = some cc; rw [beq_self_eq_true]) ⟨_, X1 _ _ hcc, rfl⟩ rfl hns hms hx1 (hg.keeps kk) hgs (hb.keeps kk) hbs fun h2 t1 tk2 k2' hx2 => ?_
    obtain ⟨oL, _, _, hoL, hrL⟩ := id hns
    have hLx : s.heap.objs.size ≠ x := Nat.ne_of_gt (Heap.lt_size hx)
    have X2 : K.In h2 := fun a o e => k2' a o (fun z => by rw [z, hnx] at e; cases e) (X1 a o e)
    refine wpAt_of_wpAny (stores_new (env := callEnv (ksFn "__init__" qual params (st :: rest) scope .none kV doc pm an (.ref cda) ct cc) s.heap.objs.size fI) T k5 k3 rfl hms hnx n ns us rest _ hst hl (fun a ha => ⟨F.no a ha, k4 a ha, No.db a ha⟩) hmn (by have := No.sz; simp only [List.length_cons] at this; omega) X2 hx2 ⟨oL, _, _, k2' _ _ hLx hoL, hrL⟩ fun h3 tk3 dx k3' dn dne hx3 hn3 => ?_)
    have z : s.heap.objs.size < h1.objs.size := hns.lt
    have z2 : s.heap.objs.size < h2.objs.size := Heap.lt_size (k2' _ _ hLx hoL)
    exact hq h3 tk3 dx t1 ⟨fun b o hb e => k3' b o hb (k2' b o hb (kk b o e)), hx3, Nat.le_of_lt (Nat.lt_of_lt_of_le z2 dn), dne, hn3⟩

/-- a made error -/
structure Made (h h' : Heap) (e C d : Addr) (ns : List Str) (us : List Value) : Prop where
  keep : ∀ b o, h.get? b = some o → h'.get? b = some o
  new : h.objs.size ≤ e
  obj : ∃ oe vs, h'.get? e = some oe ∧ oe.cls = .ref C ∧ oe.dict = some d ∧ oe.data = .fields vs ∧ vs[1]? = some .none
  dbig : h.objs.size ≤ d
  dne : d ≠ e
  ns : h'.Ns1 d (put ns us fun _ => none)
theorem err_made {R : Result → Shared → Prop} {n : Str} {ns : List Str} {us : List Value} {mg mb : Str → Option Value} (T : ErrC K C) (F : ErrFn K prog C fI (n :: ns)) (No : NsOk (n :: ns)) (X : K.In s.heap) (hlim : s.heap.NoLimit)
    (hg : s.heap.Ns mainGlobals mg) (hgs : mg "super" = none) (hb : s.heap.Ns builtinsNs mb) (hbs : mb "super" = some (.type "super")) (hroom : A.depth + 1 < recursionLimit) (hl : us.length = (n :: ns).length)
    (hq : ∀ h' tk e d, Made s.heap h' e C d (n :: ns) us → R (.ok (.ret (.ref e))) { s with heap := h', toks := tk }) :
    codeAny (model prog w) A (.call (.ref C) ⟨us, []⟩) R s := by
  obtain ⟨nm, q, N, bs, bm, sn, sub, ab, col, dd, k0, k1, k2, k3, k5, hC, hbm⟩ := T.cls
  obtain ⟨hp, g, dr, tk, os⟩ := s
  have k : ∀ b o, hp.get? b = some o → ((hp.push (kdv_tup us)).push (excO C hp.objs.size)).get? b = some o := fun b o e => Heap.get?_push_of_some _ (Heap.get?_push_of_some _ e)
  have hget : ((hp.push (kdv_tup us)).push (excO C hp.objs.size)).get? (hp.objs.size + 1) = some (excO C hp.objs.size) := by heap_get
  have hnx : K.lookup (hp.objs.size + 1) = none := by
    cases e : K.lookup (hp.objs.size + 1) with
    | none => rfl
    | some o =>
      have z : hp.get? (hp.objs.size + 1) = some o := X _ _ e
      exact absurd (Nat.lt_of_succ_lt (Heap.lt_size z)) (Nat.lt_irrefl _)
  have hsz : us.length ≤ sizeLine := by
    have := No.sz
    rw [hl, sizeLine_eq]
    omega
  refine call_own PySem.F.excBase_ValueError (fun X => refsVE_contains X bm hbm) (X _ _ hC) (looks_findIn X F.iC) (fun self => bind_fn X self F.tI) hsz ?_
  refine err_init (s := ⟨(hp.push (kdv_tup us)).push (excO C hp.objs.size), g, dr, tk, os⟩) T F No (X.keeps k) (hlim.keeps k) hget hnx (hg.keeps k) hgs (hb.keeps k) hbs ?_ hl fun h' tk' dx t1 M => ?_
  · exact hroom
  · obtain ⟨k', hx, dn, dne, hns⟩ := M
    have old : ∀ b o, hp.get? b = some o → h'.get? b = some o := fun b o e => k' b o (Nat.ne_of_lt (Nat.lt_succ_of_lt (Heap.lt_size e))) (k b o e)
    have z : hp.objs.size + 1 + 1 ≤ dx := by
      first
        | (simpa only [Heap.size_push] using dn)
        | exact dn
        | (have q := dn; rw [Heap.size_push, Heap.size_push] at q; exact q)
    exact ⟨rfl, hq h' tk' (hp.objs.size + 1) dx ⟨old, Nat.le_succ _, ⟨_, _, hx, rfl, rfl, rfl, rfl⟩, Nat.le_trans (Nat.le_trans (Nat.le_succ _) (Nat.le_succ _)) z, dne, hns⟩⟩
end
end ErrX
end PySem
namespace L2
open PySem PySem.Spec PyProof.Rows
def errPut : List Str → List V → List (Str × V) → List (Str × V)
  | f :: fs, v :: vs, acc => errPut fs vs ((f, v) :: acc)
  | _, _, acc => acc
/-- the dict of an error of these fields -/
abbrev errFs (ns : List Str) (vs : List V) : List (Str × V) := errPut ns vs []
theorem errPut_rel : ∀ {ns : List Str} {vs : List V} {us : List Value} {acc : List (Str × V)} {m : Str → Option Value}, Vals vs us → (∀ g, RelO (acc.lookup g) (m g)) → ∀ g, RelO ((errPut ns vs acc).lookup g) (PySem.ErrX.put ns us m g)
  | [], _, _, _, _, _, h => by
    intro g
    unfold errPut PySem.ErrX.put
    exact h g
  | _ :: _, [], [], _, _, .nil, h => h
  | f :: fs, v :: vs, u :: us, acc, m, .cons r t, h => errPut_rel (ns := fs) t (relO_put r h)
structure ErrTxt (K : PySem.W.Frag) (P : Program) (mg : Str → Option Value) (x : Str) (C fI : Addr) (ns : List Str) : Prop where
  gC : mg x = some (.ref C)
  gS : mg "super" = none
  T : PySem.ErrX.ErrC K C
  F : PySem.ErrX.ErrFn K P C fI ns
  No : PySem.ErrX.NsOk ns
/-- x(e, ..) -/
def tMkErr (C : Addr) (ns : List Str) (ta : TA) : St → Hp → XK → Prop := fun σ H Q => ta σ H fun vs H1 => vs.length = ns.length ∧ ∀ d, H1 d = none → Q (.ref C) (some d) (upd H1 d (.xd (errFs ns vs)))
section
variable {X : Cx} {C fI : Addr}
theorem pmk_err {x n : Str} {ns : List Str} {a : Expr} {as : List Expr} {ta : TA} {p pos : Pos} {k : Nat} (T : ErrTxt X.K X.prog X.mg x C fI (n :: ns)) (hr : Room k X.A) (ha : PA X (a :: as) ta) (hg : Gl X x := by rfl) (hdb : (x == ("__debug__" : Str)) = false := by decide)
    (he : starEach (a :: as) X.env = (false, eval a X.env) :: starEach as X.env := by rfl) (hpl : (backTo pos (starEach as X.env)).any (·.1) = false := by rfl) :
    PMk X (.Call (.Name x p) (a :: as) [] pos) (tMkErr C (n :: ns) ta) := by
  intro pins s σ H Q I h
  refine wpAny_Call_Name_kw (ld_glob I hg T.gC ?_ hdb)
  refine PySem.W.callWith_K (h₀ := X.base) I.ok.mod.kin T.T.kC (thn (ha.run pos pins s σ H _ I h) fun us s1 hh => ?_) he hpl
  obtain ⟨vs, H1, I1, r1, hl, q1⟩ := hh
  refine ⟨I1.kIn, ?_⟩
  show wpAny _ _ (call (.ref C) us) _ _ _
  have hlim := I1.nolimit
  obtain ⟨mb, hb1, hb2⟩ := I1.mod.blt
  have hgl := I1.mod.glob.keeps I1.bk
  have hbl := hb1.keeps I1.bk
  have hbs : mb "super" = some (.type "super") := (hb2 _ (by decide)).trans (by decide +kernel)
  have hlu : us.length = (n :: ns).length := by rw [← r1.length, hl]
  obtain ⟨hp, g, dr, tk, os⟩ := s1
  refine wpAny_call (PySem.ErrX.err_made T.T T.F T.No I1.kIn hlim hgl T.gS hbl hbs (by have := hr.dp; omega) hlu fun h' tk' e d M => ?_)
  show MkP X pins σ Q (.ref e) ⟨h', g, dr, tk', os⟩
  obtain ⟨oe, fv, hoe, hc, hd, hdat, h1⟩ := M.obj
  have hns := M.ns
  obtain ⟨G', g1, g2⟩ := restrict h' fun b => decide (b ≠ e)
  have gk : ∀ b, b ≠ e → G'.get? b = h'.get? b := fun b hb => g1 b (decide_eq_true hb)
  have ge : G'.get? e = none := g2 e (by simp)
  have old : ∀ b o, hp.get? b = some o → G'.get? b = some o := fun b o q => (gk b (Nat.ne_of_lt (Nat.lt_of_lt_of_le (Heap.lt_size q) M.new))).trans (M.keep b o q)
  have ob : ObjOk X.prog X.w (upd H1 d (.xd (errFs (n :: ns) vs))) G' d (.xd (errFs (n :: ns) vs)) :=
    ⟨_, hns.at (fun o q => (gk d M.dne).trans q), errPut_rel r1 fun g => True.intro⟩
  have J : Inv X pins σ (upd H1 d (.xd (errFs (n :: ns) vs))) ⟨G', g, dr, tk', os⟩ := I1.laid (t' := tk') old M.dbig ob
  refine ⟨e, oe, fv, ⟨G', g, dr, tk', os⟩, _, .ref C, some d, rfl, J, fun b o q => ?_, ge, hoe, ⟨hc, hd⟩, hdat, h1, ?_, rfl, I1.bare, raises_own T.T.exC T.T.tyC, q1 d (I1.hok.fresh M.dbig)⟩
  · by_cases hb : b = e
    · have q' : G'.get? b = some o := q
      rw [hb, ge] at q'; cases q'
    · exact (gk b hb).symm.trans q
  · rw [upd_ne (Ne.symm M.dne)]
    exact I1.hok.fresh M.new
/-- raise x(e, ..) -/
def tRaiseErr (C : Addr) (ns : List Str) (W : WX) (ta : TA) : TS := fun _ σ H => tMkErr C ns ta σ H fun cls d H' => W cls d σ H'
theorem ps_raiseErr {x n : Str} {ns : List Str} {a : Expr} {as : List Expr} {ta : TA} {W : WX} {p pos pos2 : Pos} {k : Nat} (hc : X.calm = true) (T : ErrTxt X.K X.prog X.mg x C fI (n :: ns)) (hr : Room k X.A) (tk : Takes X W) (ha : PA X (a :: as) ta) (hg : Gl X x := by rfl)
    (hdb : (x == ("__debug__" : Str)) = false := by decide) (he : starEach (a :: as) X.env = (false, eval a X.env) :: starEach as X.env := by rfl) (hpl : (backTo pos (starEach as X.env)).any (·.1) = false := by rfl) :
    PS X (.Raise (some (.Call (.Name x p) (a :: as) [] pos)) none pos2) (tRaiseErr C (n :: ns) W ta) := ps_raise hc tk (pmk_err T hr ha hg hdb he hpl)
end
end L2

/-! ## ExcR2 -/
set_option maxHeartbeats 4000000
namespace L2
open PySem PySem.Spec PyProof.Rows
/-- isinstance(e, C), e the exception that the suite holds, C its very class -/
def rIsX (cls : Value) (a : Addr) : List V → Hp → VK → Prop := fun xs H Q => ∃ D : Addr, xs = [.ref a, .ref D] ∧ cls = .ref D ∧ Q (.bl true) H
theorem call_isX {X : Cx} {a : Addr} {oe : Obj} {cls : Value} {d : Option Addr} {pn : List (Addr × Obj)} (hz : Zc cls d oe) : CallR (X.suite a ((a, oe) :: pn)) (.builtin "isinstance") (rIsX cls a) := by
  intro pins s σ H xs us Q I r h
  obtain ⟨D, rfl, rfl, q⟩ := h
  cases r with
  | cons rx rr =>
    cases rr with
    | cons rt rr =>
      cases rr
      cases rx
      cases rt
      obtain ⟨hget, _⟩ := I.pin (a, oe) (List.mem_append.mpr (.inl List.mem_cons_self))
      have ht : PySem.W.Looks (model X.prog X.w) s.heap (typeOf (.ref a)) (.ref D) := hz.1 ▸ (PySem.W.Looks.ld hget).andThen .now
      refine call_isinstance_of ?_
      unfold Builtin.«isinstance.nested»
      refine wpAny_bind (m := typeOf (.ref a)) (PySem.W.Looks.here ht ?_)
      show wpAny _ _ (if (Value.ref D == Value.ref D) = true then _ else _) _ _ s
      rw [if_pos (beq_self_eq_true _)]
      repeat (first | refine wpAny_pure ?_ | refine wpAny_rule ?_ | refine wpAny_bind ?_)
      exact ⟨.bl true, H, I, rfl, q⟩
end L2

/-! ## SortK -/
set_option maxHeartbeats 4000000
/-! sorted(xs, key=f), f an own def -/
namespace L2
open PySem PySem.Spec PyProof.Rows
/-- what a key def tells: KP x k: k is a key of x, as the heap stands -/
def KeySp (sp : Sp) (KP : V → V → Hp → Prop) (x : V) (H : Hp) : Prop := ∀ H1, Same H H1 → ∀ Q : VK, (∀ k H2, Same H1 H2 → KP x k H2 → Q k H2) → sp [x] H1 Q (fun _ _ _ => False)
def rSortedBy1 (K : PySem.W.Frag) (f : Addr) (sp : Sp) : List V → List V → Hp → VK → Prop := fun vs zs H Q => ∃ (a : Addr) (xs : List V) (KP : V → V → Hp → Prop), vs = [V.ref a] ∧ zs = [V.ref f] ∧ SqL K H a xs ∧ xs.length ≤ 1 ∧ (∀ x ∈ xs, KeySp sp KP x H) ∧
  ∀ H1 p, Same H H1 → H1 p = none → Q (.ref p) (upd H1 p (.lst xs))
theorem list_write {X : Cx} {pins : List (Addr × Obj)} {σ : St} {H : Hp} {s : Shared} {a : Addr} {xs ys : List V} {its : List Value} {f : Array Value → Array Value} {us : List Value} {n : Nat} (I : Inv X pins σ H s) (h : H a = some (.lst xs)) (ho : s.heap.get? a = some (seqObj "list" its.toArray n)) (hf : f its.toArray = us.toArray) (r : Vals ys us) (hz : ys.length ≤ sizeLine) :
    Inv X pins σ (upd H a (.lst ys)) { s with heap := s.heap.update a (Obj.mapSeq f) } := by
  have s1 := Heap.SameBut.update s.heap a (Obj.mapSeq f)
  obtain ⟨e1, ho1⟩ : ∃ e1, (s.heap.update a (Obj.mapSeq f)).get? a = some (seqObj "list" (f its.toArray) e1) := ⟨_, get?_update_seq ho f⟩
  exact I.write (t' := s.toks) (x := a) (e := a) (o := .lst ys) (by rw [h]; exact True.intro) (.inl rfl) (fun b u hb e => (s1.2 b hb).trans e) ⟨_, ho1⟩ ⟨hz, us, e1, r, by rw [ho1, hf]⟩
theorem vals_take1 {xs : List V} {us : List Value} {i : Nat} {u : Value} (r : Vals xs us) (hu : us[i]? = some u) : ∃ x, xs[i]? = some x ∧ RelV x u := by
  have hi : i < xs.length := by rw [r.length]; exact (List.getElem?_eq_some_iff.mp hu).1
  obtain ⟨v, hv, rv⟩ := Vals.get r (List.getElem?_eq_getElem hi)
  rw [hu] at hv
  cases hv
  exact ⟨_, List.getElem?_eq_getElem hi, rv⟩
theorem cr_sortedBy1 {X : Cx} {CX : CXT} {k : Nat} {f : Addr} {fd : FuncData} {ps : List Str} {sp : Sp} (F : FnOk X.prog X.w X.K X.mg X.base CX k f fd ps sp) (hr : Room (k + 2) X.A) (hb : Binds X.K fd ps []) (hx : ∀ outer H s e s', CX outer H s (fun _ _ _ => False) e s' → False) :
    CallRK X (.builtin "sorted") [Str.ofString "key"] (rSortedBy1 X.K f sp) := by
  intro pins s σ H vs zs us ws Q I r rz h
  obtain ⟨l, xs, KP, rfl, rfl, hs, h1, hk, q⟩ := h
  obtain rfl := Vals.ref1 r
  obtain ⟨w1, rfl, e1⟩ := vals1 rz
  obtain rfl : w1 = Value.ref f := e1
  obtain ⟨its, rv, hl, hz⟩ := I.list hs
  have hlen : its.length ≤ 1 := by rw [← rv.length]; exact h1
  show wpAny _ _ (call (.builtin "sorted") [.ref l] [(Str.ofString "key", .ref f)]) _ _ _
  refine call_function_entry_kw kind_sorted plain_sorted entry_sorted (ksk_s1 _ _) ?_
  unfold Builtin.«sorted»
  refine wpAny_bind (m := checkCount "sorted" 1 1 _) (wpAny_pure ?_)
  refine wpAny_bind (collect_list hl.isList ?_ (by rw [← rv.length]; exact hz))
  refine wpAny_bind (wpAny_newList ?_ (by rw [← rv.length]; exact hz))
  have hsz : ((s.heap.push (seqObj "list" #[] 0)).update s.heap.objs.size (Obj.mapSeq (· ++ its.toArray))).objs.size = s.heap.objs.size + 1 := by
    rw [Heap.size_update, size_push']
  have hoL : (((s.heap.push (seqObj "list" #[] 0)).update s.heap.objs.size (Obj.mapSeq (· ++ its.toArray))).push (seqObj "list" its.toArray 0)).get? (s.heap.objs.size + 1) = some (seqObj "list" its.toArray 0) := by
    rw [← hsz]; exact Heap.get?_push_size _ rfl
  have keep : ∀ b o, s.heap.get? b = some o → (((s.heap.push (seqObj "list" #[] 0)).update s.heap.objs.size (Obj.mapSeq (· ++ its.toArray))).push (seqObj "list" its.toArray 0)).get? b = some o := fun b o q => by
    have hlt : b < s.heap.objs.size := Heap.lt_size q
    refine Heap.get?_push_of_some _ ?_
    rw [Heap.get?_update_ne _ _ _ _ (Nat.ne_of_lt hlt)]
    exact Heap.get?_push_of_some _ q
  show wpAny _ _ _ _ _ { s with heap := ((s.heap.push (seqObj "list" #[] 0)).update s.heap.objs.size (Obj.mapSeq (· ++ its.toArray))).push (seqObj "list" its.toArray 0) }
  rw [hsz]
  generalize hA : ((s.heap.push (seqObj "list" #[] 0)).update s.heap.objs.size (Obj.mapSeq (· ++ its.toArray))).push (seqObj "list" its.toArray 0) = g0 at hoL keep ⊢
  have hg0 : s.heap.objs.size + 1 < g0.objs.size := Heap.lt_size hoL
  refine wpAny_bind (wpAny_holding (wpAny_call_entry_kw slot_list_sort ⟨_, hoL, rfl⟩ entry_list_sort ?_ (ksk_l1 _ _)))
  rw [ksk_t1]
  unfold ksk_tree
  refine wpAny_bind (listItems_at hoL rfl ?_)
  obtain ⟨e1, ho1⟩ : ∃ e1, (g0.update (s.heap.objs.size + 1) (Obj.mapSeq fun _ => (#[] : Array Value))).get? (s.heap.objs.size + 1) = some (seqObj "list" #[] e1) := ⟨_, get?_update_seq hoL fun _ => #[]⟩
  have s1 := Heap.SameBut.update g0 (s.heap.objs.size + 1) (Obj.mapSeq fun _ => (#[] : Array Value))
  refine wpAny_bind (listUpdate_at hoL rfl ?_ (by rw [List.size_toArray, sizeLine_eq]; omega) (Nat.zero_le _))
  refine wpAny_bind (seqEpoch_at ho1 rfl ?_)
  refine wpAny_bind (wpAny_newTuple ?_ (by show its.length ≤ _; rw [sizeLine_eq]; omega))
  refine wpAny_bind (wpAny_newList ?_ (Nat.zero_le _))
  refine wpAny_holding ?_
  have hkS : ((g0.update (s.heap.objs.size + 1) (Obj.mapSeq fun _ => (#[] : Array Value))).push (seqObj "tuple" its.toArray 0)).objs.size = g0.objs.size + 1 := by rw [size_push', Heap.size_update]
  have hoK : (((g0.update (s.heap.objs.size + 1) (Obj.mapSeq fun _ => (#[] : Array Value))).push (seqObj "tuple" its.toArray 0)).push (seqObj "list" #[] 0)).get? (g0.objs.size + 1) = some (seqObj "list" #[] 0) := by
    rw [← hkS]; exact Heap.get?_push_size _ rfl
  have hoA := Heap.get?_push_of_some (seqObj "list" #[] 0) (Heap.get?_push_of_some (seqObj "tuple" its.toArray 0) ho1)
  have keep1 : ∀ b o, s.heap.get? b = some o → (g0.update (s.heap.objs.size + 1) (Obj.mapSeq fun _ => (#[] : Array Value))).get? b = some o := fun b o q => by
    have hlt : b < s.heap.objs.size := Heap.lt_size q
    exact (s1.2 b (Nat.ne_of_lt (Nat.lt_succ_of_lt hlt))).trans (keep b o q)
  have J : Inv X pins σ (upd H (s.heap.objs.size + 1) (.frz (seqObj "list" #[] e1) (.lst []))) { s with heap := g0.update (s.heap.objs.size + 1) (Obj.mapSeq fun _ => (#[] : Array Value)) } :=
    I.laid (t' := s.toks) (a := s.heap.objs.size + 1) (o := .frz (seqObj "list" #[] e1) (.lst [])) keep1 (Nat.le_succ _) ⟨ho1, Nat.zero_le _, [], e1, .nil, ho1⟩
  have J2 : Inv X pins σ (upd (upd H (s.heap.objs.size + 1) (.frz (seqObj "list" #[] e1) (.lst []))) (g0.objs.size + 1) (.lst [])) { s with heap := ((g0.update (s.heap.objs.size + 1) (Obj.mapSeq fun _ => (#[] : Array Value))).push (seqObj "tuple" its.toArray 0)).push (seqObj "list" #[] 0) } :=
    J.laid (t' := s.toks) (a := g0.objs.size + 1) (o := .lst []) (fun b o q => Heap.get?_push_of_some _ (Heap.get?_push_of_some _ q)) (by show (g0.update _ _).objs.size ≤ _; rw [Heap.size_update]; omega) ⟨Nat.zero_le _, [], 0, .nil, hoK⟩
  show wpAny _ _ (ksk_rest (s.heap.objs.size + 1) (.ref f) false its.toArray e1 (.ref ((g0.update (s.heap.objs.size + 1) (Obj.mapSeq fun _ => (#[] : Array Value))).push (seqObj "tuple" its.toArray 0)).objs.size)) _ _ { s with heap := ((g0.update (s.heap.objs.size + 1) (Obj.mapSeq fun _ => (#[] : Array Value))).push (seqObj "tuple" its.toArray 0)).push (seqObj "list" #[] 0) }
  rw [hkS]
  generalize hB : ((g0.update (s.heap.objs.size + 1) (Obj.mapSeq fun _ => (#[] : Array Value))).push (seqObj "tuple" its.toArray 0)).push (seqObj "list" #[] 0) = g1 at J2 ⊢
  have nA : H (s.heap.objs.size + 1) = none := I.hok.fresh (Nat.le_succ _)
  have nK : H (g0.objs.size + 1) = none := I.hok.fresh (by omega)
  have hne : g0.objs.size + 1 ≠ s.heap.objs.size + 1 := by omega
  have hnf : ∀ o' u', X.H_0 (s.heap.objs.size + 1) ≠ some (.frz o' u') := fun o' u' e => by
    have e2 := I.base.frzs _ _ _ e
    rw [nA] at e2
    cases e2
  have sm : Same H (upd (upd H (s.heap.objs.size + 1) (.frz (seqObj "list" #[] e1) (.lst []))) (g0.objs.size + 1) (.lst [])) := fun b o e => by
    rw [upd_ne (ne_of_none e nK), upd_ne (ne_of_none e nA)]
    exact e
  have hAt : (upd (upd H (s.heap.objs.size + 1) (.frz (seqObj "list" #[] e1) (.lst []))) (g0.objs.size + 1) (.lst [])) (s.heap.objs.size + 1) = some (.frz (seqObj "list" #[] e1) (.lst [])) := by
    rw [upd_ne hne.symm, upd_same]
  have hKt : (upd (upd H (s.heap.objs.size + 1) (.frz (seqObj "list" #[] e1) (.lst []))) (g0.objs.size + 1) (.lst [])) (g0.objs.size + 1) = some (.lst []) := upd_same
  generalize (upd (upd H (s.heap.objs.size + 1) (.frz (seqObj "list" #[] e1) (.lst []))) (g0.objs.size + 1) (.lst [])) = H1 at J2 sm hAt hKt
  clear J hoK keep1 ho1 s1 hkS keep hoL hA hB
  generalize s.heap.objs.size + 1 = a at nA hne hnf hAt ⊢
  generalize g0.objs.size + 1 = kS at nK hne hKt ⊢
  unfold ksk_rest
  refine wpAny_bind (wpAny_rule ?_)
  first
    | rw [List.forIn_toArray]
    | (rw [← Array.forIn_toList]; simp only [List.toList_toArray])
    | rw [← Array.forIn_toList]
  refine wpAny_bind (ksk_fold (fun i s' => ∃ (Hi : Hp) (kvs : List V), Inv X pins σ Hi s' ∧ Same H Hi ∧ Hi a = some (.frz (seqObj "list" #[] e1) (.lst [])) ∧ Hi kS = some (.lst kvs) ∧ kvs.length = i) its 0 { s with heap := g1 } ⟨H1, [], J2, sm, hAt, hKt, rfl⟩ ?step ?done)
  case step =>
    rintro j u s' hu ⟨Hi, kvs, Ji, smi, hai, hki, hlen2⟩
    obtain ⟨x, hx1, rx⟩ := vals_take1 rv hu
    have hks := hk x (List.mem_of_getElem? hx1)
    have hlp := F.len _ _ _ _ (hks Hi smi (fun k H2 => Same Hi H2) fun k H2 sm2 _ => sm2)
    have hb2 : BindsTo s' fd ⟨[u], []⟩ (ps.zip [u]) := hb s' [u] Ji.kIn (by rw [← hlp]; rfl)
    refine wpAny_bind (wpAny_attempt (wpAny_mono (Q := EP X pins σ (fun k H2 => Same Hi H2)) (E := fun _ _ => False) (wpAny_call (codeAny_mono (F.run X.A.in1.in1 X.stack s' Hi ⟨[u], []⟩ [u] [x] (fun k H2 => Same Hi H2) (fun _ _ _ => False) hr.in1.in1 Ji.env0.in1.in1 hb2 (.cons rx .nil) (hks Hi smi _ fun k H2 sm2 _ => sm2)) fun r s2 hq => ?_)) (fun v s'' he => ?_) fun _ _ z => z.elim))
    · cases r with
      | error e => exact hx _ _ _ _ _ hq
      | ok fl =>
        cases fl with
        | ret u => exact Ji.after hq
        | next => exact False.elim hq
        | brk => exact False.elim hq
        | cont => exact False.elim hq
    · obtain ⟨kv, H2, J3, rk, sm2⟩ := he
      try dsimp only
      have hk2 := sm2 _ _ hki
      obtain ⟨hz2, its2, n2, rv2, ho2⟩ := J3.hok kS _ hk2
      have hjl : j < its.length := (List.getElem?_eq_some_iff.mp hu).1
      have hs2 : its2.length ≤ 1 := by rw [← rv2.length]; omega
      refine wpAny_bind (listUpdate_at ho2 rfl ?_ (by rw [List.size_toArray, sizeLine_eq]; omega) (by simp only [List.push_toArray, List.size_toArray, List.length_append, List.length_cons, List.length_nil, sizeLine_eq]; omega))
      refine wpAny_pure ⟨rfl, upd H2 kS (.lst (kvs ++ [kv])), kvs ++ [kv], list_write (us := its2 ++ [v]) J3 hk2 ho2 (by simp) (rv2.append (.cons rk .nil)) (by rw [List.length_append, sizeLine_eq]; simp only [List.length_cons, List.length_nil]; omega), ?_, ?_, upd_same, by rw [List.length_append, hlen2]; rfl⟩
      · intro b o e
        rw [upd_ne (ne_of_none e nK)]
        exact sm2 _ _ (smi _ _ e)
      · rw [upd_ne hne.symm]
        exact sm2 _ _ hai
  case done =>
    rintro s' ⟨Hi, kvs, Ji, smi, hai, hki, hlen2⟩
    try dsimp only
    obtain ⟨hz2, its2, n2, rv2, ho2⟩ := Ji.hok kS _ hki
    refine wpAny_bind (listItems_at ho2 rfl ?_)
    have hl2 : its2.length = its.length := by rw [← rv2.length]; omega
    unfold ksk_end
    try dsimp only
    rw [if_neg Bool.false_ne_true]
    have hlt : its.toArray.size < 2 := by rw [List.size_toArray]; omega
    rw [if_pos hlt, if_pos hlt]
    refine wpAny_bind (wpAny_pure ?_)
    rw [StateT.run_pure]
    refine wpAny_bind (wpAny_pure ?_)
    try dsimp only
    have hmap : ((arrOf (SortSt.mk' general' (its2.toArray.zip its.toArray) #[] 7 none)).map (·.2)) = its.toArray := by
      show ((its2.toArray.zip its.toArray).map (·.2)) = its.toArray
      apply Array.ext'
      rw [Array.toList_map]
      have e : (its2.toArray.zip its.toArray).toList = its2.zip its := by simp
      rw [e, List.map_snd_zip (by omega)]
    rw [if_neg Bool.false_ne_true]
    unfold ksk_tail
    try dsimp only
    rw [hmap, if_neg Bool.false_ne_true]
    refine wpAny_bind (listUpdate_at ho2 rfl ?_ (by rw [List.size_toArray, sizeLine_eq]; omega) (Nat.zero_le _))
    have J4 : Inv X pins σ (upd Hi kS (.lst [])) { s' with heap := s'.heap.update kS (Obj.mapSeq fun _ => #[]) } := list_write (us := []) Ji hki ho2 rfl .nil (Nat.zero_le _)
    have ha4 : (upd Hi kS (.lst [])) a = some (.frz (seqObj "list" #[] e1) (.lst [])) := by rw [upd_ne hne.symm]; exact hai
    have na1 : (s'.heap.update kS (Obj.mapSeq fun _ => #[])).get? a = some (seqObj "list" #[] e1) := (J4.hok a _ ha4).1
    obtain J5 := J4.unlock ha4 hnf
    refine wpAny_bind (wpAny_letGo ?_)
    refine wpAny_bind (seqEpoch_at na1 rfl ?_)
    refine wpAny_bind (listUpdate_at na1 rfl ?_ (Nat.zero_le _) (by rw [List.size_toArray, sizeLine_eq]; omega))
    have J6 := list_write (its := []) (f := fun _ => its.toArray) (ys := xs) J5 upd_same na1 rfl rv hz
    simp only [bne_self_eq_false, Bool.false_eq_true, if_false]
    refine wpAny_pure ⟨.none, rfl, ?_⟩
    refine wpAny_pure ⟨_, rfl, ?_⟩
    -- the made list at a
    have hH : upd (fun b => if b = a then none else upd (upd Hi kS (.lst [])) a (.lst []) b) a (.lst xs) = upd (upd (upd Hi kS (.lst [])) a (.lst [])) a (.lst xs) := by
      funext b
      by_cases hb : b = a
      · rw [hb, upd_same, upd_same]
      · simp only [upd_ne hb, if_neg hb]
    refine ⟨.ref a, _, J6, rfl, ?_⟩
    rw [← hH]
    refine q _ a (fun b o e => ?_) (if_pos rfl)
    have hba : b ≠ a := ne_of_none e nA
    have hbk : b ≠ kS := ne_of_none e nK
    rw [if_neg hba, upd_ne hba, upd_ne hbk]
    exact smi _ _ e
end L2

/-! ## EnumT -/
set_option maxHeartbeats 4000000
/-! enumerate(t), t a tuple -/
namespace EnT
open PySem PyProof.Rows
theorem tupDraws (prog : Program) (w : World) (A : Around) (hh : A.handled = none) {it t : Addr} (items : Array Value) (hne : t ≠ it) :
    Draws prog w A it [it, t] items.size (fun i x => items[i]? = some x) (fun i h => h.IsTupleIter it t i ∧ h.IsTuple t items) where
  live := fun i h ⟨⟨o, ho, _⟩, _⟩ => ⟨o, ho⟩
  frame := fun i h h' ⟨⟨o, ho, r⟩, ⟨o2, ho2, r2⟩⟩ k => ⟨⟨o, k it (by simp) o ho, r⟩, ⟨o2, k t (by simp) o2 ho2, r2⟩⟩
  item := fun i s Q E hi ⟨h1, h2⟩ hQ => RZ.nextOf_tuple_item h1 h2 (x := items[i]) (by simp [hi]) fun h' h1' sb =>
    hQ _ h' s.toks (by simp [hi]) ⟨h1', h2.extBut sb.extBut hne⟩ sb
  done := fun s Q E ⟨h1, h2⟩ hE => RZ.nextOf_tuple_end hh h1 h2 (by simp) hE
theorem meets_new (t : Addr) (items : Array Value) :
    Meets (Builtin.«enumerate.__new__» ⟨[.type "enumerate", .ref t], []⟩) (fun _ R s => s.heap.IsTuple t items ∧
      R (.ok (.ret (.ref (s.heap.push { cls := .type "tuple_iterator", data := .fields #[.ref t, .int 0 0] }).objs.size)))
        { s with heap := (s.heap.push { cls := .type "tuple_iterator", data := .fields #[.ref t, .int 0 0] }).push { cls := .type "enumerate", data := .fields #[.none, .bool false, .ref s.heap.objs.size, rawInt 0, .none, .none] } }) :=
  .of_wp fun prog w A R s h => by
    obtain ⟨hp, g, d, tk, os⟩ := s; obtain ⟨hl0, h⟩ := h
    have hsub := sub_enumerate
    have hL : Heap.IsTuple (Shared.heap ⟨hp, g, d, tk, os⟩) t items := hl0
    obtain ⟨ol, hl, _⟩ := hl0
    wp_walk using AutoSeq1.wpAny_loadPart' hl
    refine wpAny_stack_any fun st => wpAny_pure ?_
    split
    · rename_i c _ _ _ _ _
      cases (c == Value.type "enumerate")
      · wp_walk using AutoSeq1.wpAny_loadPart' hl, wpAny_pyIter_tuple hL
        exact ⟨_, rfl, h⟩
      · wp_walk using AutoSeq1.wpAny_loadPart' hl, wpAny_pyIter_tuple hL
        exact ⟨_, rfl, h⟩
    · wp_walk using AutoSeq1.wpAny_loadPart' hl, wpAny_pyIter_tuple hL
      exact ⟨_, rfl, h⟩
theorem call_enum {prog : Program} {w : World} {A : Around} {E : Value → Shared → Prop} {s : Shared} {t : Addr} {items : Array Value} {Q : Value → Shared → Prop} (hL : s.heap.IsTuple t items)
    (h : ∀ h', IsEnum h' (s.heap.objs.size + 1) s.heap.objs.size 0 .none → h'.IsTupleIter s.heap.objs.size t 0 → h'.objs.size = s.heap.objs.size + 2 →
      (∀ b o, s.heap.get? b = some o → h'.get? b = some o) → Q (.ref (s.heap.objs.size + 1)) { s with heap := h' }) :
    wpAny (model prog w) A (call (.type "enumerate") [.ref t]) Q E s := by
  refine callType_new F.called_enumerate (by decide) (F.typeCall_enumerate_1 _) (F.newCall_enumerate_1 _) (fun obj => F.args_object_init_2 obj _) F.entry_enumerate_new (meets_new t items) ⟨hL, ?_⟩
  have hz : (s.heap.push { cls := .type "tuple_iterator", data := .fields #[.ref t, .int 0 0] }).objs.size = s.heap.objs.size + 1 := Heap.size_push ..
  show _ ∧ _
  rw [hz]
  have he : IsEnum ((s.heap.push { cls := .type "tuple_iterator", data := .fields #[.ref t, .int 0 0] }).push
      { cls := .type "enumerate", data := .fields #[.none, .bool false, .ref s.heap.objs.size, rawInt 0, .none, .none] }) (s.heap.objs.size + 1) s.heap.objs.size 0 .none := by
    have := Heap.get?_push_size (s.heap.push { cls := .type "tuple_iterator", data := .fields #[.ref t, .int 0 0] })
      (o := { cls := .type "enumerate", data := .fields #[.none, .bool false, .ref s.heap.objs.size, rawInt 0, .none, .none] }) rfl
    rw [hz] at this; exact this
  refine ⟨⟨_, he, rfl⟩, h _ he ⟨_, Heap.get?_push_of_some _ (Heap.get?_push_size _ rfl), rfl, rfl⟩ (by rw [Heap.size_push, hz]) fun b o x => Heap.get?_push_of_some _ (Heap.get?_push_of_some _ x)⟩
end EnT
namespace L2
open PySem PySem.Spec PyProof.Rows
/-- the tuple at a, each item in a new pair -/
def IteT (K : PySem.W.Frag) (a : Addr) : It :=
  ⟨fun i H => ∃ (xs : List V) (x : V), SqT K H a xs ∧ xs[i]? = some x, fun i H v H' => ∃ T x, v = .ref T ∧ H T = none ∧ H' = upd H T (.tup [.int (i : Nat), x]) ∧ ∀ xs, SqT K H a xs → xs[i]? = some x, fun i H => ∃ xs : List V, SqT K H a xs ∧ xs.length ≤ i⟩
theorem turn_enumT {P : Program} {w : World} {K : PySem.W.Frag} {elts : List Expr} {kk : Nat} {tpos : Pos} (a e it : Addr) :
    Turn P w K (.Tuple elts kk tpos) (IteT K a) [e, it] e (fun i h => (∃ old, IsEnum h e it ((i : Nat) : Int) old) ∧ h.IsTupleIter it a i ∧ e ≠ it ∧ a ≠ it ∧ a ≠ e) where
  mem := by simp
  obj := fun i h st b hb => by
    obtain ⟨⟨old, he⟩, ⟨o, ho, hc, hd⟩, _⟩ := st
    have e' : b = e ∨ b = it := by simpa using hb
    rcases e' with z | z
    · rw [z]; exact ⟨_, he, fun v q => nomatch q⟩
    · rw [z]; exact ⟨o, ho, fun v q => by rw [hd] at q; cases q⟩
  keep := fun i h h' st k => let ⟨⟨old, he⟩, ⟨o, ho, r⟩, hne⟩ := st; ⟨⟨old, k e (by simp) _ he⟩, ⟨o, k it (by simp) o ho, r⟩, hne⟩
  item := by
    intro X hP hw hK hc i pins s σ H E I hf st hg
    subst hP hw hK
    obtain ⟨⟨old, he⟩, hit, hne, hat, hae⟩ := st
    obtain ⟨xs, x, hq, hx⟩ := hg
    obtain ⟨its, rv, p, hz⟩ := I.tuple hq
    obtain ⟨u, hu, ru⟩ := rv.get hx
    have hel : e < s.heap.objs.size := Heap.lt_size he
    have hil : it < s.heap.objs.size := by obtain ⟨_, q, _⟩ := hit; exact Heap.lt_size q
    have hiu : i < its.toArray.size := by
      have := (List.getElem?_eq_some_iff.mp hu).1
      simpa using this
    refine wpAny_pyNext_enum_itemD (EnT.tupDraws X.prog X.w X.A.in1 (I.ok.hd hc) its.toArray hat) he ⟨hit, p⟩ hiu hne (by simp [hne, hae.symm]) fun x' h' tk hx' ho hs' hT hsz hk => ?_
    obtain rfl : x' = u := by
      have e2 : its.toArray[i]? = some u := by simpa using hu
      rw [e2] at hx'
      exact (Option.some.inj hx').symm
    refine ⟨_, rfl, wpAny_letOwnedTupleGo_enum (s := { s with heap := h', toks := tk + 1 }) ho fun h'' he' sb => ?_⟩
    have hT2 : h''.get? s.heap.objs.size = some { cls := .type "tuple", data := .seq #[.int i tk, x'] } := (sb.2 _ (Nat.ne_of_gt hel)).trans hT
    have new : ObjOk X.prog X.w (upd H s.heap.objs.size (.tup [.int (i : Nat), x])) h'' s.heap.objs.size (.tup [.int (i : Nat), x]) :=
      ⟨by show 2 ≤ sizeLine; decide, [.int i tk, x'], .cons ⟨_, rfl⟩ (.cons ru .nil), ⟨_, hT2, rfl, _, rfl⟩⟩
    have I1 : Inv X pins σ (upd H s.heap.objs.size (.tup [.int (i : Nat), x])) { s with heap := h'', toks := tk + 1 } :=
      I.turnedNew (ch := [e, it]) (fun b ob hb q => (sb.2 b (fun z => hb (by simp [z]))).trans (hk b ob (fun z => hb (by simp [z])) (fun z => hb (by simp [z])) q)) hf (Nat.le_refl _) new
    refine ⟨.ref s.heap.objs.size, _, I1, rfl, ⟨_, x, rfl, I.hok.fresh (Nat.le_refl _), rfl, fun ys hy => by rw [I.tuple_inj hy hq]; exact hx⟩, ⟨⟨x', ?_⟩, ?_, hne, hat, hae⟩, fun b hb => ?_⟩
    · have e1 : ((i + 1 : Nat) : Int) = (i : Int) + 1 := by omega
      rw [e1]; exact he'
    · obtain ⟨⟨o, ho2, r⟩, _⟩ := hs'
      exact ⟨o, (sb.2 it (Ne.symm hne)).trans ho2, r⟩
    · have hb' : b < s.heap.objs.size := by
        have e' : b = e ∨ b = it := by simpa using hb
        rcases e' with z | z
        · rw [z]; exact hel
        · rw [z]; exact hil
      rw [upd_ne (Nat.ne_of_lt hb')]
      exact (hf b hb).1
  done := by
    intro X hP hw hK hc i pins s σ H E I hf st hg
    subst hP hw hK
    obtain ⟨⟨old, he⟩, hit, hne, hat, hae⟩ := st
    obtain ⟨xs, hq, hx⟩ := hg
    obtain ⟨its, rv, p, hz⟩ := I.tuple hq
    obtain ⟨f0, f1, f2, f3, f4, f5⟩ := hf it (by simp)
    have hl := rv.length
    have hT : s.TypeIs (.ref e) "enumerate" := ⟨_, he, rfl⟩
    unfold pyNext
    refine wpAny_bind (wpAny_attempt (wpAny_callSpecial?_slot (name := Str.ofString "__next__") hT F.slot_enumerate_next
      (wpAny_call_entry F.slot_enumerate_next hT F.entry_enumerate_next ?_ (F.args_enumerate_next_1 _))))
    show wpAny _ _ (field (.ref e) 2 >>= _) _ _ _
    refine wpAny_bind (wpAny_field he rfl (x := .ref it) rfl ?_)
    refine wpAny_bind (RZ.nextOf_tuple_end (I.ok.hd hc) hit p (by simp; omega) fun h' x he' hx' => ?_)
    obtain ⟨o, ho, hc2⟩ := hx'
    refine wpAny_bind (wpAny_isInstance (T := "StopIteration") (b := true) ⟨o, ho, hc2⟩ isSubtype_stop ?_)
    exact wpAny_pure ⟨rfl, I.turned (t' := s.toks) (fun b o hb q => he' b o hb q) f0 f1 f3 f4 f5⟩
  self := fun A i s Q E st h => let ⟨⟨_, he⟩, _⟩ := st; wpAny_pyIter_enum he h
def iEnumT (K : PySem.W.Frag) (ta : TA) : TI := fun σ H R => ta σ H fun vs H1 => ∃ a xs, vs = [.ref a] ∧ SqT K H1 a xs ∧ R (IteT K a) H1
theorem pi_enumT {X : Cx} {e : Expr} {ta : TA} {p pos tpos : Pos} {elts : List Expr} {kk : Nat} (hg : Gl X "enumerate") (hm : X.mg "enumerate" = none) (ha : PA X [e] ta) (hs : starEach [e] X.env = [(false, eval e X.env)] := by rfl) :
    PI X (.Tuple elts kk tpos) (.Call (.Name "enumerate" p) [e] [] pos) (iEnumT X.K ta) := by
  refine ⟨fun pins s σ H R I h => ?_⟩
  refine Call_ (ld_blt I hg hm boot_enumerate (PyProof.Rows.callWith_type1 (thn (ha.run pos pins s σ H _ I h) fun us s1 ⟨vs, H1, I1, r1, q1⟩ => ?_) hs rfl))
  obtain ⟨a, xs, ex, hq, q⟩ := q1
  subst ex
  cases r1 with
  | cons r rr =>
    cases rr
    cases r
    obtain ⟨its, rv, p', hz⟩ := I1.tuple hq
    refine EnT.call_enum p' fun h' he hit hsz hk => wpAny_pyIter_enum he ?_
    have I2 : Inv X pins σ H1 { s1 with heap := h' } := I1.kept (t' := s1.toks) hk
    have hal : a < s1.heap.objs.size := by obtain ⟨o, ho, _⟩ := p'; exact Heap.lt_size ho
    refine ⟨s1.heap.objs.size + 1, [s1.heap.objs.size + 1, s1.heap.objs.size], _, _, H1, rfl, I2, turn_enumT a (s1.heap.objs.size + 1) s1.heap.objs.size, ⟨⟨.none, he⟩, hit, Nat.succ_ne_self _, Nat.ne_of_lt hal, Nat.ne_of_lt (Nat.lt_succ_of_lt hal)⟩, fun b hb => ?_, q⟩
    have e' : b = s1.heap.objs.size + 1 ∨ b = s1.heap.objs.size := by simpa using hb
    have hle : s1.heap.objs.size ≤ b := by
      rcases e' with z | z
      · rw [z]; exact Nat.le_add_right _ _
      · rw [z]; exact Nat.le_refl _
    exact I1.fpOk hle (I1.hok.fresh hle)
theorem walk_enumT {K : PySem.W.Frag} {a : Addr} {xs : List V} : Walk (IteT K a) xs.length (fun H => SqT K H a xs) (YPair (fun i => some (.int (i : Nat))) (fun i => xs[i]?)) := by
  refine ⟨fun i _ hi q => ⟨xs, xs[i], q, by simp [hi]⟩, fun _ q => ⟨xs, q, Nat.le_refl _⟩, fun i H v H' _ q y => ?_⟩
  obtain ⟨T, x, h1, h2, h3, h4⟩ := y
  exact ⟨T, .int (i : Nat), x, h1, h2, h3, rfl, h4 xs q⟩
end L2

/-! ## ListRev -/
set_option maxHeartbeats 4000000
/-! list(reversed(x)), x a tuple or a list -/
namespace LRv
open PySem PySem.Spec PyProof.Rows RT
theorem nolen_rt : typeLookup (.type "reversed") "__len__" = pure none := by rw [typeLookup_type, builtinLookup_eq_fast]; kernel_rfl
theorem slot_hint : Slot "reversed" "__length_hint__" "reversed.__length_hint__" :=
  .of (owner := "reversed") (n := "__length_hint__") (by rw [typeLookup_type, builtinLookup_eq_fast]; kernel_rfl) (by decide +kernel) (by decide +kernel) (by decide +kernel)
    (by first | exact .inl (by decide +kernel) | exact .inr (by decide +kernel)) (by rw [isSubtype_type]; kernel_rfl)
theorem entry_hint : entryFor table "reversed.__length_hint__" = some Builtin.«reversed.__length_hint__» := entryFor_of_tree (by kernel_rfl)
theorem args_hint (a : Value) : argsOk "reversed.__length_hint__" ⟨[a], []⟩ := by
  unfold argsOk; rw [signature?_of (id := "reversed.__length_hint__") (n := ['_', '_', 't', 'n', 'i', 'h', '_', 'h', 't', 'g', 'n', 'e', 'l', '_', '_']) (o := ['d', 'e', 's', 'r', 'e', 'v', 'e', 'r']) (by kernel_rfl) owner_rt]; kernel_rfl
section
variable {prog : Program} {w : World} {A : Around} {E : Value → Shared → Prop} {s : Shared}
theorem asInt_int (i : Int) (t : Tok) : asInt? (.int i t) = pure (some i) := rfl
theorem hint_rt {it t : Addr} {items : Array Value} {Q : Bool → Shared → Prop} (hit : IsRt s.heap it t ((items.size : Int) - 1)) (ht : IsTup s.heap t items) (hsz : items.size ≤ sizeLine)
    (h : ∀ b tk, Q b { s with toks := tk }) : wpAny (model prog w) A (Builtin.List.listLengthHint (.ref it)) Q E s := by
  obtain ⟨o, ho, hc, hd⟩ := id hit
  rw [sizeLine_eq] at hsz
  have hT := hit.typeIs
  unfold Builtin.List.listLengthHint
  refine wpAny_bind (wpAny_specialOf hT nolen_rt ?_)
  show wpAny _ _ (specialOf (Value.ref it) (Str.ofString "__length_hint__") >>= _) _ _ _
  refine wpAny_bind (wpAny_specialOf hT slot_hint.lookup ?_)
  generalize hid : ("reversed.__length_hint__" : String) = id0
  wp_delta
  rw [show splitId id0 = some ("reversed", "__length_hint__") from by subst hid; decide +kernel]
  subst hid
  refine wpAny_bind (wpAny_isInstance (T := "reversed") (b := true) hT (by rw [isSubtype_type]; kernel_rfl) ?_)
  refine wpAny_ite_split (fun hab => absurd hab (by decide)) (fun _ => ?_)
  refine wpAny_ite_split (fun hab => absurd hab (by decide +kernel)) (fun _ => ?_)
  refine wpAny_bind (wpAny_rule ?_)
  refine wpAny_bind (wpAny_of_eq (slot_hint.bind _) ?_)
  refine wpAny_bind (wpAny_attempt (wpAny_call_entry slot_hint hT entry_hint ?_ (args_hint _)))
  unfold Builtin.«reversed.__length_hint__»
  refine wpAny_bind (wpAny_of_eq (a := Value.ref it) rfl ?_)
  refine wpAny_bind (wpAny_field ho hd (x := .ref t) rfl ?_)
  refine wpAny_ite_split (fun hab => absurd hab (by simp)) (fun _ => ?_)
  refine wpAny_bind (PyProof.Rows.len_tuple ht (by omega) ?_)
  refine wpAny_bind (m := asInt? _) (wpAny_of_eq (a := some (items.size : Int)) rfl ?_)
  refine wpAny_bind (wpAny_field (s := { s with toks := s.toks + 1 + 1 }) ho hd (x := rawInt ((items.size : Int) - 1)) rfl ?_)
  show wpAny _ _ (if (items.size : Int) < (items.size : Int) - 1 + 1 then _ else _) _ _ _
  rw [if_neg (by omega)]
  have e1 : (items.size : Int) - 1 + 1 = (items.size : Int) := by omega
  rw [e1]
  have g0 : 0 ≤ (items.size : Int) := by omega
  have g1 : (items.size : Int) ≤ 16777216 := by omega
  generalize (items.size : Int) = n at g0 g1 ⊢
  refine wpAny_bind (wpAny_mkInt ?_)
  refine wpAny_pure ⟨_, rfl, ?_⟩
  show wpAny _ _ (asInt? (Value.int n _) >>= _) _ _ _
  rw [asInt_int]
  refine wpAny_bind (wpAny_pure ?_)
  have f1 : Builtin.List.listFitsIndex n = true := by
    unfold Builtin.List.listFitsIndex
    rw [Bool.and_eq_true]
    exact ⟨decide_eq_true (by omega), decide_eq_true (by omega)⟩
  have f2 : Builtin.List.listTooLong n.toNat = false := by
    unfold Builtin.List.listTooLong
    rw [sizeLine_eq]
    exact decide_eq_false (by omega)
  show wpAny _ _ (if (!Builtin.List.listFitsIndex n) = true then _ else _) _ _ _
  rw [f1, if_neg (by decide)]
  show wpAny _ _ (if n < 0 then _ else _) _ _ _
  rw [if_neg (by omega)]
  show wpAny _ _ (if Builtin.List.listTooLong n.toNat = true then _ else _) _ _ _
  rw [f2, if_neg Bool.false_ne_true]
  exact wpAny_pure (h _ _)
/-- the walk of reversed(t) -/
theorem walksRt (hh : A.handled = none) (I t : Addr) (hne : t ≠ I) (items : Array Value) (hsz : items.size ≤ sizeLine) :
    Walks prog w A I [I, t] [I] items.size (fun i v => items[items.size - 1 - i]? = some v) (fun i h => i ≤ items.size ∧ IsRt h I t ((items.size : Int) - 1 - (i : Int)) ∧ IsTup h t items) where
  sub := fun b hb => by simp at hb; simp [hb]
  frame := fun _ _ _ x hk => ⟨x.1, x.2.1.at fun o e => hk I (by simp) o e, by
    obtain ⟨o, ho, r⟩ := x.2.2
    exact ⟨o, hk t (by simp) o ho, r⟩⟩
  item := fun i s Q E hi x hQ => by
    have e : (items.size : Int) - 1 - (i : Int) = ((items.size - 1 - i : Nat) : Int) := by omega
    have hit := x.2.1
    rw [e] at hit
    have hx : items[items.size - 1 - i]? = some (items[items.size - 1 - i]'(by omega)) := Array.getElem?_eq_getElem (by omega)
    refine next_rt_item hit x.2.2 hx hsz fun h' hit' hs' => ?_
    have e2 : ((items.size - 1 - i : Nat) : Int) - 1 = (items.size : Int) - 1 - ((i + 1 : Nat) : Int) := by omega
    rw [e2] at hit'
    exact hQ _ h' (s.toks + 1) hx ⟨hi, hit', by
      obtain ⟨o, ho, r⟩ := x.2.2
      exact ⟨o, (hs'.2 t hne).trans ho, r⟩⟩ fun b o hb eo => hs'.extBut b o (fun h => hb (by simp [h])) eo
  done := fun s Q E x hQ => by
    have e : (items.size : Int) - 1 - (items.size : Int) = -1 := by omega
    have hit := x.2.1
    rw [e] at hit
    exact next_rt_end hh hit fun h' he' => hQ h' s.toks fun b o hb eo => he' b o (fun h => hb (by simp [h])) eo
  self := fun _ _ _ _ x hQ => iter_rt x.2.1 hQ
/-- list(it), it an iterator that walks -/
theorem list_walk {it : Addr} {fp : List Addr} {n : Nat} {Pn : Nat → Value → Prop} {St : Nat → Heap → Prop} {T : String} {Q : Value → Shared → Prop} (W : Walks prog w A.in1.in1 it fp [it] n Pn St) (hn : n ≤ sizeLine) (hT : ∀ s' : Shared, St 0 s'.heap → s'.TypeIs (.ref it) T)
    (hfp : ∀ b ∈ fp, b < s.heap.objs.size) (hin : it ∈ fp) (h0 : St 0 s.heap) (t1 : (Value.type T == Value.type "list") = false) (t2 : (Value.type T == Value.type "tuple") = false)
    (t3 : (["set", "frozenset", "dict", "dict_keys", "dict_values", "dict_items"].any (Value.type T == .type ·)) = false)
    (hint : ∀ (s' : Shared) (Q' : Bool → Shared → Prop) (E' : Value → Shared → Prop), St 0 s'.heap → (∀ b tk, Q' b { s' with toks := tk }) → wpAny (model prog w) A.in1.in1 (Builtin.List.listLengthHint (.ref it)) Q' E' s')
    (hQ : ∀ h' tk acc c, (∀ b o, b ≠ it → s.heap.get? b = some o → h'.get? b = some o) → h'.get? s.heap.objs.size = some { cls := .type "list", dict := none, data := .seq acc c, slots := #[] } → ItemsOf Pn acc n →
      Q (.ref s.heap.objs.size) { s with heap := h', toks := tk }) : wpAny (model prog w) A (call (.type "list") [.ref it]) Q E s := by
  refine callType_codes (Q₁ := fun obj s₁ => obj = .ref s.heap.objs.size ∧ s₁ = { s with heap := s.heap.push { cls := .type "list", data := .seq #[] } }) F.called_list (F.typeCall_list_1 _) F.entry_list_init
    (code_list_new _ ⟨rfl, rfl⟩) fun obj s₁ h₁ => ?_
  obtain ⟨rfl, rfl⟩ := h₁
  have hS : (s.heap.push { cls := .type "list", data := .seq #[] }).get? s.heap.objs.size = some { cls := .type "list", data := .seq #[] } := Heap.get?_push_size _ rfl
  have hne : ∀ b ∈ fp, b ≠ s.heap.objs.size := fun b hb => Nat.ne_of_lt (hfp b hb)
  have hSf : s.heap.objs.size ∉ fp := fun hm => hne _ hm rfl
  have hSi : s.heap.objs.size ≠ it := (hne it hin).symm
  refine ⟨⟨_, hS, rfl⟩, F.args_list_init_2 _ _, ?_⟩
  show wpAny _ _ (do let old ← Builtin.List.listItems (.ref s.heap.objs.size); Builtin.List.listUpdate (.ref s.heap.objs.size) (fun _ => #[]); letGo old.toList.reverse; Builtin.List.listExtendWith (.ref s.heap.objs.size) (.ref it) .none) _ _ _
  refine wpAny_bind ?_
  unfold Builtin.List.listItems
  refine wpAny_bind (wpAny_seqItems hS rfl (wpAny_pure ?_))
  show wpAny _ _ (updateSeq s.heap.objs.size (fun _ => #[]) >>= fun _ => letGo (#[] : Array Value).toList.reverse >>= fun _ => Builtin.List.listExtendWith (.ref s.heap.objs.size) (.ref it) .none) _ _ _
  refine wpAny_bind (wpAny_updateSeq hS rfl ?_)
  have hS2 := Heap.get?_update_self (Obj.mapSeq (fun _ => (#[] : Array Value))) hS rfl
  have oth : ∀ b o, b ≠ s.heap.objs.size → s.heap.get? b = some o → ((s.heap.push { cls := .type "list", data := .seq #[] }).update s.heap.objs.size (Obj.mapSeq (fun _ => (#[] : Array Value)))).get? b = some o :=
    fun b o hb e => (Heap.get?_update_other _ _ (Ne.symm hb)).trans (Heap.get?_push_of_some _ e)
  refine wpAny_bind (wpAny_letGo ?_)
  have st0 : St 0 ((s.heap.push { cls := .type "list", data := .seq #[] }).update s.heap.objs.size (Obj.mapSeq (fun _ => (#[] : Array Value)))) := W.frame 0 _ _ h0 fun b hb o e => oth b o (hne b hb) e
  unfold Builtin.List.listExtendWith
  refine wpAny_bind (wpAny_typeOf (hT _ st0) ?_)
  have h1 : Builtin.List.listSameRef (.ref s.heap.objs.size) (.ref it) = false := by simp [Builtin.List.listSameRef, hSi]
  simp only [h1, t1, t2, Bool.or_false, Bool.false_eq_true, if_false]
  generalize hg : (s.heap.push { cls := .type "list", data := .seq #[] }).update s.heap.objs.size (Obj.mapSeq (fun _ => (#[] : Array Value))) = g0 at hS2 oth st0 ⊢
  refine wpAny_bind (W.self 0 { s with heap := g0 } _ _ st0 ?_)
  refine wpAny_bind (wpAny_holding (hint { s with heap := g0 } _ _ st0 fun room tk => ?_))
  have key : ∀ (h : Heap) (c₁ tk : Nat), St 0 h → (∀ b o, b ≠ s.heap.objs.size → s.heap.get? b = some o → h.get? b = some o) →
      h.get? s.heap.objs.size = some { cls := .type "list", data := .seq #[] c₁ } → codeAny (model prog w) A.in1 (.builtin "list.extend.loop" ⟨[.ref s.heap.objs.size, .ref it, .none], []⟩) (wants (fun r s₂ => r = Value.none ∧ Q (Value.ref s.heap.objs.size) s₂) E) { s with heap := h, toks := tk } := by
    intro h c₁ tk hit hk hS₁
    refine codeAny_extend_loopS W.toS hn s.heap.objs.size hSf .none n 0 _ #[] c₁ rfl (Nat.zero_le _) hit hS₁ (ItemsOf.nil _) fun s' acc' c' hm hS' hacc => ?_
    rw [Moved.eq_with hm]
    refine ⟨rfl, hQ s'.heap s'.toks acc' c' (fun b o hb e => hm.heap b o (fun hmem => ?_) (hk b o (Nat.ne_of_lt (Heap.lt_size e)) e)) hS' hacc⟩
    rcases List.mem_cons.mp hmem with e' | hmem
    · exact absurd (Heap.lt_size e) (by rw [e']; exact Nat.lt_irrefl _)
    · exact hb (List.mem_singleton.mp hmem)
  refine wpAny_ite_split (fun _ => ?_) (fun _ => wpAny_pure ⟨plainId_quiet F.plain_extend_loop _, key _ _ _ st0 oth hS2⟩)
  refine wpAny_bind (wpAny_rule ?_)
  refine wpAny_bind ?_
  show wpAny _ _ (updateSeq s.heap.objs.size (·.push .none) >>= fun _ => updateSeq s.heap.objs.size (·.pop)) _ _ _
  refine wpAny_bind (wpAny_updateSeq hS2 rfl ?_)
  have hS4 := Heap.get?_update_self (Obj.mapSeq (·.push Value.none)) hS2 rfl
  refine wpAny_updateSeq (hz := by seq_fits) hS4 rfl ?_
  have hS5 := Heap.get?_update_self (Obj.mapSeq (·.pop)) hS4 rfl
  have kk : ∀ b o, b ≠ s.heap.objs.size → g0.get? b = some o → ((g0.update s.heap.objs.size (Obj.mapSeq (·.push Value.none))).update s.heap.objs.size (Obj.mapSeq (·.pop))).get? b = some o :=
    fun b o hb e => (Heap.get?_update_other _ _ (Ne.symm hb)).trans ((Heap.get?_update_other _ _ (Ne.symm hb)).trans e)
  refine wpAny_pure ⟨plainId_quiet F.plain_extend_loop _, key _ _ _ (W.frame 0 _ _ st0 fun b hb o e => kk b o (hne b hb) e) (fun b o hb e => kk b o hb (oth b o hb e)) hS5⟩
theorem hint_lr {it l : Addr} {i : Int} {Q : Bool → Shared → Prop} (hit : s.heap.IsRevIter it l i) (h : ∀ b tk, Q b { s with toks := tk }) : wpAny (model prog w) A (Builtin.List.listLengthHint (.ref it)) Q E s := by
  have hT := hit.typeIs
  unfold Builtin.List.listLengthHint
  refine wpAny_bind (wpAny_specialOf hT nolen_lri ?_)
  show wpAny _ _ (specialOf (Value.ref it) (Str.ofString "__length_hint__") >>= _) _ _ _
  refine wpAny_bind (wpAny_specialOf hT hint_lri ?_)
  generalize hid : ("list_reverseiterator.__length_hint__" : String) = id0
  wp_delta
  rw [show splitId id0 = some ("list_reverseiterator", "__length_hint__") from by subst hid; decide +kernel]
  subst hid
  refine wpAny_bind (wpAny_isInstance (b := true) hT (by rw [isSubtype_type]; kernel_rfl) ?_)
  exact wpAny_pure (h false s.toks)
end
end LRv
namespace L2
open PySem PySem.Spec PyProof.Rows RT
/-- list(reversed(x)), x a list or a tuple: a new list -/
def tListRev (K : PySem.W.Frag) (te : TE) : TE := fun σ H Q => te σ H fun v H1 => ∃ (a : Addr) (xs : List V), v = .ref a ∧ (SqL K H1 a xs ∨ SqT K H1 a xs) ∧ ∀ q, H1 q = none → Q (.ref q) (upd H1 q (.lst xs.reverse))
theorem boot_list' : bootBuiltins "list" = some (.type "list") := by decide +kernel
theorem pe_listRev {X : Cx} {e : Expr} {te : TE} {p p2 pos pos2 : Pos} (hc : X.calm = true) (hg : Gl X "list") (hm : X.mg "list" = none) (hg2 : Gl X "reversed") (hm2 : X.mg "reversed" = none) (he : PE X e te)
    (hs : starEach [e] X.env = (false, eval e X.env) :: starEach [] X.env := by rfl)
    (hs2 : starEach [.Call (.Name "reversed" p2) [e] [] pos2] X.env = (false, eval (.Call (.Name "reversed" p2) [e] [] pos2) X.env) :: starEach [] X.env := by rfl) :
    PE X (.Call (.Name "list" p) [.Call (.Name "reversed" p2) [e] [] pos2] [] pos) (tListRev X.K te) := by
  refine ⟨fun pins s σ H Q I h => ?_⟩
  refine Call_ (ld_blt I hg hm boot_list' (PyProof.Rows.callWith_type1 (args_cons (Call_ (ld_blt I hg2 hm2 PyProof.Rows.boot_reversed (PyProof.Rows.callWith_type1 (args_cons (thn (he.run pins s σ H _ I h) fun u s1 ⟨v, H1, I1, r1, q1⟩ => args_nil ?_) hs) hs rfl))) hs2) hs2 rfl))
  obtain ⟨a, xs, ev, hq, q⟩ := q1
  subst ev
  obtain rfl : u = Value.ref a := r1
  obtain ⟨f0, f1, f2, f3, f4, f5⟩ := I1.fpOk (H' := H1) (b := s1.heap.objs.size) (Nat.le_refl _) (I1.hok.fresh (Nat.le_refl _))
  have hh : X.A.handled = none := I1.ok.hd hc
  rcases hq with hq | hq
  · obtain ⟨its, rv, p', hz⟩ := I1.list hq
    refine call_reversed_list p'.isList (args_nil ?_)
    have hl := p'.isList
    obtain ⟨ol, hol, _⟩ := id hl
    have hlt := Heap.lt_size hol
    have hne : a ≠ s1.heap.objs.size := Nat.ne_of_lt hlt
    have hn : its.toArray.size ≤ sizeLine := by rw [List.size_toArray, ← rv.length]; exact hz
    have k0 : ∀ b o, s1.heap.get? b = some o → (s1.heap.push (revObj a ((its.toArray.size : Int) - 1))).get? b = some o := fun b o e => Heap.get?_push_of_some _ e
    have I2 : Inv X pins σ H1 { s1 with heap := s1.heap.push (revObj a ((its.toArray.size : Int) - 1)) } := I1.kept (t' := s1.toks) k0
    have sz : (s1.heap.push (revObj a ((its.toArray.size : Int) - 1))).objs.size = s1.heap.objs.size + 1 := Heap.size_push ..
    have hit : (s1.heap.push (revObj a ((its.toArray.size : Int) - 1))).IsRevIter s1.heap.objs.size a ((its.toArray.size : Int) - 1) := ⟨_, Heap.get?_push_size _ rfl, rfl, rfl⟩
    refine LRv.list_walk (s := { s1 with heap := s1.heap.push (revObj a ((its.toArray.size : Int) - 1)) }) (T := "list_reverseiterator") (Walks.listRev (A := X.A.in1.in1) hh s1.heap.objs.size a hne its.toArray) hn (fun s' st => Heap.IsRevIter.typeIs st.2.1) ?_ (by simp)
      ⟨Nat.zero_le _, by simpa using hit, hl.push _⟩ (by decide) (by decide) (by decide) (fun s' Q' E' st hq' => LRv.hint_lr (by simpa using st.2.1) hq') fun h' tk acc c hk ho hi => ?_
    · intro b hb
      show b < (s1.heap.push _).objs.size
      rw [sz]
      rcases List.mem_cons.mp hb with rfl | hb
      · exact Nat.lt_succ_self _
      · rw [List.mem_singleton.mp hb]
        exact Nat.lt_succ_of_lt hlt
    · have hk2 : ∀ b o, b ≠ s1.heap.objs.size → (s1.heap.push (revObj a ((its.toArray.size : Int) - 1))).get? b = some o → h'.get? b = some o := hk
      have I3 : Inv X pins σ H1 { s1 with heap := s1.heap, toks := s1.toks } := I1
      have ho2 : h'.get? (s1.heap.objs.size + 1) = some { cls := .type "list", dict := none, data := .seq acc c, slots := #[] } := by rw [← sz]; exact ho
      refine ⟨.ref (s1.heap.push (revObj a ((its.toArray.size : Int) - 1))).objs.size, upd H1 (s1.heap.push (revObj a ((its.toArray.size : Int) - 1))).objs.size (.lst xs.reverse), ?_, rfl, q _ (I1.hok.fresh (by rw [sz]; exact Nat.le_succ _))⟩
      rw [sz]
      refine I1.laid (t' := tk) (h' := h') (fun c o e => hk2 c o (Nat.ne_of_lt (Heap.lt_size e)) (k0 _ _ e)) (Nat.le_succ _) (show ObjOk X.prog X.w _ _ _ (.lst xs.reverse) from ⟨by rw [List.length_reverse]; exact hz, acc.toList, c, vals_rev rv hi, by rw [Array.toArray_toList]; exact ho2⟩)
  · obtain ⟨its, rv, p', hz⟩ := I1.tuple hq
    have hn : its.toArray.size ≤ sizeLine := by rw [List.size_toArray, ← rv.length]; exact hz
    refine call_reversed_tup p' (fun A E Q k => PyProof.Rows.len_tuple p' (by rw [sizeLine_eq] at hn; omega) k) (args_nil ?_)
    obtain ⟨ol, hol, hcl, nl, hdl⟩ := id p'
    have hlt := Heap.lt_size hol
    have hne : a ≠ s1.heap.objs.size := Nat.ne_of_lt hlt
    have k0 : ∀ b o, s1.heap.get? b = some o → (s1.heap.push (rtObj a ((its.toArray.size : Int) - 1))).get? b = some o := fun b o e => Heap.get?_push_of_some _ e
    have sz : (s1.heap.push (rtObj a ((its.toArray.size : Int) - 1))).objs.size = s1.heap.objs.size + 1 := Heap.size_push ..
    have hit : IsRt (s1.heap.push (rtObj a ((its.toArray.size : Int) - 1))) s1.heap.objs.size a ((its.toArray.size : Int) - 1) := ⟨_, Heap.get?_push_size _ rfl, rfl, rfl⟩
    refine LRv.list_walk (s := { s1 with heap := s1.heap.push (rtObj a ((its.toArray.size : Int) - 1)), toks := s1.toks + 1 + 1 }) (T := "reversed") (LRv.walksRt (A := X.A.in1.in1) hh s1.heap.objs.size a hne its.toArray hn) hn (fun s' st => IsRt.typeIs st.2.1) ?_ (by simp)
      ⟨Nat.zero_le _, by simpa using hit, ⟨ol, k0 _ _ hol, hcl, nl, hdl⟩⟩ (by decide) (by decide) (by decide) (fun s' Q' E' st hq' => LRv.hint_rt (by simpa using st.2.1) st.2.2 hn hq') fun h' tk acc c hk ho hi => ?_
    · intro b hb
      show b < (s1.heap.push _).objs.size
      rw [sz]
      rcases List.mem_cons.mp hb with rfl | hb
      · exact Nat.lt_succ_self _
      · rw [List.mem_singleton.mp hb]
        exact Nat.lt_succ_of_lt hlt
    · have hk2 : ∀ b o, b ≠ s1.heap.objs.size → (s1.heap.push (rtObj a ((its.toArray.size : Int) - 1))).get? b = some o → h'.get? b = some o := hk
      have ho2 : h'.get? (s1.heap.objs.size + 1) = some { cls := .type "list", dict := none, data := .seq acc c, slots := #[] } := by rw [← sz]; exact ho
      refine ⟨.ref (s1.heap.push (rtObj a ((its.toArray.size : Int) - 1))).objs.size, upd H1 (s1.heap.push (rtObj a ((its.toArray.size : Int) - 1))).objs.size (.lst xs.reverse), ?_, rfl, q _ (I1.hok.fresh (by rw [sz]; exact Nat.le_succ _))⟩
      rw [sz]
      refine I1.laid (t' := tk) (h' := h') (fun c o e => hk2 c o (Nat.ne_of_lt (Heap.lt_size e)) (k0 _ _ e)) (Nat.le_succ _) (show ObjOk X.prog X.w _ _ _ (.lst xs.reverse) from ⟨by rw [List.length_reverse]; exact hz, acc.toList, c, vals_rev rv hi, by rw [Array.toArray_toList]; exact ho2⟩)
end L2

/-! ## Txt87 -/
set_option maxHeartbeats 4000000
namespace R87
open PySem PySem.Spec PyProof.Rows L2
def top (i : Nat) : Stmt := PySem.Challenge.pw_rulesonrules_k87_great_terms_shared.main.body.getD i (.Pass ⟨0, 0, 0, 0⟩)
abbrev s_is_name : Stmt := top 16
abbrev N_is_name : List Str := ["text", "sign"]
theorem sc_is_name : FnScope N_is_name ["text"] (defScope s_is_name) := ⟨rfl, rfl, rfl, by decide +kernel, rfl, by decide +kernel, by decide +kernel⟩
abbrev s_is_letter : Stmt := top 17
abbrev N_is_letter : List Str := ["text", "digits", "digit"]
theorem sc_is_letter : FnScope N_is_letter ["text", "digits"] (defScope s_is_letter) := ⟨rfl, rfl, rfl, by decide +kernel, rfl, by decide +kernel, by decide +kernel⟩
abbrev s_letter_key : Stmt := top 18
abbrev N_letter_key : List Str := ["letter"]
theorem sc_letter_key : FnScope N_letter_key ["letter"] (defScope s_letter_key) := ⟨rfl, rfl, rfl, by decide +kernel, rfl, by decide +kernel, by decide +kernel⟩
abbrev s_in_order : Stmt := top 19
abbrev N_in_order : List Str := ["letters", "found", "letter"]
theorem sc_in_order : FnScope N_in_order ["letters"] (defScope s_in_order) := ⟨rfl, rfl, rfl, by decide +kernel, rfl, by decide +kernel, by decide +kernel⟩
abbrev s_Signature_init : Stmt := inClass (top 22) 0
abbrev N_Signature_init : List Str := ["self", "sorts", "signs", "name", "capital", "arguments", "result"]
theorem sc_Signature_init : FnScope N_Signature_init ["self", "sorts", "signs"] (defScope s_Signature_init) := ⟨rfl, rfl, rfl, by decide +kernel, rfl, by decide +kernel, by decide +kernel⟩
abbrev s_Signature_add_sort : Stmt := inClass (top 22) 1
abbrev N_Signature_add_sort : List Str := ["self", "name", "capital"]
theorem sc_Signature_add_sort : FnScope N_Signature_add_sort ["self", "name", "capital"] (defScope s_Signature_add_sort) := ⟨rfl, rfl, rfl, by decide +kernel, rfl, by decide +kernel, by decide +kernel⟩
abbrev s_Signature_add_sign : Stmt := inClass (top 22) 2
abbrev N_Signature_add_sign : List Str := ["self", "name", "arguments", "result", "kind"]
theorem sc_Signature_add_sign : FnScope N_Signature_add_sign ["self", "name", "arguments", "result"] (defScope s_Signature_add_sign) := ⟨rfl, rfl, rfl, by decide +kernel, rfl, by decide +kernel, by decide +kernel⟩
abbrev s_Signature_capital : Stmt := inClass (top 22) 3
abbrev N_Signature_capital : List Str := ["self", "sort"]
theorem sc_Signature_capital : FnScope N_Signature_capital ["self", "sort"] (defScope s_Signature_capital) := ⟨rfl, rfl, rfl, by decide +kernel, rfl, by decide +kernel, by decide +kernel⟩
abbrev s_Signature_arguments : Stmt := inClass (top 22) 4
abbrev N_Signature_arguments : List Str := ["self", "sign"]
theorem sc_Signature_arguments : FnScope N_Signature_arguments ["self", "sign"] (defScope s_Signature_arguments) := ⟨rfl, rfl, rfl, by decide +kernel, rfl, by decide +kernel, by decide +kernel⟩
abbrev s_Signature_result : Stmt := inClass (top 22) 5
abbrev N_Signature_result : List Str := ["self", "sign"]
theorem sc_Signature_result : FnScope N_Signature_result ["self", "sign"] (defScope s_Signature_result) := ⟨rfl, rfl, rfl, by decide +kernel, rfl, by decide +kernel, by decide +kernel⟩
abbrev s_Signature_sort_of_word : Stmt := inClass (top 22) 7
abbrev N_Signature_sort_of_word : List Str := ["self", "word", "digits"]
theorem sc_Signature_sort_of_word : FnScope N_Signature_sort_of_word ["self", "word", "digits"] (defScope s_Signature_sort_of_word) := ⟨rfl, rfl, rfl, by decide +kernel, rfl, by decide +kernel, by decide +kernel⟩
abbrev s_Signature_fault : Stmt := inClass (top 22) 8
abbrev N_Signature_fault : List Str := ["self", "text", "wanted", "due", "words", "place", "word", "here", "found"]
theorem sc_Signature_fault : FnScope N_Signature_fault ["self", "text", "wanted"] (defScope s_Signature_fault) := ⟨rfl, rfl, rfl, by decide +kernel, rfl, by decide +kernel, by decide +kernel⟩
abbrev s_Signature_check : Stmt := inClass (top 22) 9
abbrev N_Signature_check : List Str := ["self", "text", "wanted", "place"]
theorem sc_Signature_check : FnScope N_Signature_check ["self", "text", "wanted"] (defScope s_Signature_check) := ⟨rfl, rfl, rfl, by decide +kernel, rfl, by decide +kernel, by decide +kernel⟩
abbrev s_joined : Stmt := top 24
abbrev N_joined : List Str := ["first", "second"]
theorem sc_joined : FnScope N_joined ["first", "second"] (defScope s_joined) := ⟨rfl, rfl, rfl, by decide +kernel, rfl, by decide +kernel, by decide +kernel⟩
abbrev s_Terms_init : Stmt := inClass (top 25) 0
abbrev N_Terms_init : List Str := ["self", "signature"]
theorem sc_Terms_init : FnScope N_Terms_init ["self", "signature"] (defScope s_Terms_init) := ⟨rfl, rfl, rfl, by decide +kernel, rfl, by decide +kernel, by decide +kernel⟩
abbrev s_Terms_put : Stmt := inClass (top 25) 1
abbrev N_Terms_put : List Str := ["self", "word", "parts", "kind", "key", "number", "letters", "size", "part"]
theorem sc_Terms_put : FnScope N_Terms_put ["self", "word", "parts", "kind"] (defScope s_Terms_put) := ⟨rfl, rfl, rfl, by decide +kernel, rfl, by decide +kernel, by decide +kernel⟩
abbrev s_Terms_letter : Stmt := inClass (top 25) 2
abbrev N_Terms_letter : List Str := ["self", "text", "kind"]
theorem sc_Terms_letter : FnScope N_Terms_letter ["self", "text"] (defScope s_Terms_letter) := ⟨rfl, rfl, rfl, by decide +kernel, rfl, by decide +kernel, by decide +kernel⟩
abbrev s_Terms_make : Stmt := inClass (top 25) 3
abbrev N_Terms_make : List Str := ["self", "sign", "parts", "wanted", "place", "part"]
theorem sc_Terms_make : FnScope N_Terms_make ["self", "sign", "parts"] (defScope s_Terms_make) := ⟨rfl, rfl, rfl, by decide +kernel, rfl, by decide +kernel, by decide +kernel⟩
abbrev s_Terms_read : Stmt := inClass (top 25) 4
abbrev N_Terms_read : List Str := ["self", "text", "wanted", "number"]
theorem sc_Terms_read : FnScope N_Terms_read ["self", "text", "wanted"] (defScope s_Terms_read) := ⟨rfl, rfl, rfl, by decide +kernel, rfl, by decide +kernel, by decide +kernel⟩
abbrev s_Terms_built : Stmt := inClass (top 25) 5
abbrev N_Terms_built : List Str := ["self", "words", "due", "word", "kind", "parts", "_"]
theorem sc_Terms_built : FnScope N_Terms_built ["self", "words"] (defScope s_Terms_built) := ⟨rfl, rfl, rfl, by decide +kernel, rfl, by decide +kernel, by decide +kernel⟩
abbrev s_Terms_size_of : Stmt := inClass (top 25) 9
abbrev N_Terms_size_of : List Str := ["self", "term"]
theorem sc_Terms_size_of : FnScope N_Terms_size_of ["self", "term"] (defScope s_Terms_size_of) := ⟨rfl, rfl, rfl, by decide +kernel, rfl, by decide +kernel, by decide +kernel⟩
abbrev s_Terms_letters_of : Stmt := inClass (top 25) 10
abbrev N_Terms_letters_of : List Str := ["self", "term"]
theorem sc_Terms_letters_of : FnScope N_Terms_letters_of ["self", "term"] (defScope s_Terms_letters_of) := ⟨rfl, rfl, rfl, by decide +kernel, rfl, by decide +kernel, by decide +kernel⟩
abbrev s_Terms_first_letters_of : Stmt := inClass (top 25) 11
abbrev N_Terms_first_letters_of : List Str := ["self", "term", "seen", "found", "due", "node"]
theorem sc_Terms_first_letters_of : FnScope N_Terms_first_letters_of ["self", "term"] (defScope s_Terms_first_letters_of) := ⟨rfl, rfl, rfl, by decide +kernel, rfl, by decide +kernel, by decide +kernel⟩
abbrev s_Terms_put_in : Stmt := inClass (top 25) 12
abbrev N_Terms_put_in : List Str := ["self", "term", "filling", "letter", "made", "node", "word", "parts", "part"]
theorem sc_Terms_put_in : FnScope N_Terms_put_in ["self", "term", "filling"] (defScope s_Terms_put_in) := ⟨rfl, rfl, rfl, by decide +kernel, rfl, by decide +kernel, by decide +kernel⟩
abbrev s_Terms_touched : Stmt := inClass (top 25) 13
abbrev N_Terms_touched : List Str := ["self", "term", "filling", "seen", "due", "node", "letter"]
theorem sc_Terms_touched : FnScope N_Terms_touched ["self", "term", "filling"] (defScope s_Terms_touched) := ⟨rfl, rfl, rfl, by decide +kernel, rfl, by decide +kernel, by decide +kernel⟩
abbrev s_Terms_write : Stmt := inClass (top 25) 14
abbrev N_Terms_write : List Str := ["self", "term", "words", "due", "node"]
theorem sc_Terms_write : FnScope N_Terms_write ["self", "term"] (defScope s_Terms_write) := ⟨rfl, rfl, rfl, by decide +kernel, rfl, by decide +kernel, by decide +kernel⟩
abbrev s_Terms_shared : Stmt := inClass (top 25) 15
abbrev N_Terms_shared : List Str := ["self", "term", "places", "rows", "due", "node", "waiting", "part"]
theorem sc_Terms_shared : FnScope N_Terms_shared ["self", "term"] (defScope s_Terms_shared) := ⟨rfl, rfl, rfl, by decide +kernel, rfl, by decide +kernel, by decide +kernel⟩
abbrev s_Terms_from_shared : Stmt := inClass (top 25) 16
abbrev N_Terms_from_shared : List Str := ["self", "rows", "numbers", "place", "row", "number", "due"]
theorem sc_Terms_from_shared : FnScope N_Terms_from_shared ["self", "rows"] (defScope s_Terms_from_shared) := ⟨rfl, rfl, rfl, by decide +kernel, rfl, by decide +kernel, by decide +kernel⟩
abbrev s_Terms_of_row : Stmt := inClass (top 25) 17
abbrev N_Terms_of_row : List Str := ["self", "row", "numbers", "kind", "wanted", "place", "kind_due", "at"]
theorem sc_Terms_of_row : FnScope N_Terms_of_row ["self", "row", "numbers"] (defScope s_Terms_of_row) := ⟨rfl, rfl, rfl, by decide +kernel, rfl, by decide +kernel, by decide +kernel⟩
abbrev s_law_draws : Stmt := top 27
abbrev N_law_draws : List Str := ["script", "first", "cells", "found", "at", "cell", "rest", "k", "mixed"]
theorem sc_law_draws : FnScope N_law_draws ["script", "first", "cells"] (defScope s_law_draws) := ⟨rfl, rfl, rfl, by decide +kernel, rfl, by decide +kernel, by decide +kernel⟩
abbrev s_law_take : Stmt := top 28
abbrev N_law_take : List Str := ["draws", "many"]
theorem sc_law_take : FnScope N_law_take ["draws", "many"] (defScope s_law_take) := ⟨rfl, rfl, rfl, by decide +kernel, rfl, by decide +kernel, by decide +kernel⟩
abbrev s_law_is_number : Stmt := top 29
abbrev N_law_is_number : List Str := ["told"]
theorem sc_law_is_number : FnScope N_law_is_number ["told"] (defScope s_law_is_number) := ⟨rfl, rfl, rfl, by decide +kernel, rfl, by decide +kernel, by decide +kernel⟩
abbrev s_law_digits : Stmt := top 30
abbrev N_law_digits : List Str := ["draws", "many", "digits", "k"]
theorem sc_law_digits : FnScope N_law_digits ["draws"] (defScope s_law_digits) := ⟨rfl, rfl, rfl, by decide +kernel, rfl, by decide +kernel, by decide +kernel⟩
abbrev s_law_made : Stmt := top 31
abbrev N_law_made : List Str := ["rows", "word", "places", "row"]
theorem sc_law_made : FnScope N_law_made ["rows", "word", "places"] (defScope s_law_made) := ⟨rfl, rfl, rfl, by decide +kernel, rfl, by decide +kernel, by decide +kernel⟩
abbrev s_law_put : Stmt := top 32
abbrev N_law_put : List Str := ["rows", "inner", "found", "at", "row", "k"]
theorem sc_law_put : FnScope N_law_put ["rows", "inner"] (defScope s_law_put) := ⟨rfl, rfl, rfl, by decide +kernel, rfl, by decide +kernel, by decide +kernel⟩
abbrev s_law_sizes : Stmt := top 33
abbrev N_law_sizes : List Str := ["rows", "sizes", "row", "k"]
theorem sc_law_sizes : FnScope N_law_sizes ["rows"] (defScope s_law_sizes) := ⟨rfl, rfl, rfl, by decide +kernel, rfl, by decide +kernel, by decide +kernel⟩
abbrev s_law_small : Stmt := top 34
abbrev N_law_small : List Str := ["draws", "letter", "one", "many", "arity", "rows", "k", "j"]
theorem sc_law_small : FnScope N_law_small ["draws", "letter", "one", "many", "arity"] (defScope s_law_small) := ⟨rfl, rfl, rfl, by decide +kernel, rfl, by decide +kernel, by decide +kernel⟩
abbrev s_law_built : Stmt := top 35
abbrev N_law_built : List Str := ["terms", "rows", "numbers", "row", "k"]
theorem sc_law_built : FnScope N_law_built ["terms", "rows"] (defScope s_law_built) := ⟨rfl, rfl, rfl, by decide +kernel, rfl, by decide +kernel, by decide +kernel⟩
abbrev s_law_tells : Stmt := top 36
abbrev N_law_tells : List Str := ["terms", "number", "rows", "letter", "size", "told", "text", "e"]
theorem sc_law_tells : FnScope N_law_tells ["terms", "number", "rows", "letter"] (defScope s_law_tells) := ⟨rfl, rfl, rfl, by decide +kernel, rfl, by decide +kernel, by decide +kernel⟩
abbrev s_law_refuses : Stmt := top 37
abbrev N_law_refuses : List Str := ["terms", "rows", "spoilt", "due", "e"]
theorem sc_law_refuses : FnScope N_law_refuses ["terms", "rows", "spoilt", "due"] (defScope s_law_refuses) := ⟨rfl, rfl, rfl, by decide +kernel, rfl, by decide +kernel, by decide +kernel⟩
abbrev s_law_spoils : Stmt := top 38
abbrev N_law_spoils : List Str := ["draws", "terms", "rows", "one", "many", "arity", "place", "row", "late", "below", "long", "strange", "k"]
theorem sc_law_spoils : FnScope N_law_spoils ["draws", "terms", "rows", "one", "many", "arity"] (defScope s_law_spoils) := ⟨rfl, rfl, rfl, by decide +kernel, rfl, by decide +kernel, by decide +kernel⟩
abbrev s_law : Stmt := top 39
abbrev N_law : List Str := ["script", "draws", "capital", "rest", "one", "many", "arity", "letter", "signature", "terms", "rows", "number", "steps", "k", "outer", "other", "inner", "filled", "j"]
theorem sc_law : FnScope N_law ["script"] (defScope s_law) := ⟨rfl, rfl, rfl, by decide +kernel, rfl, by decide +kernel, by decide +kernel⟩
end R87

/-! ## Words87 -/
set_option maxHeartbeats 4000000
namespace R87
open PySem PySem.Spec PyProof.Rows L2
/-! ### letters -/
def cSmall : Str := "abcdefghijklmnopqrstuvwxyz"
def cCap : Str := "ABCDEFGHIJKLMNOPQRSTUVWXYZ"
def cDig : Str := "0123456789"
def smallC (c : Nat) : Bool := decide (c ∈ cSmall.cps.toList)
def capC (c : Nat) : Bool := decide (c ∈ cCap.cps.toList)
def digC (c : Nat) : Bool := decide (c ∈ cDig.cps.toList)
/-- a name, by its signs -/
def nameL (l : List Nat) : Bool := decide (1 ≤ l.length) && decide (l.length ≤ 24) && (l.head?.any smallC && l.all fun c => smallC c || digC c)
/-- a letter of at most n digits -/
def letterL (n : Nat) : List Nat → Bool
  | c :: d :: l => decide (l.length < n) && (capC c && !(decide (d = 48) && !l.isEmpty) && (d :: l).all digC)
  | _ => false
structure Glb (mg : Str → Option Value) : Prop where
  len : mg "len" = none
  small : ∃ t, mg "SMALL" = some (.str cSmall t)
  cap : ∃ t, mg "CAPITALS" = some (.str cCap t)
  dig : ∃ t, mg "DIGITS" = some (.str cDig t)
  int : mg "int" = none
  list : mg "list" = none
  tuple : mg "tuple" = none
  sorted : mg "sorted" = none
section
variable {P : Program} {w : World} {K : PySem.W.Frag} {mg : Str → Option Value} {base : Heap}
def spIsName : Sp := fun vs H Q _ => ∃ x : Str, vs = [.str x] ∧ x.length ≤ 1000 ∧ Q (.bl (nameL x.cps.toList)) H
theorem ok_is_name {f : Addr} {fd : FuncData} (F : Fn K "is_name" "is_name" s_is_name [] f fd) (T : Glb mg) : FnOk P w K mg base CX0 1 f fd ["text"] spIsName := by
  obtain ⟨tS, hS⟩ := T.small
  obtain ⟨tD, hD⟩ := T.dig
  refine F.ok sc_is_name (fun vs H Q E h => ?_) (fun cdv A outer s H vs Q E hr h => ?_)
  · obtain ⟨x, rfl, _⟩ := h
    rfl
  · obtain ⟨x, rfl, hx, k⟩ := h
    refine ⟨_, PSs.nox (pss_cons (ps_if (PW.pt (pw_or (pt_not (pt_chain op_le op_le pe_int (pe_callB call_len_str (by rfl) T.len PySem.boot_len (pa_cons (pv 0) pa_nil)) pe_int))
        (pw_or1 (pt_cmpR op_notIn_sign (pe_ix ix_str (pv 0) pe_int (fun _ _ => rfl)) (pgS hS) (by rfl))))) (pss_one (ps_ret pe_bl)) pss_nil)
      (pss_cons (ps_for PassesOwn.never rfl (pi_str (pv 0)) (pg_name (i := 1) sc_is_name.nd rfl (Or.inl rfl))
        (pss_one (ps_if (PW.pt (pw_and (pt_cmpR op_notIn_sign (pv 1) (pgS hS) (by rfl)) (pw_and1 (pt_cmpR op_notIn_sign (pv 1) (pgS hD) (by rfl))))) (pss_one (ps_ret pe_bl)) pss_nil)))
      (pss_one (ps_ret pe_bl)))), ?_⟩
    have hsz : x.length ≤ sizeLine := Nat.le_trans hx (by decide)
    have hlen := len_cps x
    generalize hn : nameL x.cps.toList = b at k
    unfold nameL at hn
    refine ⟨_, rfl, x, rfl, hsz, _, _, rfl, rfl, _, rfl, ?_⟩
    refine ifC (fun h1 => ⟨_, _, rfl, rfl, _, rfl, ?_⟩) (fun h1 => ⟨_, rfl, ?_⟩)
    · refine ifC (fun h2 => ifT rfl ?_) (fun h2 => ?_)
      · have h2' : ¬ x.cps.toList.length ≤ 24 := fun q => onT h2 (by rw [hlen]; exact_mod_cast q)
        rw [dF h2', Bool.and_false, Bool.false_and] at hn
        subst hn
        exact k
      · have h1' : 1 ≤ x.cps.toList.length := by have := oT h1; rw [hlen] at this; omega
        have h2' : x.cps.toList.length ≤ 24 := by have := onF h2; rw [hlen] at this; omega
        rw [dT h1', dT h2', Bool.true_and, Bool.true_and] at hn
        cases e : x.cps.toList with
        | nil => rw [e] at h1'; exact absurd h1' (by decide)
        | cons c l =>
          refine ⟨_, rfl, x, 0, c, rfl, rfl, hsz, by rw [e]; exact at0, c, cSmall, rfl, rfl, _, rfl, ?_⟩
          refine ifC (fun hc => ?_) (fun hc => ?_)
          · have hc' : smallC c = false := dF (onT hc)
            rw [e] at hn
            have hn' : (smallC c && _) = b := hn
            rw [hc', Bool.false_and] at hn'
            subst hn'
            exact k
          · have hc' : smallC c = true := dT (onF hc)
            have hn' : (x.cps.toList.all fun c => smallC c || digC c) = b := by
              rw [← hn, e]
              show _ = (smallC c && _)
              rw [hc', Bool.true_and]
            refine ⟨_, rfl, x, rfl, for_it walk_str (fun i σ H' => H' = H ∧ (∃ v, σ = [some (.str x), v]) ∧ (x.cps.toList.take i).all (fun c => smallC c || digC c) = true) ⟨rfl, ⟨_, rfl⟩, rfl⟩ (fun _ _ _ _ _ => True.intro) ?_ ?_⟩
            · rintro i v σ H1 H2 hi ⟨rfl, ⟨u, rfl⟩, hall⟩ ⟨rfl, d, hd, rfl⟩
              rw [cps_get] at hd
              refine ⟨_, rfl, d, cSmall, rfl, rfl, _, rfl, ?_⟩
              refine ifC (fun h3 => ⟨_, rfl, d, cDig, rfl, rfl, _, rfl, ifC (fun h4 => ?_) (fun h4 => ⟨rfl, ⟨_, rfl⟩, ?_⟩)⟩) (fun h3 => ifF rfl ⟨rfl, ⟨_, rfl⟩, ?_⟩)
              · have h5 : (smallC d || digC d) = false := by
                  show (decide _ || decide _) = false
                  rw [dF (onT h3), dF (onT h4)]; rfl
                have h6 : (x.cps.toList.all fun c => smallC c || digC c) = false := by
                  rw [← Bool.not_eq_true]
                  intro q
                  have := List.all_eq_true.mp q d (List.mem_of_getElem? hd)
                  rw [h5] at this
                  cases this
                rw [← hn', h6] at k
                exact k
              · rw [take_succ_all hd, hall]
                show (decide _ || decide _) = true
                rw [dT (onF h4), Bool.or_true]
              · rw [take_succ_all hd, hall]
                show (decide _ || decide _) = true
                rw [dT (onF h3), Bool.true_or]
            · rintro σ H1 ⟨rfl, ⟨u, rfl⟩, hall⟩
              have e3 : x.cps.toList.take x.cps.size = x.cps.toList := List.take_of_length_le (by simp)
              rw [e3, hn'] at hall
              subst hall
              exact k
    · have h1' : ¬ 1 ≤ x.cps.toList.length := fun q => oF h1 (by rw [hlen]; exact_mod_cast q)
      rw [dF h1', Bool.false_and, Bool.false_and] at hn
      subst hn
      exact iteT (ifT rfl k)
end
end R87

/-! ## DcSet -/
namespace L2
open PySem PySem.Spec PyProof.Rows
section
variable {X : Cx}
/-- d = {k: v for ..}: the local d takes the new dict before the block's frame is let go -/
theorem ps_setDc {j : Nat} {y : Str} {pn : Pos} {kx vx tg iter : Expr} {tests : List Expr} {sc : Scope} {own : List (Str × Nat)} {pos spos : Pos} {wi : TI} {g : TG} {tt : TT} {tk tv : TE} (calm : X.calm = true) (nd : X.N.Nodup) (hy : X.N[j]? = some y) (hl : X.env.scope.names.lookup y = some .local)
    (hsw : swapsWith (.DictComp kx vx [⟨tg, iter, tests, 0⟩] sc pos) (some (.Name y pn)) spos.line X.env = pure true) (it : PI X tg iter wi) (blk : BlkOk X.N X.env.scope sc own)
    (pg : ∀ (s : Shared) (H : Hp) (C : Addr) (cl : List (Str × Addr)) (fp : List Addr), PG (X.blk s H sc (compEnvC sc cl C X.env) fp) tg g)
    (pt : ∀ (s : Shared) (H : Hp) (C : Addr) (cl : List (Str × Addr)) (fp : List Addr), PTs (X.blk s H sc (compEnvC sc cl C X.env) fp) tests tt)
    (pk : ∀ (s : Shared) (H : Hp) (C : Addr) (cl : List (Str × Addr)) (fp : List Addr), PE (X.blk s H sc (compEnvC sc cl C X.env) fp) kx tk)
    (pw : ∀ (s : Shared) (H : Hp) (C : Addr) (cl : List (Str × Addr)) (fp : List Addr), PE (X.blk s H sc (compEnvC sc cl C X.env) fp) vx tv)
    (fs : ∀ x, foldedSetIterable iter X.env x = pure x := by intro _; rfl) :
    PS X (.Assign [.Name y pn] (.DictComp kx vx [⟨tg, iter, tests, 0⟩] sc pos) spos) (tAsg (tDc wi g tt tk tv (own.map (·.2))) (gName j)) := by
  refine ⟨fun pins s σ H D I reading => ?_⟩
  rw [exec_Assign_Name_used _ _ _ _ hsw]
  refine wpAny_bind (wpAny_standAt (wpAny_bind ?_))
  show wpAny _ X.A (do let _ ← comprehension (.DictComp kx vx [⟨tg, iter, tests, 0⟩] sc pos) sc X.env (firstIterPos [⟨tg, iter, tests, 0⟩] pos) newDict false (eval iter X.env) (some (assign (.Name y pn) X.env))) _ _ s
  have reading' : tDc wi g tt tk tv (own.map (·.2)) σ H (fun x H1 => gName j x σ H1 D.nx) := reading
  refine wpAny_bind (thn (dc_core (Qf := fun _ s' => SP X pins D .next s') calm nd I it blk pg pt pk pw fs reading' fun L C s' m H' I' q hn f => ?_) fun _ s' hq => wpAny_pure (wpAny_pure hq))
  show wpAny _ _ (assign (.Name y pn) X.env (.ref L)) _ _ _
  refine wpAny_assign_Name (store_ok2 (v := V.ref L) I' nd hy (.inl hl) rfl (fun s2 I2 ⟨cell, sb, hcell⟩ => ?_) (.inr hl))
  obtain ⟨g0, g1, g2, g3, g4, g5⟩ := f
  have apart : C ≠ cell := by
    cases hcell with
    | inl z => rw [z]; exact g1
    | inr z => exact fun e => g4 y cell z e.symm
  refine ⟨m, hn.sameBut sb apart, fun h3 sb3 => ?_⟩
  exact ⟨_, H', I2.turned (t' := s2.toks) (fun b o hb e => (sb3.2 b hb).trans e) g0 g1 g3 g4 g5, q⟩
theorem sw_dc {kx vx : Expr} {gs : List Comprehension} {sc : Scope} {pos pn : Pos} {y : Str} {l : Nat} {env : Env} (fn : env.scope.kind = .function) (loc : env.scope.names.lookup y = some .local) (row : (pn.line == pos.line) = true)
    (free : (sc.names.any fun (n, k) => n == y && (k == .local || k == .cell)) = false) : swapsWith (.DictComp kx vx gs sc pos) (some (.Name y pn)) l env = pure true := by
  have a : env.kindOf y = some .local := loc
  have b : env.blockKind = .function := by unfold Env.blockKind; rw [fn]; rfl
  unfold swapsWith
  simp only [b, a, free, Expr.pos, row]
  rfl
/-- the reading over a list that stays -/
theorem dc_list {K : PySem.W.Frag} {a : Addr} {xs : List V} {g : TG} {tt : TT} {tk tv : TE} {vs : List Nat} {σ : St} {H1 : Hp} {D : Addr} {Qd : Hp → Prop} (Pv : Nat → Hp → Prop) (h0 : Pv 0 (upd H1 D (.dK []))) (hl : ∀ i H, i ≤ xs.length → Pv i H → SqL K H a xs)
    (hs : ∀ i x H, xs[i]? = some x → Pv i H → g x (wipe σ vs) H fun σ2 H2 => wipe σ2 vs = wipe σ vs ∧ tt σ2 H2 fun b H3 =>
      if b = true then tk σ2 H3 fun y H4 => tv σ2 H4 fun z H5 => ∃ kvs k, y = kV k ∧ H5 D = some (.dK kvs) ∧ kvs.length < sizeLine ∧ Pv (i + 1) (upd H5 D (.dK (putK kvs k z))) else Pv (i + 1) H3) (hd : ∀ H, Pv xs.length H → Qd H) :
    ∃ W : Nat → Nat → Hp → Prop, (∃ m, W 0 m (upd H1 D (.dK []))) ∧ ∀ i m H, W i m H →
      ((Itl K a).stop i H ∧ Qd H) ∨ ((Itl K a).go i H ∧ ∃ Nx : Hp → Prop, (∀ H', Nx H' → ∃ m', m' < m ∧ W (i + 1) m' H') ∧ ∀ x H', (Itl K a).yld i H x H' → g x (wipe σ vs) H' fun σ2 H2 => wipe σ2 vs = wipe σ vs ∧ tt σ2 H2 fun b H3 =>
        if b = true then tk σ2 H3 fun y H4 => tv σ2 H4 fun z H5 => ∃ kvs k, y = kV k ∧ H5 D = some (.dK kvs) ∧ kvs.length < sizeLine ∧ Nx (upd H5 D (.dK (putK kvs k z))) else Nx H3) := by
  refine ⟨fun i n H => n = xs.length - i ∧ i ≤ xs.length ∧ Pv i H, ⟨xs.length, by simp, Nat.zero_le _, h0⟩, ?_⟩
  rintro i n H ⟨rfl, hi, p⟩
  have q := hl i H hi p
  rcases Nat.lt_or_ge i xs.length with hlt | hge
  · refine .inr ⟨⟨xs, xs[i], q, by simp [hlt]⟩, Pv (i + 1), fun H' p' => ⟨xs.length - (i + 1), by omega, rfl, hlt, p'⟩, fun x H' y => ?_⟩
    obtain ⟨e, y⟩ := y
    subst e
    exact hs i x _ (y xs q) p
  · obtain rfl : i = xs.length := Nat.le_antisymm hi hge
    exact .inl ⟨⟨xs, q, Nat.le_refl _⟩, hd H p⟩
end
end L2

/-! ## Words87b -/
set_option maxHeartbeats 4000000
namespace R87
open PySem PySem.Spec PyProof.Rows L2
/-- a letter of at most n digits, by places -/
def isLet (n : Int) (l : List Nat) : Bool := decide (2 ≤ l.length) && decide ((l.length : Int) ≤ n + 1) && (capC (l.getD 0 0) && (!(decide (l.getD 1 0 = 48) && decide (2 < l.length)) && (l.drop 1).all digC))
section
variable {P : Program} {w : World} {K : PySem.W.Frag} {mg : Str → Option Value} {base : Heap}
def spIsLetter : Sp := fun vs H Q _ => ∃ (x : Str) (n : Int), vs = [.str x, .int n] ∧ x.length ≤ 1000 ∧ Q (.bl (isLet n x.cps.toList)) H
theorem ok_is_letter {f : Addr} {fd : FuncData} (F : Fn K "is_letter" "is_letter" s_is_letter [.int 9] f fd) (T : Glb mg) : FnOk P w K mg base CX0 1 f fd ["text", "digits"] spIsLetter := by
  obtain ⟨tC, hC⟩ := T.cap
  obtain ⟨tD, hD⟩ := T.dig
  refine F.ok sc_is_letter (fun vs H Q E h => ?_) (fun cdv A outer s H vs Q E hr h => ?_)
  · obtain ⟨x, n, rfl, _⟩ := h
    rfl
  · obtain ⟨x, n, rfl, hx, k⟩ := h
    refine ⟨_, PSs.nox (pss_cons (ps_if (PW.pt (pw_or (pt_not (pt_chain op_le op_le pe_int (pe_callB call_len_str (by rfl) T.len PySem.boot_len (pa_cons (pv 0) pa_nil)) (pe_op op_add (pv 1) pe_int)))
        (pw_or1 (pt_cmpR op_notIn_sign (pe_ix ix_str (pv 0) pe_int (fun _ _ => rfl)) (pgS hC) (by rfl))))) (pss_one (ps_ret pe_bl)) pss_nil)
      (pss_cons (ps_if (PW.pt (pw_and (pt_cmpR op_eq (pe_ix ix_str (pv 0) pe_int (fun _ _ => rfl)) pe_str (nomark _)) (pw_and1 (pt_cmpR op_gt (pe_callB call_len_str (by rfl) T.len PySem.boot_len (pa_cons (pv 0) pa_nil)) pe_int (nomark _))))) (pss_one (ps_ret pe_bl)) pss_nil)
      (pss_cons (ps_for PassesOwn.never rfl (pi_str (pe_slice sl_str (pv 0) (po_some pe_int) po_none)) (pg_name (i := 2) sc_is_letter.nd rfl (Or.inl rfl))
        (pss_one (ps_if (pt_cmpR op_notIn_sign (pv 2) (pgS hD) (by rfl)) (pss_one (ps_ret pe_bl)) pss_nil)))
      (pss_one (ps_ret pe_bl))))), ?_⟩
    have hsz : x.length ≤ sizeLine := Nat.le_trans hx (by decide)
    have hlen := len_cps x
    generalize hn : isLet n x.cps.toList = b at k
    unfold isLet at hn
    refine ⟨_, rfl, x, rfl, hsz, _, _, rfl, rfl, _, rfl, ?_⟩
    refine ifC (fun h1 => ⟨_, rfl, _, _, rfl, rfl, _, _, rfl, rfl, _, rfl, ?_⟩) (fun h1 => ?_)
    · refine ifC (fun h2 => ifT rfl ?_) (fun h2 => ?_)
      · have h2' : ¬ ((x.cps.toList.length : Int) ≤ n + 1) := fun q => onT h2 (by rw [hlen]; exact q)
        rw [dF h2', Bool.and_false, Bool.false_and] at hn
        subst hn
        exact k
      · have h1' : 2 ≤ x.cps.toList.length := by have := oT h1; rw [hlen] at this; omega
        have h2' : ((x.cps.toList.length : Int) ≤ n + 1) := by have := onF h2; rw [hlen] at this; exact this
        rw [dT h1', dT h2', Bool.true_and, Bool.true_and] at hn
        have g0 : x.cps.toList[0]? = some (x.cps.toList.getD 0 0) := by rw [List.getD_eq_getElem?_getD, List.getElem?_eq_getElem (by omega)]; rfl
        have g1 : x.cps.toList[1]? = some (x.cps.toList.getD 1 0) := by rw [List.getD_eq_getElem?_getD, List.getElem?_eq_getElem (by omega)]; rfl
        refine ⟨_, rfl, x, 0, _, rfl, rfl, hsz, atI_nat (j := 0) g0, _, cCap, rfl, rfl, _, rfl, ?_⟩
        refine ifC (fun hc => ?_) (fun hc => ?_)
        · have hc' : capC (x.cps.toList.getD 0 0) = false := dF (onT hc)
          rw [hc', Bool.false_and] at hn
          subst hn
          exact k
        · have hc' : capC (x.cps.toList.getD 0 0) = true := dT (onF hc)
          rw [hc', Bool.true_and] at hn
          refine ⟨_, rfl, x, 1, _, rfl, rfl, hsz, atI_nat (j := 1) g1, rfl, _, rfl, ?_⟩
          have e48 : (V.str ⟨#[x.cps.toList.getD 1 0]⟩ = V.str "0") ↔ x.cps.toList.getD 1 0 = 48 := by
            constructor
            · intro q
              injection q with q
              injection q with q
              have q2 := congrArg Array.toList q
              have q3 : ([x.cps.toList.getD 1 0] : List Nat) = [48] := q2.trans (by decide +kernel)
              injection q3
            · intro q
              rw [q]
              congr 1
          refine ifC (fun h3 => ⟨_, rfl, x, rfl, hsz, _, _, rfl, rfl, _, rfl, ifC (fun h4 => ?wA) (fun h4 => ?wB)⟩) (fun h3 => iteF ?wC)
          case wA =>
            have h3' := e48.mp (oT h3)
            have h4' : 2 < x.cps.toList.length := by have := oT h4; rw [hlen] at this; omega
            rw [dT h3', dT h4'] at hn
            have hn : false = b := hn
            subst hn
            exact k
          case' wB =>
            have h4' : ¬ 2 < x.cps.toList.length := fun q => oF h4 (by rw [hlen]; exact_mod_cast q)
            have hall : ((x.cps.toList.drop 1).all digC) = b := by
              rw [← hn, dF h4', Bool.and_false]
              rfl
          case' wC =>
            have h3' : ¬ x.cps.toList.getD 1 0 = 48 := fun q => oF h3 (e48.mpr q)
            have hall : ((x.cps.toList.drop 1).all digC) = b := by
              rw [← hn, dF h3', Bool.false_and]
              rfl
          all_goals
          refine ⟨_, rfl, _, rfl, x, rfl, hsz, _, rfl, for_it walk_str (fun i σ H' => H' = H ∧ (∃ v, σ = [some (.str x), some (.int n), v]) ∧ ((x.cps.toList.drop 1).take i).all digC = true) ⟨rfl, ⟨_, rfl⟩, rfl⟩ (fun _ _ _ _ _ => True.intro) ?_ ?_⟩
          · rintro i v σ H1 H2 hi ⟨rfl, ⟨u, rfl⟩, hp⟩ ⟨rfl, d, hd, rfl⟩
            rw [cps_get, cutS1] at hd
            refine ⟨_, rfl, d, cDig, rfl, rfl, _, rfl, ifC (fun h4 => ?_) (fun h4 => ⟨rfl, ⟨_, rfl⟩, ?_⟩)⟩
            · have h6 : ((x.cps.toList.drop 1).all digC) = false := by
                rw [← Bool.not_eq_true]
                intro q
                exact onT h4 (oT (List.all_eq_true.mp q d (List.mem_of_getElem? hd)))
              rw [← hall, h6] at k
              exact k
            · rw [take_succ_all hd, hp]
              exact dT (onF h4)
          · rintro σ H1 ⟨rfl, ⟨u, rfl⟩, hp⟩
            have e3 : (x.cps.toList.drop 1).take (cutS x (some 1) none).cps.size = x.cps.toList.drop 1 := by
              refine List.take_of_length_le ?_
              rw [← cutS1]
              simp
            rw [e3, hall] at hp
            subst hp
            exact k
    · have h1' : ¬ 2 ≤ x.cps.toList.length := fun q => oF h1 (by rw [hlen]; exact_mod_cast q)
      rw [dF h1', Bool.false_and, Bool.false_and] at hn
      subst hn
      exact ⟨_, rfl, iteT (ifT rfl k)⟩
end
end R87

/-! ## Words87c -/
set_option maxHeartbeats 4000000
namespace R87
open PySem PySem.Spec PyProof.Rows L2
/-- what a letter is, said plainly -/
theorem isLet_iff {n : Int} {l : List Nat} (h : isLet n l = true) : ∃ c d r, l = c :: d :: r ∧ (l.length : Int) ≤ n + 1 ∧ capC c = true ∧ (d :: r).all digC = true := by
  unfold isLet at h
  simp only [Bool.and_eq_true, decide_eq_true_eq] at h
  obtain ⟨⟨h1, h2⟩, h3, _, h5⟩ := h
  match l, h1 with
  | c :: d :: r, _ => exact ⟨c, d, r, rfl, h2, h3, h5⟩
theorem digC_num {c : Nat} (h : digC c = true) : 48 ≤ c ∧ c ≤ 57 := by
  have q : c ∈ ([48, 49, 50, 51, 52, 53, 54, 55, 56, 57] : List Nat) := by
    have e : cDig.cps.toList = [48, 49, 50, 51, 52, 53, 54, 55, 56, 57] := by decide +kernel
    have := oT h
    rwa [e] at this
  simp only [List.mem_cons, List.not_mem_nil, or_false] at q
  omega
section
variable {P : Program} {w : World} {K : PySem.W.Frag} {mg : Str → Option Value} {base : Heap}
def spKey : Sp := fun vs H Q _ => ∃ x : Str, vs = [.str x] ∧ isLet 300 x.cps.toList = true ∧ ∀ (p : Addr) (k : List V), H p = none → Q (.ref p) (upd H p (.tup k))
theorem ok_letter_key {f : Addr} {fd : FuncData} (F : Fn K "letter_key" "letter_key" s_letter_key [] f fd) (T : Glb mg) : FnOk P w K mg base CX0 1 f fd ["letter"] spKey := by
  refine F.ok sc_letter_key (fun vs H Q E h => ?_) (fun cdv A outer s H vs Q E hr h => ?_)
  · obtain ⟨x, rfl, _⟩ := h
    rfl
  · obtain ⟨x, rfl, hx, k⟩ := h
    refine ⟨_, pss_one (ps_ret (pe_tup (pa_cons (pe_ix ix_str (pv 0) pe_int (fun _ _ => rfl)) (pa_cons (pe_callTy call_int_str (by rfl) T.int (by decide +kernel) (pa_cons (pe_slice sl_str (pv 0) (po_some pe_int) po_none) pa_nil)) pa_nil)))), ?_⟩
    obtain ⟨c, d, r, e, hl, hc, hd⟩ := isLet_iff hx
    have hlen := len_cps x
    have h301 : x.length ≤ 301 := by rw [← hlen] at hl; exact_mod_cast (by omega : (x.length : Int) ≤ 301)
    have hsz : x.length ≤ sizeLine := Nat.le_trans h301 (by decide)
    have e1 : (cutS x (some 1) none).cps.toList = d :: r := by rw [cutS1, e]; rfl
    have el : (cutS x (some 1) none).length ≤ 640 := by
      rw [len_cps, e1]
      rw [hlen, e] at h301
      simp only [List.length_cons] at h301 ⊢
      omega
    refine ⟨_, rfl, x, 0, c, rfl, rfl, hsz, by rw [e]; exact at0, _, rfl, _, rfl, x, rfl, hsz, _, _, rfl, intText_digits (x := cutS x (some 1) none) ?_ (by rw [e1]; simp) (Nat.le_trans el (by decide)), el, by show 2 ≤ sizeLine; decide, fun p hp => k p _ hp⟩
    rw [e1]
    intro a ha
    exact digC_num (List.all_eq_true.mp hd a ha)
def spInOrder (K : PySem.W.Frag) : Sp := fun vs H Q _ => ∃ (a : Addr) (x : Str), vs = [.ref a] ∧ SqL K H a [.str x] ∧ isLet 300 x.cps.toList = true ∧ ∀ (H' : Hp) (p : Addr), Same H H' → H' p = some (.lst [.str x]) → H p = none → Q (.ref p) H'
theorem ok_in_order {f fk : Addr} {fd fdk : FuncData} (F : Fn K "in_order" "in_order" s_in_order [] f fd) (T : Glb mg) (GK : FnOk P w K mg base CX0 1 fk fdk ["letter"] spKey) (hk : mg "letter_key" = some (.ref fk)) (bk : Binds K fdk ["letter"] []) : FnOk P w K mg base CX0 4 f fd ["letters"] (spInOrder K) := by
  refine F.ok sc_in_order (fun vs H Q E h => ?_) (fun cdv A outer s H vs Q E hr h => ?_)
  · obtain ⟨a, x, rfl, _⟩ := h
    rfl
  · obtain ⟨a, x, rfl, ha, hx, k⟩ := h
    refine ⟨_, pss_cons (ps_setDc (j := 1) (own := [("letter", 2)]) (g := gName 2) (tt := tYes) rfl sc_in_order.nd rfl rfl (sw_dc rfl rfl rfl (by decide +kernel)) (pi_list (pv 0)) (blkOk_by (N := N_in_order) (sc := defScope s_in_order) (by decide +kernel)) (fun _ _ _ _ _ => pg_name (i := 2) sc_in_order.nd rfl (Or.inl rfl)) (fun _ _ _ _ _ => pts_nil) (fun _ _ _ _ _ => pv 2) (fun _ _ _ _ _ => pe_bl))
      (pss_one (ps_ret (pe_callBK (cr_sortedBy1 GK hr bk (fun _ _ _ _ _ z => z)) (by rfl) T.sorted (by decide +kernel) (pa_cons (pe_callTy (call_list_dK rfl) (by rfl) T.list (by decide +kernel) (pa_cons (pv 1) pa_nil)) pa_nil) (pk_cons (pe_glob (v := V.ref fk) (by rfl) hk rfl) pk_nil)))), ?_⟩
    refine ⟨_, rfl, a, rfl, ⟨_, ha⟩, fun D hD => dc_list (K := K) (a := a) (xs := [.str x]) (fun i H' => ∃ kvs, H' = upd H D (.dK kvs) ∧ kvs = (if i = 0 then [] else [(Sum.inr x, .bl true)])) ⟨[], rfl, rfl⟩ (fun i H' _ ⟨kvs, e, _⟩ => by rw [e]; exact (Same.new hD).seq ha) ?_ ?_⟩
    · rintro i y H' hi ⟨kvs, rfl, e⟩
      match i, hi with
      | 0, hi =>
        cases hi
        exact ⟨rfl, _, rfl, [], Sum.inr x, rfl, by rw [upd_same, e]; rfl, by decide, _, upd_upd, rfl⟩
      | j + 1, hi => exact absurd hi (by simp)
    · rintro H' ⟨kvs, rfl, e⟩
      subst e
      refine ⟨_, rfl, D, _, rfl, upd_same, fun q hq => ?_⟩
      have hDq : D ≠ q := fun z => by rw [← z, upd_same] at hq; cases hq
      have hHq : H q = none := by rw [upd_ne hDq.symm] at hq; exact hq
      refine ⟨q, [.str x], fun _ _ _ => True, rfl, rfl, SqL.of upd_same, Nat.le_refl _, fun y hy => ?_, fun H1 p hs hp => ?_⟩
      · obtain rfl := List.mem_singleton.mp hy
        exact fun H1 _ Q' hQ => ⟨x, rfl, hx, fun p k' hp => hQ _ _ (Same.new hp) True.intro⟩
      · refine k _ p (fun b o eb => ?_) upd_same ?_
        · have e1 : upd (upd H D (.dK [(Sum.inr x, .bl true)])) q (.lst [.str x]) b = some o := by
            rw [upd_ne (ne_of_none eb hHq), upd_ne (ne_of_none eb hD)]
            exact eb
          have e2 := hs _ _ e1
          rw [upd_ne (ne_of_none e2 hp)]
          exact e2
        · refine Classical.byContradiction fun hn => ?_
          cases eb : H p with
          | none => exact hn eb
          | some o =>
            have e1 : upd (upd H D (.dK [(Sum.inr x, .bl true)])) q (.lst [.str x]) p = some o := by
              rw [upd_ne (ne_of_none eb hHq), upd_ne (ne_of_none eb hD)]
              exact eb
            have e2 := hs _ _ e1
            rw [hp] at e2
            cases e2
end
end R87

/-! ## Typ87 -/
set_option maxHeartbeats 4000000
namespace R87
open PySem PySem.Spec PyProof.Rows L2
structure Ad where
  a_is_name : Addr
  d_is_name : FuncData
  a_is_letter : Addr
  d_is_letter : FuncData
  a_letter_key : Addr
  d_letter_key : FuncData
  a_in_order : Addr
  d_in_order : FuncData
  a_Signature_init : Addr
  d_Signature_init : FuncData
  a_Signature_add_sort : Addr
  d_Signature_add_sort : FuncData
  a_Signature_add_sign : Addr
  d_Signature_add_sign : FuncData
  a_Signature_arguments : Addr
  d_Signature_arguments : FuncData
  a_Signature_result : Addr
  d_Signature_result : FuncData
  a_Signature_sort_of_word : Addr
  d_Signature_sort_of_word : FuncData
  a_joined : Addr
  d_joined : FuncData
  a_Terms_init : Addr
  d_Terms_init : FuncData
  a_Terms_put : Addr
  d_Terms_put : FuncData
  a_Terms_letter : Addr
  d_Terms_letter : FuncData
  a_Terms_make : Addr
  d_Terms_make : FuncData
  a_Terms_size_of : Addr
  d_Terms_size_of : FuncData
  a_Terms_letters_of : Addr
  d_Terms_letters_of : FuncData
  a_Terms_first_letters_of : Addr
  d_Terms_first_letters_of : FuncData
  a_Terms_put_in : Addr
  d_Terms_put_in : FuncData
  a_Terms_touched : Addr
  d_Terms_touched : FuncData
  a_Terms_write : Addr
  d_Terms_write : FuncData
  a_Terms_shared : Addr
  d_Terms_shared : FuncData
  a_Terms_from_shared : Addr
  d_Terms_from_shared : FuncData
  a_Terms_of_row : Addr
  d_Terms_of_row : FuncData
  a_law_draws : Addr
  d_law_draws : FuncData
  a_law_take : Addr
  d_law_take : FuncData
  a_law_is_number : Addr
  d_law_is_number : FuncData
  a_law_digits : Addr
  d_law_digits : FuncData
  a_law_made : Addr
  d_law_made : FuncData
  a_law_put : Addr
  d_law_put : FuncData
  a_law_sizes : Addr
  d_law_sizes : FuncData
  a_law_small : Addr
  d_law_small : FuncData
  a_law_built : Addr
  d_law_built : FuncData
  a_law_tells : Addr
  d_law_tells : FuncData
  a_law_refuses : Addr
  d_law_refuses : FuncData
  a_law_spoils : Addr
  d_law_spoils : FuncData
  a_law : Addr
  d_law : FuncData
  c_Signature : Addr
  c_Terms : Addr
structure Fns (K : PySem.W.Frag) (mg : Str → Option Value) (D : Ad) : Prop where
  len : mg "len" = none
  int : mg "int" = none
  list' : mg "list" = none
  tuple : mg "tuple" = none
  sorted : mg "sorted" = none
  reversed : mg "reversed" = none
  enumerate : mg "enumerate" = none
  range : mg "range" = none
  abs : mg "abs" = none
  sum : mg "sum" = none
  isinstance : mg "isinstance" = none
  any' : mg "any" = none
  bool : mg "bool" = none
  F_is_name : Fn K "is_name" "is_name" s_is_name [] D.a_is_name D.d_is_name
  b_is_name : Binds K D.d_is_name ["text"] []
  g_is_name : mg "is_name" = some (.ref D.a_is_name)
  F_is_letter : Fn K "is_letter" "is_letter" s_is_letter [.int 9] D.a_is_letter D.d_is_letter
  b_is_letter : Binds K D.d_is_letter ["text", "digits"] []
  g_is_letter : mg "is_letter" = some (.ref D.a_is_letter)
  F_letter_key : Fn K "letter_key" "letter_key" s_letter_key [] D.a_letter_key D.d_letter_key
  b_letter_key : Binds K D.d_letter_key ["letter"] []
  g_letter_key : mg "letter_key" = some (.ref D.a_letter_key)
  F_in_order : Fn K "in_order" "in_order" s_in_order [] D.a_in_order D.d_in_order
  b_in_order : Binds K D.d_in_order ["letters"] []
  g_in_order : mg "in_order" = some (.ref D.a_in_order)
  F_Signature_init : Fn K "__init__" "Signature.__init__" s_Signature_init [] D.a_Signature_init D.d_Signature_init
  b_Signature_init : Binds K D.d_Signature_init ["self", "sorts", "signs"] []
  m_Signature_init : Mk K D.c_Signature D.a_Signature_init
  F_Signature_add_sort : Fn K "_add_sort" "Signature._add_sort" s_Signature_add_sort [] D.a_Signature_add_sort D.d_Signature_add_sort
  b_Signature_add_sort : Binds K D.d_Signature_add_sort ["self", "name", "capital"] []
  m_Signature_add_sort : Meth K D.c_Signature "_add_sort" D.a_Signature_add_sort
  F_Signature_add_sign : Fn K "_add_sign" "Signature._add_sign" s_Signature_add_sign [] D.a_Signature_add_sign D.d_Signature_add_sign
  b_Signature_add_sign : Binds K D.d_Signature_add_sign ["self", "name", "arguments", "result"] []
  m_Signature_add_sign : Meth K D.c_Signature "_add_sign" D.a_Signature_add_sign
  F_Signature_arguments : Fn K "arguments" "Signature.arguments" s_Signature_arguments [] D.a_Signature_arguments D.d_Signature_arguments
  b_Signature_arguments : Binds K D.d_Signature_arguments ["self", "sign"] []
  m_Signature_arguments : Meth K D.c_Signature "arguments" D.a_Signature_arguments
  F_Signature_result : Fn K "result" "Signature.result" s_Signature_result [] D.a_Signature_result D.d_Signature_result
  b_Signature_result : Binds K D.d_Signature_result ["self", "sign"] []
  m_Signature_result : Meth K D.c_Signature "result" D.a_Signature_result
  F_Signature_sort_of_word : Fn K "sort_of_word" "Signature.sort_of_word" s_Signature_sort_of_word [.int 9] D.a_Signature_sort_of_word D.d_Signature_sort_of_word
  b_Signature_sort_of_word : Binds K D.d_Signature_sort_of_word ["self", "word", "digits"] []
  m_Signature_sort_of_word : Meth K D.c_Signature "sort_of_word" D.a_Signature_sort_of_word
  F_joined : Fn K "joined" "joined" s_joined [] D.a_joined D.d_joined
  b_joined : Binds K D.d_joined ["first", "second"] []
  g_joined : mg "joined" = some (.ref D.a_joined)
  F_Terms_init : Fn K "__init__" "Terms.__init__" s_Terms_init [] D.a_Terms_init D.d_Terms_init
  b_Terms_init : Binds K D.d_Terms_init ["self", "signature"] []
  m_Terms_init : Mk K D.c_Terms D.a_Terms_init
  F_Terms_put : Fn K "_put" "Terms._put" s_Terms_put [] D.a_Terms_put D.d_Terms_put
  b_Terms_put : Binds K D.d_Terms_put ["self", "word", "parts", "kind"] []
  m_Terms_put : Meth K D.c_Terms "_put" D.a_Terms_put
  F_Terms_letter : Fn K "letter" "Terms.letter" s_Terms_letter [] D.a_Terms_letter D.d_Terms_letter
  b_Terms_letter : Binds K D.d_Terms_letter ["self", "text"] []
  m_Terms_letter : Meth K D.c_Terms "letter" D.a_Terms_letter
  F_Terms_make : Fn K "make" "Terms.make" s_Terms_make [] D.a_Terms_make D.d_Terms_make
  b_Terms_make : Binds K D.d_Terms_make ["self", "sign", "parts"] []
  m_Terms_make : Meth K D.c_Terms "make" D.a_Terms_make
  F_Terms_size_of : Fn K "size_of" "Terms.size_of" s_Terms_size_of [] D.a_Terms_size_of D.d_Terms_size_of
  b_Terms_size_of : Binds K D.d_Terms_size_of ["self", "term"] []
  m_Terms_size_of : Meth K D.c_Terms "size_of" D.a_Terms_size_of
  F_Terms_letters_of : Fn K "letters_of" "Terms.letters_of" s_Terms_letters_of [] D.a_Terms_letters_of D.d_Terms_letters_of
  b_Terms_letters_of : Binds K D.d_Terms_letters_of ["self", "term"] []
  m_Terms_letters_of : Meth K D.c_Terms "letters_of" D.a_Terms_letters_of
  F_Terms_first_letters_of : Fn K "first_letters_of" "Terms.first_letters_of" s_Terms_first_letters_of [] D.a_Terms_first_letters_of D.d_Terms_first_letters_of
  b_Terms_first_letters_of : Binds K D.d_Terms_first_letters_of ["self", "term"] []
  m_Terms_first_letters_of : Meth K D.c_Terms "first_letters_of" D.a_Terms_first_letters_of
  F_Terms_put_in : Fn K "put_in" "Terms.put_in" s_Terms_put_in [] D.a_Terms_put_in D.d_Terms_put_in
  b_Terms_put_in : Binds K D.d_Terms_put_in ["self", "term", "filling"] []
  m_Terms_put_in : Meth K D.c_Terms "put_in" D.a_Terms_put_in
  F_Terms_touched : Fn K "_touched" "Terms._touched" s_Terms_touched [] D.a_Terms_touched D.d_Terms_touched
  b_Terms_touched : Binds K D.d_Terms_touched ["self", "term", "filling"] []
  m_Terms_touched : Meth K D.c_Terms "_touched" D.a_Terms_touched
  F_Terms_write : Fn K "write" "Terms.write" s_Terms_write [] D.a_Terms_write D.d_Terms_write
  b_Terms_write : Binds K D.d_Terms_write ["self", "term"] []
  m_Terms_write : Meth K D.c_Terms "write" D.a_Terms_write
  F_Terms_shared : Fn K "shared" "Terms.shared" s_Terms_shared [] D.a_Terms_shared D.d_Terms_shared
  b_Terms_shared : Binds K D.d_Terms_shared ["self", "term"] []
  m_Terms_shared : Meth K D.c_Terms "shared" D.a_Terms_shared
  F_Terms_from_shared : Fn K "from_shared" "Terms.from_shared" s_Terms_from_shared [] D.a_Terms_from_shared D.d_Terms_from_shared
  b_Terms_from_shared : Binds K D.d_Terms_from_shared ["self", "rows"] []
  m_Terms_from_shared : Meth K D.c_Terms "from_shared" D.a_Terms_from_shared
  F_Terms_of_row : Fn K "_of_row" "Terms._of_row" s_Terms_of_row [] D.a_Terms_of_row D.d_Terms_of_row
  b_Terms_of_row : Binds K D.d_Terms_of_row ["self", "row", "numbers"] []
  m_Terms_of_row : Meth K D.c_Terms "_of_row" D.a_Terms_of_row
  F_law_draws : Fn K "_law_draws" "_law_draws" s_law_draws [] D.a_law_draws D.d_law_draws
  b_law_draws : Binds K D.d_law_draws ["script", "first", "cells"] []
  g_law_draws : mg "_law_draws" = some (.ref D.a_law_draws)
  F_law_take : Fn K "_law_take" "_law_take" s_law_take [] D.a_law_take D.d_law_take
  b_law_take : Binds K D.d_law_take ["draws", "many"] []
  g_law_take : mg "_law_take" = some (.ref D.a_law_take)
  F_law_is_number : Fn K "_law_is_number" "_law_is_number" s_law_is_number [] D.a_law_is_number D.d_law_is_number
  b_law_is_number : Binds K D.d_law_is_number ["told"] []
  g_law_is_number : mg "_law_is_number" = some (.ref D.a_law_is_number)
  F_law_digits : Fn K "_law_digits" "_law_digits" s_law_digits [] D.a_law_digits D.d_law_digits
  b_law_digits : Binds K D.d_law_digits ["draws"] []
  g_law_digits : mg "_law_digits" = some (.ref D.a_law_digits)
  F_law_made : Fn K "_law_made" "_law_made" s_law_made [] D.a_law_made D.d_law_made
  b_law_made : Binds K D.d_law_made ["rows", "word", "places"] []
  g_law_made : mg "_law_made" = some (.ref D.a_law_made)
  F_law_put : Fn K "_law_put" "_law_put" s_law_put [] D.a_law_put D.d_law_put
  b_law_put : Binds K D.d_law_put ["rows", "inner"] []
  g_law_put : mg "_law_put" = some (.ref D.a_law_put)
  F_law_sizes : Fn K "_law_sizes" "_law_sizes" s_law_sizes [] D.a_law_sizes D.d_law_sizes
  b_law_sizes : Binds K D.d_law_sizes ["rows"] []
  g_law_sizes : mg "_law_sizes" = some (.ref D.a_law_sizes)
  F_law_small : Fn K "_law_small" "_law_small" s_law_small [] D.a_law_small D.d_law_small
  b_law_small : Binds K D.d_law_small ["draws", "letter", "one", "many", "arity"] []
  g_law_small : mg "_law_small" = some (.ref D.a_law_small)
  F_law_built : Fn K "_law_built" "_law_built" s_law_built [] D.a_law_built D.d_law_built
  b_law_built : Binds K D.d_law_built ["terms", "rows"] []
  g_law_built : mg "_law_built" = some (.ref D.a_law_built)
  F_law_tells : Fn K "_law_tells" "_law_tells" s_law_tells [] D.a_law_tells D.d_law_tells
  b_law_tells : Binds K D.d_law_tells ["terms", "number", "rows", "letter"] []
  g_law_tells : mg "_law_tells" = some (.ref D.a_law_tells)
  F_law_refuses : Fn K "_law_refuses" "_law_refuses" s_law_refuses [] D.a_law_refuses D.d_law_refuses
  b_law_refuses : Binds K D.d_law_refuses ["terms", "rows", "spoilt", "due"] []
  g_law_refuses : mg "_law_refuses" = some (.ref D.a_law_refuses)
  F_law_spoils : Fn K "_law_spoils" "_law_spoils" s_law_spoils [] D.a_law_spoils D.d_law_spoils
  b_law_spoils : Binds K D.d_law_spoils ["draws", "terms", "rows", "one", "many", "arity"] []
  g_law_spoils : mg "_law_spoils" = some (.ref D.a_law_spoils)
  F_law : Fn K "law" "law" s_law [] D.a_law D.d_law
  b_law : Binds K D.d_law ["script"] []
  g_law : mg "law" = some (.ref D.a_law)
  g_Signature : mg "Signature" = some (.ref D.c_Signature)
  cl_Signature : Cls K D.c_Signature
  n_Signature__capitals : NoAttr K D.c_Signature "_capitals"
  n_Signature__sorts : NoAttr K D.c_Signature "_sorts"
  n_Signature__arguments : NoAttr K D.c_Signature "_arguments"
  n_Signature__results : NoAttr K D.c_Signature "_results"
  n_Signature_sorts : NoAttr K D.c_Signature "sorts"
  n_Signature_signs : NoAttr K D.c_Signature "signs"
  n_Signature_said : NoAttr K D.c_Signature "said"
  g_Terms : mg "Terms" = some (.ref D.c_Terms)
  cl_Terms : Cls K D.c_Terms
  n_Terms_signature : NoAttr K D.c_Terms "signature"
  n_Terms__numbers : NoAttr K D.c_Terms "_numbers"
  n_Terms__texts : NoAttr K D.c_Terms "_texts"
  n_Terms__words : NoAttr K D.c_Terms "_words"
  n_Terms__parts : NoAttr K D.c_Terms "_parts"
  n_Terms__kinds : NoAttr K D.c_Terms "_kinds"
  n_Terms__sizes : NoAttr K D.c_Terms "_sizes"
  n_Terms__letters : NoAttr K D.c_Terms "_letters"
structure Txt (K : PySem.W.Frag) (P : Program) (mg : Str → Option Value) (D : Ad) (eB eT eBf eTf : Addr) : Prop extends Fns K mg D where
  G : Glb mg
  mw : ∃ t, mg "MOST_WORDS" = some (.int 200 t)
  rows : ErrTxt K P mg "BadRows" eB eBf ["place"]
  large : ErrTxt K P mg "TooLarge" eT eTf ["size"]
end R87

/-! ## FlatD -/
namespace L2
open PySem PySem.Spec PyProof.Rows
/-- flat data: texts and ints -/
def flD : V → PyData
  | .str x => .str x
  | .int i => .int i
  | _ => .none
def FlD (xs : List V) : Prop := ∀ x ∈ xs, (∃ i, x = .int i) ∨ ∃ z : Str, x = .str z ∧ PyData.strOk z = true
theorem flD_dp {K : PySem.W.Frag} {H : Hp} : ∀ {xs : List V}, FlD xs → DpAll K H xs (xs.map flD)
  | [], _ => .nil
  | x :: xs, h => by
    refine .cons ?_ (flD_dp fun y hy => h y (List.mem_cons_of_mem _ hy))
    rcases h x (List.mem_cons_self ..) with ⟨i, rfl⟩ | ⟨z, rfl, _⟩
    · exact .int i
    · exact .str z
theorem flD_lay : ∀ {xs : List V}, FlD xs → PyData.canLayAll0 (xs.map flD) = true ∧ PyData.depthAll (xs.map flD) = 0
  | [], _ => ⟨rfl, rfl⟩
  | x :: xs, h => by
    have q := flD_lay (xs := xs) fun y hy => h y (List.mem_cons_of_mem _ hy)
    rcases h x (List.mem_cons_self ..) with ⟨i, rfl⟩ | ⟨z, rfl, hz⟩
    · exact ⟨q.1, by show max 0 _ = 0; rw [q.2]; rfl⟩
    · refine ⟨?_, by show max 0 _ = 0; rw [q.2]; rfl⟩
      show (PyData.strOk z && PyData.canLayAll0 (xs.map flD)) = true
      rw [hz, q.1]; rfl
theorem flD_shaped {xs : List V} (h : FlD xs) : SeqAt.shaped (.tuple (xs.map flD)) = true := by
  have q := flD_lay h
  show (PyData.canLayAll0 (xs.map flD) && decide (PyData.depthAll (xs.map flD) + 1 ≤ 64)) = true
  rw [q.1, q.2]; rfl
theorem flD_eqv : ∀ {xs ys : List V}, FlD xs → FlD ys → PyData.eqvAll (xs.map flD) (ys.map flD) = decide (xs = ys)
  | [], [], _, _ => rfl
  | [], y :: ys, _, _ => (decide_eq_false (by simp)).symm
  | x :: xs, [], _, _ => (decide_eq_false (by simp)).symm
  | x :: xs, y :: ys, hx, hy => by
    have q := flD_eqv (xs := xs) (ys := ys) (fun z h => hx z (List.mem_cons_of_mem _ h)) fun z h => hy z (List.mem_cons_of_mem _ h)
    show (PyData.eqv (flD x) (flD y) && PyData.eqvAll (xs.map flD) (ys.map flD)) = _
    rw [q]
    have e : PyData.eqv (flD x) (flD y) = decide (x = y) := by
      rcases hx x (List.mem_cons_self ..) with ⟨i, rfl⟩ | ⟨z, rfl, _⟩ <;> rcases hy y (List.mem_cons_self ..) with ⟨j, rfl⟩ | ⟨u, rfl, _⟩
      · show (i == j) = _
        simp
        exact Bool.beq_eq_decide_eq i j
      · exact (decide_eq_false (fun h => by cases h)).symm
      · exact (decide_eq_false (fun h => by cases h)).symm
      · show (z == u) = _
        simp
        exact Bool.beq_eq_decide_eq z u
    rw [e, ← Bool.decide_and]
    exact decide_eq_decide.mpr (by simp)
theorem dp_tup {K : PySem.W.Frag} {H : Hp} {a : Addr} {xs : List V} (h : H a = some (.tup xs)) (f : FlD xs) : Dp K H (.ref a) (.tuple (xs.map flD)) := .tup (SqT.of h) (flD_dp f)
theorem eqv_tup {xs ys : List V} (hx : FlD xs) (hy : FlD ys) : PyData.eqv (.tuple (xs.map flD)) (.tuple (ys.map flD)) = decide (xs = ys) := flD_eqv hx hy
theorem fl_str {z : Str} {xs : List V} (hz : PyData.strOk z = true) (h : FlD xs) : FlD (.str z :: xs) := fun y hy => by
  rcases List.mem_cons.mp hy with rfl | hy
  · exact .inr ⟨z, rfl, hz⟩
  · exact h y hy
theorem fl_nil : FlD [] := fun _ h => absurd h (List.not_mem_nil)
theorem fl_int {i : Int} {xs : List V} (h : FlD xs) : FlD (.int i :: xs) := fun y hy => by
  rcases List.mem_cons.mp hy with rfl | hy
  · exact .inl ⟨i, rfl⟩
  · exact h y hy
theorem fl_rep {i : Int} {n : Nat} : FlD (List.replicate n (.int i)) := fun y hy => .inl ⟨i, (List.mem_replicate.mp hy).2⟩
theorem fl_app {xs ys : List V} (h : FlD xs) (g : FlD ys) : FlD (xs ++ ys) := fun y hy => by
  rcases List.mem_append.mp hy with hy | hy
  · exact h y hy
  · exact g y hy
/-- [[..], ..]: a list of flat tuples -/
def DpRows (K : PySem.W.Frag) (H : Hp) (vs : List V) (rs : List (List V)) : Prop := DpAll K H vs (rs.map fun r => .tuple (r.map flD))
end L2

/-! ## Mod87 -/
set_option maxHeartbeats 4000000
namespace R87
open PySem PySem.Spec PyProof.Rows L2
/-- one run's names: the letter, the sort, the signs; the arity of the second one -/
structure Par where
  L : Str
  S : Str
  one : Str
  many : Str
  cap : Nat
  ar : Nat
/-- a term: the signs from the innermost one outward; true: the sign `many` -/
abbrev Ch := List Bool
namespace Par
def sg (p : Par) (b : Bool) : Str := if b then p.many else p.one
def arr (p : Par) (b : Bool) : Nat := if b then p.ar else 1
structure Ok (p : Par) : Prop where
  lL : isLet 300 p.L.cps.toList = true
  cL : p.L.cps.toList[0]? = some p.cap
  uL : capC p.cap = true
  sgc : ∀ b, ∃ c, (p.sg b).cps.toList[0]? = some c ∧ capC c = false
  ne : p.one ≠ p.many
  ar1 : 1 ≤ p.ar
  ar4 : p.ar ≤ 4
  lo : p.one.length ≤ 24
  lm : p.many.length ≤ 24
  nL : ∀ x, x = p.L → 32 ∉ x.cps.toList
  ns : ∀ b, 32 ∉ (p.sg b).cps.toList
  oL : PyData.strOk p.L = true
  os : ∀ b, PyData.strOk (p.sg b) = true
variable {p : Par}
theorem Ok.lenL (h : p.Ok) : p.L.length ≤ 301 := by
  obtain ⟨c, d, r, e, hl, _⟩ := isLet_iff h.lL
  rw [len_cps]
  omega
theorem Ok.lenS (h : p.Ok) (b : Bool) : (p.sg b).length ≤ 24 := by
  cases b
  · exact h.lo
  · exact h.lm
theorem Ok.arr1 (h : p.Ok) (b : Bool) : 1 ≤ p.arr b := by
  cases b
  · exact Nat.le_refl _
  · exact h.ar1
theorem Ok.arr4 (h : p.Ok) (b : Bool) : p.arr b ≤ 4 := by
  cases b
  · exact (by decide : (1 : Nat) ≤ 4)
  · exact h.ar4
theorem Ok.sgL (h : p.Ok) (b : Bool) : p.sg b ≠ p.L := by
  intro e
  obtain ⟨c, hc, hn⟩ := h.sgc b
  rw [e, h.cL] at hc
  cases hc
  rw [h.uL] at hn
  cases hn
theorem Ok.sg_inj (h : p.Ok) {a b : Bool} (e : p.sg a = p.sg b) : a = b := by
  cases a <;> cases b <;> first | rfl | exact absurd e h.ne | exact absurd e.symm h.ne
/-- the first word -/
def word (p : Par) (c : Ch) : Str := match c.getLast? with
  | none => p.L
  | some b => p.sg b
theorem word_nil : p.word [] = p.L := rfl
theorem word_snoc {c : Ch} {b : Bool} : p.word (c ++ [b]) = p.sg b := by
  unfold word
  rw [List.getLast?_append]
  rfl
def siz (p : Par) (c : Ch) : Int := c.foldl (fun s b => 1 + (p.arr b : Int) * s) 1
theorem siz_nil : p.siz [] = 1 := rfl
theorem siz_snoc {c : Ch} {b : Bool} : p.siz (c ++ [b]) = 1 + (p.arr b : Int) * p.siz c := by
  unfold siz
  rw [List.foldl_append]
  rfl
theorem siz_pos (c : Ch) : 1 ≤ p.siz c := by
  refine List.foldlRecOn (motive := fun s => (1 : Int) ≤ s) c _ (Int.le_refl _) ?_
  intro s hs b _
  have : 0 ≤ (p.arr b : Int) * s := Int.mul_nonneg (Int.natCast_nonneg _) (by omega)
  omega
/-- its words, from the first one on -/
def wds (p : Par) (c : Ch) : List Str := c.foldl (fun ws b => p.sg b :: (List.replicate (p.arr b) ws).flatten) [p.L]
theorem wds_nil : p.wds [] = [p.L] := rfl
theorem wds_snoc {c : Ch} {b : Bool} : p.wds (c ++ [b]) = p.sg b :: (List.replicate (p.arr b) (p.wds c)).flatten := by
  unfold wds
  rw [List.foldl_append]
  rfl
end Par
/-- induction over a term from within -/
theorem chInd {M : Ch → Prop} (h0 : M []) (h1 : ∀ c b, M c → M (c ++ [b])) (c : Ch) : M c := by
  rw [← c.reverse_reverse]
  induction c.reverse with
  | nil => exact h0
  | cons b r ih =>
    rw [List.reverse_cons]
    exact h1 _ _ ih
theorem chCases (c : Ch) : c = [] ∨ ∃ c' b, c = c' ++ [b] := by
  refine chInd (M := fun c => c = [] ∨ ∃ c' b, c = c' ++ [b]) (.inl rfl) (fun c b _ => .inr ⟨c, b, rfl⟩) c
theorem Par.wds_len {p : Par} (c : Ch) : ((p.wds c).length : Int) = p.siz c := by
  refine chInd (M := fun c => ((p.wds c).length : Int) = p.siz c) rfl (fun c b ih => ?_) c
  rw [Par.wds_snoc, Par.siz_snoc, List.length_cons, List.length_flatten, List.map_replicate, List.sum_replicate_nat, ← ih]
  push_cast
  omega
theorem Par.wds_mem {p : Par} {c : Ch} {x : Str} (h : x ∈ p.wds c) : x = p.L ∨ ∃ b, x = p.sg b := by
  revert x
  refine chInd (M := fun c => ∀ {x : Str}, x ∈ p.wds c → x = p.L ∨ ∃ b, x = p.sg b) (fun {x} h => .inl (List.mem_singleton.mp h)) (fun c b ih {x} h => ?_) c
  rw [Par.wds_snoc] at h
  rcases List.mem_cons.mp h with h | h
  · exact .inr ⟨b, h⟩
  · obtain ⟨l, hl, hx⟩ := List.mem_flatten.mp h
    rw [(List.mem_replicate.mp hl).2] at hx
    exact ih hx
theorem Par.wds_L {p : Par} (hp : p.Ok) (c : Ch) : p.L ∈ p.wds c := by
  refine chInd (M := fun c => p.L ∈ p.wds c) (List.mem_singleton.mpr rfl) (fun c b ih => ?_) c
  rw [Par.wds_snoc]
  exact List.mem_cons_of_mem _ (List.mem_flatten.mpr ⟨_, List.mem_replicate.mpr ⟨by have := hp.arr1 b; omega, rfl⟩, ih⟩)
/-! ### rows -/
def Par.row (p : Par) (b : Bool) (j : Nat) : List V := .str (p.sg b) :: List.replicate (p.arr b) (.int j)
def Par.rowAt (p : Par) (c : Ch) : Nat → List V
  | 0 => [.str p.L]
  | i + 1 => p.row (c.getD i false) i
def Par.rows (p : Par) (c : Ch) : List (List V) := (List.range (c.length + 1)).map (p.rowAt c)
theorem Par.rows_len {p : Par} {c : Ch} : (p.rows c).length = c.length + 1 := by unfold Par.rows; simp
theorem Par.rows_nil {p : Par} : p.rows [] = [[.str p.L]] := rfl
theorem Par.rows_get {p : Par} {c : Ch} {i : Nat} (h : i ≤ c.length) : (p.rows c)[i]? = some (p.rowAt c i) := by
  unfold Par.rows
  rw [List.getElem?_map, List.getElem?_range (by omega)]
  rfl
theorem rowAt_app {p : Par} {c d : Ch} {i : Nat} (h : i ≤ c.length) : p.rowAt (c ++ d) i = p.rowAt c i := by
  cases i with
  | zero => rfl
  | succ i =>
    show p.row ((c ++ d).getD i false) i = p.row (c.getD i false) i
    rw [List.getD_eq_getElem?_getD, List.getD_eq_getElem?_getD, List.getElem?_append_left (by omega)]
theorem Par.rows_snoc {p : Par} {c : Ch} {b : Bool} : p.rows (c ++ [b]) = p.rows c ++ [p.row b c.length] := by
  unfold Par.rows
  rw [List.length_append, List.length_singleton, List.range_succ, List.map_append]
  congr 1
  · refine List.map_congr_left fun i hi => ?_
    exact rowAt_app (by have := List.mem_range.mp hi; omega)
  · show [p.row ((c ++ [b]).getD c.length false) c.length] = [p.row b c.length]
    congr 2
    rw [List.getD_eq_getElem?_getD, List.getElem?_append_right (Nat.le_refl _), Nat.sub_self]
    rfl
/-! ### the store's list of terms -/
def num (cs : List Ch) (c : Ch) : Nat := cs.idxOf c
structure Clo (cs : List Ch) : Prop where
  nd : cs.Nodup
  dn : ∀ c b, c ++ [b] ∈ cs → c ∈ cs ∧ num cs c < num cs (c ++ [b])
def add (cs : List Ch) (c : Ch) : List Ch := if c ∈ cs then cs else cs ++ [c]
theorem num_get {cs : List Ch} {c : Ch} (h : c ∈ cs) : cs[num cs c]? = some c := by
  have hl := List.idxOf_lt_length_of_mem h
  unfold num
  rw [List.getElem?_eq_getElem hl, List.getElem_idxOf hl]
theorem num_lt {cs : List Ch} {c : Ch} (h : c ∈ cs) : num cs c < cs.length := List.idxOf_lt_length_of_mem h
theorem num_app {cs ds : List Ch} {c : Ch} (h : c ∈ cs) : num (cs ++ ds) c = num cs c := by
  unfold num
  rw [List.idxOf_append, if_pos h]
theorem num_of {cs : List Ch} (hn : cs.Nodup) {i : Nat} {c : Ch} (h : cs[i]? = some c) : num cs c = i := by
  have hi := (List.getElem?_eq_some_iff.mp h).1
  have hm := List.mem_of_getElem? h
  have := num_get hm
  exact (List.getElem?_inj (num_lt hm) hn).mp (this.trans h.symm)
theorem num_inj {cs : List Ch} {c d : Ch} (hc : c ∈ cs) (hd : d ∈ cs) (e : num cs c = num cs d) : c = d := by
  have h1 := num_get hc
  rw [e, num_get hd] at h1
  exact (Option.some.inj h1).symm
theorem num_snoc {cs : List Ch} {c : Ch} (h : c ∉ cs) : num (cs ++ [c]) c = cs.length := by
  unfold num
  rw [List.idxOf_append, if_neg h]
  simp
theorem mem_add {cs : List Ch} {c : Ch} : c ∈ add cs c := by
  unfold add
  split
  · assumption
  · simp
theorem add_mono {cs : List Ch} {c d : Ch} (h : d ∈ cs) : d ∈ add cs c := by
  unfold add
  split
  · exact h
  · exact List.mem_append_left _ h
theorem add_len {cs : List Ch} {c : Ch} : (add cs c).length ≤ cs.length + 1 := by
  unfold add
  split
  · omega
  · simp
theorem num_add {cs : List Ch} {c d : Ch} (h : d ∈ cs) : num (add cs c) d = num cs d := by
  unfold add
  split
  · rfl
  · exact num_app h
theorem Clo.add {cs : List Ch} {c : Ch} (h : Clo cs) (hc : ∀ c' b, c = c' ++ [b] → c' ∈ cs) : Clo (add cs c) := by
  unfold R87.add
  split
  · exact h
  · rename_i hn
    refine ⟨?_, fun d b hd => ?_⟩
    · rw [List.nodup_append]
      refine ⟨h.nd, by simp, ?_⟩
      intro a ha b hb
      rw [List.mem_singleton.mp hb]
      exact fun e => hn (e ▸ ha)
    · rcases List.mem_append.mp hd with hd | hd
      · have q := h.dn d b hd
        refine ⟨List.mem_append_left _ q.1, ?_⟩
        rw [num_app q.1, num_app hd]
        exact q.2
      · have e : d ++ [b] = c := List.mem_singleton.mp hd
        have q := hc d b e.symm
        refine ⟨List.mem_append_left _ q, ?_⟩
        rw [num_app q, e, num_snoc hn]
        exact num_lt q
theorem Clo.nil : Clo [] := ⟨List.nodup_nil, fun _ _ h => absurd h (List.not_mem_nil)⟩
/-- with a term all its inner ones -/
theorem Clo.take {cs : List Ch} (h : Clo cs) {c : Ch} (hc : c ∈ cs) (k : Nat) : c.take k ∈ cs := by
  revert hc
  refine chInd (M := fun c => c ∈ cs → c.take k ∈ cs) (fun hc => by rw [List.take_nil]; exact hc) (fun c b ih hc => ?_) c
  by_cases hk : k ≤ c.length
  · rw [List.take_append_of_le_length hk]
    exact ih (h.dn c b hc).1
  · rw [List.take_of_length_le (by rw [List.length_append, List.length_singleton]; omega)]
    exact hc
theorem take_snoc' {c : Ch} {k : Nat} (h : k < c.length) : c.take (k + 1) = c.take k ++ [c[k]] := by
  rw [List.take_add_one, List.getElem?_eq_getElem h]
  rfl
theorem Clo.take_lt {cs : List Ch} (h : Clo cs) {c : Ch} (hc : c ∈ cs) {k : Nat} (hk : k < c.length) : num cs (c.take k) < num cs (c.take (k + 1)) := by
  have q := h.take hc (k + 1)
  rw [take_snoc' hk] at q ⊢
  exact (h.dn _ _ q).2
theorem Clo.take_lt' {cs : List Ch} (h : Clo cs) {c : Ch} (hc : c ∈ cs) {j k : Nat} (hk : k ≤ c.length) (hj : j < k) : num cs (c.take j) < num cs (c.take k) := by
  induction k with
  | zero => omega
  | succ k ih =>
    have q := h.take_lt hc (k := k) (by omega)
    rcases Nat.lt_or_ge j k with g | g
    · exact Nat.lt_trans (ih (by omega) g) q
    · have : j = k := by omega
      rw [this]
      exact q
/-- a term's parts, as numbers -/
def partsOf (p : Par) (cs : List Ch) (c : Ch) : List V := match c.getLast? with
  | none => []
  | some b => List.replicate (p.arr b) (.int (num cs c.dropLast))
theorem parts_nil {p : Par} {cs : List Ch} : partsOf p cs [] = [] := rfl
theorem parts_snoc {p : Par} {cs : List Ch} {c : Ch} {b : Bool} : partsOf p cs (c ++ [b]) = List.replicate (p.arr b) (.int (num cs c)) := by
  unfold partsOf
  rw [List.getLast?_append, List.dropLast_concat]
  rfl
def keyOf (p : Par) (cs : List Ch) (c : Ch) : List Key := match c.getLast? with
  | none => [.inr p.L]
  | some b => .inr (p.sg b) :: List.replicate (p.arr b) (.inl (num cs c.dropLast))
theorem key_nil {p : Par} {cs : List Ch} : keyOf p cs [] = [.inr p.L] := rfl
theorem key_snoc {p : Par} {cs : List Ch} {c : Ch} {b : Bool} : keyOf p cs (c ++ [b]) = .inr (p.sg b) :: List.replicate (p.arr b) (.inl (num cs c)) := by
  unfold keyOf
  rw [List.getLast?_append, List.dropLast_concat]
  rfl
theorem key_vals {p : Par} {cs : List Ch} {c : Ch} : (keyOf p cs c).map kV = .str (p.word c) :: partsOf p cs c := by
  rcases chCases c with rfl | ⟨c, b, rfl⟩
  · rfl
  · rw [key_snoc, parts_snoc, Par.word_snoc, List.map_cons, List.map_replicate]
    rfl
theorem key_inj {p : Par} (hp : p.Ok) {cs : List Ch} (h : Clo cs) {c d : Ch} (hc : c ∈ cs) (hd : ∀ d' b, d = d' ++ [b] → d' ∈ cs) (e : keyOf p cs c = keyOf p cs d) : c = d := by
  rcases chCases c with rfl | ⟨c, b, rfl⟩
  · rcases chCases d with rfl | ⟨d, b', rfl⟩
    · rfl
    · rw [key_nil, key_snoc] at e
      injection e with e1 e2
      injection e1 with e1
      exact absurd e1.symm (hp.sgL b')
  · rcases chCases d with rfl | ⟨d, b', rfl⟩
    · rw [key_nil, key_snoc] at e
      injection e with e1 e2
      injection e1 with e1
      exact absurd e1 (hp.sgL b)
    · rw [key_snoc, key_snoc] at e
      injection e with e1 e2
      injection e1 with e1
      obtain rfl := hp.sg_inj e1
      have h1 : 0 < p.arr b := hp.arr1 b
      have e3 : (Sum.inl (num cs c : Int) : Key) = Sum.inl (num cs d : Int) := by
        have q1 : (List.replicate (p.arr b) (Sum.inl (num cs c : Int) : Key))[0]? = some (Sum.inl (num cs c : Int)) := by rw [List.getElem?_replicate, if_pos h1]
        have q2 : (List.replicate (p.arr b) (Sum.inl (num cs d : Int) : Key))[0]? = some (Sum.inl (num cs d : Int)) := by rw [List.getElem?_replicate, if_pos h1]
        rw [e2] at q1
        exact Option.some.inj (q1.symm.trans q2)
      injection e3 with e3
      have e4 : num cs c = num cs d := by exact_mod_cast e3
      rw [num_inj (h.dn c b hc).1 (hd d b rfl) e4]
def kvsOf (p : Par) (cs : List Ch) : List (List Key × V) := cs.map fun c => (keyOf p cs c, .int (num cs c))
theorem key_app {p : Par} {cs ds : List Ch} {c : Ch} (h : ∀ c' b, c = c' ++ [b] → c' ∈ cs) : keyOf p (cs ++ ds) c = keyOf p cs c := by
  rcases chCases c with rfl | ⟨c, b, rfl⟩
  · rfl
  · rw [key_snoc, key_snoc, num_app (h c b rfl)]
theorem parts_app {p : Par} {cs ds : List Ch} {c : Ch} (h : ∀ c' b, c = c' ++ [b] → c' ∈ cs) : partsOf p (cs ++ ds) c = partsOf p cs c := by
  rcases chCases c with rfl | ⟨c, b, rfl⟩
  · rfl
  · rw [parts_snoc, parts_snoc, num_app (h c b rfl)]
theorem val_kvs {p : Par} (hp : p.Ok) {cs : List Ch} (h : Clo cs) {c : Ch} (hc : ∀ c' b, c = c' ++ [b] → c' ∈ cs) : valV (kvsOf p cs) (keyOf p cs c) = if c ∈ cs then some (.int (num cs c)) else none := by
  unfold kvsOf
  suffices hh : ∀ l : List Ch, (∀ x ∈ l, x ∈ cs) → valV (l.map fun c => (keyOf p cs c, V.int (num cs c))) (keyOf p cs c) = if c ∈ l then some (.int (num cs c)) else none from hh cs fun _ h => h
  intro l
  induction l with
  | nil => intro _; rfl
  | cons d l ih =>
    intro hl
    by_cases e : d = c
    · subst e
      rw [List.map_cons, valV_pos rfl, if_pos (List.mem_cons_self ..)]
    · rw [List.map_cons, valV_neg (fun q => e (key_inj hp h (hl d (List.mem_cons_self ..)) hc q)), ih fun x hx => hl x (List.mem_cons_of_mem _ hx)]
      by_cases hm : c ∈ l
      · rw [if_pos hm, if_pos (List.mem_cons_of_mem _ hm)]
      · rw [if_neg hm, if_neg]
        intro q
        rcases List.mem_cons.mp q with q | q
        · exact e q.symm
        · exact hm q
theorem kvs_snoc {p : Par} {cs : List Ch} (h : Clo cs) {c : Ch} (hn : c ∉ cs) (hc : ∀ c' b, c = c' ++ [b] → c' ∈ cs) : kvsOf p (cs ++ [c]) = kvsOf p cs ++ [(keyOf p cs c, .int cs.length)] := by
  unfold kvsOf
  rw [List.map_append]
  congr 1
  · refine List.map_congr_left fun d hd => ?_
    rw [num_app hd, key_app fun c' b e => (h.dn c' b (e ▸ hd)).1]
  · show [(keyOf p (cs ++ [c]) c, V.int (num (cs ++ [c]) c))] = [_]
    rw [key_app hc, num_snoc hn]
end R87

/-! ## Store87 -/
set_option maxHeartbeats 4000000
namespace R87
open PySem PySem.Spec PyProof.Rows L2
def sigFs (a b c d e f : Addr) (s : V) : List (Str × V) := [("_capitals", .ref a), ("_sorts", .ref b), ("_arguments", .ref c), ("_results", .ref d), ("sorts", .ref e), ("signs", .ref f), ("said", s)]
/-- a signature stands at g -/
structure SigAt (D : Ad) (p : Par) (H : Hp) (g : Addr) : Prop where
  ob : ∃ dx dC dS dA dR ts tg s, H g = some (.ins D.c_Signature dx (sigFs dC dS dA dR ts tg s)) ∧
    (∃ kS, H dS = some (.dK kS) ∧ valV kS (.inr ⟨#[p.cap]⟩) = some (.str p.S)) ∧
    (∃ kA, H dA = some (.dK kA) ∧ ∀ b, ∃ t, valV kA (.inr (p.sg b)) = some (.ref t) ∧ H t = some (.tup (List.replicate (p.arr b) (.str p.S)))) ∧
    ∃ kR, H dR = some (.dK kR) ∧ (∀ b, valV kR (.inr (p.sg b)) = some (.str p.S)) ∧ ∀ x, (∀ b, x ≠ p.sg b) → valV kR (.inr x) = none
/-- where a store's things stand -/
structure SA where
  nu : Addr
  wo : Addr
  pa : Addr
  ki : Addr
  si : Addr
  le : Addr
def SA.all (A : SA) : List Addr := [A.nu, A.wo, A.pa, A.ki, A.si, A.le]
def SA.M (A : SA) (a : Addr) : Prop := a ∈ A.all
def terFs (g : Addr) (A : SA) (tx : Addr) : List (Str × V) := [("signature", .ref g), ("_numbers", .ref A.nu), ("_texts", .ref tx), ("_words", .ref A.wo), ("_parts", .ref A.pa), ("_kinds", .ref A.ki), ("_sizes", .ref A.si), ("_letters", .ref A.le)]
structure StoreAt (D : Ad) (p : Par) (H : Hp) (t g : Addr) (A : SA) (cs : List Ch) : Prop where
  ob : ∃ dx tx, H t = some (.ins D.c_Terms dx (terFs g A tx))
  clo : Clo cs
  df : A.all.Nodup
  nu : H A.nu = some (.dT (kvsOf p cs))
  wo : H A.wo = some (.lst (cs.map fun c => .str (p.word c)))
  pa : ∃ ps : List Addr, H A.pa = some (.lst (ps.map V.ref)) ∧ ps.length = cs.length ∧ ∀ (i : Nat) (a : Addr) (c : Ch), ps[i]? = some a → cs[i]? = some c → H a = some (.tup (partsOf p cs c))
  ki : H A.ki = some (.lst (cs.map fun _ => .str p.S))
  si : H A.si = some (.lst (cs.map fun c => .int (p.siz c)))
  le : ∃ ls : List Addr, H A.le = some (.lst (ls.map V.ref)) ∧ ls.length = cs.length ∧ ∀ a ∈ ls, H a = some (.tup [.str p.L])
variable {D : Ad} {p : Par} {H H' : Hp} {t g : Addr} {A : SA} {cs : List Ch}
theorem SA.M_iff {a : Addr} : A.M a ↔ a = A.nu ∨ a = A.wo ∨ a = A.pa ∨ a = A.ki ∨ a = A.si ∨ a = A.le := by
  unfold SA.M SA.all
  simp
theorem StoreAt.kind (h : StoreAt D p H t g A cs) {a : Addr} (m : A.M a) : (∃ k, H a = some (.dT k)) ∨ ∃ xs, H a = some (.lst xs) := by
  obtain ⟨ps, hp, _⟩ := h.pa
  obtain ⟨ls, hl, _⟩ := h.le
  rcases SA.M_iff.mp m with rfl | rfl | rfl | rfl | rfl | rfl
  · exact .inl ⟨_, h.nu⟩
  · exact .inr ⟨_, h.wo⟩
  · exact .inr ⟨_, hp⟩
  · exact .inr ⟨_, h.ki⟩
  · exact .inr ⟨_, h.si⟩
  · exact .inr ⟨_, hl⟩
/-- a thing that is no list and no dict of tuples is none of the store's -/
theorem StoreAt.not_m (h : StoreAt D p H t g A cs) {a : Addr} {o : HO} (e : H a = some o) (n1 : ∀ k, o ≠ .dT k) (n2 : ∀ xs, o ≠ .lst xs) : ¬ A.M a := fun m => by
  rcases h.kind m with ⟨k, q⟩ | ⟨xs, q⟩
  · rw [e] at q
    exact n1 k (Option.some.inj q)
  · rw [e] at q
    exact n2 xs (Option.some.inj q)
theorem StoreAt.not_m_free (h : StoreAt D p H t g A cs) {a : Addr} (e : H a = none) : ¬ A.M a := fun m => by
  rcases h.kind m with ⟨k, q⟩ | ⟨xs, q⟩ <;> rw [e] at q <;> cases q
theorem SigAt.keep (h : SigAt D p H g) (k : ∀ a o, H a = some o → (∀ k, o ≠ .dT k) → (∀ xs, o ≠ .lst xs) → H' a = some o) : SigAt D p H' g := by
  obtain ⟨dx, dC, dS, dA, dR, ts, tg, s, h0, ⟨kS, h1, v1⟩, ⟨kA, h2, v2⟩, kR, h3, v3, v4⟩ := h.ob
  exact ⟨dx, dC, dS, dA, dR, ts, tg, s, k _ _ h0 (fun _ => nofun) (fun _ => nofun), ⟨kS, k _ _ h1 (fun _ => nofun) (fun _ => nofun), v1⟩,
    ⟨kA, k _ _ h2 (fun _ => nofun) (fun _ => nofun), fun b => let ⟨t, e, q⟩ := v2 b; ⟨t, e, k _ _ q (fun _ => nofun) (fun _ => nofun)⟩⟩, kR, k _ _ h3 (fun _ => nofun) (fun _ => nofun), v3, v4⟩
theorem SigAt.but {p' : Par} {s : Addr} (h : SigAt D p' H s) (S : StoreAt D p H t g A cs) (b : But A.M H H') : SigAt D p' H' s :=
  h.keep fun _ _ e n1 n2 => b.at e (S.not_m e n1 n2)
theorem SigAt.same {s : Addr} (h : SigAt D p H s) (b : Same H H') : SigAt D p H' s := h.keep fun _ _ e _ _ => b _ _ e
theorem StoreAt.keep (h : StoreAt D p H t g A cs) (k : ∀ a o, H a = some o → (a = t ∨ A.M a ∨ ∃ xs, o = .tup xs) → H' a = some o) : StoreAt D p H' t g A cs := by
  obtain ⟨dx, tx, h0⟩ := h.ob
  obtain ⟨ps, hp, lp, qp⟩ := h.pa
  obtain ⟨ls, hl, ll, ql⟩ := h.le
  have m : ∀ a, A.M a → ∀ o, H a = some o → H' a = some o := fun a q o e => k a o e (.inr (.inl q))
  exact ⟨⟨dx, tx, k _ _ h0 (.inl rfl)⟩, h.clo, h.df, m _ (SA.M_iff.mpr (by simp)) _ h.nu, m _ (SA.M_iff.mpr (by simp)) _ h.wo,
    ⟨ps, m _ (SA.M_iff.mpr (by simp)) _ hp, lp, fun i a c e1 e2 => k _ _ (qp i a c e1 e2) (.inr (.inr ⟨_, rfl⟩))⟩, m _ (SA.M_iff.mpr (by simp)) _ h.ki, m _ (SA.M_iff.mpr (by simp)) _ h.si,
    ⟨ls, m _ (SA.M_iff.mpr (by simp)) _ hl, ll, fun a e => k _ _ (ql a e) (.inr (.inr ⟨_, rfl⟩))⟩⟩
theorem StoreAt.same (h : StoreAt D p H t g A cs) (b : Same H H') : StoreAt D p H' t g A cs := h.keep fun _ _ e _ => b _ _ e
theorem StoreAt.but {M : Addr → Prop} (h : StoreAt D p H t g A cs) (b : But M H H') (d : ∀ a, A.M a → ¬ M a) (nt : ¬ M t) : StoreAt D p H' t g A cs := h.keep fun a o e q => by
  rcases q with rfl | q | ⟨xs, q⟩
  · exact b.at e nt
  · exact b.at e (d a q)
  · subst q
    exact b.tup e
/-! what the lists hold at a term's number -/
theorem StoreAt.word_at (h : StoreAt D p H t g A cs) {c : Ch} (hc : c ∈ cs) : (cs.map fun c => V.str (p.word c))[num cs c]? = some (.str (p.word c)) := by rw [List.getElem?_map, num_get hc]; rfl
theorem StoreAt.kind_at (h : StoreAt D p H t g A cs) {c : Ch} (hc : c ∈ cs) : (cs.map fun _ => V.str p.S)[num cs c]? = some (.str p.S) := by rw [List.getElem?_map, num_get hc]; rfl
theorem StoreAt.size_at (h : StoreAt D p H t g A cs) {c : Ch} (hc : c ∈ cs) : (cs.map fun c => V.int (p.siz c))[num cs c]? = some (.int (p.siz c)) := by rw [List.getElem?_map, num_get hc]; rfl
theorem StoreAt.part_at (h : StoreAt D p H t g A cs) {c : Ch} (hc : c ∈ cs) : ∃ ps : List Addr, ∃ a, H A.pa = some (.lst (ps.map V.ref)) ∧ (ps.map V.ref)[num cs c]? = some (.ref a) ∧ H a = some (.tup (partsOf p cs c)) := by
  obtain ⟨ps, hp, lp, qp⟩ := h.pa
  have hl := num_lt hc
  rw [← lp] at hl
  refine ⟨ps, ps[num cs c], hp, by rw [List.getElem?_map, List.getElem?_eq_getElem hl]; rfl, qp _ _ _ (List.getElem?_eq_getElem hl) (num_get hc)⟩
theorem StoreAt.let_at (h : StoreAt D p H t g A cs) {c : Ch} (hc : c ∈ cs) : ∃ ls : List Addr, ∃ a, H A.le = some (.lst (ls.map V.ref)) ∧ (ls.map V.ref)[num cs c]? = some (.ref a) ∧ H a = some (.tup [.str p.L]) := by
  obtain ⟨ls, hp, lp, qp⟩ := h.le
  have hl := num_lt hc
  rw [← lp] at hl
  refine ⟨ls, ls[num cs c], hp, by rw [List.getElem?_map, List.getElem?_eq_getElem hl]; rfl, qp _ (List.getElem_mem hl)⟩
/-! ### joined -/
section
variable {P : Program} {w : World} {K : PySem.W.Frag} {mg : Str → Option Value} {base : Heap} {eB eT eBf eTf : Addr}
def spJoined : Sp := fun vs H Q _ => ∃ (a b : Addr) (l : Str) (xs : List V), vs = [.ref a, .ref b] ∧ H a = some (.tup xs) ∧ (xs = [] ∨ xs = [.str l]) ∧ H b = some (.tup [.str l]) ∧ PyData.strOk l = true ∧ ∀ r, H r = some (.tup [.str l]) → Q (.ref r) H
theorem ok_joined (T : Txt K P mg D eB eT eBf eTf) : FnOk P w K mg base CX0 1 D.a_joined D.d_joined ["first", "second"] spJoined := by
  refine T.F_joined.ok sc_joined (fun vs H Q E h => ?_) (fun cdv A outer s H vs Q E hr h => ?_)
  · obtain ⟨a, b, l, xs, rfl, _⟩ := h
    rfl
  · obtain ⟨a, b, l, xs, rfl, ha, hx, hb, hl, k⟩ := h
    refine ⟨_, PSs.nox (pss_cons (ps_if (PW.pt (pw_or (pt_not (pt_truth (pv 1) (by intro _; rfl))) (pw_or1 (pt_cmpR (op_eqD hr.units) (pv 0) (pv 1) (nomark _))))) (pss_one (ps_ret (pv 0))) pss_nil)
      (pss_cons (ps_if (pt_not (pt_truth (pv 0) (by intro _; rfl))) (pss_one (ps_ret (pv 1))) pss_nil) (pss_one ps_never))), ?_⟩
    have fb : FlD [.str l] := fl_str hl fl_nil
    have tb : TruV K (.ref b) H true := .inr (.inl ⟨_, SqT.of hb, rfl⟩)
    refine ⟨_, rfl, true, tb, ?_⟩
    rcases hx with rfl | rfl
    · have ta : TruV K (.ref a) H false := .inr (.inl ⟨_, SqT.of ha, rfl⟩)
      exact ⟨_, rfl, _, rfl, _, _, dp_tup ha fl_nil, dp_tup hb fb, flD_shaped fl_nil, flD_shaped fb, _, rfl, iteF ⟨_, rfl, false, ta, iteT ⟨_, rfl, k b hb⟩⟩⟩
    · refine ⟨_, rfl, _, rfl, _, _, dp_tup ha fb, dp_tup hb fb, flD_shaped fb, flD_shaped fb, _, rfl, ?_⟩
      rw [eqv_tup fb fb, decide_eq_true rfl]
      exact iteT ⟨_, rfl, k a ha⟩
end
end R87

/-! ## Sig87 -/
set_option maxHeartbeats 4000000
namespace R87
open PySem PySem.Spec PyProof.Rows L2
variable {D : Ad} {p : Par} {H H' : Hp} {t g : Addr} {A : SA} {cs : List Ch}
section
variable {P : Program} {w : World} {K : PySem.W.Frag} {mg : Str → Option Value} {base : Heap} {eB eT eBf eTf : Addr}
def spArgs (D : Ad) : Sp := fun vs H Q _ => ∃ (g : Addr) (p : Par) (b : Bool), vs = [.ref g, .str (p.sg b)] ∧ SigAt D p H g ∧ ∀ t, H t = some (.tup (List.replicate (p.arr b) (.str p.S))) → Q (.ref t) H
theorem ok_arguments (T : Txt K P mg D eB eT eBf eTf) : FnOk P w K mg base CX0 1 D.a_Signature_arguments D.d_Signature_arguments ["self", "sign"] (spArgs D) := by
  refine T.F_Signature_arguments.ok sc_Signature_arguments (fun vs H Q E h => ?_) (fun cdv A outer s H vs Q E hr h => ?_)
  · obtain ⟨g, p, b, rfl, _⟩ := h
    rfl
  · obtain ⟨g, p, b, rfl, hS, k⟩ := h
    have hu := hu_of hr
    refine ⟨_, PSs.nox (pss_cons (ps_if (pt_cmp (pc_dnotin hu (pv 1) (pe_fld (pv 0) rfl))) (pss_one ps_never) pss_nil) (pss_one (ps_ret (pe_dget hu (pe_fld (pv 0) rfl) (pv 1) (fun _ _ => rfl))))), ?_⟩
    obtain ⟨dx, dC, dS, dA, dR, ts, tg, s, h0, _, ⟨kA, h2, v2⟩, _⟩ := hS.ob
    obtain ⟨t, e, q⟩ := v2 b
    refine ⟨_, rfl, _, rfl, g, D.c_Signature, dx, _, _, rfl, h0, T.cl_Signature, T.n_Signature__arguments, rfl, dA, _, rfl, DGet.k (k := Sum.inr (p.sg b)) h2, _, rfl, ?_⟩
    rw [e]
    refine iteF ⟨_, rfl, g, D.c_Signature, dx, _, _, rfl, h0, T.cl_Signature, T.n_Signature__arguments, rfl, _, rfl, dA, .ref t, rfl, by rw [← e]; exact DGet.k (k := Sum.inr (p.sg b)) h2, k t q⟩
def spResult (D : Ad) : Sp := fun vs H Q _ => ∃ (g : Addr) (p : Par) (b : Bool), vs = [.ref g, .str (p.sg b)] ∧ SigAt D p H g ∧ Q (.str p.S) H
theorem ok_result (T : Txt K P mg D eB eT eBf eTf) : FnOk P w K mg base CX0 1 D.a_Signature_result D.d_Signature_result ["self", "sign"] (spResult D) := by
  refine T.F_Signature_result.ok sc_Signature_result (fun vs H Q E h => ?_) (fun cdv A outer s H vs Q E hr h => ?_)
  · obtain ⟨g, p, b, rfl, _⟩ := h
    rfl
  · obtain ⟨g, p, b, rfl, hS, k⟩ := h
    have hu := hu_of hr
    refine ⟨_, PSs.nox (pss_cons (ps_if (pt_cmp (pc_dnotin hu (pv 1) (pe_fld (pv 0) rfl))) (pss_one ps_never) pss_nil) (pss_one (ps_ret (pe_dget hu (pe_fld (pv 0) rfl) (pv 1) (fun _ _ => rfl))))), ?_⟩
    obtain ⟨dx, dC, dS, dA, dR, ts, tg, s, h0, _, _, kR, h2, v2, _⟩ := hS.ob
    have e := v2 b
    refine ⟨_, rfl, _, rfl, g, D.c_Signature, dx, _, _, rfl, h0, T.cl_Signature, T.n_Signature__results, rfl, dR, _, rfl, DGet.k (k := Sum.inr (p.sg b)) h2, _, rfl, ?_⟩
    rw [e]
    refine iteF ⟨_, rfl, g, D.c_Signature, dx, _, _, rfl, h0, T.cl_Signature, T.n_Signature__results, rfl, _, rfl, dR, .str p.S, rfl, by rw [← e]; exact DGet.k (k := Sum.inr (p.sg b)) h2, k⟩
/-- what sort_of_word says -/
def Sow (p : Par) (x : Str) (r : V) : Prop := (((∃ b, x = p.sg b) ∨ x = p.L) ∧ r = .str p.S) ∨ (((∀ b, x ≠ p.sg b) ∧ isLet 300 x.cps.toList = false) ∧ r = .non)
def spSow (D : Ad) : Sp := fun vs H Q _ => ∃ (g : Addr) (p : Par) (x : Str) (r : V), vs = [.ref g, .str x, .int 300] ∧ p.Ok ∧ SigAt D p H g ∧ x.length ≤ 1000 ∧ Sow p x r ∧ Q r H
theorem ok_sow (T : Txt K P mg D eB eT eBf eTf) : FnOk P w K mg base CX0 2 D.a_Signature_sort_of_word D.d_Signature_sort_of_word ["self", "word", "digits"] (spSow D) := by
  refine T.F_Signature_sort_of_word.ok sc_Signature_sort_of_word (fun vs H Q E h => ?_) (fun cdv A outer s H vs Q E hr h => ?_)
  · obtain ⟨g, p, x, r, rfl, _⟩ := h
    rfl
  · obtain ⟨g, p, x, r, rfl, hp, hS, hx, hw, k⟩ := h
    have hu := hu_of hr
    have GL : FnOk P w K mg base CX0 1 D.a_is_letter D.d_is_letter ["text", "digits"] spIsLetter := ok_is_letter T.F_is_letter T.G
    refine ⟨_, PSs.nox (pss_cons (ps_if (pt_cmp (pc_din hu (pv 1) (pe_fld (pv 0) rfl))) (pss_one (ps_ret (pe_dget hu (pe_fld (pv 0) rfl) (pv 1) (fun _ _ => rfl)))) pss_nil)
      (pss_cons (ps_if (pt_val (pe_call GL hr rfl T.g_is_letter T.F_is_letter.kp T.b_is_letter .nil pass0 (pa_cons (pv 1) (pa_cons (pv 2) pa_nil)))) (pss_one (ps_ret (pe_dget1 hu (pe_fld (pv 0) rfl) (pe_ix ix_str (pv 1) pe_int (fun _ _ => rfl)) ⟨rfl, rfl, rfl, rfl⟩))) pss_nil)
      (pss_one (ps_ret pe_non)))), ?_⟩
    obtain ⟨dx, dC, dS, dA, dR, ts, tg, s, h0, ⟨kS, h1, v1⟩, _, kR, h2, v2, v3⟩ := hS.ob
    refine ⟨_, rfl, _, rfl, g, D.c_Signature, dx, _, _, rfl, h0, T.cl_Signature, T.n_Signature__results, rfl, dR, _, rfl, DGet.k (k := Sum.inr x) h2, _, rfl, ?_⟩
    have isl : (∀ b, x ≠ p.sg b) → (valV kR (.inr x)) = none := v3 x
    by_cases hb : ∃ b, x = p.sg b
    · obtain ⟨b, rfl⟩ := hb
      rw [v2 b]
      have er : r = .str p.S := by
        rcases hw with ⟨_, e⟩ | ⟨⟨e, _⟩, _⟩
        · exact e
        · exact absurd rfl (e b)
      subst er
      exact iteT ⟨_, rfl, g, D.c_Signature, dx, _, _, rfl, h0, T.cl_Signature, T.n_Signature__results, rfl, _, rfl, dR, .str p.S, rfl, by rw [← v2 b]; exact DGet.k (k := Sum.inr (p.sg b)) h2, k⟩
    · have nb : ∀ b, x ≠ p.sg b := fun b e => hb ⟨b, e⟩
      rw [isl nb]
      refine iteF ⟨_, rfl, _, rfl, x, 300, rfl, hx, _, rfl, ?_⟩
      rcases hw with ⟨e | e, er⟩ | ⟨⟨_, e⟩, er⟩
      · exact absurd e hb
      · subst e er
        rw [hp.lL]
        refine iteT ⟨_, rfl, g, D.c_Signature, dx, _, _, rfl, h0, T.cl_Signature, T.n_Signature__sorts, rfl, dS, rfl, .inl ⟨_, .inl h1⟩, _, rfl, p.L, 0, p.cap, rfl, rfl, Nat.le_trans hx (by decide), atI_nat (j := 0) hp.cL, some (.str p.S), ?_, k⟩
        rw [← v1]
        exact DGet.k (k := Sum.inr ⟨#[p.cap]⟩) h1
      · subst er
        rw [e]
        exact iteF k
end
end R87

/-! ## Term87 -/
set_option maxHeartbeats 4000000
namespace L2
open PySem
theorem upd_none {H : Hp} {a b : Addr} {o : HO} : upd H a o b = none ↔ b ≠ a ∧ H b = none := by
  unfold upd
  by_cases h : b = a <;> simp [h]
end L2
namespace R87
open PySem PySem.Spec PyProof.Rows L2
variable {D : Ad} {p : Par} {H H' : Hp} {t g : Addr} {A : SA} {cs : List Ch}
section
variable {P : Program} {w : World} {K : PySem.W.Frag} {mg : Str → Option Value} {base : Heap} {eB eT eBf eTf : Addr}
def spTInit (D : Ad) : Sp := fun vs H Q _ => ∃ (t g dx : Addr) (p : Par), vs = [.ref t, .ref g] ∧ H t = some (.ins D.c_Terms dx []) ∧ ∀ H' A, But (· = t) H H' → (∀ a, A.M a → H a = none) → StoreAt D p H' t g A [] → Q .non H'
theorem ok_tinit (T : Txt K P mg D eB eT eBf eTf) : FnOk P w K mg base CX0 1 D.a_Terms_init D.d_Terms_init ["self", "signature"] (spTInit D) := by
  refine T.F_Terms_init.ok sc_Terms_init (fun vs H Q E h => ?_) (fun cdv A outer s H vs Q E hr h => ?_)
  · obtain ⟨t, g, dx, p, rfl, _⟩ := h
    rfl
  · obtain ⟨t, g, dx, p, rfl, h0, k⟩ := h
    refine ⟨_, PSs.nox (pss_cons (ps_fld (pv 0) (pv 1) rfl) (pss_cons (ps_fld (pv 0) pe_dnewT rfl) (pss_cons (ps_fld (pv 0) pe_dnewK rfl) (pss_cons (ps_fld (pv 0) (pe_lst pa_nil) rfl) (pss_cons (ps_fld (pv 0) (pe_lst pa_nil) rfl) (pss_cons (ps_fld (pv 0) (pe_lst pa_nil) rfl) (pss_cons (ps_fld (pv 0) (pe_lst pa_nil) rfl) (pss_one (ps_fld (pv 0) (pe_lst pa_nil) rfl))))))))), ?_⟩
    refine ⟨_, rfl, _, rfl, t, D.c_Terms, dx, [], rfl, h0, T.cl_Terms, T.n_Terms_signature, (by decide), fun nu e1 => ?_⟩
    obtain ⟨n1, f1⟩ := upd_none.mp e1
    refine ⟨_, rfl, t, D.c_Terms, dx, _, rfl, (by simp [upd, n1, Ne.symm n1]; rfl), T.cl_Terms, T.n_Terms__numbers, (by show 1 < 1000; decide), fun tx e2 => ?_⟩
    simp only [upd_none] at e2
    obtain ⟨n2, m21, _, f2⟩ := e2
    refine ⟨_, rfl, t, D.c_Terms, dx, _, rfl, (by simp [upd, n1, n2, Ne.symm n1, Ne.symm n2]; rfl), T.cl_Terms, T.n_Terms__texts, (by show 2 < 1000; decide), Nat.zero_le _, fun wo e3 => ?_⟩
    simp only [upd_none] at e3
    obtain ⟨n3, m32, _, m31, _, f3⟩ := e3
    refine ⟨_, rfl, t, D.c_Terms, dx, _, rfl, (by simp [upd, n1, n2, n3, Ne.symm n1, Ne.symm n2, Ne.symm n3]; rfl), T.cl_Terms, T.n_Terms__words, (by show 3 < 1000; decide), Nat.zero_le _, fun pa e4 => ?_⟩
    simp only [upd_none] at e4
    obtain ⟨n4, m43, _, m42, _, m41, _, f4⟩ := e4
    refine ⟨_, rfl, t, D.c_Terms, dx, _, rfl, (by simp [upd, n1, n2, n3, n4, Ne.symm n1, Ne.symm n2, Ne.symm n3, Ne.symm n4]; rfl), T.cl_Terms, T.n_Terms__parts, (by show 4 < 1000; decide), Nat.zero_le _, fun ki e5 => ?_⟩
    simp only [upd_none] at e5
    obtain ⟨n5, m54, _, m53, _, m52, _, m51, _, f5⟩ := e5
    refine ⟨_, rfl, t, D.c_Terms, dx, _, rfl, (by simp [upd, n1, n2, n3, n4, n5, Ne.symm n1, Ne.symm n2, Ne.symm n3, Ne.symm n4, Ne.symm n5]; rfl), T.cl_Terms, T.n_Terms__kinds, (by show 5 < 1000; decide), Nat.zero_le _, fun si e6 => ?_⟩
    simp only [upd_none] at e6
    obtain ⟨n6, m65, _, m64, _, m63, _, m62, _, m61, _, f6⟩ := e6
    refine ⟨_, rfl, t, D.c_Terms, dx, _, rfl, (by simp [upd, n1, n2, n3, n4, n5, n6, Ne.symm n1, Ne.symm n2, Ne.symm n3, Ne.symm n4, Ne.symm n5, Ne.symm n6]; rfl), T.cl_Terms, T.n_Terms__sizes, (by show 6 < 1000; decide), Nat.zero_le _, fun le e7 => ?_⟩
    simp only [upd_none] at e7
    obtain ⟨n7, m76, _, m75, _, m74, _, m73, _, m72, _, m71, _, f7⟩ := e7
    refine ⟨_, rfl, t, D.c_Terms, dx, _, rfl, (by simp [upd, n1, n2, n3, n4, n5, n6, n7, Ne.symm n1, Ne.symm n2, Ne.symm n3, Ne.symm n4, Ne.symm n5, Ne.symm n6, Ne.symm n7]; rfl), T.cl_Terms, T.n_Terms__letters, (by show 7 < 1000; decide), ?_⟩
    refine k _ ⟨nu, wo, pa, ki, si, le⟩ (fun a o e m => ?_) ?_ ?_
    · rcases m with m | ⟨xs, m⟩
      · have ne : ∀ b, H b = none → a ≠ b := fun b hb q => by rw [q, hb] at e; cases e
        simp [upd, m, ne _ f1, ne _ f2, ne _ f3, ne _ f4, ne _ f5, ne _ f6, ne _ f7, e]
      · have ne : ∀ b, H b = none → a ≠ b := fun b hb q => by rw [q, hb] at e; cases e
        have nt : a ≠ t := fun q => by rw [q, h0] at e; cases e; cases m
        simp [upd, nt, ne _ f1, ne _ f2, ne _ f3, ne _ f4, ne _ f5, ne _ f6, ne _ f7, e]
    · intro a ha
      rcases SA.M_iff.mp ha with rfl | rfl | rfl | rfl | rfl | rfl <;> assumption
    · refine ⟨⟨dx, tx, by simp only [upd_same]; rfl⟩, Clo.nil, ?_, ?_, ?_, ⟨[], ?_, rfl, fun _ _ _ h => by simp at h⟩, ?_, ?_, ⟨[], ?_, rfl, fun _ h => by simp at h⟩⟩
      · simp [SA.all, Ne.symm m31, Ne.symm m41, Ne.symm m51, Ne.symm m61, Ne.symm m71, Ne.symm m43, Ne.symm m53, Ne.symm m63, Ne.symm m73, Ne.symm m54, Ne.symm m64, Ne.symm m74, Ne.symm m65, Ne.symm m75, Ne.symm m76]
      · simp [upd, n1, Ne.symm m21, Ne.symm m31, Ne.symm m41, Ne.symm m51, Ne.symm m61, Ne.symm m71, kvsOf]
      · simp [upd, n3, Ne.symm m43, Ne.symm m53, Ne.symm m63, Ne.symm m73]
      · simp [upd, n4, Ne.symm m54, Ne.symm m64, Ne.symm m74]
      · simp [upd, n5, Ne.symm m65, Ne.symm m75]
      · simp [upd, n6, Ne.symm m76]
      · simp [upd, n7]
end
end R87

/-! ## Put87 -/
set_option maxHeartbeats 4000000
namespace L2
open PySem PySem.Spec PyProof.Rows
/-- t + u, the answer known by its items alone -/
theorem catA_of {K : PySem.W.Frag} {a b : Addr} {xs ys : List V} {H : Hp} {Q : VK} (ha : H a = some (.tup xs)) (hb : H b = some (.tup ys)) (hl : xs.length + ys.length ≤ sizeLine) (k : ∀ H' r, Same H H' → H' r = some (.tup (xs ++ ys)) → Q (.ref r) H') :
    rCatA K (.ref a) (.ref b) H Q := by
  refine ⟨a, b, xs, ys, rfl, rfl, SqT.of ha, SqT.of hb, hl, fun e => ?_, fun _ e => ?_, fun _ _ p hp => ?_⟩
  · subst e
    exact k H b (fun _ _ e => e) hb
  · subst e
    exact k H a (fun _ _ e => e) (by rw [List.append_nil]; exact ha)
  · exact k _ p (Same.new hp) upd_same
theorem Same.trans' {H H1 H2 : Hp} (a : Same H H1) (b : Same H1 H2) : Same H H2 := fun x o e => b x o (a x o e)
theorem Same.rfl' {H : Hp} : Same H H := fun _ _ e => e
end L2
namespace R87
open PySem PySem.Spec PyProof.Rows L2
variable {D : Ad} {p : Par} {H H' : Hp} {t g : Addr} {A : SA} {cs : List Ch}
theorem Par.Ok.lenW (hp : p.Ok) (c : Ch) : (p.word c).length ≤ 301 := by
  rcases chCases c with rfl | ⟨c, b, rfl⟩
  · exact hp.lenL
  · rw [Par.word_snoc]
    exact Nat.le_trans (hp.lenS b) (by decide)
theorem parts_len (hp : p.Ok) (c : Ch) : (partsOf p cs c).length ≤ 4 := by
  rcases chCases c with rfl | ⟨c, b, rfl⟩
  · exact Nat.zero_le _
  · rw [parts_snoc, List.length_replicate]
    exact hp.arr4 b
/-- the first sign of the first word -/
theorem Par.Ok.word0 (hp : p.Ok) (c : Ch) : ∃ x, (p.word c).cps.toList[0]? = some x ∧ capC x = (c.isEmpty : Bool) := by
  rcases chCases c with rfl | ⟨c, b, rfl⟩
  · exact ⟨_, hp.cL, hp.uL⟩
  · rw [Par.word_snoc]
    obtain ⟨x, h1, h2⟩ := hp.sgc b
    refine ⟨x, h1, ?_⟩
    rw [h2]
    cases c <;> rfl
section
variable {P : Program} {w : World} {K : PySem.W.Frag} {mg : Str → Option Value} {base : Heap} {eB eT eBf eTf : Addr}
def spPut (D : Ad) : Sp := fun vs H Q _ => ∃ (t g a : Addr) (p : Par) (A : SA) (cs : List Ch) (c : Ch), vs = [.ref t, .str (p.word c), .ref a, .str p.S] ∧ p.Ok ∧ StoreAt D p H t g A cs ∧ cs.length ≤ 20000 ∧ (∀ c' b, c = c' ++ [b] → c' ∈ cs) ∧ H a = some (.tup (partsOf p cs c)) ∧
  ∀ H', But A.M H H' → StoreAt D p H' t g A (add cs c) → Q (.int (num (add cs c) c)) H'
theorem ok_put (T : Txt K P mg D eB eT eBf eTf) : FnOk P w K mg base CX0 2 D.a_Terms_put D.d_Terms_put ["self", "word", "parts", "kind"] (spPut D) := by
  obtain ⟨tC, hC⟩ := T.G.cap
  refine T.F_Terms_put.ok sc_Terms_put (fun vs H Q E h => ?_) (fun cdv AA outer s H vs Q E hr h => ?_)
  · obtain ⟨t, g, a, p, A, cs, c, rfl, _⟩ := h
    rfl
  · obtain ⟨t, g, a, p, A, cs, c, rfl, hp, hS, hsm, hc, ha, k⟩ := h
    have hu := hu_of hr
    have GJ : FnOk P w K mg base CX0 1 D.a_joined D.d_joined ["first", "second"] spJoined := ok_joined T
    have nd := sc_Terms_put.nd
    refine ⟨_, PSs.nox (pss_cons (ps_set (i := 4) nd rfl (Or.inl rfl) (pe_op op_catA (pe_tup (pa_cons (pv 1) pa_nil)) (pv 2)))
      (pss_cons (ps_if (pt_cmp (pc_din hu (pv 4) (pe_fld (pv 0) rfl))) (pss_one (ps_ret (pe_dget hu (pe_fld (pv 0) rfl) (pv 4) (fun _ _ => rfl)))) pss_nil)
      (pss_cons (ps_set (i := 5) nd rfl (Or.inl rfl) (pe_callB call_len_seq (by rfl) T.len PySem.boot_len (pa_cons (pe_fld (pv 0) rfl) pa_nil)))
      (pss_cons (ps_set (i := 6) nd rfl (Or.inl rfl) (pe_ifExp (pt_cmpR op_in_sign (pe_ix ix_str (pv 1) pe_int (fun _ _ => rfl)) (pgS hC) (by rfl)) (pe_tup (pa_cons (pv 1) pa_nil)) (pe_tup pa_nil)))
      (pss_cons (ps_set (i := 7) nd rfl (Or.inl rfl) pe_int)
      (pss_cons (ps_for PassesOwn.never rfl (pi_tup (pv 2)) (pg_name (i := 8) nd rfl (Or.inl rfl))
        (pss_cons (ps_set (i := 6) nd rfl (Or.inl rfl) (pe_call GJ hr rfl T.g_joined T.F_joined.kp T.b_joined .nil pass0 (pa_cons (pv 6) (pa_cons (pe_ix ix_list (pe_fld (pv 0) rfl) (pv 8) (fun _ _ => rfl)) pa_nil))))
          (pss_one (ps_aug (i := 7) nd rfl (Or.inl rfl) (pe_ix ix_list (pe_fld (pv 0) rfl) (pv 8) (fun _ _ => rfl)) ip_add))))
      (pss_cons (ps_dput hu (pe_fld (pv 0) rfl) (pv 4) (pv 5) rfl)
      (pss_cons (ps_expr (pe_bm PySem.F.plainAttrs_list PySem.F.slot_list_append PySem.F.type_list_append mt_append (pe_fld (pv 0) rfl) (pa_cons (pv 1) pa_nil)))
      (pss_cons (ps_expr (pe_bm PySem.F.plainAttrs_list PySem.F.slot_list_append PySem.F.type_list_append mt_append (pe_fld (pv 0) rfl) (pa_cons (pv 2) pa_nil)))
      (pss_cons (ps_expr (pe_bm PySem.F.plainAttrs_list PySem.F.slot_list_append PySem.F.type_list_append mt_append (pe_fld (pv 0) rfl) (pa_cons (pv 3) pa_nil)))
      (pss_cons (ps_expr (pe_bm PySem.F.plainAttrs_list PySem.F.slot_list_append PySem.F.type_list_append mt_append (pe_fld (pv 0) rfl) (pa_cons (pv 7) pa_nil)))
      (pss_cons (ps_expr (pe_bm PySem.F.plainAttrs_list PySem.F.slot_list_append PySem.F.type_list_append mt_append (pe_fld (pv 0) rfl) (pa_cons (pv 6) pa_nil)))
      (pss_one (ps_ret (pv 5))))))))))))))), ?_⟩
    refine ⟨_, rfl, (by show 1 ≤ sizeLine; decide), fun a1 n1 => ⟨_, rfl, ?_⟩⟩
    have hz : (1 : Nat) + (partsOf p cs c).length ≤ sizeLine := by have := parts_len (cs := cs) hp c; have h : (16777216 : Nat) = sizeLine := rfl; omega
    refine catA_of upd_same (Same.new n1 _ _ ha) hz fun H1 kb s1 hk => ?_
    have sH : Same H H1 := Same.trans' (Same.new n1) s1
    replace hk : H1 kb = some (.tup ((keyOf p cs c).map kV)) := by rw [key_vals]; exact hk
    have S1 : StoreAt D p H1 t g A cs := hS.same sH
    obtain ⟨dx, tx, h0⟩ := S1.ob
    have vk := val_kvs hp S1.clo hc
    refine ⟨_, rfl, _, rfl, t, D.c_Terms, dx, _, _, rfl, h0, T.cl_Terms, T.n_Terms__numbers, rfl, A.nu, _, rfl, DGet.t (k := keyOf p cs c) S1.nu hk, _, rfl, ?_⟩
    rw [vk]
    by_cases hm : c ∈ cs
    · rw [if_pos hm]
      have ea : add cs c = cs := by unfold add; rw [if_pos hm]
      rw [ea] at k
      refine iteT ⟨_, rfl, t, D.c_Terms, dx, _, _, rfl, h0, T.cl_Terms, T.n_Terms__numbers, rfl, _, rfl, A.nu, _, rfl, by rw [← if_pos (c := c ∈ cs) (t := some (V.int (num cs c))) (e := none) hm, ← vk]; exact DGet.t (k := keyOf p cs c) S1.nu hk, k H1 (But.of_same sH) S1⟩
    · rw [if_neg hm]
      have ea : add cs c = cs ++ [c] := by unfold add; rw [if_neg hm]
      rw [ea, num_snoc hm] at k
      refine iteF ⟨_, rfl, t, D.c_Terms, dx, _, _, rfl, h0, T.cl_Terms, T.n_Terms__words, rfl, A.wo, _, rfl, .inl (SqL.of S1.wo), ?_⟩
      obtain ⟨x0, hx0, hcap⟩ := hp.word0 c
      refine ⟨_, rfl, p.word c, 0, x0, rfl, rfl, Nat.le_trans (hp.lenW c) (by decide), atI_nat (j := 0) hx0, x0, cCap, rfl, rfl, _, rfl, ?_⟩
      have lets : ∀ (σ : L2.St) (R : V → Hp → Prop), σ[1]? = some (some (V.str (p.word c))) → (∀ lt H2, Same H1 H2 → H2 lt = some (.tup (if c = [] then [.str p.L] else [])) → R (.ref lt) H2) →
          (if decide (x0 ∈ cCap.cps.toList) = true then tTup (tCons (tVar 1) tNil) σ H1 R else tTup tNil σ H1 R) := by
        intro σ R hσ kR
        rcases chCases c with rfl | ⟨c', b, rfl⟩
        · refine ifT hcap ⟨_, hσ, (by show 1 ≤ sizeLine; decide), fun q hq => kR q _ (Same.new hq) ?_⟩
          rw [upd_same]; rfl
        · have : capC x0 = false := by rw [hcap]; cases c' <;> rfl
          refine ifF this ⟨by decide, fun q hq => kR q _ (Same.new hq) ?_⟩
          rw [upd_same, if_neg (by simp)]
      refine lets _ _ rfl fun lt H2 s2 hl => ?_
      have sH2 : Same H H2 := Same.trans' sH s2
      have S2 : StoreAt D p H2 t g A cs := S1.same s2
      have h02 := s2 _ _ h0
      have ha2 := sH2 _ _ ha
      refine ⟨_, rfl, a, rfl, ⟨_, SqT.of ha2⟩, for_tup (K := K) (a := a) (xs := partsOf p cs c) (fun i σ H' => H' = H2 ∧ ∃ lt ls v, σ = [some (.ref t), some (.str (p.word c)), some (.ref a), some (.str p.S), some (.ref kb), some (.int cs.length), some (.ref lt), some (.int (1 + i * p.siz c.dropLast)), v] ∧ H2 lt = some (.tup ls) ∧ (i = 0 → ls = if c = [] then [.str p.L] else []) ∧ (0 < i → ls = [.str p.L]))
        ⟨rfl, lt, _, none, by rw [show (1 + ((0 : Nat) : Int) * p.siz c.dropLast) = 1 by simp, List.length_map]; rfl, hl, fun _ => rfl, fun h => absurd h (by decide)⟩ (fun i σ H' _ ⟨e, _⟩ => by rw [e]; exact SqT.of ha2) ?_ ?_⟩
      · rintro i y σ H' hi ⟨rfl, lt, ls, v, rfl, hlt, e0, e1⟩
        obtain ⟨c', b, rfl⟩ : ∃ c' b, c = c' ++ [b] := by
          rcases chCases c with rfl | h
          · simp [parts_nil] at hi
          · exact h
        have hc' := hc c' b rfl
        rw [parts_snoc, List.getElem?_replicate] at hi
        obtain rfl : y = .int (num cs c') := by
          split at hi
          · exact (Option.some.inj hi).symm
          · cases hi
        obtain ⟨ll, la, hle, hla, hlb⟩ := S2.let_at hc'
        refine ⟨_, rfl, _, rfl, t, D.c_Terms, dx, _, _, rfl, h02, T.cl_Terms, T.n_Terms__letters, rfl, _, rfl, A.le, _, _, _, rfl, rfl, SqL.of hle, atI_nat hla, lt, la, p.L, ls, rfl, hlt, ?_, hlb, hp.oL, fun r hr => ?_⟩
        · cases i with
          | zero => exact .inl (by rw [e0 rfl, if_neg (by simp)])
          | succ i => exact .inr (e1 (Nat.succ_pos _))
        refine ⟨_, rfl, _, rfl, t, D.c_Terms, dx, _, _, rfl, h02, T.cl_Terms, T.n_Terms__sizes, rfl, _, rfl, A.si, _, _, _, rfl, rfl, SqL.of S2.si, atI_nat (S2.size_at hc'), _, _, rfl, rfl, rfl, r, _, some (.int (num cs c')), ?_, hr, fun h => absurd h (by omega), fun _ => rfl⟩
        rw [List.dropLast_concat]
        have : (1 + (i : Int) * p.siz c' + p.siz c') = 1 + ((i + 1 : Nat) : Int) * p.siz c' := by rw [Int.natCast_add, Int.add_mul]; omega
        rw [← this]
        rfl
      · rintro σ H' ⟨rfl, lt, ls, v, rfl, hlt, e0, e1⟩
        have els : ls = [.str p.L] := by
          rcases chCases c with rfl | ⟨c', b, rfl⟩
          · rw [e0 rfl]; rfl
          · refine e1 ?_
            rw [parts_snoc, List.length_replicate]
            exact hp.arr1 b
        have esz : (1 + ((partsOf p cs c).length : Int) * p.siz c.dropLast) = p.siz c := by
          rcases chCases c with rfl | ⟨c', b, rfl⟩
          · rfl
          · rw [parts_snoc, List.length_replicate, List.dropLast_concat, Par.siz_snoc]
        rw [esz]
        subst els
        obtain ⟨ps, hps, lps, qps⟩ := S2.pa
        obtain ⟨ls, hls, lls, qls⟩ := S2.le
        have df := S2.df
        simp only [SA.all, List.nodup_cons, List.mem_cons, List.not_mem_nil, not_or, or_false, not_false_eq_true, List.nodup_nil, and_true] at df
        obtain ⟨⟨d12, d13, d14, d15, d16⟩, ⟨d23, d24, d25, d26⟩, ⟨d34, d35, d36⟩, ⟨d45, d46⟩, d56⟩ := df
        have nt : ∀ x, A.M x → t ≠ x := fun x hx e => S2.not_m h02 (fun _ => nofun) (fun _ => nofun) (e ▸ hx)
        have nt1 := nt A.nu (SA.M_iff.mpr (by simp))
        have nt2 := nt A.wo (SA.M_iff.mpr (by simp))
        have nt3 := nt A.pa (SA.M_iff.mpr (by simp))
        have nt4 := nt A.ki (SA.M_iff.mpr (by simp))
        have nt5 := nt A.si (SA.M_iff.mpr (by simp))
        have nt6 := nt A.le (SA.M_iff.mpr (by simp))
        have hk2 : H' kb = some (.tup ((keyOf p cs c).map kV)) := s2 _ _ hk
        have lk : (kvsOf p cs).length < sizeLine := by unfold kvsOf; rw [List.length_map]; have h : (16777216 : Nat) = sizeLine := rfl; omega
        have lc : ∀ {α : Type} (f : Ch → α), (cs.map f).length < sizeLine := fun f => by rw [List.length_map]; have h : (16777216 : Nat) = sizeLine := rfl; omega
        refine ⟨_, rfl, _, rfl, t, D.c_Terms, dx, _, _, rfl, h02, T.cl_Terms, T.n_Terms__numbers, rfl, _, rfl, A.nu, _, rfl, DPut.t (k := keyOf p cs c) S2.nu hk2 lk, ?_⟩
        rw [putK_new _ (by rw [vk, if_neg hm]), ← kvs_snoc S2.clo hm hc]
        refine ⟨_, rfl, t, D.c_Terms, dx, terFs g A tx, _, rfl, by rw [upd_ne nt1]; exact h02, T.cl_Terms, T.n_Terms__words, rfl, .inl ⟨rfl, _, SqL.of (by rw [upd_ne (Ne.symm d12)]; exact S2.wo)⟩, _, rfl, A.wo, _, _, rfl, rfl, by rw [upd_ne (Ne.symm d12)]; exact S2.wo, lc _, ?_⟩
        refine ⟨_, rfl, t, D.c_Terms, dx, terFs g A tx, _, rfl, by rw [upd_ne nt2, upd_ne nt1]; exact h02, T.cl_Terms, T.n_Terms__parts, rfl, .inl ⟨rfl, _, SqL.of (by rw [upd_ne (Ne.symm d23), upd_ne (Ne.symm d13)]; exact hps)⟩, _, rfl, A.pa, _, _, rfl, rfl, by rw [upd_ne (Ne.symm d23), upd_ne (Ne.symm d13)]; exact hps, by rw [List.length_map, lps]; have := lc id; rwa [List.length_map] at this, ?_⟩
        refine ⟨_, rfl, t, D.c_Terms, dx, terFs g A tx, _, rfl, by rw [upd_ne nt3, upd_ne nt2, upd_ne nt1]; exact h02, T.cl_Terms, T.n_Terms__kinds, rfl, .inl ⟨rfl, _, SqL.of (by rw [upd_ne (Ne.symm d34), upd_ne (Ne.symm d24), upd_ne (Ne.symm d14)]; exact S2.ki)⟩, _, rfl, A.ki, _, _, rfl, rfl, by rw [upd_ne (Ne.symm d34), upd_ne (Ne.symm d24), upd_ne (Ne.symm d14)]; exact S2.ki, lc _, ?_⟩
        refine ⟨_, rfl, t, D.c_Terms, dx, terFs g A tx, _, rfl, by rw [upd_ne nt4, upd_ne nt3, upd_ne nt2, upd_ne nt1]; exact h02, T.cl_Terms, T.n_Terms__sizes, rfl, .inl ⟨rfl, _, SqL.of (by rw [upd_ne (Ne.symm d45), upd_ne (Ne.symm d35), upd_ne (Ne.symm d25), upd_ne (Ne.symm d15)]; exact S2.si)⟩, _, rfl, A.si, _, _, rfl, rfl, by rw [upd_ne (Ne.symm d45), upd_ne (Ne.symm d35), upd_ne (Ne.symm d25), upd_ne (Ne.symm d15)]; exact S2.si, lc _, ?_⟩
        refine ⟨_, rfl, t, D.c_Terms, dx, terFs g A tx, _, rfl, by rw [upd_ne nt5, upd_ne nt4, upd_ne nt3, upd_ne nt2, upd_ne nt1]; exact h02, T.cl_Terms, T.n_Terms__letters, rfl, .inl ⟨rfl, _, SqL.of (by rw [upd_ne (Ne.symm d56), upd_ne (Ne.symm d46), upd_ne (Ne.symm d36), upd_ne (Ne.symm d26), upd_ne (Ne.symm d16)]; exact hls)⟩, _, rfl, A.le, _, _, rfl, rfl, by rw [upd_ne (Ne.symm d56), upd_ne (Ne.symm d46), upd_ne (Ne.symm d36), upd_ne (Ne.symm d26), upd_ne (Ne.symm d16)]; exact hls, by rw [List.length_map, lls]; have := lc id; rwa [List.length_map] at this, ?_⟩
        refine ⟨_, rfl, ?_⟩
        -- the end
        have fr : ∀ x o, H' x = some o → ¬ A.M x → (upd (upd (upd (upd (upd (upd H' A.nu (.dT (kvsOf p (cs ++ [c])))) A.wo (.lst ((cs.map fun c => V.str (p.word c)) ++ [.str (p.word c)]))) A.pa (.lst (ps.map V.ref ++ [.ref a]))) A.ki (.lst ((cs.map fun _ => V.str p.S) ++ [.str p.S]))) A.si (.lst ((cs.map fun c => V.int (p.siz c)) ++ [.int (p.siz c)]))) A.le (.lst (ls.map V.ref ++ [.ref lt]))) x = some o := by
          intro x o e m
          rw [SA.M_iff, not_or, not_or, not_or, not_or, not_or] at m
          obtain ⟨m1, m2, m3, m4, m5, m6⟩ := m
          rw [upd_ne m6, upd_ne m5, upd_ne m4, upd_ne m3, upd_ne m2, upd_ne m1]
          exact e
        have tp : ∀ x xs, H' x = some (.tup xs) → ¬ A.M x := fun x xs e => S2.not_m e (fun _ => nofun) (fun _ => nofun)
        refine k _ (fun x o e m => ?_) ⟨⟨dx, tx, fr _ _ h02 (S2.not_m h02 (fun _ => nofun) (fun _ => nofun))⟩, ?_, S2.df, ?_, ?_, ⟨ps ++ [a], ?_, by simp [lps], ?_⟩, ?_, ?_, ⟨ls ++ [lt], ?_, by simp [lls], ?_⟩⟩
        · refine fr _ _ (sH2 _ _ e) ?_
          rcases m with m | ⟨xs, rfl⟩
          · exact m
          · exact tp _ _ (sH2 _ _ e)
        · have := S2.clo.add hc
          rwa [ea] at this
        · rw [upd_ne d16, upd_ne d15, upd_ne d14, upd_ne d13, upd_ne d12, upd_same]
        · rw [upd_ne d26, upd_ne d25, upd_ne d24, upd_ne d23, upd_same, List.map_append]
          rfl
        · rw [upd_ne d36, upd_ne d35, upd_ne d34, upd_same, List.map_append]
          rfl
        · intro i x y ex ey
          have nm : ∀ z b, z ++ [b] ∈ cs → z ∈ cs := fun z b h => (S2.clo.dn z b h).1
          by_cases hi : i < cs.length
          · rw [List.getElem?_append_left (by rw [lps]; exact hi)] at ex
            rw [List.getElem?_append_left hi] at ey
            have q := qps i x y ex ey
            rw [parts_app fun z b e => nm z b (e ▸ List.mem_of_getElem? ey)]
            exact fr _ _ q (tp _ _ q)
          · have hi2 := (List.getElem?_eq_some_iff.mp ey).1
            rw [List.length_append, List.length_singleton] at hi2
            obtain rfl : i = cs.length := by omega
            rw [← lps, List.getElem?_append_right (Nat.le_refl _), Nat.sub_self] at ex
            rw [List.getElem?_append_right (Nat.le_refl _), Nat.sub_self] at ey
            cases ex
            cases ey
            rw [parts_app hc]
            exact fr _ _ ha2 (tp _ _ ha2)
        · rw [upd_ne d46, upd_ne d45, upd_same, List.map_append]
          rfl
        · rw [upd_ne d56, upd_same, List.map_append]
          rfl
        · rw [upd_same, List.map_append]
          rfl
        · intro x hx
          rcases List.mem_append.mp hx with hx | hx
          · exact fr _ _ (qls x hx) (tp _ _ (qls x hx))
          · rw [List.mem_singleton.mp hx]
            exact fr _ _ hlt (tp _ _ hlt)
end
end R87

/-! ## Make87 -/
set_option maxHeartbeats 4000000
namespace R87
open PySem PySem.Spec PyProof.Rows L2
variable {D : Ad} {p : Par} {H H' : Hp} {t g : Addr} {A : SA} {cs : List Ch}
section
variable {P : Program} {w : World} {K : PySem.W.Frag} {mg : Str → Option Value} {base : Heap} {eB eT eBf eTf : Addr}
def spLetter (D : Ad) : Sp := fun vs H Q _ => ∃ (t g : Addr) (p : Par) (A : SA) (cs : List Ch), vs = [.ref t, .str p.L] ∧ p.Ok ∧ StoreAt D p H t g A cs ∧ SigAt D p H g ∧ cs.length ≤ 20000 ∧
  ∀ H', But A.M H H' → StoreAt D p H' t g A (add cs []) → Q (.int (num (add cs []) [])) H'
theorem ok_letter (T : Txt K P mg D eB eT eBf eTf) : FnOk P w K mg base CX0 3 D.a_Terms_letter D.d_Terms_letter ["self", "text"] (spLetter D) := by
  refine T.F_Terms_letter.ok sc_Terms_letter (fun vs H Q E h => ?_) (fun cdv AA outer s H vs Q E hr h => ?_)
  · obtain ⟨t, g, p, A, cs, rfl, _⟩ := h
    rfl
  · obtain ⟨t, g, p, A, cs, rfl, hp, hS, hG, hsm, k⟩ := h
    have GL : FnOk P w K mg base CX0 1 D.a_is_letter D.d_is_letter ["text", "digits"] spIsLetter := ok_is_letter T.F_is_letter T.G
    have GP := ok_put (P := P) (w := w) (base := base) T
    have GS := ok_sow (P := P) (w := w) (base := base) T
    have nd := sc_Terms_letter.nd
    have hr1 : Room 1 _ := hr.mono (by decide)
    refine ⟨_, PSs.nox (pss_cons (ps_set (i := 2) nd rfl (Or.inl rfl) pe_non)
      (pss_cons (ps_if (pt_val (pe_call GL hr1 rfl T.g_is_letter T.F_is_letter.kp T.b_is_letter .nil pass0 (pa_cons (pv 1) (pa_cons pe_int pa_nil))))
        (pss_one (ps_set (i := 2) nd rfl (Or.inl rfl) (pe_meth (pe_fld (pv 0) rfl) T.cl_Signature T.m_Signature_sort_of_word GS hr T.b_Signature_sort_of_word .nil pass0 (pa_cons (pv 1) (pa_cons pe_int pa_nil))))) pss_nil)
      (pss_cons (ps_if (pt_cmpR op_isN (pv 2) pe_non (nomark _)) (pss_one ps_never) pss_nil)
      (pss_one (ps_ret (pe_meth (pv 0) T.cl_Terms T.m_Terms_put GP hr T.b_Terms_put .nil pass0 (pa_cons (pv 1) (pa_cons (pe_tup pa_nil) (pa_cons (pv 2) pa_nil))))))))), ?_⟩
    obtain ⟨dx, tx, h0⟩ := hS.ob
    obtain ⟨dg, dC, dS, dA, dR, ts, tg, sd, hg, _⟩ := hG.ob
    have hl : p.L.length ≤ 1000 := Nat.le_trans hp.lenL (by decide)
    refine ⟨_, rfl, p.L, 300, rfl, hl, _, rfl, ?_⟩
    rw [hp.lL]
    refine iteT ⟨_, rfl, t, D.c_Terms, dx, _, _, rfl, h0, T.cl_Terms, T.n_Terms_signature, rfl, g, dg, _, rfl, hg, rfl, _, rfl, g, p, p.L, .str p.S, rfl, hp, hG, hl, .inl ⟨.inr rfl, rfl⟩, ?_⟩
    refine ⟨_, rfl, rfl, _, rfl, ifF rfl ⟨_, rfl, t, dx, _, rfl, h0, rfl, _, rfl, Nat.zero_le _, fun a na => ⟨_, rfl, t, g, a, p, A, cs, [], rfl, hp, hS.same (Same.new na), hsm, fun _ _ e => by simp at e, upd_same, fun H2 b2 s2 => ?_⟩⟩⟩
    exact k H2 ((But.of_same (Same.new na)).trans b2) s2
def spMake (D : Ad) : Sp := fun vs H Q _ => ∃ (t g l : Addr) (p : Par) (A : SA) (cs : List Ch) (c : Ch) (b : Bool), vs = [.ref t, .str (p.sg b), .ref l] ∧ p.Ok ∧ StoreAt D p H t g A cs ∧ SigAt D p H g ∧ cs.length ≤ 20000 ∧ c ∈ cs ∧ H l = some (.lst (List.replicate (p.arr b) (.int (num cs c)))) ∧ ¬ A.M l ∧
  ∀ H', But A.M H H' → StoreAt D p H' t g A (add cs (c ++ [b])) → Q (.int (num (add cs (c ++ [b])) (c ++ [b]))) H'
theorem ok_make (T : Txt K P mg D eB eT eBf eTf) : FnOk P w K mg base CX0 3 D.a_Terms_make D.d_Terms_make ["self", "sign", "parts"] (spMake D) := by
  refine T.F_Terms_make.ok sc_Terms_make (fun vs H Q E h => ?_) (fun cdv AA outer s H vs Q E hr h => ?_)
  · obtain ⟨t, g, l, p, A, cs, c, b, rfl, _⟩ := h
    rfl
  · obtain ⟨t, g, l, p, A, cs, c, b, rfl, hp, hS, hG, hsm, hc, hl, nl, k⟩ := h
    have GP := ok_put (P := P) (w := w) (base := base) T
    have GA := ok_arguments (P := P) (w := w) (base := base) T
    have GR := ok_result (P := P) (w := w) (base := base) T
    have nd := sc_Terms_make.nd
    have hr1 : Room 1 _ := hr.mono (by decide)
    refine ⟨_, PSs.nox (pss_cons (ps_set (i := 3) nd rfl (Or.inl rfl) (pe_meth (pe_fld (pv 0) rfl) T.cl_Signature T.m_Signature_arguments GA hr1 T.b_Signature_arguments .nil pass0 (pa_cons (pv 1) pa_nil)))
      (pss_cons (ps_if (pt_cmpR op_ne (pe_callB call_len_seq (by rfl) T.len PySem.boot_len (pa_cons (pv 2) pa_nil)) (pe_callB call_len_seq (by rfl) T.len PySem.boot_len (pa_cons (pv 3) pa_nil)) (nomark _)) (pss_one ps_never) pss_nil)
      (pss_cons (ps_for PassesOwn.never rfl (pi_enum (by rfl) T.enumerate (pa_cons (pv 2) pa_nil)) (pg_tup rfl (pgs_cons (pg_name (i := 4) nd rfl (Or.inl rfl)) (pgs_cons (pg_name (i := 5) nd rfl (Or.inl rfl)) pgs_nil)))
        (pss_one (ps_if (pt_cmpR op_ne (pe_ix ix_list (pe_fld (pv 0) rfl) (pv 5) (fun _ _ => rfl)) (pe_ix ix_tup (pv 3) (pv 4) (fun _ _ => rfl)) (nomark _)) (pss_one ps_never) pss_nil)))
      (pss_one (ps_ret (pe_meth (pv 0) T.cl_Terms T.m_Terms_put GP hr T.b_Terms_put .nil pass0 (pa_cons (pv 1) (pa_cons (pe_callTy call_tuple_of (by rfl) T.tuple (by decide +kernel) (pa_cons (pv 2) pa_nil)) (pa_cons (pe_meth (pe_fld (pv 0) rfl) T.cl_Signature T.m_Signature_result GR hr1 T.b_Signature_result .nil pass0 (pa_cons (pv 1) pa_nil)) pa_nil))))))))), ?_⟩
    obtain ⟨dx, tx, h0⟩ := hS.ob
    obtain ⟨dg, dC, dS, dA, dR, ts, tg, sd, hg, _⟩ := hG.ob
    refine ⟨_, rfl, t, D.c_Terms, dx, _, _, rfl, h0, T.cl_Terms, T.n_Terms_signature, rfl, g, dg, _, rfl, hg, rfl, _, rfl, g, p, b, rfl, hG, fun tw htw => ?_⟩
    refine ⟨_, rfl, l, _, rfl, .inl (SqL.of hl), _, rfl, tw, _, rfl, .inr (SqT.of htw), rfl, _, rfl, ?_⟩
    rw [List.length_replicate, List.length_replicate]
    refine ifF (dnF rfl) ?_
    refine ⟨_, rfl, l, _, rfl, SqL.of hl, for_it walk_enum (fun i σ H' => Same H H' ∧ ∃ u v, σ = [some (.ref t), some (.str (p.sg b)), some (.ref l), some (.ref tw), u, v]) ⟨Same.rfl', _, _, rfl⟩ (fun i σ H' _ ⟨s1, _⟩ => SqL.of (s1 _ _ hl)) ?_ ?_⟩
    · rintro i x σ H1 H2 hi ⟨s1, u, v, rfl⟩ ⟨T', y, z, rfl, hT, rfl, hy, hz⟩
      cases hy
      replace hz : (List.replicate (p.arr b) (V.int (num cs c)))[i]? = some z := hz
      rw [List.getElem?_replicate] at hz
      obtain rfl : z = .int (num cs c) := by
        split at hz
        · exact (Option.some.inj hz).symm
        · cases hz
      rw [List.length_replicate] at hi
      have s2 : Same H (upd H1 T' (.tup [.int (i : Nat), .int (num cs c)])) := Same.trans' s1 (Same.new hT)
      refine ⟨T', _, rfl, SqT.of upd_same, rfl, _, _, rfl, _, _, rfl, rfl, ?_⟩
      have S2 := hS.same s2
      refine ⟨_, rfl, t, D.c_Terms, dx, _, _, rfl, s2 _ _ h0, T.cl_Terms, T.n_Terms__kinds, rfl, _, rfl, A.ki, _, _, _, rfl, rfl, SqL.of S2.ki, atI_nat (S2.kind_at hc), _, rfl, _, rfl, tw, _, _, _, rfl, rfl, SqT.of (s2 _ _ htw), atI_nat (by rw [List.getElem?_replicate, if_pos hi]), rfl, _, rfl, ifF (dnF rfl) ⟨s2, _, _, rfl⟩⟩
    · rintro σ H1 ⟨s1, u, v, rfl⟩
      refine ⟨_, rfl, t, dx, _, rfl, s1 _ _ h0, rfl, _, rfl, _, rfl, ?_⟩
      refine ⟨l, _, rfl, .inl ⟨SqL.of (s1 _ _ hl), fun a na => ?_⟩⟩
      have s2 := Same.trans' s1 (Same.new (o := .tup (List.replicate (p.arr b) (.int (num cs c)))) na)
      refine ⟨_, rfl, t, D.c_Terms, dx, _, _, rfl, s2 _ _ h0, T.cl_Terms, T.n_Terms_signature, rfl, g, dg, _, rfl, s2 _ _ hg, rfl, _, rfl, g, p, b, rfl, hG.same s2, ?_⟩
      refine ⟨t, g, a, p, A, cs, c ++ [b], by rw [Par.word_snoc]; rfl, hp, hS.same s2, hsm, fun c' b' e => ?_, ?_, fun H2 b2 s3 => k H2 ((But.of_same s2).trans b2) s3⟩
      · obtain ⟨rfl, _⟩ := List.append_inj' e rfl
        exact hc
      · rw [parts_snoc]
        exact upd_same
end
end R87

/-! ## Dfs87 -/
set_option maxHeartbeats 4000000
namespace R87
open PySem PySem.Spec PyProof.Rows L2
/-- the levels n, .., k -/
def lev (n k : Nat) : List Nat := (List.range' k (n + 1 - k)).reverse
theorem lev_mem {n k j : Nat} : j ∈ lev n k ↔ k ≤ j ∧ j ≤ n := by
  unfold lev
  rw [List.mem_reverse, List.mem_range'_1]
  omega
theorem lev_succ {n k : Nat} (h : k ≤ n) : lev n k = lev n (k + 1) ++ [k] := by
  unfold lev
  rw [show n + 1 - k = (n + 1 - (k + 1)) + 1 by omega, List.range'_succ, List.reverse_cons]
theorem lev_top {n : Nat} : lev n (n + 1) = [] := by
  unfold lev
  rw [Nat.sub_self]
  rfl
def seenK (f : Nat → Int) (l : List Nat) : List (Key × V) := l.map fun j => (Sum.inl (f j), V.bl true)
theorem seen_val {f : Nat → Int} {k : Nat} : ∀ {l : List Nat}, (∀ j ∈ l, f j = f k → j = k) → valV (seenK f l) (.inl (f k)) = if k ∈ l then some (.bl true) else none
  | [], _ => rfl
  | j :: l, h => by
    unfold seenK
    rw [List.map_cons]
    by_cases e : j = k
    · subst e
      rw [valV_pos rfl, if_pos (List.mem_cons_self ..)]
    · have q := seen_val (f := f) (k := k) (l := l) fun i hi => h i (List.mem_cons_of_mem _ hi)
      unfold seenK at q
      rw [valV_neg (fun q => e (h j (List.mem_cons_self ..) (by injection q))), q]
      by_cases hm : k ∈ l
      · rw [if_pos hm, if_pos (List.mem_cons_of_mem _ hm)]
      · rw [if_neg hm, if_neg (fun z => by
          rcases List.mem_cons.mp z with z | z
          · exact e z.symm
          · exact hm z)]
theorem seen_put {f : Nat → Int} {k : Nat} {l : List Nat} (h : ∀ j ∈ l, f j = f k → j = k) (n : k ∉ l) : putK (seenK f l) (.inl (f k)) (.bl true) = seenK f (l ++ [k]) := by
  rw [putK_new _ (by rw [seen_val h, if_neg n])]
  unfold seenK
  rw [List.map_append]
  rfl
/-- how the walk down a term stands: before the letter is seen, behind it -/
def Dfs (n m : Nat) (ds S : List Nat) (b : Bool) : Prop :=
  (∃ k D, k ≤ n ∧ ds = D ++ [k] ∧ (∀ d ∈ D, k ≤ d ∧ d ≤ n) ∧ S = lev n (k + 1) ∧ m = D.length + 1 + 4 * k ∧ b = false ∧ D.length + 4 * k ≤ 4 * n) ∨ ((∀ d ∈ ds, d ≤ n) ∧ S = lev n 0 ∧ m = ds.length ∧ b = true)
variable {D : Ad} {p : Par} {H H' : Hp} {t g : Addr} {A : SA} {cs : List Ch}
def nm (cs : List Ch) (c : Ch) (j : Nat) : Int := (num cs (c.take j) : Nat)
theorem nm_inj (h : Clo cs) {c : Ch} (hc : c ∈ cs) {j k : Nat} (hj : j ≤ c.length) (hk : k ≤ c.length) (e : nm cs c j = nm cs c k) : j = k := by
  unfold nm at e
  have e : num cs (c.take j) = num cs (c.take k) := by exact_mod_cast e
  rcases Nat.lt_trichotomy j k with l | l | l
  · exact absurd e (Nat.ne_of_lt (h.take_lt' hc hk l))
  · exact l
  · exact absurd e.symm (Nat.ne_of_lt (h.take_lt' hc hj l))
theorem parts_take {c : Ch} {k : Nat} (h : k < c.length) : partsOf p cs (c.take (k + 1)) = List.replicate (p.arr c[k]) (.int (nm cs c k)) := by
  rw [take_snoc' h, parts_snoc]
  rfl
theorem word_take {c : Ch} {k : Nat} (h : k < c.length) : p.word (c.take (k + 1)) = p.sg c[k] := by rw [take_snoc' h, Par.word_snoc]
theorem nm_top {c : Ch} : nm cs c c.length = num cs c := by unfold nm; rw [List.take_length]
def lv (f : Nat → Int) (ds : List Nat) : List V := ds.map fun j => V.int (f j)
theorem lv_app {f : Nat → Int} {a b : List Nat} : lv f (a ++ b) = lv f a ++ lv f b := List.map_append
theorem lv_rep {f : Nat → Int} {n k : Nat} : lv f (List.replicate n k) = List.replicate n (.int (f k)) := List.map_replicate
theorem lv_drop {f : Nat → Int} {a : List Nat} {k : Nat} : (lv f (a ++ [k])).dropLast = lv f a := by
  rw [lv_app]
  exact List.dropLast_concat
theorem lv_last {f : Nat → Int} {a : List Nat} {k : Nat} : (lv f (a ++ [k]))[(lv f (a ++ [k])).length - 1]? = some (.int (f k)) := by
  rw [lv_app, List.length_append]
  show (lv f a ++ [V.int (f k)])[(lv f a).length + 1 - 1]? = _
  rw [Nat.add_sub_cancel, List.getElem?_append_right (Nat.le_refl _), Nat.sub_self]
  rfl
/-- one step down -/
theorem Dfs.down {n k r : Nat} {D : List Nat} (hk : k + 1 ≤ n) (hD : ∀ d ∈ D, k + 1 ≤ d ∧ d ≤ n) (hl : D.length + 4 * (k + 1) ≤ 4 * n) (h1 : 1 ≤ r) (h4 : r ≤ 4) : ∃ m', m' < D.length + 1 + 4 * (k + 1) ∧ Dfs n m' (D ++ List.replicate r k) (lev n (k + 1)) false := by
  obtain ⟨q, rfl⟩ : ∃ q, r = q + 1 := ⟨r - 1, by omega⟩
  refine ⟨(D ++ List.replicate q k).length + 1 + 4 * k, ?_, .inl ⟨k, D ++ List.replicate q k, by omega, ?_, ?_, rfl, rfl, rfl, ?_⟩⟩
  · rw [List.length_append, List.length_replicate]
    omega
  · rw [List.replicate_succ', List.append_assoc]
  · intro d hd
    rcases List.mem_append.mp hd with hd | hd
    · have := hD d hd
      omega
    · rw [(List.mem_replicate.mp hd).2]
      omega
  · rw [List.length_append, List.length_replicate]
    omega
section
variable {P : Program} {w : World} {K : PySem.W.Frag} {mg : Str → Option Value} {base : Heap} {eB eT eBf eTf : Addr}
def spSizeOf (D : Ad) : Sp := fun vs H Q _ => ∃ (t g : Addr) (p : Par) (A : SA) (cs : List Ch) (c : Ch), vs = [.ref t, .int (num cs c)] ∧ StoreAt D p H t g A cs ∧ c ∈ cs ∧ Q (.int (p.siz c)) H
theorem ok_size_of (T : Txt K P mg D eB eT eBf eTf) : FnOk P w K mg base CX0 1 D.a_Terms_size_of D.d_Terms_size_of ["self", "term"] (spSizeOf D) := by
  refine T.F_Terms_size_of.ok sc_Terms_size_of (fun vs H Q E h => ?_) (fun cdv AA outer s H vs Q E hr h => ?_)
  · obtain ⟨t, g, p, A, cs, c, rfl, _⟩ := h
    rfl
  · obtain ⟨t, g, p, A, cs, c, rfl, hS, hc, k⟩ := h
    obtain ⟨dx, tx, h0⟩ := hS.ob
    refine ⟨_, PSs.nox (pss_one (ps_ret (pe_ix ix_list (pe_fld (pv 0) rfl) (pv 1) (fun _ _ => rfl)))), ?_⟩
    exact ⟨_, rfl, t, D.c_Terms, dx, _, _, rfl, h0, T.cl_Terms, T.n_Terms__sizes, rfl, _, rfl, A.si, _, _, _, rfl, rfl, SqL.of hS.si, atI_nat (hS.size_at hc), k⟩
def spLettersOf (D : Ad) : Sp := fun vs H Q _ => ∃ (t g : Addr) (p : Par) (A : SA) (cs : List Ch) (c : Ch), vs = [.ref t, .int (num cs c)] ∧ StoreAt D p H t g A cs ∧ c ∈ cs ∧ ∀ a, H a = some (.tup [.str p.L]) → Q (.ref a) H
theorem ok_letters_of (T : Txt K P mg D eB eT eBf eTf) : FnOk P w K mg base CX0 1 D.a_Terms_letters_of D.d_Terms_letters_of ["self", "term"] (spLettersOf D) := by
  refine T.F_Terms_letters_of.ok sc_Terms_letters_of (fun vs H Q E h => ?_) (fun cdv AA outer s H vs Q E hr h => ?_)
  · obtain ⟨t, g, p, A, cs, c, rfl, _⟩ := h
    rfl
  · obtain ⟨t, g, p, A, cs, c, rfl, hS, hc, k⟩ := h
    obtain ⟨dx, tx, h0⟩ := hS.ob
    obtain ⟨ls, a, hl, ha, hb⟩ := hS.let_at hc
    refine ⟨_, PSs.nox (pss_one (ps_ret (pe_ix ix_list (pe_fld (pv 0) rfl) (pv 1) (fun _ _ => rfl)))), ?_⟩
    exact ⟨_, rfl, t, D.c_Terms, dx, _, _, rfl, h0, T.cl_Terms, T.n_Terms__letters, rfl, _, rfl, A.le, _, _, _, rfl, rfl, SqL.of hl, atI_nat ha, k a hb⟩
def spFirst (D : Ad) : Sp := fun vs H Q _ => ∃ (t g : Addr) (p : Par) (A : SA) (cs : List Ch) (c : Ch), vs = [.ref t, .int (num cs c)] ∧ p.Ok ∧ StoreAt D p H t g A cs ∧ c ∈ cs ∧ c.length ≤ 20000 ∧ ∀ a H', Same H H' → H' a = some (.tup [.str p.L]) → Q (.ref a) H'
theorem ok_first (T : Txt K P mg D eB eT eBf eTf) : FnOk P w K mg base CX0 1 D.a_Terms_first_letters_of D.d_Terms_first_letters_of ["self", "term"] (spFirst D) := by
  obtain ⟨tC, hC⟩ := T.G.cap
  refine T.F_Terms_first_letters_of.ok sc_Terms_first_letters_of (fun vs H Q E h => ?_) (fun cdv AA outer s H vs Q E hr h => ?_)
  · obtain ⟨t, g, p, A, cs, c, rfl, _⟩ := h
    rfl
  · obtain ⟨t, g, p, A, cs, c, rfl, hp, hS, hc, hlen, k⟩ := h
    have hu := hu_of hr
    have nd := sc_Terms_first_letters_of.nd
    refine ⟨_, PSs.nox (pss_cons (ps_set (i := 2) nd rfl (Or.inl rfl) pe_dnewK) (pss_cons (ps_set (i := 3) nd rfl (Or.inl rfl) (pe_lst pa_nil)) (pss_cons (ps_set (i := 4) nd rfl (Or.inl rfl) (pe_lst (pa_cons (pv 1) pa_nil)))
      (pss_cons (ps_while PassesOwn.never (pt_truth (pv 4) (by intro _; rfl))
        (pss_cons (ps_set (i := 5) nd rfl (Or.inl rfl) (pe_bm0 PySem.F.plainAttrs_list PySem.F.slot_list_pop PySem.F.type_list_pop mt_pop (pv 4)))
        (pss_one (ps_if (pt_cmp (pc_dnotin hu (pv 5) (pv 2)))
          (pss_cons (ps_dput hu (pv 2) (pv 5) pe_bl rfl)
          (pss_cons (ps_if (pt_cmpR op_in_sign (pe_ix ix_str (pe_ix ix_list (pe_fld (pv 0) rfl) (pv 5) (fun _ _ => rfl)) pe_int (fun _ _ => rfl)) (pgS hC) (by rfl))
            (pss_one (ps_expr (pe_bm PySem.F.plainAttrs_list PySem.F.slot_list_append PySem.F.type_list_append mt_append (pv 3) (pa_cons (pe_ix ix_list (pe_fld (pv 0) rfl) (pv 5) (fun _ _ => rfl)) pa_nil)))) pss_nil)
          (pss_one (ps_expr (pe_bm PySem.F.plainAttrs_list PySem.F.slot_list_extend PySem.F.type_list_extend mt_extend (pv 4) (pa_cons (pe_listRev rfl (by rfl) T.list' (by rfl) T.reversed (pe_ix ix_list (pe_fld (pv 0) rfl) (pv 5) (fun _ _ => rfl))) pa_nil))))))
          pss_nil))))
      (pss_one (ps_ret (pe_callTy call_tuple_of (by rfl) T.tuple (by decide +kernel) (pa_cons (pv 3) pa_nil)))))))), ?_⟩
    obtain ⟨dx, tx, h0⟩ := hS.ob
    refine fun se ne => ⟨Nat.zero_le _, fun fo nf => ⟨_, rfl, (by show 1 ≤ sizeLine; decide), fun du nu => ?_⟩⟩
    rw [upd_none] at nf
    rw [upd_none, upd_none] at nu
    obtain ⟨n1, nf⟩ := nf
    obtain ⟨n2, n3, nu⟩ := nu
    refine ⟨fun m σ H' => ∃ ds S b v, σ = [some (.ref t), some (.int (num cs c)), some (.ref se), some (.ref fo), some (.ref du), v] ∧ Same H H' ∧ H' du = some (.lst (lv (nm cs c) ds)) ∧ H' se = some (.dK (seenK (nm cs c) S)) ∧ H' fo = some (.lst (if b then [.str p.L] else [])) ∧ Dfs c.length m ds S b,
      ⟨_, [c.length], [], false, none, rfl, Same.new' (Same.new' (Same.new ne) nf) nu, ?_, ?_, ?_, .inl ⟨c.length, [], Nat.le_refl _, rfl, fun _ h => absurd h (List.not_mem_nil), lev_top.symm, rfl, rfl, by simp⟩⟩, ?_⟩
    · rw [upd_same, lv, List.map_singleton, nm_top]
    · rw [upd_ne (Ne.symm n3), upd_ne (Ne.symm n1), upd_same]; rfl
    · rw [upd_ne (Ne.symm n2), upd_same]; rfl
    · rintro m σ H' ⟨ds, S, b, v, rfl, s1, hdu, hse, hfo, dfs⟩
      have S1 := hS.same s1
      have h01 := s1 _ _ h0
      have nse : se ≠ du := ne_of hse hdu nofun
      have nsf : se ≠ fo := ne_of hse hfo nofun
      refine ⟨_, rfl, !(lv (nm cs c) ds).isEmpty, .inl ⟨_, SqL.of hdu, rfl⟩, ?_⟩
      rcases dfs with ⟨k', D', hk, rfl, hD, rfl, rfl, rfl, hlD⟩ | ⟨hD, rfl, rfl, rfl⟩
      · refine ifT (by rw [lv_app]; simp [lv]) ⟨_, fun _ _ q => q, ?_⟩
        have hdrop : (lv (nm cs c) (D' ++ [k'])).dropLast = lv (nm cs c) D' := lv_drop
        refine ⟨_, rfl, .inl ⟨rfl, _, SqL.of hdu⟩, du, _, _, rfl, rfl, hdu, lv_last, ?_⟩
        rw [hdrop]
        have inj : ∀ j ∈ lev c.length (k' + 1), nm cs c j = nm cs c k' → j = k' := fun j hj e => nm_inj hS.clo hc (lev_mem.mp hj).2 hk e
        have nin : k' ∉ lev c.length (k' + 1) := fun h => by have := lev_mem.mp h; omega
        refine ⟨_, rfl, _, rfl, se, _, rfl, DGet.k (k := Sum.inl (nm cs c k')) (by rw [upd_ne nse]; exact hse), _, rfl, ?_⟩
        rw [seen_val inj, if_neg nin]
        have hc' := hS.clo.take hc k'
        have lS : (seenK (nm cs c) (lev c.length (k' + 1))).length < sizeLine := by
          unfold seenK lev
          rw [List.length_map, List.length_reverse, List.length_range']
          have h : (16777216 : Nat) = sizeLine := rfl
          omega
        refine ifT rfl ⟨_, rfl, _, rfl, se, _, rfl, DPut.k (k := Sum.inl (nm cs c k')) (by rw [upd_ne nse]; exact hse) lS, ?_⟩
        rw [seen_put inj nin, ← lev_succ hk]
        have s2 : Same H (upd (upd H' du (.lst (lv (nm cs c) D'))) se (.dK (seenK (nm cs c) (lev c.length k')))) := Same.new' (Same.new' s1 nu) ne
        have S2 := hS.same s2
        have wat := S2.word_at hc'
        obtain ⟨x0, hx0, hcap⟩ := hp.word0 (c.take k')
        refine ⟨_, rfl, t, D.c_Terms, dx, _, _, rfl, s2 _ _ h0, T.cl_Terms, T.n_Terms__words, rfl, _, rfl, A.wo, _, _, _, rfl, rfl, SqL.of S2.wo, atI_nat wat, p.word (c.take k'), 0, x0, rfl, rfl, Nat.le_trans (hp.lenW _) (by decide), atI_nat (j := 0) hx0, x0, cCap, rfl, rfl, _, rfl, ?_⟩
        cases k' with
        | zero =>
          rw [List.take_zero] at hcap
          refine ifT hcap ?_
          refine ⟨_, rfl, .inl ⟨rfl, _, SqL.of (by rw [upd_ne (Ne.symm nsf), upd_ne (Ne.symm n2)]; exact hfo)⟩, _, rfl, t, D.c_Terms, dx, _, _, rfl, s2 _ _ h0, T.cl_Terms, T.n_Terms__words, rfl, _, rfl, A.wo, _, _, _, rfl, rfl, SqL.of S2.wo, atI_nat wat, fo, _, _, rfl, rfl, (by rw [upd_ne (Ne.symm nsf), upd_ne (Ne.symm n2)]; exact hfo), (by show 0 < sizeLine; decide), ?_⟩
          have s3 := Same.new' s2 nf (o := .lst ([] ++ [.str (p.word [])]))
          have S3 := hS.same s3
          obtain ⟨ps, a, hpa, hat, hta⟩ := S3.part_at hc'
          refine ⟨_, rfl, .inl ⟨rfl, _, SqL.of (by rw [upd_ne n2, upd_ne (Ne.symm nse), upd_same])⟩, _, rfl, t, D.c_Terms, dx, _, _, rfl, s3 _ _ h0, T.cl_Terms, T.n_Terms__parts, rfl, _, rfl, A.pa, _, _, _, rfl, rfl, SqL.of hpa, atI_nat hat, a, _, rfl, .inr (SqT.of hta), fun q hq => ?_⟩
          rw [upd_none, upd_none, upd_none] at hq
          obtain ⟨q1, q2, q3, hq⟩ := hq
          refine ⟨du, q, _, _, rfl, rfl, (by rw [upd_ne (Ne.symm q3), upd_ne n2, upd_ne (Ne.symm nse), upd_same]), upd_same, ?_, ?_⟩
          · have : (lv (nm cs c) D').length ≤ 16777216 := by
              unfold lv
              rw [List.length_map]
              omega
            exact this
          · refine ⟨D'.length, by omega, D', lev c.length 0, true, _, rfl, Same.new' (Same.new' s3 (s1.free hq)) nu, ?_, ?_, ?_, .inr ⟨fun d hd => (hD d hd).2, rfl, rfl, rfl⟩⟩
            · rw [upd_same, List.take_zero, parts_nil, List.reverse_nil, List.append_nil]
            · rw [upd_ne nse, upd_ne (Ne.symm q2), upd_ne nsf, upd_same]
            · rw [upd_ne (Ne.symm n2), upd_ne (Ne.symm q1), upd_same]
              rfl
        | succ k' =>
          have hk' : k' < c.length := hk
          have : capC x0 = false := by
            rw [hcap, take_snoc' hk']
            cases c.take k' <;> rfl
          refine ifF this ?_
          obtain ⟨ps, a, hpa, hat, hta⟩ := S2.part_at hc'
          refine ⟨_, rfl, .inl ⟨rfl, _, SqL.of (by rw [upd_ne (Ne.symm nse), upd_same])⟩, _, rfl, t, D.c_Terms, dx, _, _, rfl, s2 _ _ h0, T.cl_Terms, T.n_Terms__parts, rfl, _, rfl, A.pa, _, _, _, rfl, rfl, SqL.of hpa, atI_nat hat, a, _, rfl, .inr (SqT.of hta), fun q hq => ?_⟩
          rw [upd_none, upd_none] at hq
          obtain ⟨q2, q3, hq⟩ := hq
          rw [parts_take hk', List.reverse_replicate]
          refine ⟨du, q, _, _, rfl, rfl, (by rw [upd_ne (Ne.symm q3), upd_ne (Ne.symm nse), upd_same]), upd_same, ?_, ?_⟩
          · have h4 := hp.arr4 c[k']
            have : (lv (nm cs c) D').length + (List.replicate (p.arr c[k']) (V.int (nm cs c k'))).length ≤ 16777216 := by
              unfold lv
              rw [List.length_map, List.length_replicate]
              omega
            exact this
          · obtain ⟨m', hm', hd'⟩ := Dfs.down hk (fun d hd => hD d hd) hlD (hp.arr1 c[k']) (hp.arr4 c[k'])
            refine ⟨m', hm', _, _, false, _, rfl, Same.new' (Same.new' s2 (s1.free hq)) nu, ?_, ?_, ?_, hd'⟩
            · rw [upd_same, lv_app, lv_rep]
            · rw [upd_ne nse, upd_ne (Ne.symm q2), upd_same]
            · rw [upd_ne (Ne.symm n2), upd_ne (fun e => ne_of_none hfo (by rw [e]; exact hq) rfl), upd_ne (Ne.symm nsf), upd_ne (Ne.symm n2), hfo]
      · rcases List.eq_nil_or_concat ds with rfl | ⟨D', d, rfl⟩
        · refine ifF rfl ⟨_, rfl, fo, _, rfl, .inl ⟨SqL.of hfo, fun a na => k a _ (Same.new' s1 (s1.free na)) upd_same⟩⟩
        · rw [List.concat_eq_append] at *
          refine ifT (by rw [lv_app]; simp [lv]) ⟨_, fun _ _ q => q, ?_⟩
          have hdrop : (lv (nm cs c) (D' ++ [d])).dropLast = lv (nm cs c) D' := lv_drop
          have hd := hD d (List.mem_append_right _ (List.mem_singleton.mpr rfl))
          refine ⟨_, rfl, .inl ⟨rfl, _, SqL.of hdu⟩, du, _, _, rfl, rfl, hdu, lv_last, ?_⟩
          rw [hdrop]
          refine ⟨_, rfl, _, rfl, se, _, rfl, DGet.k (k := Sum.inl (nm cs c d)) (by rw [upd_ne nse]; exact hse), _, rfl, ?_⟩
          rw [seen_val (fun j hj e => nm_inj hS.clo hc (lev_mem.mp hj).2 hd e), if_pos (lev_mem.mpr ⟨Nat.zero_le _, hd⟩)]
          refine ifF rfl ⟨D'.length, by rw [List.length_append, List.length_singleton]; omega, D', _, true, _, rfl, Same.new' s1 nu, upd_same, by rw [upd_ne nse]; exact hse, by rw [upd_ne (Ne.symm n2)]; exact hfo, .inr ⟨fun e he => hD e (List.mem_append_left _ he), rfl, rfl, rfl⟩⟩
end
end R87

/-! ## Touch87 -/
set_option maxHeartbeats 4000000
namespace R87
open PySem PySem.Spec PyProof.Rows L2
variable {D : Ad} {p : Par} {H H' : Hp} {t g : Addr} {A : SA} {cs : List Ch}
theorem touched_sorted (h : Clo cs) {c : Ch} (hc : c ∈ cs) {ns : List Int} (hp : ns.Perm ((lev c.length 0).map (nm cs c))) (hs : ns.Pairwise (· ≤ ·)) : ns = (List.range (c.length + 1)).map (nm cs c) := by
  refine List.Perm.eq_of_pairwise (le := (· ≤ ·)) (fun x y _ _ h1 h2 => Int.le_antisymm h1 h2) hs ?_ (hp.trans ?_)
  · rw [List.pairwise_map]
    refine List.Pairwise.imp_of_mem ?_ List.pairwise_lt_range
    intro a b ha hb hab
    have := h.take_lt' hc (j := a) (k := b) (by have := List.mem_range.mp hb; omega) hab
    unfold nm
    omega
  · refine List.Perm.map _ ?_
    unfold lev
    rw [Nat.sub_zero, List.range_eq_range']
    exact List.reverse_perm _
section
variable {P : Program} {w : World} {K : PySem.W.Frag} {mg : Str → Option Value} {base : Heap} {eB eT eBf eTf : Addr}
def spTouched (D : Ad) : Sp := fun vs H Q _ => ∃ (t g fl : Addr) (p : Par) (A : SA) (cs : List Ch) (c : Ch) (x : V), vs = [.ref t, .int (num cs c), .ref fl] ∧ p.Ok ∧ StoreAt D p H t g A cs ∧ c ∈ cs ∧ c.length ≤ 20000 ∧ H fl = some (.dK [(.inr p.L, x)]) ∧
  ∀ a H', Same H H' → H a = none → H' a = some (.lst (lv (nm cs c) (List.range (c.length + 1)))) → Q (.ref a) H'
theorem ok_touched (T : Txt K P mg D eB eT eBf eTf) : FnOk P w K mg base CX0 1 D.a_Terms_touched D.d_Terms_touched ["self", "term", "filling"] (spTouched D) := by
  refine T.F_Terms_touched.ok sc_Terms_touched (fun vs H Q E h => ?_) (fun cdv AA outer s H vs Q E hr h => ?_)
  · obtain ⟨t, g, fl, p, A, cs, c, x, rfl, _⟩ := h
    rfl
  · obtain ⟨t, g, fl, p, A, cs, c, x, rfl, hp, hS, hc, hlen, hfl, k⟩ := h
    have hu := hu_of hr
    have nd := sc_Terms_touched.nd
    refine ⟨_, PSs.nox (pss_cons (ps_set (i := 3) nd rfl (Or.inl rfl) pe_dnewK) (pss_cons (ps_set (i := 4) nd rfl (Or.inl rfl) (pe_lst (pa_cons (pv 1) pa_nil)))
      (pss_cons (ps_while PassesOwn.never (pt_truth (pv 4) (by intro _; rfl))
        (pss_cons (ps_set (i := 5) nd rfl (Or.inl rfl) (pe_bm0 PySem.F.plainAttrs_list PySem.F.slot_list_pop PySem.F.type_list_pop mt_pop (pv 4)))
        (pss_one (ps_if (PW.pt (pw_and (pt_cmp (pc_dnotin hu (pv 5) (pv 3))) (pw_and1 (pt_val (pe_callB (cr_any rfl) (by rfl) T.any' (by decide +kernel) (pa_cons
            (pe_lc (own := [("letter", 6)]) (g := gName 6) (tt := tYes) rfl nd (pi_tup (pe_ix ix_list (pe_fld (pv 0) rfl) (pv 5) (fun _ _ => rfl))) (blkOk_by (N := N_Terms_touched) (sc := defScope s_Terms_touched) (by decide +kernel)) (fun _ _ _ _ _ => pg_name (i := 6) nd rfl (Or.inl rfl)) (fun _ _ _ _ _ => pts_nil)
              (fun _ _ _ _ _ => pe_cmp (pc_din hu (pv 6) (pv 2)) rfl)) pa_nil))))))
          (pss_cons (ps_dput hu (pv 3) (pv 5) pe_bl rfl)
          (pss_one (ps_expr (pe_bm PySem.F.plainAttrs_list PySem.F.slot_list_extend PySem.F.type_list_extend mt_extend (pv 4) (pa_cons (pe_callTy call_list_of (by rfl) T.list' (by decide +kernel) (pa_cons (pe_ix ix_list (pe_fld (pv 0) rfl) (pv 5) (fun _ _ => rfl)) pa_nil)) pa_nil)))))
          pss_nil))))
      (pss_one (ps_ret (pe_callB cr_sortedI (by rfl) T.sorted (by decide +kernel) (pa_cons (pe_callTy (call_list_dK rfl) (by rfl) T.list' (by decide +kernel) (pa_cons (pv 3) pa_nil)) pa_nil))))))), ?_⟩
    obtain ⟨dx, tx, h0⟩ := hS.ob
    refine fun se ne => ⟨_, rfl, (by show 1 ≤ sizeLine; decide), fun du nu => ?_⟩
    rw [upd_none] at nu
    obtain ⟨n2, nu⟩ := nu
    refine ⟨fun m σ H' => ∃ ds S b v, σ = [some (.ref t), some (.int (num cs c)), some (.ref fl), some (.ref se), some (.ref du), v, none] ∧ Same H H' ∧ H' du = some (.lst (lv (nm cs c) ds)) ∧ H' se = some (.dK (seenK (nm cs c) S)) ∧ Dfs c.length m ds S b,
      ⟨_, [c.length], [], false, none, rfl, Same.new' (Same.new ne) nu, ?_, ?_, .inl ⟨c.length, [], Nat.le_refl _, rfl, fun _ h => absurd h (List.not_mem_nil), lev_top.symm, rfl, rfl, by simp⟩⟩, ?_⟩
    · rw [upd_same, lv, List.map_singleton, nm_top]
    · rw [upd_ne (Ne.symm n2), upd_same]; rfl
    · rintro m σ H' ⟨ds, S, b, v, rfl, s1, hdu, hse, dfs⟩
      have h01 := s1 _ _ h0
      have nse : se ≠ du := ne_of hse hdu nofun
      refine ⟨_, rfl, !(lv (nm cs c) ds).isEmpty, .inl ⟨_, SqL.of hdu, rfl⟩, ?_⟩
      rcases dfs with ⟨k', D', hk, rfl, hD, rfl, rfl, rfl, hlD⟩ | ⟨hD, rfl, rfl, rfl⟩
      · refine ifT (by rw [lv_app]; simp [lv]) ⟨_, fun _ _ q => q, ?_⟩
        have hdrop : (lv (nm cs c) (D' ++ [k'])).dropLast = lv (nm cs c) D' := lv_drop
        refine ⟨_, rfl, .inl ⟨rfl, _, SqL.of hdu⟩, du, _, _, rfl, rfl, hdu, lv_last, ?_⟩
        rw [hdrop]
        have inj : ∀ j ∈ lev c.length (k' + 1), nm cs c j = nm cs c k' → j = k' := fun j hj e => nm_inj hS.clo hc (lev_mem.mp hj).2 hk e
        have nin : k' ∉ lev c.length (k' + 1) := fun h => by have := lev_mem.mp h; omega
        refine ⟨_, rfl, _, rfl, se, _, rfl, DGet.k (k := Sum.inl (nm cs c k')) (by rw [upd_ne nse]; exact hse), _, rfl, ?_⟩
        rw [seen_val inj, if_neg nin]
        have hc' := hS.clo.take hc k'
        have lS : (seenK (nm cs c) (lev c.length (k' + 1))).length < sizeLine := by
          unfold seenK lev
          rw [List.length_map, List.length_reverse, List.length_range']
          have h : (16777216 : Nat) = sizeLine := rfl
          omega
        have s2 : Same H (upd H' du (.lst (lv (nm cs c) D'))) := Same.new' s1 nu
        have S2 := hS.same s2
        obtain ⟨ls, la, hls, hla, hlb⟩ := S2.let_at hc'
        refine ifT rfl ⟨_, rfl, t, D.c_Terms, dx, _, _, rfl, s2 _ _ h0, T.cl_Terms, T.n_Terms__letters, rfl, _, rfl, A.le, _, _, _, rfl, rfl, SqL.of hls, atI_nat hla, la, rfl, ⟨_, SqT.of hlb⟩, fun D1 nD1 => lc_tup (K := K) (a := la) (xs := [.str p.L]) (fun i Hx => ∃ ys, Hx = upd (upd H' du (.lst (lv (nm cs c) D'))) D1 (.lst ys) ∧ ys = if i = 0 then [] else [.bl true]) ⟨[], rfl, rfl⟩ (fun i Hx _ ⟨ys, e, _⟩ => by rw [e]; exact (Same.new nD1).seqT (SqT.of hlb)) ?_ ?_⟩
        · rintro i y Hx hi ⟨ys, rfl, e⟩
          match i, hi with
          | 0, hi =>
            cases hi
            refine ⟨rfl, _, rfl, _, rfl, fl, _, rfl, DGet.k (k := Sum.inr p.L) ((Same.new nD1) _ _ (s2 _ _ hfl)), ?_⟩
            rw [valV_pos rfl]
            exact ⟨ys, upd_same, by rw [e]; decide, _, upd_upd, by rw [e]; rfl⟩
          | j + 1, hi => exact absurd hi (by simp)
        · rintro Hx ⟨ys, rfl, e⟩
          subst e
          have s3 : Same H (upd (upd H' du (.lst (lv (nm cs c) D'))) D1 (.lst [.bl true])) := Same.new' s2 (s2.free nD1)
          rw [upd_none] at nD1
          obtain ⟨d1, nD1⟩ := nD1
          have nsd : se ≠ D1 := ne_of_none hse nD1
          refine ⟨D1, [true], rfl, SqL.of upd_same, _, rfl, ifT rfl ?_⟩
          refine ⟨_, rfl, _, rfl, se, _, rfl, DPut.k (k := Sum.inl (nm cs c k')) (by rw [upd_ne nsd, upd_ne nse]; exact hse) lS, ?_⟩
          rw [seen_put inj nin, ← lev_succ hk]
          have s4 := Same.new' s3 ne (o := .dK (seenK (nm cs c) (lev c.length k')))
          have S4 := hS.same s4
          obtain ⟨ps, a, hpa, hat, hta⟩ := S4.part_at hc'
          refine ⟨_, rfl, .inl ⟨rfl, _, SqL.of (by rw [upd_ne (Ne.symm nse), upd_ne (Ne.symm d1), upd_same])⟩, _, rfl, t, D.c_Terms, dx, _, _, rfl, s4 _ _ h0, T.cl_Terms, T.n_Terms__parts, rfl, _, rfl, A.pa, _, _, _, rfl, rfl, SqL.of hpa, atI_nat hat, a, _, rfl, .inr (SqT.of hta), fun q hq => ?_⟩
          rw [upd_none, upd_none, upd_none] at hq
          obtain ⟨q1, q2, q3, hq⟩ := hq
          refine ⟨du, q, _, _, rfl, rfl, (by rw [upd_ne (Ne.symm q3), upd_ne (Ne.symm nse), upd_ne (Ne.symm d1), upd_same]), upd_same, ?_, ?_⟩
          · have h4 := parts_len (p := p) (cs := cs) hp (c.take k')
            have : (lv (nm cs c) D').length + (partsOf p cs (c.take k')).length ≤ 16777216 := by
              unfold lv
              rw [List.length_map]
              omega
            exact this
          · cases k' with
            | zero =>
              refine ⟨D'.length, by omega, D', lev c.length 0, true, _, rfl, Same.new' (Same.new' s4 (s1.free hq)) nu, ?_, ?_, .inr ⟨fun d hd => (hD d hd).2, rfl, rfl, rfl⟩⟩
              · rw [upd_same, List.take_zero, parts_nil, List.append_nil]
              · rw [upd_ne nse, upd_ne (Ne.symm q1), upd_same]
            | succ k' =>
              have hk' : k' < c.length := hk
              rw [parts_take hk']
              obtain ⟨m', hm', hd'⟩ := Dfs.down hk (fun d hd => hD d hd) hlD (hp.arr1 c[k']) (hp.arr4 c[k'])
              refine ⟨m', hm', _, _, false, _, rfl, Same.new' (Same.new' s4 (s1.free hq)) nu, ?_, ?_, hd'⟩
              · rw [upd_same, lv_app, lv_rep]
              · rw [upd_ne nse, upd_ne (Ne.symm q1), upd_same]
      · rcases List.eq_nil_or_concat ds with rfl | ⟨D', d, rfl⟩
        · refine ifF rfl ⟨_, rfl, se, _, rfl, hse, fun a na => ⟨a, (lev c.length 0).map (nm cs c), rfl, SqL.of ?_, fun ns r hp' hs' nr => ?_⟩⟩
          · rw [upd_same]
            congr 1
            unfold seenK
            rw [List.map_map, List.map_map]
            rfl
          · rw [touched_sorted hS.clo hc hp' hs']
            have s5 : Same H (upd H' a (.lst ((seenK (nm cs c) (lev c.length 0)).map fun kv => kV kv.1))) := Same.new' s1 (s1.free na)
            refine k r _ (Same.new' s5 (s5.free nr)) (s5.free nr) ?_
            rw [upd_same]
            congr 1
            unfold lv
            rw [List.map_map]
            rfl
        · rw [List.concat_eq_append] at *
          refine ifT (by rw [lv_app]; simp [lv]) ⟨_, fun _ _ q => q, ?_⟩
          have hdrop : (lv (nm cs c) (D' ++ [d])).dropLast = lv (nm cs c) D' := lv_drop
          have hd := hD d (List.mem_append_right _ (List.mem_singleton.mpr rfl))
          refine ⟨_, rfl, .inl ⟨rfl, _, SqL.of hdu⟩, du, _, _, rfl, rfl, hdu, lv_last, ?_⟩
          rw [hdrop]
          refine ⟨_, rfl, _, rfl, se, _, rfl, DGet.k (k := Sum.inl (nm cs c d)) (by rw [upd_ne nse]; exact hse), _, rfl, ?_⟩
          rw [seen_val (fun j hj e => nm_inj hS.clo hc (lev_mem.mp hj).2 hd e), if_pos (lev_mem.mpr ⟨Nat.zero_le _, hd⟩)]
          refine ifF rfl (ifF rfl ⟨D'.length, by rw [List.length_append, List.length_singleton]; omega, D', _, true, _, rfl, Same.new' s1 nu, upd_same, by rw [upd_ne nse]; exact hse, .inr ⟨fun e he => hD e (List.mem_append_left _ he), rfl, rfl, rfl⟩⟩)
end
end R87

/-! ## Write87 -/
set_option maxHeartbeats 4000000
namespace R87
open PySem PySem.Spec PyProof.Rows L2
variable {D : Ad} {p : Par} {H H' : Hp} {t g : Addr} {A : SA} {cs : List Ch}
/-- the words that a pile of levels still owes -/
def owes (f : Nat → List Str) (ds : List Nat) : List Str := (ds.reverse.map f).flatten
theorem owes_snoc {f : Nat → List Str} {D : List Nat} {k : Nat} : owes f (D ++ [k]) = f k ++ owes f D := by
  unfold owes
  rw [List.reverse_append]
  rfl
theorem owes_rep {f : Nat → List Str} {D : List Nat} {r k : Nat} : owes f (D ++ List.replicate r k) = (List.replicate r (f k)).flatten ++ owes f D := by
  unfold owes
  rw [List.reverse_append, List.reverse_replicate, List.map_append, List.flatten_append, List.map_replicate]
theorem owes_len {f : Nat → List Str} (h : ∀ j, 1 ≤ (f j).length) (ds : List Nat) : ds.length ≤ (owes f ds).length := by
  unfold owes
  rw [← List.length_reverse]
  induction ds.reverse with
  | nil => exact Nat.zero_le _
  | cons k l ih =>
    rw [List.map_cons, List.flatten_cons, List.length_append, List.length_cons]
    have := h k
    omega
theorem Par.wds_pos {c : Ch} : 1 ≤ (p.wds c).length := by
  have h1 := Par.wds_len (p := p) c
  have h2 := Par.siz_pos (p := p) c
  omega
/-- the text of a term -/
def txt (p : Par) (c : Ch) : Str := Txt.join " " (p.wds c)
theorem sum_le {l : List Nat} {n : Nat} (h : ∀ x ∈ l, x ≤ n) : l.sum ≤ l.length * n := by
  induction l with
  | nil => simp
  | cons x l ih =>
    rw [List.sum_cons, List.length_cons, Nat.add_mul]
    have := ih fun y hy => h y (List.mem_cons_of_mem _ hy)
    have := h x (List.mem_cons_self ..)
    omega
section
variable {P : Program} {w : World} {K : PySem.W.Frag} {mg : Str → Option Value} {base : Heap} {eB eT eBf eTf : Addr}
def spWrite (D : Ad) (eT : Addr) : Sp := fun vs H Q E => ∃ (t g : Addr) (p : Par) (A : SA) (cs : List Ch) (c : Ch), vs = [.ref t, .int (num cs c)] ∧ p.Ok ∧ StoreAt D p H t g A cs ∧ c ∈ cs ∧
  (p.siz c ≤ 200 → ∀ H', Same H H' → Q (.str (txt p c)) H') ∧ (200 < p.siz c → ∀ d H', Same H H' → H d = none → H' d = some (.xd [("size", .int (p.siz c))]) → E (.ref eT) (some d) H')
theorem ok_write (T : Txt K P mg D eB eT eBf eTf) : FnOk P w K mg base (L2.CX P w) 1 D.a_Terms_write D.d_Terms_write ["self", "term"] (spWrite D eT) := by
  obtain ⟨tM, hM⟩ := T.mw
  refine T.F_Terms_write.ok sc_Terms_write (fun vs H Q E h => ?_) (fun cdv AA outer s H vs Q E hr h => ?_)
  · obtain ⟨t, g, p, A, cs, c, rfl, _⟩ := h
    rfl
  · obtain ⟨t, g, p, A, cs, c, rfl, hp, hS, hc, k, kE⟩ := h
    have nd := sc_Terms_write.nd
    refine ⟨_, pss_cons (ps_if (pt_cmpR op_gt (pe_ix ix_list (pe_fld (pv 0) rfl) (pv 1) (fun _ _ => rfl)) (pgI hM) (nomark _)) (pss_one (ps_raiseErr rfl T.large hr (takes_of rfl rfl rfl rfl) (pa_cons (pe_ix ix_list (pe_fld (pv 0) rfl) (pv 1) (fun _ _ => rfl)) pa_nil))) pss_nil)
      (PSs.nox (pss_cons (ps_set (i := 2) nd rfl (Or.inl rfl) (pe_lst pa_nil)) (pss_cons (ps_set (i := 3) nd rfl (Or.inl rfl) (pe_lst (pa_cons (pv 1) pa_nil)))
      (pss_cons (ps_while PassesOwn.never (pt_truth (pv 3) (by intro _; rfl))
        (pss_cons (ps_set (i := 4) nd rfl (Or.inl rfl) (pe_bm0 PySem.F.plainAttrs_list PySem.F.slot_list_pop PySem.F.type_list_pop mt_pop (pv 3)))
        (pss_cons (ps_expr (pe_bm PySem.F.plainAttrs_list PySem.F.slot_list_append PySem.F.type_list_append mt_append (pv 2) (pa_cons (pe_ix ix_list (pe_fld (pv 0) rfl) (pv 4) (fun _ _ => rfl)) pa_nil)))
        (pss_one (ps_expr (pe_bm PySem.F.plainAttrs_list PySem.F.slot_list_extend PySem.F.type_list_extend mt_extend (pv 3) (pa_cons (pe_listRev rfl (by rfl) T.list' (by rfl) T.reversed (pe_ix ix_list (pe_fld (pv 0) rfl) (pv 4) (fun _ _ => rfl))) pa_nil)))))))
      (pss_one (ps_ret (pe_join pe_str (pv 2)))))))), ?_⟩
    obtain ⟨dx, tx, h0⟩ := hS.ob
    refine ⟨_, rfl, t, D.c_Terms, dx, _, _, rfl, h0, T.cl_Terms, T.n_Terms__sizes, rfl, _, rfl, A.si, _, _, _, rfl, rfl, SqL.of hS.si, atI_nat (hS.size_at hc), _, _, rfl, rfl, _, rfl, ?_⟩
    refine ifC (fun h1 => ?_) (fun h1 => ?_)
    · have h2 : 200 < p.siz c := oT h1
      refine ⟨_, rfl, t, D.c_Terms, dx, _, _, rfl, h0, T.cl_Terms, T.n_Terms__sizes, rfl, _, rfl, A.si, _, _, _, rfl, rfl, SqL.of hS.si, atI_nat (hS.size_at hc), rfl, fun d nd => ?_⟩
      exact kE h2 d _ (Same.new nd) nd upd_same
    · have h2 : p.siz c ≤ 200 := by have := oF h1; omega
      have hwl : (p.wds c).length ≤ 200 := by have := Par.wds_len (p := p) c; omega
      refine ⟨Nat.zero_le _, fun wo nw => ⟨_, rfl, (by show 1 ≤ sizeLine; decide), fun du nu => ?_⟩⟩
      rw [upd_none] at nu
      obtain ⟨n2, nu⟩ := nu
      have fpos : ∀ j, 1 ≤ ((fun j => p.wds (c.take j)) j).length := fun j => Par.wds_pos
      refine ⟨fun m σ H' => ∃ ds ws v, σ = [some (.ref t), some (.int (num cs c)), some (.ref wo), some (.ref du), v] ∧ Same H H' ∧ H' du = some (.lst (lv (nm cs c) ds)) ∧ H' wo = some (.lst (ws.map V.str)) ∧ (∀ d ∈ ds, d ≤ c.length) ∧ ws ++ owes (fun j => p.wds (c.take j)) ds = p.wds c ∧ m = (owes (fun j => p.wds (c.take j)) ds).length,
        ⟨_, [c.length], [], none, rfl, Same.new' (Same.new nw) nu, ?_, ?_, fun d hd => by rw [List.mem_singleton.mp hd]; exact Nat.le_refl _, ?_, rfl⟩, ?_⟩
      · rw [upd_same, lv, List.map_singleton, nm_top]
      · rw [upd_ne (Ne.symm n2), upd_same]; rfl
      · unfold owes
        simp
      · rintro m σ H' ⟨ds, ws, v, rfl, s1, hdu, hwo, hD, heq, rfl⟩
        have nwd : wo ≠ du := Ne.symm n2
        refine ⟨_, rfl, !(lv (nm cs c) ds).isEmpty, .inl ⟨_, SqL.of hdu, rfl⟩, ?_⟩
        have hlw : ws.length + (owes (fun j => p.wds (c.take j)) ds).length ≤ 200 := by rw [← List.length_append, heq]; exact hwl
        have hld := owes_len fpos ds
        rcases List.eq_nil_or_concat ds with rfl | ⟨D', k', rfl⟩
        · have ew : ws = p.wds c := by
            rw [← heq]
            show ws = ws ++ []
            rw [List.append_nil]
          subst ew
          refine ifF rfl ⟨⟨_, rfl⟩, _, rfl, " ", wo, p.wds c, rfl, rfl, .inl (SqL.of hwo), ?_, k h2 H' s1⟩
          have q := sum_le (l := (p.wds c).map (·.length)) (n := 301) (by
            intro x hx
            obtain ⟨y, hy, rfl⟩ := List.mem_map.mp hx
            rcases Par.wds_mem hy with rfl | ⟨b, rfl⟩
            · exact hp.lenL
            · exact Nat.le_trans (hp.lenS b) (by decide))
          rw [List.length_map] at q
          have e1 : (" " : Str).length = 1 := rfl
          rw [e1]
          omega
        · rw [List.concat_eq_append] at *
          refine ifT (by rw [lv_app]; simp [lv]) ⟨_, fun _ _ q => q, ?_⟩
          have hdrop : (lv (nm cs c) (D' ++ [k'])).dropLast = lv (nm cs c) D' := lv_drop
          have hk := hD k' (List.mem_append_right _ (List.mem_singleton.mpr rfl))
          refine ⟨_, rfl, .inl ⟨rfl, _, SqL.of hdu⟩, du, _, _, rfl, rfl, hdu, lv_last, ?_⟩
          rw [hdrop]
          have hc' := hS.clo.take hc k'
          have s2 : Same H (upd H' du (.lst (lv (nm cs c) D'))) := Same.new' s1 nu
          have S2 := hS.same s2
          have wat := S2.word_at hc'
          refine ⟨_, rfl, .inl ⟨rfl, _, SqL.of (by rw [upd_ne nwd]; exact hwo)⟩, _, rfl, t, D.c_Terms, dx, _, _, rfl, s2 _ _ h0, T.cl_Terms, T.n_Terms__words, rfl, _, rfl, A.wo, _, _, _, rfl, rfl, SqL.of S2.wo, atI_nat wat, wo, _, _, rfl, rfl, (by rw [upd_ne nwd]; exact hwo), ?_, ?_⟩
          · have : (ws.map V.str).length < 16777216 := by rw [List.length_map]; omega
            exact this
          have ews : ws.map V.str ++ [V.str (p.word (c.take k'))] = (ws ++ [p.word (c.take k')]).map V.str := by rw [List.map_append]; rfl
          rw [ews]
          have s3 := Same.new' s2 nw (o := .lst ((ws ++ [p.word (c.take k')]).map V.str))
          have S3 := hS.same s3
          obtain ⟨ps, a, hpa, hat, hta⟩ := S3.part_at hc'
          refine ⟨_, rfl, .inl ⟨rfl, _, SqL.of (by rw [upd_ne n2, upd_same])⟩, _, rfl, t, D.c_Terms, dx, _, _, rfl, s3 _ _ h0, T.cl_Terms, T.n_Terms__parts, rfl, _, rfl, A.pa, _, _, _, rfl, rfl, SqL.of hpa, atI_nat hat, a, _, rfl, .inr (SqT.of hta), fun q hq => ?_⟩
          rw [upd_none, upd_none] at hq
          obtain ⟨q1, q2, hq⟩ := hq
          have hl4 := parts_len (p := p) (cs := cs) hp (c.take k')
          rw [owes_snoc, List.length_append] at hlw
          rw [List.length_append, List.length_singleton] at hld
          refine ⟨du, q, _, _, rfl, rfl, (by rw [upd_ne (Ne.symm q2), upd_ne n2, upd_same]), upd_same, ?_, ?_⟩
          · have : (lv (nm cs c) D').length + (partsOf p cs (c.take k')).reverse.length ≤ 16777216 := by
              unfold lv
              rw [List.length_map, List.length_reverse]
              have := owes_len fpos D'
              omega
            exact this
          · cases k' with
            | zero =>
              refine ⟨(owes (fun j => p.wds (c.take j)) D').length, ?_, D', ws ++ [p.word (c.take 0)], _, rfl, Same.new' (Same.new' s3 (s1.free hq)) nu, ?_, ?_, fun d hd => hD d (List.mem_append_left _ hd), ?_, rfl⟩
              · rw [owes_snoc, List.length_append]
                have : 1 ≤ (p.wds (c.take 0)).length := Par.wds_pos
                omega
              · rw [upd_same, List.take_zero, parts_nil, List.reverse_nil, List.append_nil]
              · rw [upd_ne nwd, upd_ne (Ne.symm q1), upd_same]
              · rw [← heq, owes_snoc, List.append_assoc]
                rfl
            | succ k' =>
              have hk' : k' < c.length := hk
              rw [parts_take hk', List.reverse_replicate]
              have ef : p.wds (c.take (k' + 1)) = p.word (c.take (k' + 1)) :: (List.replicate (p.arr c[k']) (p.wds (c.take k'))).flatten := by
                rw [take_snoc' hk', Par.wds_snoc, Par.word_snoc]
              refine ⟨_, ?_, D' ++ List.replicate (p.arr c[k']) k', ws ++ [p.word (c.take (k' + 1))], _, rfl, Same.new' (Same.new' s3 (s1.free hq)) nu, ?_, ?_, ?_, ?_, rfl⟩
              · rw [owes_snoc, owes_rep, List.length_append, List.length_append]
                show _ < (p.wds (c.take (k' + 1))).length + _
                rw [ef, List.length_cons]
                omega
              · rw [upd_same, lv_app, lv_rep]
              · rw [upd_ne nwd, upd_ne (Ne.symm q1), upd_same]
              · intro d hd
                rcases List.mem_append.mp hd with hd | hd
                · exact hD d (List.mem_append_left _ hd)
                · rw [(List.mem_replicate.mp hd).2]
                  omega
              · rw [← heq, owes_snoc, owes_rep, List.append_assoc]
                show ws ++ ([p.word (c.take (k' + 1))] ++ _) = ws ++ (p.wds (c.take (k' + 1)) ++ _)
                rw [ef]
                rfl
end
end R87

/-! ## Shared87 -/
set_option maxHeartbeats 4000000
namespace R87
open PySem PySem.Spec PyProof.Rows L2
variable {D : Ad} {p : Par} {H H' : Hp} {t g : Addr} {A : SA} {cs : List Ch}
/-- rows that stand as tuples -/
def RowsAt (H : Hp) (rs : List Addr) (rows : List (List V)) : Prop := rs.length = rows.length ∧ ∀ (i : Nat) (a : Addr) (r : List V), rs[i]? = some a → rows[i]? = some r → H a = some (.tup r)
theorem RowsAt.keep {rs : List Addr} {rows : List (List V)} (h : RowsAt H rs rows) (k : ∀ a xs, H a = some (.tup xs) → H' a = some (.tup xs)) : RowsAt H' rs rows := ⟨h.1, fun i a r e1 e2 => k _ _ (h.2 i a r e1 e2)⟩
theorem RowsAt.nil : RowsAt H [] [] := ⟨rfl, fun i a r e _ => by simp at e⟩
theorem RowsAt.snoc {rs : List Addr} {rows : List (List V)} {a : Addr} {r : List V} (h : RowsAt H rs rows) (e : H a = some (.tup r)) : RowsAt H (rs ++ [a]) (rows ++ [r]) := by
  refine ⟨by simp [h.1], fun i b q e1 e2 => ?_⟩
  by_cases hi : i < rs.length
  · rw [List.getElem?_append_left hi] at e1
    rw [List.getElem?_append_left (by rw [← h.1]; exact hi)] at e2
    exact h.2 i b q e1 e2
  · have hi2 := (List.getElem?_eq_some_iff.mp e1).1
    rw [List.length_append, List.length_singleton] at hi2
    obtain rfl : i = rs.length := by omega
    rw [List.getElem?_append_right (Nat.le_refl _), Nat.sub_self] at e1
    rw [h.1, List.getElem?_append_right (Nat.le_refl _), Nat.sub_self] at e2
    cases e1
    cases e2
    exact e
theorem mapK_val {f : Nat → Int} {v : Nat → V} {k : Nat} : ∀ {l : List Nat}, (∀ j ∈ l, f j = f k → j = k) → valV (l.map fun j => ((Sum.inl (f j) : Key), v j)) (.inl (f k)) = if k ∈ l then some (v k) else none
  | [], _ => rfl
  | j :: l, h => by
    rw [List.map_cons]
    by_cases e : j = k
    · subst e
      rw [valV_pos rfl, if_pos (List.mem_cons_self ..)]
    · have q := mapK_val (f := f) (v := v) (k := k) (l := l) fun i hi => h i (List.mem_cons_of_mem _ hi)
      rw [valV_neg (fun q => e (h j (List.mem_cons_self ..) (by injection q))), q]
      by_cases hm : k ∈ l
      · rw [if_pos hm, if_pos (List.mem_cons_of_mem _ hm)]
      · rw [if_neg hm, if_neg (fun z => by
          rcases List.mem_cons.mp z with z | z
          · exact e z.symm
          · exact hm z)]
/-- the places told so far -/
def plK (f : Nat → Int) (j : Nat) : List (Key × V) := (List.range j).map fun i => (Sum.inl (f i), V.int (i : Nat))
theorem plK_val {f : Nat → Int} {k j : Nat} (h : ∀ i, i < j → f i = f k → i = k) : valV (plK f j) (.inl (f k)) = if k < j then some (.int (k : Nat)) else none := by
  unfold plK
  rw [mapK_val (fun i hi => h i (List.mem_range.mp hi))]
  simp only [List.mem_range]
theorem plK_put {f : Nat → Int} {j : Nat} (h : ∀ i, i < j → f i = f j → i = j) : putK (plK f j) (.inl (f j)) (.int (j : Nat)) = plK f (j + 1) := by
  rw [putK_new _ (by rw [plK_val h, if_neg (Nat.lt_irrefl _)])]
  unfold plK
  rw [List.range_succ, List.map_append]
  rfl
theorem rowAt_succ {c : Ch} {k : Nat} (hk : k < c.length) : p.rowAt c (k + 1) = .str (p.sg c[k]) :: List.replicate (p.arr c[k]) (.int (k : Nat)) := by
  show p.row (c.getD k false) k = _
  rw [List.getD_eq_getElem?_getD, List.getElem?_eq_getElem hk]
  rfl
section
variable {P : Program} {w : World} {K : PySem.W.Frag} {mg : Str → Option Value} {base : Heap} {eB eT eBf eTf : Addr}
def spShared (D : Ad) : Sp := fun vs H Q _ => ∃ (t g : Addr) (p : Par) (A : SA) (cs : List Ch) (c : Ch), vs = [.ref t, .int (num cs c)] ∧ p.Ok ∧ StoreAt D p H t g A cs ∧ c ∈ cs ∧ c.length ≤ 20000 ∧
  ∀ a H' rs, Same H H' → H' a = some (.tup (rs.map V.ref)) → RowsAt H' rs (p.rows c) → Q (.ref a) H'
theorem ok_shared (T : Txt K P mg D eB eT eBf eTf) : FnOk P w K mg base CX0 1 D.a_Terms_shared D.d_Terms_shared ["self", "term"] (spShared D) := by
  refine T.F_Terms_shared.ok sc_Terms_shared (fun vs H Q E h => ?_) (fun cdv AA outer s H vs Q E hr h => ?_)
  · obtain ⟨t, g, p, A, cs, c, rfl, _⟩ := h
    rfl
  · obtain ⟨t, g, p, A, cs, c, rfl, hp, hS, hc, hlen, k⟩ := h
    have hu := hu_of hr
    have nd := sc_Terms_shared.nd
    refine ⟨_, PSs.nox (pss_cons (ps_set (i := 2) nd rfl (Or.inr rfl) pe_dnewK) (pss_cons (ps_set (i := 3) nd rfl (Or.inl rfl) (pe_lst pa_nil)) (pss_cons (ps_set (i := 4) nd rfl (Or.inl rfl) (pe_lst (pa_cons (pv 1) pa_nil)))
      (pss_cons (ps_while PassesOwn.never (pt_truth (pv 4) (by intro _; rfl))
        (pss_cons (ps_set (i := 5) nd rfl (Or.inl rfl) (pe_ix ix_list (pv 4) (pe_un un_neg pe_int) (fun _ _ => rfl)))
        (pss_cons (ps_setLc (i := 6) (own := [("part", 7)]) (g := gName 7) rfl nd rfl rfl (sw_true rfl rfl rfl (by decide +kernel)) (pi_tup (pe_ix ix_list (pe_fld (pv 0) rfl) (pv 5) (fun _ _ => rfl))) (blkOk_by (N := N_Terms_shared) (sc := defScope s_Terms_shared) (by decide +kernel)) (fun _ _ _ _ _ => pg_name (i := 7) nd rfl (Or.inl rfl))
            (fun _ _ _ _ _ => pts_one (pt_cmp (pc_dnotin hu (pv 7) (pv 2)))) (fun _ _ _ _ _ => pv 7))
        (pss_one (ps_if (pt_cmp (pc_din hu (pv 5) (pv 2)))
          (pss_one (ps_expr (pe_bm0 PySem.F.plainAttrs_list PySem.F.slot_list_pop PySem.F.type_list_pop mt_pop (pv 4))))
          (pss_one (ps_if (pt_truth (pv 6) (by intro _; rfl))
            (pss_one (ps_expr (pe_bm PySem.F.plainAttrs_list PySem.F.slot_list_append PySem.F.type_list_append mt_append (pv 4) (pa_cons (pe_ix ix_list (pv 6) pe_int (fun _ _ => rfl)) pa_nil))))
            (pss_cons (ps_expr (pe_bm0 PySem.F.plainAttrs_list PySem.F.slot_list_pop PySem.F.type_list_pop mt_pop (pv 4)))
            (pss_cons (ps_dput hu (pv 2) (pv 5) (pe_callB call_len_seq (by rfl) T.len PySem.boot_len (pa_cons (pv 3) pa_nil)) rfl)
            (pss_one (ps_expr (pe_bm PySem.F.plainAttrs_list PySem.F.slot_list_append PySem.F.type_list_append mt_append (pv 3) (pa_cons
              (pe_op op_catA (pe_tup (pa_cons (pe_ix ix_list (pe_fld (pv 0) rfl) (pv 5) (fun _ _ => rfl)) pa_nil)) (pe_callTy call_tuple_of (by rfl) T.tuple (by decide +kernel) (pa_cons
                (pe_lc (own := [("part", 7)]) (g := gName 7) (tt := tYes) rfl nd (pi_tup (pe_ix ix_list (pe_fld (pv 0) rfl) (pv 5) (fun _ _ => rfl))) (blkOk_by (N := N_Terms_shared) (sc := defScope s_Terms_shared) (by decide +kernel)) (fun _ _ _ _ _ => pg_name (i := 7) nd rfl (Or.inl rfl)) (fun _ _ _ _ _ => pts_nil)
                  (fun _ _ _ _ _ => pe_dget hu (pv 2) (pv 7) (fun _ _ => rfl))) pa_nil))) pa_nil)))))))))))))
      (pss_one (ps_ret (pe_callTy call_tuple_of (by rfl) T.tuple (by decide +kernel) (pa_cons (pv 3) pa_nil)))))))), ?_⟩
    obtain ⟨dx, tx, h0⟩ := hS.ob
    refine fun pl npl => ⟨Nat.zero_le _, fun ro nro => ⟨_, rfl, (by show 1 ≤ sizeLine; decide), fun du ndu => ?_⟩⟩
    rw [upd_none] at nro
    rw [upd_none, upd_none] at ndu
    obtain ⟨n1, nro⟩ := nro
    obtain ⟨n2, n3, ndu⟩ := ndu
    refine ⟨fun m σ H' => ∃ k j rs u v, σ = [some (.ref t), some (.int (num cs c)), some (.ref pl), some (.ref ro), some (.ref du), u, v, none] ∧ Same H H' ∧ H' du = some (.lst (lv (nm cs c) (lev c.length k))) ∧ H' pl = some (.dK (plK (nm cs c) j)) ∧ H' ro = some (.lst (rs.map V.ref)) ∧ rs.length = j ∧
        (∀ (i : Nat) (a : Addr), rs[i]? = some a → H' a = some (.tup (p.rowAt c i))) ∧ k ≤ c.length + 1 ∧ ((j = 0 ∧ k ≤ c.length) ∨ k = j) ∧ m = (c.length + 1 - j) + (if j = 0 then k else 0),
      ⟨_, c.length, 0, [], none, none, rfl, Same.new' (Same.new' (Same.new npl) nro) ndu, ?_, ?_, ?_, rfl, fun i a e => by simp at e, Nat.le_succ _, .inl ⟨rfl, Nat.le_refl _⟩, rfl⟩, ?_⟩
    · rw [upd_same, lev_succ (Nat.le_refl _), lev_top, List.nil_append, lv, List.map_singleton, nm_top]
    · rw [upd_ne (Ne.symm n3), upd_ne (Ne.symm n1), upd_same]; rfl
    · rw [upd_ne (Ne.symm n2), upd_same]; rfl
    · rintro m σ H' ⟨kk, j, rs, u, v, rfl, s1, hdu, hpl, hro, hrl, hrs, hkn, hkj, rfl⟩
      have npd : pl ≠ du := Ne.symm n3
      have npr : pl ≠ ro := Ne.symm n1
      have nrd : ro ≠ du := Ne.symm n2
      refine ⟨_, rfl, !(lv (nm cs c) (lev c.length kk)).isEmpty, .inl ⟨_, SqL.of hdu, rfl⟩, ?_⟩
      by_cases hk1 : kk = c.length + 1
      · subst hk1
        obtain rfl : c.length + 1 = j := by rcases hkj with ⟨_, h⟩ | h <;> omega
        rw [lev_top]
        refine ifF rfl ⟨_, rfl, ro, _, rfl, .inl ⟨SqL.of hro, fun a na => k a _ rs (Same.new' s1 (s1.free na)) upd_same ⟨by rw [hrl, Par.rows_len], fun i x r e1 e2 => ?_⟩⟩⟩
        have hi := (List.getElem?_eq_some_iff.mp e1).1
        rw [Par.rows_get (by omega)] at e2
        cases e2
        have q := hrs i x e1
        rw [upd_ne (ne_of_none q na)]
        exact q
      · have hkl : kk ≤ c.length := by omega
        rw [lev_succ hkl]
        refine ifT (by rw [lv_app]; simp [lv]) ⟨_, fun _ _ q => q, ?_⟩
        rw [lev_succ hkl] at hdu
        have hc' := hS.clo.take hc kk
        have S1 := hS.same s1
        have h01 := s1 _ _ h0
        obtain ⟨ps, a, hpa, hat, hta⟩ := S1.part_at hc'
        have inj : ∀ i, i < j → nm cs c i = nm cs c kk → i = kk := fun i hi e => nm_inj hS.clo hc (by rcases hkj with ⟨_, h⟩ | h <;> omega) hkl e
        refine ⟨_, rfl, 1, rfl, du, _, _, .int (nm cs c kk), rfl, rfl, SqL.of hdu, ?_, ?_⟩
        · rw [lv_app]
          exact atI_last _ _
        refine ⟨_, rfl, t, D.c_Terms, dx, _, _, rfl, h01, T.cl_Terms, T.n_Terms__parts, rfl, _, rfl, A.pa, _, _, _, rfl, rfl, SqL.of hpa, atI_nat hat, a, rfl, ⟨_, SqT.of hta⟩, fun D1 nD1 => lc_tup (K := K) (a := a) (xs := partsOf p cs (c.take kk)) (fun i Hx => ∃ ys, Hx = upd H' D1 (.lst ys) ∧ ys = if kk - 1 < j then [] else (partsOf p cs (c.take kk)).take i) ⟨[], rfl, by simp⟩ (fun i Hx _ ⟨ys, e, _⟩ => by rw [e]; exact (Same.new nD1).seqT (SqT.of hta)) ?_ ?_⟩
        · rintro i y Hx hi ⟨ys, rfl, eys⟩
          obtain ⟨k', rfl⟩ : ∃ k', kk = k' + 1 := by
            cases kk with
            | zero => rw [List.take_zero, parts_nil] at hi; simp at hi
            | succ k' => exact ⟨k', rfl⟩
          have hk' : k' < c.length := hkl
          have hi0 := hi
          rw [parts_take hk', List.getElem?_replicate] at hi
          obtain rfl : y = .int (nm cs c k') := by
            split at hi
            · exact (Option.some.inj hi).symm
            · cases hi
          have inj' : ∀ i, i < j → nm cs c i = nm cs c k' → i = k' := fun i hi e => nm_inj hS.clo hc (by rcases hkj with ⟨_, h⟩ | h <;> omega) (by omega) e
          refine ⟨rfl, _, rfl, _, rfl, pl, _, rfl, DGet.k (k := Sum.inl (nm cs c k')) (Same.new nD1 _ _ hpl), _, rfl, ?_⟩
          rw [plK_val inj']
          rw [Nat.add_sub_cancel] at eys
          by_cases hkj' : k' < j
          · rw [if_pos hkj']
            refine ifF rfl ⟨_, rfl, ?_⟩
            rw [eys, if_pos hkj', if_pos (by omega)]
          · rw [if_neg hkj']
            rw [if_neg hkj'] at eys
            have h4 := parts_len (p := p) (cs := cs) hp (c.take (k' + 1))
            refine ifT rfl ⟨_, rfl, ys, upd_same, ?_, _, upd_upd, ?_⟩
            · rw [eys]
              have : ((partsOf p cs (c.take (k' + 1))).take i).length < 16777216 := by rw [List.length_take]; omega
              exact this
            · rw [eys, if_neg (by omega), take_snoc hi0]
        · rintro Hx ⟨ys, rfl, eys⟩
          rw [List.take_length] at eys
          have s2 : Same H (upd H' D1 (.lst ys)) := Same.new' s1 (s1.free nD1)
          have ndD : du ≠ D1 := ne_of_none hdu nD1
          have npD : pl ≠ D1 := ne_of_none hpl nD1
          have nrD : ro ≠ D1 := ne_of_none hro nD1
          refine ⟨_, rfl, _, rfl, pl, _, rfl, DGet.k (k := Sum.inl (nm cs c kk)) (by rw [upd_ne npD]; exact hpl), _, rfl, ?_⟩
          rw [plK_val inj, if_neg (show ¬ kk < j by rcases hkj with ⟨h, _⟩ | h <;> omega)]
          refine ifF rfl ⟨_, rfl, !ys.isEmpty, .inl ⟨_, SqL.of upd_same, rfl⟩, ?_⟩
          by_cases hdn : j = 0 ∧ kk ≠ 0
          · obtain ⟨rfl, hk0⟩ := hdn
            obtain ⟨k', rfl⟩ : ∃ k', kk = k' + 1 := ⟨kk - 1, by omega⟩
            have hk' : k' < c.length := hkl
            obtain ⟨r, hr1⟩ : ∃ r, p.arr c[k'] = r + 1 := ⟨p.arr c[k'] - 1, by have := hp.arr1 c[k']; omega⟩
            rw [if_neg (by omega), parts_take hk', hr1, List.replicate_succ] at eys
            subst eys
            refine ifT rfl ⟨_, rfl, .inl ⟨rfl, _, SqL.of (by rw [upd_ne ndD]; exact hdu)⟩, _, rfl, D1, _, _, _, rfl, rfl, SqL.of upd_same, at0, du, _, _, rfl, rfl, (by rw [upd_ne ndD]; exact hdu), ?_, ?_⟩
            · have : (lv (nm cs c) (lev c.length (k' + 1 + 1) ++ [k' + 1])).length < 16777216 := by
                unfold lv lev
                rw [List.length_map, List.length_append, List.length_reverse, List.length_range', List.length_singleton]
                omega
              exact this
            · refine ⟨(c.length + 1) + k', by rw [if_pos rfl]; omega, k', 0, rs, _, _, rfl, Same.new' s2 ndu, ?_, ?_, ?_, hrl, ?_, by omega, .inl ⟨rfl, by omega⟩, by rw [if_pos rfl, Nat.sub_zero]⟩
              · rw [upd_same, lev_succ (k := k') (by omega), lev_succ (k := k' + 1) hkl, lv_app (b := [k'])]
                rfl
              · rw [upd_ne npd, upd_ne npD]; exact hpl
              · rw [upd_ne nrd, upd_ne nrD]; exact hro
              · intro i x e
                rw [List.eq_nil_of_length_eq_zero hrl] at e
                simp at e
          · obtain rfl : kk = j := by
              rcases hkj with ⟨h, _⟩ | h
              · have : kk = 0 := Classical.byContradiction fun q => hdn ⟨h, q⟩
                omega
              · exact h
            obtain rfl : ys = [] := by
              cases kk with
              | zero => rw [List.take_zero, parts_nil] at eys; rw [eys]; simp
              | succ k' => rw [eys, if_pos (by omega)]
            refine ifF rfl ?_
            have hdrop : (lv (nm cs c) (lev c.length (kk + 1) ++ [kk])).dropLast = lv (nm cs c) (lev c.length (kk + 1)) := lv_drop
            refine ⟨_, rfl, .inl ⟨rfl, _, SqL.of (by rw [upd_ne ndD]; exact hdu)⟩, du, _, _, rfl, rfl, (by rw [upd_ne ndD]; exact hdu), lv_last, ?_⟩
            rw [hdrop]
            have lP : (plK (nm cs c) kk).length < sizeLine := by
              unfold plK
              rw [List.length_map, List.length_range]
              have h : (16777216 : Nat) = sizeLine := rfl
              omega
            refine ⟨_, rfl, ro, _, rfl, .inl (SqL.of (by rw [upd_ne nrd, upd_ne nrD]; exact hro)), _, rfl, _, rfl, pl, _, rfl, DPut.k (k := Sum.inl (nm cs c kk)) (by rw [upd_ne npd, upd_ne npD]; exact hpl) lP, ?_⟩
            rw [List.length_map, hrl]
            rw [plK_put inj]
            have s3 : Same H (upd (upd (upd H' D1 (.lst [])) du (.lst (lv (nm cs c) (lev c.length (kk + 1))))) pl (.dK (plK (nm cs c) (kk + 1)))) := Same.new' (Same.new' s2 ndu) npl
            generalize hH3 : upd (upd (upd H' D1 (.lst [])) du (.lst (lv (nm cs c) (lev c.length (kk + 1))))) pl (.dK (plK (nm cs c) (kk + 1))) = H3 at s3
            have hdu3 : H3 du = some (.lst (lv (nm cs c) (lev c.length (kk + 1)))) := by rw [← hH3, upd_ne (Ne.symm npd), upd_same]
            have hpl3 : H3 pl = some (.dK (plK (nm cs c) (kk + 1))) := by rw [← hH3, upd_same]
            have hro3 : H3 ro = some (.lst (rs.map V.ref)) := by rw [← hH3, upd_ne (Ne.symm npr), upd_ne nrd, upd_ne nrD]; exact hro
            have hrs3 : ∀ (i : Nat) (a : Addr), rs[i]? = some a → H3 a = some (.tup (p.rowAt c i)) := fun i x e => by
              have q := hrs i x e
              rw [← hH3, upd_ne (ne_of q hpl nofun), upd_ne (ne_of q hdu nofun), upd_ne (ne_of_none q nD1)]
              exact q
            have S3 := hS.same s3
            refine ⟨_, rfl, .inl ⟨rfl, _, SqL.of hro3⟩, _, rfl, t, D.c_Terms, dx, _, _, rfl, s3 _ _ h0, T.cl_Terms, T.n_Terms__words, rfl, _, rfl, A.wo, _, _, _, rfl, rfl, SqL.of S3.wo, atI_nat (S3.word_at hc'), (by show 1 ≤ sizeLine; decide), fun t1 m1 => ?_⟩
            have s4 : Same H3 (upd H3 t1 (.tup [.str (p.word (c.take kk))])) := Same.new m1
            generalize hH4 : upd H3 t1 (.tup [.str (p.word (c.take kk))]) = H4 at s4
            have ht4 : H4 t1 = some (.tup [.str (p.word (c.take kk))]) := by rw [← hH4, upd_same]
            have S4 := S3.same s4
            obtain ⟨ps4, a4, hpa4, hat4, hta4⟩ := S4.part_at hc'
            refine ⟨_, rfl, t, D.c_Terms, dx, _, _, rfl, s4 _ _ (s3 _ _ h0), T.cl_Terms, T.n_Terms__parts, rfl, _, rfl, A.pa, _, _, _, rfl, rfl, SqL.of hpa4, atI_nat hat4, a4, rfl, ⟨_, SqT.of hta4⟩, fun D2 nD2 => lc_tup (K := K) (a := a4) (xs := partsOf p cs (c.take kk)) (fun i Hx => Hx = upd H4 D2 (.lst (List.replicate i (.int ((kk - 1 : Nat) : Int))))) rfl (fun i Hx _ e => by rw [e]; exact (Same.new nD2).seqT (SqT.of hta4)) ?_ ?_⟩
            · rintro i y Hx hi rfl
              obtain ⟨k', rfl⟩ : ∃ k', kk = k' + 1 := by
                cases kk with
                | zero => rw [List.take_zero, parts_nil] at hi; simp at hi
                | succ k' => exact ⟨k', rfl⟩
              have hk' : k' < c.length := hkl
              have hi4 : i < 4 := Nat.lt_of_lt_of_le (List.getElem?_eq_some_iff.mp hi).1 (parts_len hp _)
              rw [parts_take hk', List.getElem?_replicate] at hi
              obtain rfl : y = .int (nm cs c k') := by
                split at hi
                · exact (Option.some.inj hi).symm
                · cases hi
              refine ⟨rfl, _, rfl, _, rfl, pl, .int (k' : Nat), rfl, ?_, List.replicate i (.int ((k' + 1 - 1 : Nat) : Int)), upd_same, ?_, ?_⟩
              · have q := DGet.k (k := Sum.inl (nm cs c k')) (Same.new nD2 (o := .lst (List.replicate i (.int ((k' + 1 - 1 : Nat) : Int)))) _ _ (s4 _ _ hpl3))
                rw [plK_val (fun i hi e => nm_inj hS.clo hc (by omega) (by omega) e), if_pos (show k' < k' + 1 + 1 by omega)] at q
                exact q
              · have : (List.replicate i (V.int ((k' + 1 - 1 : Nat) : Int))).length < 16777216 := by rw [List.length_replicate]; omega
                exact this
              · rw [upd_upd, List.replicate_succ', Nat.add_sub_cancel]
            · rintro Hx rfl
              refine ⟨D2, _, rfl, .inl ⟨SqL.of upd_same, fun t2 m2 => ?_⟩⟩
              have s5 := Same.new (o := .lst (List.replicate (partsOf p cs (c.take kk)).length (.int ((kk - 1 : Nat) : Int)))) nD2
              have s6 := Same.new (o := .tup (List.replicate (partsOf p cs (c.take kk)).length (.int ((kk - 1 : Nat) : Int)))) m2
              have s46 := Same.trans' s5 s6
              have h4 := parts_len (p := p) (cs := cs) hp (c.take kk)
              refine catA_of (s46 _ _ ht4) upd_same ?_ fun H7 rw7 s7 hrw => ?_
              · have : ([V.str (p.word (c.take kk))] : List V).length + (List.replicate (partsOf p cs (c.take kk)).length (V.int ((kk - 1 : Nat) : Int))).length ≤ 16777216 := by
                  rw [List.length_replicate, List.length_singleton]
                  omega
                exact this
              · have er : [V.str (p.word (c.take kk))] ++ List.replicate (partsOf p cs (c.take kk)).length (V.int ((kk - 1 : Nat) : Int)) = p.rowAt c kk := by
                  cases kk with
                  | zero => rw [List.take_zero, parts_nil]; rfl
                  | succ k' =>
                    have hk' : k' < c.length := hkl
                    rw [parts_take hk', List.length_replicate, rowAt_succ hk', word_take hk']
                    rfl
                rw [er] at hrw
                have s37 : Same H3 H7 := Same.trans' s4 (Same.trans' s46 s7)
                refine ⟨ro, _, _, rfl, rfl, s37 _ _ hro3, ?_, ?_⟩
                · have : (rs.map V.ref).length < 16777216 := by rw [List.length_map]; omega
                  exact this
                · have fr : ∀ x xs, H7 x = some (.tup xs) → upd H7 ro (.lst (rs.map V.ref ++ [V.ref rw7])) x = some (.tup xs) := fun x xs e => by
                    rw [upd_ne (ne_of e (s37 _ _ hro3) nofun)]
                    exact e
                  refine ⟨c.length + 1 - (kk + 1), ?_, kk + 1, kk + 1, rs ++ [rw7], _, _, rfl, Same.new' (Same.trans' s3 s37) nro, ?_, ?_, ?_, by rw [List.length_append, hrl]; rfl, ?_, by omega, .inr rfl, by rw [if_neg (Nat.succ_ne_zero _)]; rfl⟩
                  · split <;> omega
                  · rw [upd_ne (Ne.symm nrd)]
                    exact s37 _ _ hdu3
                  · rw [upd_ne npr]
                    exact s37 _ _ hpl3
                  · rw [upd_same, List.map_append]
                    rfl
                  · intro i x e
                    by_cases hi : i < rs.length
                    · rw [List.getElem?_append_left hi] at e
                      exact fr _ _ (s37 _ _ (hrs3 i x e))
                    · have hi2 := (List.getElem?_eq_some_iff.mp e).1
                      rw [List.length_append, List.length_singleton] at hi2
                      obtain rfl : i = rs.length := by omega
                      rw [List.getElem?_append_right (Nat.le_refl _), Nat.sub_self] at e
                      cases e
                      rw [hrl]
                      exact fr _ _ hrw
end
end R87

/-! ## Row87 -/
set_option maxHeartbeats 4000000
namespace L2
open PySem PySem.Spec PyProof.Rows
theorem slA_of {K : PySem.W.Frag} {a : Addr} {xs : List V} {lo hi : Option Int} {H : Hp} {Q : VK} (ha : H a = some (.tup xs)) (k : ∀ H' r, Same H H' → H' r = some (.tup (cutV xs lo hi)) → Q (.ref r) H') : rSlA K (.ref a) lo hi H Q := by
  refine ⟨a, xs, rfl, SqT.of ha, fun ⟨e1, e2⟩ => ?_, fun _ p hp => k _ p (Same.new hp) upd_same⟩
  refine k H a Same.rfl' ?_
  have : cutV xs lo hi = xs := by
    unfold cutV
    rw [e1, e2, List.drop_zero, Nat.sub_zero, List.take_length]
  rw [this]
  exact ha
end L2
namespace R87
open PySem PySem.Spec PyProof.Rows L2
variable {D : Ad} {p : Par} {H H' : Hp} {t g : Addr} {A : SA} {cs : List Ch}
/-- a row that no store takes at place n -/
def Bad (p : Par) (n : Nat) (xs : List V) : Prop := ∃ (w : Str) (ats : List Int), xs = .str w :: ats.map V.int ∧ w.length ≤ 1000 ∧ ats.length ≤ 100 ∧
  (((∀ b, w ≠ p.sg b) ∧ isLet 300 w.cps.toList = false) ∨ (w = p.L ∧ ats ≠ []) ∨ (∃ b, w = p.sg b ∧ ats.length ≠ p.arr b) ∨ ∃ b j, w = p.sg b ∧ ats = List.replicate (p.arr b) j ∧ (j < 0 ∨ (n : Int) ≤ j))
/-- what a row is, behind the terms qs -/
inductive RowIs (p : Par) (qs : List Ch) : List V → Option Ch → Prop
  | lf : RowIs p qs [.str p.L] (some [])
  | nd {b : Bool} {j : Nat} {q : Ch} : qs[j]? = some q → RowIs p qs (p.row b j) (some (q ++ [b]))
  | bad {xs : List V} : Bad p qs.length xs → RowIs p qs xs none
def numsV (cs qs : List Ch) : List V := qs.map fun c => V.int (num cs c)
section
variable {P : Program} {w : World} {K : PySem.W.Frag} {mg : Str → Option Value} {base : Heap} {eB eT eBf eTf : Addr}
def spOfRow (D : Ad) : Sp := fun vs H Q _ => ∃ (t g ra nl : Addr) (p : Par) (A : SA) (cs qs : List Ch) (xs : List V) (r : Option Ch), vs = [.ref t, .ref ra, .ref nl] ∧ p.Ok ∧ StoreAt D p H t g A cs ∧ SigAt D p H g ∧ cs.length ≤ 20000 ∧
  H ra = some (.tup xs) ∧ H nl = some (.lst (numsV cs qs)) ∧ (∀ q ∈ qs, q ∈ cs) ∧ RowIs p qs xs r ∧
  (∀ c, r = some c → ∀ H', But A.M H H' → StoreAt D p H' t g A (add cs c) → Q (.int (num (add cs c) c)) H') ∧ (r = none → ∀ H', Same H H' → Q .non H')
theorem ok_of_row (T : Txt K P mg D eB eT eBf eTf) : FnOk P w K mg base CX0 3 D.a_Terms_of_row D.d_Terms_of_row ["self", "row", "numbers"] (spOfRow D) := by
  obtain ⟨tC, hC⟩ := T.G.cap
  refine T.F_Terms_of_row.ok sc_Terms_of_row (fun vs H Q E h => ?_) (fun cdv AA outer s H vs Q E hr h => ?_)
  · obtain ⟨t, g, ra, nl, p, A, cs, qs, xs, r, rfl, _⟩ := h
    rfl
  · obtain ⟨t, g, ra, nl, p, A, cs, qs, xs, r, rfl, hp, hS, hG, hsm, hra, hnl, hqs, hrow, k, kN⟩ := h
    have GP := ok_put (P := P) (w := w) (base := base) T
    have GS := ok_sow (P := P) (w := w) (base := base) T
    have GA := ok_arguments (P := P) (w := w) (base := base) T
    have nd := sc_Terms_of_row.nd
    have hr1 : Room 1 _ := hr.mono (by decide)
    refine ⟨_, PSs.nox (pss_cons (ps_if (pt_not (pt_truth (pv 1) (by intro _; rfl))) (pss_one (ps_ret pe_non)) pss_nil)
      (pss_cons (ps_set (i := 3) nd rfl (Or.inl rfl) (pe_meth (pe_fld (pv 0) rfl) T.cl_Signature T.m_Signature_sort_of_word GS hr T.b_Signature_sort_of_word .nil pass0 (pa_cons (pe_ix ix_tup (pv 1) pe_int (fun _ _ => rfl)) (pa_cons pe_int pa_nil))))
      (pss_cons (ps_if (pt_cmpR op_isN (pv 3) pe_non (nomark _)) (pss_one (ps_ret pe_non)) pss_nil)
      (pss_cons (ps_set (i := 4) nd rfl (Or.inl rfl) (pe_tup pa_nil))
      (pss_cons (ps_if (pt_cmpR op_notIn_sign (pe_ix ix_str (pe_ix ix_tup (pv 1) pe_int (fun _ _ => rfl)) pe_int (fun _ _ => rfl)) (pgS hC) (by rfl))
        (pss_one (ps_set (i := 4) nd rfl (Or.inl rfl) (pe_meth (pe_fld (pv 0) rfl) T.cl_Signature T.m_Signature_arguments GA hr1 T.b_Signature_arguments .nil pass0 (pa_cons (pe_ix ix_tup (pv 1) pe_int (fun _ _ => rfl)) pa_nil)))) pss_nil)
      (pss_cons (ps_if (pt_cmpR op_ne (pe_callB call_len_seq (by rfl) T.len PySem.boot_len (pa_cons (pv 1) pa_nil)) (pe_op op_add (pe_callB call_len_seq (by rfl) T.len PySem.boot_len (pa_cons (pv 4) pa_nil)) pe_int) (nomark _)) (pss_one (ps_ret pe_non)) pss_nil)
      (pss_cons (ps_for PassesOwn.never rfl (pi_enumT (by rfl) T.enumerate (pa_cons (pv 4) pa_nil)) (pg_tup rfl (pgs_cons (pg_name (i := 5) nd rfl (Or.inl rfl)) (pgs_cons (pg_name (i := 6) nd rfl (Or.inl rfl)) pgs_nil)))
        (pss_cons (ps_set (i := 7) nd rfl (Or.inl rfl) (pe_ix ix_tup (pv 1) (pe_op op_add (pv 5) pe_int) (fun _ _ => rfl)))
        (pss_one (ps_if (PW.pt (pw_or (pt_not (pt_chain op_le op_lt pe_int (pv 7) (pe_callB call_len_seq (by rfl) T.len PySem.boot_len (pa_cons (pv 2) pa_nil))))
            (pw_or1 (pt_cmpR op_ne (pe_ix ix_list (pe_fld (pv 0) rfl) (pe_ix ix_list (pv 2) (pv 7) (fun _ _ => rfl)) (fun _ _ => rfl)) (pv 6) (nomark _))))) (pss_one (ps_ret pe_non)) pss_nil))))
      (pss_one (ps_ret (pe_meth (pv 0) T.cl_Terms T.m_Terms_put GP hr T.b_Terms_put .nil pass0 (pa_cons (pe_ix ix_tup (pv 1) pe_int (fun _ _ => rfl)) (pa_cons (pe_callTy call_tuple_of (by rfl) T.tuple (by decide +kernel) (pa_cons
          (pe_lc (own := [("at", 7)]) (g := gName 7) (tt := tYes) rfl nd (pi_tup (pe_slice sl_tupA (pv 1) (po_some pe_int) po_none)) (blkOk_by (N := N_Terms_of_row) (sc := defScope s_Terms_of_row) (by decide +kernel)) (fun _ _ _ _ _ => pg_name (i := 7) nd rfl (Or.inl rfl)) (fun _ _ _ _ _ => pts_nil)
            (fun _ _ _ _ _ => pe_ix (r := rIxL K) ix_list (pv 2) (pv 7) (fun _ _ => rfl))) pa_nil)) (pa_cons (pv 3) pa_nil))))))))))))), ?_⟩
    obtain ⟨dx, tx, h0⟩ := hS.ob
    obtain ⟨dg, dC, dS, dA, dR, ts, tg, sd, hg, _⟩ := hG.ob
    -- the row's first word
    obtain ⟨w0, ys, exs, hw0, hsow⟩ : ∃ (w0 : Str) (ys : List V), xs = .str w0 :: ys ∧ w0.length ≤ 1000 ∧ ((w0 = p.L ∨ ∃ b, w0 = p.sg b) ∨ ((∀ b, w0 ≠ p.sg b) ∧ isLet 300 w0.cps.toList = false ∧ r = none)) := by
      cases hrow with
      | lf => exact ⟨_, _, rfl, Nat.le_trans hp.lenL (by decide), .inl (.inl rfl)⟩
      | nd h => exact ⟨_, _, rfl, Nat.le_trans (hp.lenS _) (by decide), .inl (.inr ⟨_, rfl⟩)⟩
      | bad h =>
        obtain ⟨w, ats, rfl, hw, _, h | h | ⟨b, h, _⟩ | ⟨b, _, h, _⟩⟩ := h
        · exact ⟨w, _, rfl, hw, .inr ⟨h.1, h.2, rfl⟩⟩
        · exact ⟨w, _, rfl, hw, .inl (.inl h.1)⟩
        · exact ⟨w, _, rfl, hw, .inl (.inr ⟨b, h⟩)⟩
        · exact ⟨w, _, rfl, hw, .inl (.inr ⟨b, h⟩)⟩
    subst exs
    refine ⟨_, rfl, true, .inr (.inl ⟨_, SqT.of hra, rfl⟩), ifF rfl ?_⟩
    rcases hsow with hw | ⟨hn1, hn2, rfl⟩
    · refine ⟨_, rfl, t, D.c_Terms, dx, _, _, rfl, h0, T.cl_Terms, T.n_Terms_signature, rfl, g, dg, _, rfl, hg, rfl, _, rfl, ra, _, _, _, rfl, rfl, SqT.of hra, at0, g, p, w0, .str p.S, rfl, hp, hG, hw0, .inl ⟨hw.symm, rfl⟩, ?_⟩
      refine ⟨_, rfl, rfl, _, rfl, ifF rfl ⟨Nat.zero_le _, fun e1 n1 => ?_⟩⟩
      obtain ⟨x0, hx0, hxL, hxS⟩ : ∃ x0, w0.cps.toList[0]? = some x0 ∧ (w0 = p.L → capC x0 = true) ∧ ((∃ b, w0 = p.sg b) → capC x0 = false) := by
        rcases hw with rfl | ⟨b, rfl⟩
        · exact ⟨_, hp.cL, fun _ => hp.uL, fun ⟨b, e⟩ => absurd e.symm (hp.sgL b)⟩
        · obtain ⟨x, h1, h2⟩ := hp.sgc b
          exact ⟨x, h1, fun e => absurd e (hp.sgL b), fun _ => h2⟩
      have hra1 := Same.new (o := .tup []) n1 _ _ hra
      refine ⟨_, rfl, ra, _, _, _, rfl, rfl, SqT.of hra1, at0, w0, 0, x0, rfl, rfl, Nat.le_trans hw0 (by decide), atI_nat (j := 0) hx0, x0, cCap, rfl, rfl, _, rfl, ?_⟩
      -- what is wanted
      have hwn : ∃ n : Nat, (w0 = p.L → n = 0) ∧ (∀ b, w0 = p.sg b → n = p.arr b) := by
        rcases hw with rfl | ⟨b, rfl⟩
        · exact ⟨0, fun _ => rfl, fun b e => absurd e.symm (hp.sgL b)⟩
        · exact ⟨p.arr b, fun e => absurd e (hp.sgL b), fun b' e => by rw [hp.sg_inj e]⟩
      obtain ⟨n, hnL, hnS⟩ := hwn
      have hcase : ys.length = n → (∃ c, r = some c ∧ w0 = p.word c ∧ (∀ c' b, c = c' ++ [b] → c' ∈ cs) ∧ ∃ (j : Nat) (q : Ch), ys = List.replicate n (.int j) ∧ partsOf p cs c = List.replicate n (.int (num cs q)) ∧ (n ≠ 0 → qs[j]? = some q)) ∨
          (r = none ∧ 0 < n ∧ ∃ j : Int, ys = List.replicate n (.int j) ∧ (j < 0 ∨ (qs.length : Int) ≤ j)) := by
        intro hlen
        generalize hxs : V.str w0 :: ys = xs at hrow
        cases hrow with
        | lf =>
          injection hxs with h1 h2
          injection h1 with h1
          subst h1 h2
          obtain rfl : n = 0 := hlen.symm
          exact .inl ⟨[], rfl, rfl, fun _ _ e => by simp at e, 0, [], rfl, rfl, fun h => absurd rfl h⟩
        | @nd b j q hq =>
          injection hxs with h1 h2
          injection h1 with h1
          subst h1 h2
          obtain rfl := hnS b rfl
          refine .inl ⟨q ++ [b], rfl, Par.word_snoc.symm, fun c' b' e => ?_, j, q, rfl, parts_snoc, fun _ => hq⟩
          obtain ⟨rfl, _⟩ := List.append_inj' e rfl
          exact hqs _ (List.mem_of_getElem? hq)
        | bad h =>
          obtain ⟨w, ats, rfl, _, _, h⟩ := h
          injection hxs with h1 h2
          injection h1 with h1
          subst h1 h2
          rcases h with ⟨h1, h2⟩ | ⟨h1, h2⟩ | ⟨b, h1, h2⟩ | ⟨b, j, h1, h2, h3⟩
          · rcases hw with rfl | ⟨b, rfl⟩
            · rw [hp.lL] at h2; cases h2
            · exact absurd rfl (h1 b)
          · rw [hnL h1, List.length_map] at hlen
            exact absurd (List.eq_nil_of_length_eq_zero hlen) h2
          · rw [hnS b h1, List.length_map] at hlen
            exact absurd hlen h2
          · refine .inr ⟨rfl, ?_, j, ?_, h3⟩
            · rw [hnS b h1]; exact hp.arr1 b
            · rw [h2, List.map_replicate, hnS b h1]
      have hnone : ys.length ≠ n → r = none := by
        intro hlen
        generalize hxs : V.str w0 :: ys = xs at hrow
        cases hrow with
        | lf =>
          injection hxs with h1 h2
          injection h1 with h1
          subst h2
          exact absurd (hnL h1).symm hlen
        | @nd b j q hq =>
          injection hxs with h1 h2
          injection h1 with h1
          subst h2
          rw [List.length_replicate] at hlen
          exact absurd (hnS b h1).symm hlen
        | bad h => rfl
      have hn4 : ys.length ≤ 100 := by
        generalize hxs : V.str w0 :: ys = xs at hrow
        cases hrow with
        | lf =>
          injection hxs with h1 h2
          subst h2
          exact Nat.zero_le _
        | @nd b j q hq =>
          injection hxs with h1 h2
          subst h2
          rw [List.length_replicate]
          have := hp.arr4 b
          omega
        | bad h =>
          obtain ⟨w, ats, rfl, _, h, _⟩ := h
          injection hxs with h1 h2
          subst h2
          rw [List.length_map]
          exact h
      rcases hw with hwL | ⟨b, hwS⟩
      case' inl =>
        refine ifF (by show (!capC x0) = false; rw [hxL hwL]; rfl) ?_
        obtain ⟨ew, hewe⟩ : ∃ ew, ew = e1 := ⟨_, rfl⟩
        subst hewe
        have hew : upd H ew (.tup []) ew = some (.tup (List.replicate n (.str p.S))) := by rw [hnL hwL, upd_same]; rfl
        have s1 : Same H (upd H ew (.tup [])) := Same.new n1
        generalize hH1 : upd H ew (.tup []) = H1 at hew s1 hra1
      case' inr =>
        refine ifT (by show (!capC x0) = true; rw [hxS ⟨b, hwS⟩]; rfl) ⟨_, rfl, t, D.c_Terms, dx, _, _, rfl, Same.new n1 _ _ h0, T.cl_Terms, T.n_Terms_signature, rfl, g, dg, _, rfl, Same.new n1 _ _ hg, rfl, _, rfl, ra, _, _, _, rfl, rfl, SqT.of hra1, at0, g, p, b, by rw [hwS]; rfl, hG.same (Same.new n1), fun ew hew => ?_⟩
        have s1 : Same H (upd H e1 (.tup [])) := Same.new n1
        rw [← hnS b hwS] at hew
        generalize hH1 : upd H e1 (.tup []) = H1 at hew s1 hra1
      all_goals
        refine ⟨_, rfl, ra, _, rfl, .inr (SqT.of hra1), _, rfl, ew, _, rfl, .inr (SqT.of hew), _, _, rfl, rfl, rfl, _, rfl, ?_⟩
        by_cases hlen : ys.length ≠ n
        · refine ifT (dnT fun e => hlen ?_) (kN (hnone hlen) H1 s1)
          rw [List.length_replicate, List.length_cons] at e
          injection e with e
          omega
        replace hlen : ys.length = n := Classical.not_not.mp hlen
        refine ifF (dnF (by rw [List.length_replicate, List.length_cons, hlen]; rfl)) ?_
        have hnl1 := s1 _ _ hnl
        have h01 := s1 _ _ h0
        refine ⟨_, rfl, ew, _, rfl, SqT.of hew, for_it walk_enumT (fun i σ H' => Same H1 H' ∧ (0 < i → r ≠ none) ∧ ∃ u v z, σ = [some (.ref t), some (.ref ra), some (.ref nl), some (.str p.S), some (.ref ew), u, v, z]) ⟨Same.rfl', fun h => absurd h (by decide), _, _, _, rfl⟩ (fun i σ H' _ ⟨h, _⟩ => SqT.of (h _ _ hew)) ?_ ?_⟩
        · rintro i x σ H2 H3 hi ⟨s2, _, u, v, z, rfl⟩ ⟨T', y1, y2, rfl, hT, rfl, hy, hz⟩
          cases hy
          rw [List.length_replicate] at hi
          replace hz : (List.replicate n (V.str p.S))[i]? = some y2 := hz
          rw [List.getElem?_replicate, if_pos hi] at hz
          cases hz
          have s3 : Same H1 (upd H2 T' (.tup [.int (i : Nat), .str p.S])) := Same.trans' s2 (Same.new hT)
          refine ⟨T', _, rfl, SqT.of upd_same, rfl, _, _, rfl, _, _, rfl, rfl, ?_⟩
          generalize upd H2 T' (.tup [.int (i : Nat), .str p.S]) = H4 at s3
          obtain ⟨j, hyj, hj⟩ : ∃ j : Int, ys = List.replicate n (.int j) ∧ ((r ≠ none ∧ ∃ (j' : Nat) (q : Ch), j = j' ∧ qs[j']? = some q) ∨ (r = none ∧ (j < 0 ∨ (qs.length : Int) ≤ j))) := by
            rcases hcase hlen with ⟨c, hc, _, _, j, q, h, _, h3⟩ | ⟨h1, _, j, h, h3⟩
            · exact ⟨j, h, .inl ⟨by rw [hc]; nofun, j, q, rfl, h3 (by omega)⟩⟩
            · exact ⟨j, h, .inr ⟨h1, h3⟩⟩
          have hix : (V.str w0 :: ys)[i + 1]? = some (.int j) := by rw [List.getElem?_cons_succ, hyj, List.getElem?_replicate, if_pos hi]
          refine ⟨_, rfl, _, rfl, _, _, rfl, rfl, ra, _, _, _, rfl, rfl, SqT.of (s3 _ _ hra1), atI_nat (j := i + 1) hix, ?_⟩
          refine ⟨_, rfl, _, _, rfl, rfl, _, rfl, ?_⟩
          have hlq : (numsV cs qs).length = qs.length := by unfold numsV; rw [List.length_map]
          have s04 := Same.trans' s1 s3
          rcases hj with ⟨hr, j', q, rfl, hq⟩ | ⟨hr, hj⟩
          · have hjl := (List.getElem?_eq_some_iff.mp hq).1
            refine ifT (dT (by omega)) ⟨_, rfl, nl, _, rfl, .inl (SqL.of (s3 _ _ hnl1)), _, _, rfl, rfl, _, rfl, ifF (dnF (by rw [hlq]; omega)) ?_⟩
            have hqm := hqs q (List.mem_of_getElem? hq)
            have hqn : (numsV cs qs)[j']? = some (.int (num cs q)) := by unfold numsV; rw [List.getElem?_map, hq]; rfl
            have S4 := hS.same s04
            exact ⟨_, rfl, t, D.c_Terms, dx, _, _, rfl, s04 _ _ h0, T.cl_Terms, T.n_Terms__kinds, rfl, _, rfl, _, rfl, nl, _, _, _, rfl, rfl, SqL.of (s3 _ _ hnl1), atI_nat hqn, A.ki, _, _, _, rfl, rfl, SqL.of S4.ki, atI_nat (S4.kind_at hqm), _, rfl, rfl, _, rfl, ifF (dnF rfl) ⟨s3, fun _ => hr, _, _, _, rfl⟩⟩
          · by_cases h0j : 0 ≤ j
            · have hjl : ¬ j < ((numsV cs qs).length : Int) := by rw [hlq]; omega
              exact ifT (dT h0j) ⟨_, rfl, nl, _, rfl, .inl (SqL.of (s3 _ _ hnl1)), _, _, rfl, rfl, _, rfl, ifT (dnT hjl) (ifT rfl (kN hr _ s04))⟩
            · exact ifF (dF h0j) ⟨_, rfl, iteT (ifT rfl (kN hr _ s04))⟩
        · rintro σ H2 ⟨s2, hrn, u, v, z, rfl⟩
          rw [List.length_replicate] at hrn
          obtain ⟨c, hc, hwc, hcp, j, q, hyj, hpc, hjq⟩ := (hcase hlen).resolve_right fun ⟨h1, h2, _⟩ => hrn h2 h1
          subst hyj
          have s02 := Same.trans' s1 s2
          have hra2 := s02 _ _ hra
          refine ⟨_, rfl, t, dx, _, rfl, s02 _ _ h0, rfl, _, rfl, ra, _, _, _, rfl, rfl, SqT.of hra2, at0, _, rfl, 1, rfl, ?_⟩
          unfold tNoPart
          refine slA_of hra2 fun H3 sl s3 hsl => ?_
          rw [cutV1] at hsl
          replace hsl : H3 sl = some (.tup (List.replicate n (.int j))) := hsl
          have s03 := Same.trans' s02 s3
          have hn100 : n ≤ 100 := by rw [List.length_replicate] at hn4; exact hn4
          refine ⟨sl, rfl, ⟨_, SqT.of hsl⟩, fun D2 nD2 => lc_tup (K := K) (a := sl) (xs := List.replicate n (.int j)) (fun i Hx => Hx = upd H3 D2 (.lst (List.replicate i (.int (num cs q))))) rfl (fun i Hx _ e => by rw [e]; exact (Same.new nD2).seqT (SqT.of hsl)) ?_ ?_⟩
          · rintro i y Hx hi rfl
            rw [List.getElem?_replicate] at hi
            have hin : i < n := by
              refine Classical.byContradiction fun h => ?_
              rw [if_neg h] at hi
              cases hi
            rw [if_pos hin] at hi
            cases hi
            have hq := hjq (by omega)
            have hqn : (numsV cs qs)[j]? = some (.int (num cs q)) := by unfold numsV; rw [List.getElem?_map, hq]; rfl
            refine ⟨rfl, _, rfl, _, rfl, nl, _, _, _, rfl, rfl, SqL.of (Same.new nD2 _ _ (s03 _ _ hnl)), atI_nat hqn, List.replicate i (.int (num cs q)), upd_same, ?_, ?_⟩
            · have : (List.replicate i (V.int (num cs q))).length < 16777216 := by rw [List.length_replicate]; omega
              exact this
            · rw [upd_upd, List.replicate_succ']
          · rintro Hx rfl
            rw [List.length_replicate]
            refine ⟨D2, _, rfl, .inl ⟨SqL.of upd_same, fun t2 m2 => ⟨_, rfl, ?_⟩⟩⟩
            have s05 := Same.trans' s03 (Same.trans' (Same.new (o := .lst (List.replicate n (.int (num cs q)))) nD2) (Same.new (o := .tup (List.replicate n (.int (num cs q)))) m2))
            refine ⟨t, g, t2, p, A, cs, c, by rw [hwc]; rfl, hp, hS.same s05, hsm, hcp, by rw [hpc]; exact upd_same, fun H6 b6 s6 => k c hc H6 ((But.of_same s05).trans b6) s6⟩
    · refine ⟨_, rfl, t, D.c_Terms, dx, _, _, rfl, h0, T.cl_Terms, T.n_Terms_signature, rfl, g, dg, _, rfl, hg, rfl, _, rfl, ra, _, _, _, rfl, rfl, SqT.of hra, at0, g, p, w0, .non, rfl, hp, hG, hw0, .inr ⟨⟨hn1, hn2⟩, rfl⟩, ?_⟩
      exact ⟨_, rfl, rfl, _, rfl, ifT rfl (kN rfl H Same.rfl')⟩
end
end R87

/-! ## PutIn87 -/
set_option maxHeartbeats 4000000
namespace R87
open PySem PySem.Spec PyProof.Rows L2
variable {D : Ad} {p : Par} {H H' : Hp} {t g : Addr} {A : SA} {cs : List Ch}
/-- a store that holds all that another held, at the same numbers -/
def Ext (cs cs' : List Ch) : Prop := ∀ x ∈ cs, x ∈ cs' ∧ num cs' x = num cs x
theorem Ext.refl : Ext cs cs := fun _ h => ⟨h, rfl⟩
theorem Ext.trans {a b c : List Ch} (h : Ext a b) (k : Ext b c) : Ext a c := fun x hx => ⟨(k x (h x hx).1).1, (k x (h x hx).1).2.trans (h x hx).2⟩
theorem Ext.add {c : Ch} : Ext cs (add cs c) := fun x hx => ⟨add_mono hx, num_add hx⟩
theorem Ext.nm {cs' : List Ch} (h : Ext cs cs') (hcl : Clo cs) {c : Ch} (hc : c ∈ cs) (j : Nat) : nm cs' c j = R87.nm cs c j := by
  unfold R87.nm
  rw [(h _ (hcl.take hc j)).2]
/-- what has been made so far -/
def mdK (f : Nat → Int) (v : Nat → Int) (j : Nat) : List (Key × V) := (List.range j).map fun i => (Sum.inl (f i), V.int (v i))
theorem mdK_val {f v : Nat → Int} {k j : Nat} (h : ∀ i, i < j → f i = f k → i = k) : valV (mdK f v j) (.inl (f k)) = if k < j then some (.int (v k)) else none := by
  unfold mdK
  rw [mapK_val (v := fun i => V.int (v i)) (fun i hi => h i (List.mem_range.mp hi))]
  simp only [List.mem_range]
theorem mdK_put {f v : Nat → Int} {j : Nat} (h : ∀ i, i < j → f i = f j → i = j) : putK (mdK f v j) (.inl (f j)) (.int (v j)) = mdK f v (j + 1) := by
  rw [putK_new _ (by rw [mdK_val h, if_neg (Nat.lt_irrefl _)])]
  unfold mdK
  rw [List.range_succ, List.map_append]
  rfl
theorem mdK_len {f v : Nat → Int} {j : Nat} : (mdK f v j).length = j := by unfold mdK; rw [List.length_map, List.length_range]
theorem mdK_congr {f v v' : Nat → Int} {j : Nat} (h : ∀ i, i < j → v i = v' i) : mdK f v j = mdK f v' j := by
  unfold mdK
  exact List.map_congr_left fun i hi => by rw [h i (List.mem_range.mp hi)]
/-- a thing beside the store changes -/
theorem StoreAt.beside (h : StoreAt D p H t g A cs) {a : Addr} {o u : HO} (e : H a = some u) (m : ¬ A.M a) (n1 : ∀ xs, u ≠ .tup xs) (n2 : ∀ C dx fs, u ≠ .ins C dx fs) : StoreAt D p (upd H a o) t g A cs := h.keep fun b v hv q => by
  refine (upd_ne fun z => ?_).trans hv
  subst z
  rw [e] at hv
  cases hv
  rcases q with rfl | q | ⟨xs, q⟩
  · obtain ⟨dx, tx, h0⟩ := h.ob
    rw [e] at h0
    exact n2 _ _ _ (Option.some.inj h0)
  · exact m q
  · exact n1 xs q
theorem lv_range {f : Nat → Int} {m i : Nat} {y : V} (h : (lv f (List.range m))[i]? = some y) : i < m ∧ y = .int (f i) := by
  have hi := (List.getElem?_eq_some_iff.mp h).1
  unfold lv at hi h
  rw [List.length_map, List.length_range] at hi
  rw [List.getElem?_map, List.getElem?_range hi] at h
  exact ⟨hi, (Option.some.inj h).symm⟩
section
variable {P : Program} {w : World} {K : PySem.W.Frag} {mg : Str → Option Value} {base : Heap} {eB eT eBf eTf : Addr}
def spPutIn (D : Ad) : Sp := fun vs H Q _ => ∃ (t g fl : Addr) (p : Par) (A : SA) (cs : List Ch) (d e : Ch), vs = [.ref t, .int (num cs e), .ref fl] ∧ p.Ok ∧ StoreAt D p H t g A cs ∧ SigAt D p H g ∧ e ∈ cs ∧ d ∈ cs ∧ cs.length + e.length ≤ 20000 ∧ H fl = some (.dK [(.inr p.L, .int (num cs d))]) ∧
  ∀ H' cs', But A.M H H' → StoreAt D p H' t g A cs' → Ext cs cs' → d ++ e ∈ cs' → cs'.length ≤ cs.length + e.length → Q (.int (num cs' (d ++ e))) H'
theorem ok_put_in (T : Txt K P mg D eB eT eBf eTf) : FnOk P w K mg base CX0 5 D.a_Terms_put_in D.d_Terms_put_in ["self", "term", "filling"] (spPutIn D) := by
  obtain ⟨tC, hC⟩ := T.G.cap
  refine T.F_Terms_put_in.ok sc_Terms_put_in (fun vs H Q E h => ?_) (fun cdv AA outer s H vs Q E hr h => ?_)
  · obtain ⟨t, g, fl, p, A, cs, d, e, rfl, _⟩ := h
    rfl
  · obtain ⟨t, g, fl, p, A, cs, d, e, rfl, hp, hS, hG, he, hd, hsm, hfl, k⟩ := h
    have hu := hu_of hr
    have GK : FnOk P w K mg base CX0 1 D.a_letter_key D.d_letter_key ["letter"] spKey := ok_letter_key T.F_letter_key T.G
    have GI : FnOk P w K mg base CX0 4 D.a_in_order D.d_in_order ["letters"] (spInOrder K) := ok_in_order T.F_in_order T.G GK T.g_letter_key T.b_letter_key
    have GP := ok_put (P := P) (w := w) (base := base) T
    have GS := ok_sow (P := P) (w := w) (base := base) T
    have GT := ok_touched (P := P) (w := w) (base := base) T
    have nd := sc_Terms_put_in.nd
    have hr1 : Room 1 _ := hr.mono (by decide)
    have hr2 : Room 2 _ := hr.mono (by decide)
    refine ⟨_, PSs.nox (pss_cons (ps_for PassesOwn.never rfl (pi_list (pe_call GI hr rfl T.g_in_order T.F_in_order.kp T.b_in_order .nil pass0 (pa_cons (pe_callTy (call_list_dK rfl) (by rfl) T.list' (by decide +kernel) (pa_cons (pv 2) pa_nil)) pa_nil))) (pg_name (i := 3) nd rfl (Or.inl rfl))
        (pss_one (ps_if (pt_cmpR op_ne (pe_ix ix_list (pe_fld (pv 0) rfl) (pe_dget hu (pv 2) (pv 3) (fun _ _ => rfl)) (fun _ _ => rfl)) (pe_meth (pe_fld (pv 0) rfl) T.cl_Signature T.m_Signature_sort_of_word GS hr2 T.b_Signature_sort_of_word .nil pass0 (pa_cons (pv 3) (pa_cons pe_int pa_nil))) (nomark _)) (pss_one ps_never) pss_nil)))
      (pss_cons (ps_set (i := 4) nd rfl (Or.inr rfl) pe_dnewK)
      (pss_cons (ps_for PassesOwn.never rfl (pi_list (pe_meth (pv 0) T.cl_Terms T.m_Terms_touched GT hr1 T.b_Terms_touched .nil pass0 (pa_cons (pv 1) (pa_cons (pv 2) pa_nil)))) (pg_name (i := 5) nd rfl (Or.inl rfl))
        (pss_cons (ps_set (i := 6) nd rfl (Or.inl rfl) (pe_ix ix_list (pe_fld (pv 0) rfl) (pv 5) (fun _ _ => rfl)))
        (pss_one (ps_if (pt_cmpR op_in_sign (pe_ix ix_str (pv 6) pe_int (fun _ _ => rfl)) (pgS hC) (by rfl))
          (pss_one (ps_dput hu (pv 4) (pv 5) (pe_dget hu (pv 2) (pv 6) (fun _ _ => rfl)) rfl))
          (pss_cons (ps_set (i := 7) nd rfl (Or.inl rfl) (pe_callTy call_tuple_of (by rfl) T.tuple (by decide +kernel) (pa_cons
              (pe_lc (own := [("part", 8)]) (g := gName 8) (tt := tYes) rfl nd (pi_tup (pe_ix ix_list (pe_fld (pv 0) rfl) (pv 5) (fun _ _ => rfl))) (blkOk_by (N := N_Terms_put_in) (sc := defScope s_Terms_put_in) (by decide +kernel)) (fun _ _ _ _ _ => pg_name (i := 8) nd rfl (Or.inl rfl)) (fun _ _ _ _ _ => pts_nil)
                (fun _ _ _ _ _ => pe_dget2 hu (pv 4) (pv 8) (pv 8) ⟨rfl, rfl, rfl, rfl⟩)) pa_nil)))
          (pss_one (ps_dput hu (pv 4) (pv 5) (pe_meth (pv 0) T.cl_Terms T.m_Terms_put GP hr2 T.b_Terms_put .nil pass0 (pa_cons (pv 6) (pa_cons (pv 7) (pa_cons (pe_ix ix_list (pe_fld (pv 0) rfl) (pv 5) (fun _ _ => rfl)) pa_nil)))) rfl)))))))
      (pss_one (ps_ret (pe_dget2 hu (pv 4) (pv 1) (pv 1) ⟨rfl, rfl, rfl, rfl⟩)))))), ?_⟩
    obtain ⟨dx, tx, h0⟩ := hS.ob
    obtain ⟨dg, dC, dS, dA, dR, ts, tg, sd, hg, _⟩ := hG.ob
    have hL1 : p.L.length ≤ 1000 := Nat.le_trans hp.lenL (by decide)
    refine ⟨_, rfl, fl, _, rfl, hfl, fun la na => ?_⟩
    refine ⟨la, p.L, rfl, SqL.of upd_same, hp.lL, fun H1 lo s1 hlo nlo => ?_⟩
    have s01 : Same H H1 := Same.trans' (Same.new na) s1
    refine ⟨lo, rfl, ⟨_, SqL.of hlo⟩, for_list (K := K) (a := lo) (xs := [.str p.L]) (fun i σ H' => H' = H1 ∧ ∃ u, σ = [some (.ref t), some (.int (num cs e)), some (.ref fl), u, none, none, none, none, none]) ⟨rfl, _, rfl⟩ (fun i σ H' _ ⟨e, _⟩ => by rw [e]; exact SqL.of hlo) ?_ ?_⟩
    · rintro i y σ H' hi ⟨rfl, u, rfl⟩
      match i, hi with
      | 0, hi =>
        cases hi
        have S1 := hS.same s01
        refine ⟨_, rfl, t, D.c_Terms, dx, _, _, rfl, s01 _ _ h0, T.cl_Terms, T.n_Terms__kinds, rfl, _, rfl, _, rfl, fl, .int (num cs d), rfl, ?_, A.ki, _, _, _, rfl, rfl, SqL.of S1.ki, atI_nat (S1.kind_at hd), ?_⟩
        · have q := DGet.k (k := Sum.inr p.L) (s01 _ _ hfl)
          rw [valV_pos rfl] at q
          exact q
        · exact ⟨_, rfl, t, D.c_Terms, dx, _, _, rfl, s01 _ _ h0, T.cl_Terms, T.n_Terms_signature, rfl, g, dg, _, rfl, s01 _ _ hg, rfl, _, rfl, g, p, p.L, .str p.S, rfl, hp, hG.same s01, hL1, .inl ⟨.inr rfl, rfl⟩, rfl, _, rfl, ifF (dnF rfl) ⟨rfl, _, rfl⟩⟩
      | j + 1, hi => exact absurd hi (by simp)
    · rintro σ H' ⟨rfl, u, rfl⟩
      refine fun ma nma => ?_
      have s2 : Same H (upd H' ma (.dK [])) := Same.new' s01 (s01.free nma)
      refine ⟨_, rfl, t, dx, _, rfl, s2 _ _ h0, rfl, _, rfl, _, rfl, t, g, fl, p, A, cs, e, .int (num cs d), rfl, hp, hS.same s2, he, by omega, s2 _ _ hfl, fun ta H3 s3 nta hta => ?_⟩
      have s03 : Same H H3 := Same.trans' s2 s3
      have hma : H3 ma = some (.dK []) := s3 _ _ upd_same
      have nma0 := s01.free nma
      have nta0 := s2.free nta
      refine ⟨ta, rfl, ⟨_, SqL.of hta⟩, for_list (K := K) (a := ta) (xs := lv (nm cs e) (List.range (e.length + 1))) (fun i σ H' => ∃ u w x y cs', σ = [some (.ref t), some (.int (num cs e)), some (.ref fl), u, some (.ref ma), w, x, y, none] ∧ But A.M H H' ∧ StoreAt D p H' t g A cs' ∧ Ext cs cs' ∧ (∀ k, k < i → d ++ e.take k ∈ cs') ∧ cs'.length ≤ cs.length + (i - 1) ∧
          H' ma = some (.dK (mdK (nm cs e) (fun k => (num cs' (d ++ e.take k) : Nat)) i)) ∧ H' ta = some (.lst (lv (nm cs e) (List.range (e.length + 1)))))
        ⟨_, _, _, _, cs, rfl, But.of_same s03, hS.same s03, Ext.refl, fun _ h => absurd h (Nat.not_lt_zero _), Nat.le_refl _, hma, hta⟩ (fun i σ H' _ ⟨_, _, _, _, _, _, _, _, _, _, _, _, h⟩ => SqL.of h) ?_ ?_⟩
      · rintro i y σ H4 hi ⟨u, w, x, z, cs', rfl, b4, S4, ext, hin, hlen, hma4, hta4⟩
        obtain ⟨hi, rfl⟩ := lv_range hi
        have hc' := hS.clo.take he i
        have hce := ext _ hc'
        have en : nm cs e i = (num cs' (e.take i) : Nat) := by unfold nm; rw [hce.2]
        have h04 := b4.at h0 (hS.not_m h0 (fun _ => nofun) (fun _ => nofun))
        have hg4 := b4.at hg (hS.not_m hg (fun _ => nofun) (fun _ => nofun))
        have hfl4 := b4.at hfl (hS.not_m hfl (fun _ => nofun) (fun _ => nofun))
        have nmM : ¬ A.M ma := hS.not_m_free nma0
        have ntM : ¬ A.M ta := hS.not_m_free nta0
        have wat := S4.word_at hce.1
        rw [en] at *
        obtain ⟨x0, hx0, hcap⟩ := hp.word0 (e.take i)
        refine ⟨_, rfl, t, D.c_Terms, dx, _, _, rfl, h04, T.cl_Terms, T.n_Terms__words, rfl, _, rfl, A.wo, _, _, _, rfl, rfl, SqL.of S4.wo, atI_nat wat, ?_⟩
        refine ⟨_, rfl, p.word (e.take i), 0, x0, rfl, rfl, Nat.le_trans (hp.lenW _) (by decide), atI_nat (j := 0) hx0, x0, cCap, rfl, rfl, _, rfl, ?_⟩
        have lM : (mdK (nm cs e) (fun k => ((num cs' (d ++ e.take k) : Nat) : Int)) i).length < sizeLine := by
          rw [mdK_len]
          have h : (16777216 : Nat) = sizeLine := rfl
          omega
        have mput : ∀ v : Int, (fun k => ((num cs' (d ++ e.take k) : Nat) : Int)) i = v → putK (mdK (nm cs e) (fun k => ((num cs' (d ++ e.take k) : Nat) : Int)) i) (.inl (nm cs e i)) (.int v) = mdK (nm cs e) (fun k => ((num cs' (d ++ e.take k) : Nat) : Int)) (i + 1) := by
          rintro v rfl
          exact mdK_put fun j hj h => nm_inj hS.clo he (by omega) (by omega) h
        have en2 : nm cs e i = (num cs' (e.take i) : Nat) := by unfold nm; rw [hce.2]
        cases i with
        | zero =>
          rw [List.take_zero] at hcap
          refine ifT hcap ⟨_, rfl, _, rfl, fl, .int (num cs d), rfl, ?_, _, rfl, _, rfl, ma, _, rfl, DPut.k (k := Sum.inl (num cs' (e.take 0) : Nat)) hma4 lM, ?_⟩
          · have q := DGet.k (k := Sum.inr p.L) hfl4
            rw [valV_pos rfl] at q
            exact q
          · rw [← en2, mput (num cs d) (by
              show ((num cs' (d ++ e.take 0) : Nat) : Int) = _
              rw [List.take_zero, List.append_nil, (ext d hd).2])]
            refine ⟨_, _, _, _, cs', rfl, But.own b4 nma0, S4.beside hma4 nmM (fun _ => nofun) (fun _ _ _ => nofun), ext, fun k hk => ?_, by omega, upd_same, ?_⟩
            · obtain rfl : k = 0 := by omega
              rw [List.take_zero, List.append_nil]
              exact (ext d hd).1
            · rw [upd_ne (ne_of hta4 hma4 nofun)]
              exact hta4
        | succ i =>
          have hi' : i < e.length := by omega
          have hcf : capC x0 = false := by
            rw [hcap, take_snoc' hi']
            cases e.take i <;> rfl
          refine ifF hcf ?_
          have hci := hS.clo.take he i
          have hcie := ext _ hci
          have hpk : partsOf p cs' (e.take (i + 1)) = List.replicate (p.arr e[i]) (.int (num cs' (e.take i))) := by rw [take_snoc' hi', parts_snoc]
          obtain ⟨ps, a, hpa, hat, hta'⟩ := S4.part_at hce.1
          rw [hpk] at hta'
          have hdi := hin i (Nat.lt_succ_self _)
          refine ⟨_, rfl, t, D.c_Terms, dx, _, _, rfl, h04, T.cl_Terms, T.n_Terms__parts, rfl, _, rfl, A.pa, _, _, _, rfl, rfl, SqL.of hpa, atI_nat hat, a, rfl, ⟨_, SqT.of hta'⟩, fun D1 nD1 => lc_tup (K := K) (a := a) (xs := List.replicate (p.arr e[i]) (.int (num cs' (e.take i)))) (fun j Hx => Hx = upd H4 D1 (.lst (List.replicate j (.int (num cs' (d ++ e.take i)))))) rfl (fun j Hx _ q => by rw [q]; exact (Same.new nD1).seqT (SqT.of hta')) ?_ ?_⟩
          · rintro j y Hx hj rfl
            have hj4 : j < 4 := by
              have := (List.getElem?_eq_some_iff.mp hj).1
              rw [List.length_replicate] at this
              exact Nat.lt_of_lt_of_le this (hp.arr4 _)
            rw [List.getElem?_replicate] at hj
            obtain rfl : y = .int (num cs' (e.take i)) := by
              split at hj
              · exact (Option.some.inj hj).symm
              · cases hj
            have hmaD := Same.new nD1 (o := .lst (List.replicate j (.int (num cs' (d ++ e.take i))))) _ _ hma4
            refine ⟨rfl, _, rfl, ma, rfl, .inl ⟨_, .inl hmaD⟩, _, rfl, _, rfl, some (.int (num cs' (d ++ e.take i))), ?_, List.replicate j (.int (num cs' (d ++ e.take i))), upd_same, ?_, ?_⟩
            · have q := DGet.k (k := Sum.inl (nm cs e i)) hmaD
              rw [mdK_val (fun j hj h => nm_inj hS.clo he (by omega) (by omega) h), if_pos (Nat.lt_succ_self _)] at q
              have eni : nm cs e i = (num cs' (e.take i) : Nat) := by unfold nm; rw [hcie.2]
              rw [eni] at q
              exact q
            · have : (List.replicate j (V.int (num cs' (d ++ e.take i)))).length < 16777216 := by rw [List.length_replicate]; omega
              exact this
            · rw [upd_upd, List.replicate_succ']
              rfl
          · rintro Hx rfl
            rw [List.length_replicate]
            refine ⟨D1, _, rfl, .inl ⟨SqL.of upd_same, fun t2 m2 => ?_⟩⟩
            have s5 := Same.trans' (Same.new (o := .lst (List.replicate (p.arr e[i]) (.int (num cs' (d ++ e.take i))))) nD1) (Same.new (o := .tup (List.replicate (p.arr e[i]) (.int (num cs' (d ++ e.take i))))) m2)
            generalize hH5 : upd (upd H4 D1 (.lst (List.replicate (p.arr e[i]) (.int (num cs' (d ++ e.take i)))))) t2 (.tup (List.replicate (p.arr e[i]) (.int (num cs' (d ++ e.take i))))) = H5 at s5
            have ht5 : H5 t2 = some (.tup (List.replicate (p.arr e[i]) (.int (num cs' (d ++ e.take i))))) := by rw [← hH5, upd_same]
            have S5 := S4.same s5
            have ec : d ++ e.take (i + 1) = (d ++ e.take i) ++ [e[i]] := by rw [take_snoc' hi', List.append_assoc]
            refine ⟨_, rfl, t, dx, _, rfl, s5 _ _ h04, rfl, _, rfl, _, rfl, _, rfl, t, D.c_Terms, dx, _, _, rfl, s5 _ _ h04, T.cl_Terms, T.n_Terms__kinds, rfl, _, rfl, A.ki, _, _, _, rfl, rfl, SqL.of S5.ki, atI_nat (S5.kind_at hce.1), ?_⟩
            refine ⟨t, g, t2, p, A, cs', d ++ e.take (i + 1), by rw [ec, Par.word_snoc, word_take hi']; rfl, hp, S5, by omega, ?_, ?_, fun H6 b6 S6 => ?_⟩
            · intro c' b' q
              rw [ec] at q
              obtain ⟨rfl, _⟩ := List.append_inj' q rfl
              exact hdi
            · rw [ec, parts_snoc]
              exact ht5
            · have nmA : H6 ma = some (.dK (mdK (nm cs e) (fun k => ((num cs' (d ++ e.take k) : Nat) : Int)) (i + 1))) := b6.at (s5 _ _ hma4) nmM
              have ntA := b6.at (s5 _ _ hta4) ntM
              have ext2 : Ext cs' (add cs' (d ++ e.take (i + 1))) := Ext.add
              have econ : mdK (nm cs e) (fun k => ((num cs' (d ++ e.take k) : Nat) : Int)) (i + 1) = mdK (nm cs e) (fun k => ((num (add cs' (d ++ e.take (i + 1))) (d ++ e.take k) : Nat) : Int)) (i + 1) :=
                mdK_congr fun j hj => by rw [(ext2 _ (hin j hj)).2]
              rw [econ] at nmA
              have lM2 : (mdK (nm cs e) (fun k => ((num (add cs' (d ++ e.take (i + 1))) (d ++ e.take k) : Nat) : Int)) (i + 1)).length < sizeLine := by rw [← econ]; exact lM
              refine ⟨_, rfl, _, rfl, ma, _, rfl, DPut.k (k := Sum.inl (num cs' (e.take (i + 1)) : Nat)) nmA lM2, ?_⟩
              rw [← en2, mdK_put (f := nm cs e) (v := fun k => ((num (add cs' (d ++ e.take (i + 1))) (d ++ e.take k) : Nat) : Int)) (j := i + 1) fun j hj h => nm_inj hS.clo he (by omega) (by omega) h]
              refine ⟨_, _, _, _, add cs' (d ++ e.take (i + 1)), rfl, But.own (b4.trans ((But.of_same s5).trans b6)) nma0, S6.beside nmA nmM (fun _ => nofun) (fun _ _ _ => nofun), ext.trans ext2, fun k hk => ?_, ?_, upd_same, ?_⟩
              · rcases Nat.lt_or_ge k (i + 1) with h | h
                · exact (ext2 _ (hin k h)).1
                · obtain rfl : k = i + 1 := by omega
                  exact mem_add
              · have := add_len (cs := cs') (c := d ++ e.take (i + 1))
                omega
              · rw [upd_ne (ne_of ntA nmA nofun)]
                exact ntA
      · rintro σ H4 ⟨u, w, x, z, cs', rfl, b4, S4, ext, hin, hlen, hma4, hta4⟩
        have hl : (lv (nm cs e) (List.range (e.length + 1))).length = e.length + 1 := by unfold lv; rw [List.length_map, List.length_range]
        rw [hl] at hin hlen hma4
        refine ⟨_, rfl, ma, rfl, .inl ⟨_, .inl hma4⟩, _, rfl, _, rfl, some (.int (num cs' (d ++ e))), ?_, ?_⟩
        · have q := DGet.k (k := Sum.inl (nm cs e e.length)) hma4
          rw [mdK_val (fun i hi h => nm_inj hS.clo he (by omega) (Nat.le_refl _) h), if_pos (Nat.lt_succ_self _), List.take_length] at q
          rw [nm_top] at q
          exact q
        · refine k H4 cs' b4 S4 ext ?_ (by omega)
          have := hin e.length (Nat.lt_succ_self _)
          rwa [List.take_length] at this
end
end R87

/-! ## From87 -/
set_option maxHeartbeats 4000000
namespace R87
open PySem PySem.Spec PyProof.Rows L2
variable {D : Ad} {p : Par} {H H' : Hp} {t g : Addr} {A : SA} {cs : List Ch}
/-- the rows so far tell these terms -/
def Goes (p : Par) (xss : List (List V)) (qs : List Ch) : Prop := qs.length ≤ xss.length ∧ ∀ (i : Nat) (c : Ch), qs[i]? = some c → ∃ xs, xss[i]? = some xs ∧ RowIs p (qs.take i) xs (some c)
theorem Goes.short {xss : List (List V)} {qs : List Ch} (h : Goes p xss qs) : ∀ (n i : Nat) (c : Ch), i ≤ n → qs[i]? = some c → c.length ≤ i := by
  intro n
  induction n with
  | zero =>
    intro i c hi hc
    obtain rfl : i = 0 := by omega
    obtain ⟨xs, _, r⟩ := h.2 0 c hc
    cases r with
    | lf => exact Nat.zero_le _
    | nd hq => simp at hq
  | succ n ih =>
    intro i c hi hc
    obtain ⟨xs, _, r⟩ := h.2 i c hc
    cases r with
    | lf => exact Nat.zero_le _
    | @nd b j q hq =>
      rw [List.getElem?_take] at hq
      split at hq
      · rename_i hj
        have := ih j q (by omega) hq
        rw [List.length_append, List.length_singleton]
        omega
      · cases hq
/-- what from_shared says of rows: a term, or the place of the first bad row -/
def FromV (p : Par) (xss : List (List V)) (v : Ch ⊕ Nat) : Prop :=
  (∃ qs xs, v = .inr qs.length ∧ Goes p xss qs ∧ xss[qs.length]? = some xs ∧ RowIs p qs xs none) ∨ (v = .inr 0 ∧ xss = []) ∨
  (∃ qs c, Goes p xss (qs ++ [c]) ∧ (qs ++ [c]).length = xss.length ∧
    ((∃ k xs, v = .inr k ∧ (∀ i, i < k → xss[i]? = (p.rows c)[i]?) ∧ xss[k]? = some xs ∧ (p.rows c)[k]? ≠ some xs) ∨ (v = .inl c ∧ ∀ i, i < xss.length → xss[i]? = (p.rows c)[i]?)))
theorem rowAt_fl (hp : p.Ok) {c : Ch} {i : Nat} : FlD (p.rowAt c i) := by
  cases i with
  | zero => exact fl_str hp.oL fl_nil
  | succ i => exact fl_str (hp.os _) fl_rep
theorem numsV_ext {cs' qs : List Ch} (h : Ext cs cs') (hq : ∀ q ∈ qs, q ∈ cs) : numsV cs' qs = numsV cs qs := by
  unfold numsV
  exact List.map_congr_left fun q hq' => by rw [(h q (hq q hq')).2]
section
variable {P : Program} {w : World} {K : PySem.W.Frag} {mg : Str → Option Value} {base : Heap} {eB eT eBf eTf : Addr}
def spFrom (D : Ad) (eB : Addr) : Sp := fun vs H Q E => ∃ (t g ra : Addr) (p : Par) (A : SA) (cs : List Ch) (rs : List Addr) (xss : List (List V)) (v : Ch ⊕ Nat), vs = [.ref t, .ref ra] ∧ p.Ok ∧ StoreAt D p H t g A cs ∧ SigAt D p H g ∧ cs.length + xss.length ≤ 20000 ∧
  H ra = some (.tup (rs.map V.ref)) ∧ RowsAt H rs xss ∧ (∀ xs ∈ xss, FlD xs) ∧ FromV p xss v ∧
  (∀ c, v = .inl c → ∀ H' cs', But A.M H H' → StoreAt D p H' t g A cs' → Ext cs cs' → c ∈ cs' → cs'.length ≤ cs.length + xss.length → Q (.int (num cs' c)) H') ∧
  (∀ k : Nat, v = .inr k → ∀ d H' cs', But A.M H H' → StoreAt D p H' t g A cs' → Ext cs cs' → cs'.length ≤ cs.length + xss.length → H d = none → H' d = some (.xd [("place", .int k)]) → E (.ref eB) (some d) H')
theorem ok_from (T : Txt K P mg D eB eT eBf eTf) : FnOk P w K mg base (L2.CX P w) 4 D.a_Terms_from_shared D.d_Terms_from_shared ["self", "rows"] (spFrom D eB) := by
  refine T.F_Terms_from_shared.ok sc_Terms_from_shared (fun vs H Q E h => ?_) (fun cdv AA outer s H vs Q E hr h => ?_)
  · obtain ⟨t, g, ra, p, A, cs, rs, xss, v, rfl, _⟩ := h
    rfl
  · obtain ⟨t, g, ra, p, A, cs, rs, xss, v, rfl, hp, hS, hG, hsm, hra, hrows, hfl, hv, k, kE⟩ := h
    have GR := ok_of_row (P := P) (w := w) (base := base) T
    have GS := ok_shared (P := P) (w := w) (base := base) T
    have nd := sc_Terms_from_shared.nd
    have hr1 : Room 1 _ := hr.mono (by decide)
    refine ⟨_, pss_cons (ps_set (i := 2) nd rfl (Or.inl rfl) (pe_lst pa_nil))
      (pss_cons (ps_for (passes_of rfl) rfl (pi_enumT (by rfl) T.enumerate (pa_cons (pv 1) pa_nil)) (pg_tup rfl (pgs_cons (pg_name (i := 3) nd rfl (Or.inl rfl)) (pgs_cons (pg_name (i := 4) nd rfl (Or.inl rfl)) pgs_nil)))
        (pss_cons (ps_set (i := 5) nd rfl (Or.inl rfl) (pe_meth (pv 0) T.cl_Terms T.m_Terms_of_row GR hr T.b_Terms_of_row .nil pass0 (pa_cons (pv 4) (pa_cons (pv 2) pa_nil))))
        (pss_cons (ps_if (pt_cmpR op_isN (pv 5) pe_non (nomark _)) (pss_one (ps_raiseErr rfl T.rows hr (takes_of rfl rfl rfl rfl) (pa_cons (pv 3) pa_nil))) pss_nil)
        (pss_one (ps_expr (pe_bm PySem.F.plainAttrs_list PySem.F.slot_list_append PySem.F.type_list_append mt_append (pv 2) (pa_cons (pv 5) pa_nil)))))))
      (pss_cons (ps_if (pt_not (pt_truth (pv 2) (by intro _; rfl))) (pss_one (ps_raiseErr rfl T.rows hr (takes_of rfl rfl rfl rfl) (pa_cons pe_int pa_nil))) pss_nil)
      (pss_cons (ps_set (i := 6) nd rfl (Or.inl rfl) (pe_meth (pv 0) T.cl_Terms T.m_Terms_shared GS hr1 T.b_Terms_shared .nil pass0 (pa_cons (pe_ix ix_list (pv 2) (pe_un un_neg pe_int) (fun _ _ => rfl)) pa_nil)))
      (pss_cons (ps_for (passes_of rfl) rfl (pi_enumT (by rfl) T.enumerate (pa_cons (pv 1) pa_nil)) (pg_tup rfl (pgs_cons (pg_name (i := 3) nd rfl (Or.inl rfl)) (pgs_cons (pg_name (i := 4) nd rfl (Or.inl rfl)) pgs_nil)))
        (pss_one (ps_if (PW.pt (pw_or (pt_cmpR op_ge (pv 3) (pe_callB call_len_seq (by rfl) T.len PySem.boot_len (pa_cons (pv 6) pa_nil)) (nomark _)) (pw_or1 (pt_cmpR (op_neD hr.units) (pe_callTy call_tuple_of (by rfl) T.tuple (by decide +kernel) (pa_cons (pv 4) pa_nil)) (pe_ix ix_tup (pv 6) (pv 3) (fun _ _ => rfl)) (nomark _)))))
          (pss_one (ps_raiseErr rfl T.rows hr (takes_of rfl rfl rfl rfl) (pa_cons (pv 3) pa_nil))) pss_nil)))
      (pss_one (ps_ret (pe_ix ix_list (pv 2) (pe_un un_neg pe_int) (fun _ _ => rfl)))))))), ?_⟩
    obtain ⟨dx, tx, h0⟩ := hS.ob
    refine ⟨Nat.zero_le _, fun nl nnl => ?_⟩
    -- the terms that the rows tell
    obtain ⟨qs, hgo, hqv⟩ : ∃ qs, Goes p xss qs ∧ ((∃ xs, v = .inr qs.length ∧ xss[qs.length]? = some xs ∧ RowIs p qs xs none) ∨ (qs.length = xss.length ∧ ((v = .inr 0 ∧ qs = []) ∨ ∃ qs' c, qs = qs' ++ [c] ∧
        ((∃ k xs, v = .inr k ∧ (∀ i, i < k → xss[i]? = (p.rows c)[i]?) ∧ xss[k]? = some xs ∧ (p.rows c)[k]? ≠ some xs) ∨ (v = .inl c ∧ ∀ i, i < xss.length → xss[i]? = (p.rows c)[i]?))))) := by
      rcases hv with ⟨qs, xs, h1, h2, h3, h4⟩ | ⟨h1, h2⟩ | ⟨qs, c, h1, h2, h3⟩
      · exact ⟨qs, h2, .inl ⟨xs, h1, h3, h4⟩⟩
      · subst h2
        exact ⟨[], ⟨Nat.le_refl _, fun i c e => by simp at e⟩, .inr ⟨rfl, .inl ⟨h1, rfl⟩⟩⟩
      · exact ⟨qs ++ [c], h1, .inr ⟨h2, .inr ⟨qs, c, rfl, h3⟩⟩⟩
    have nlM : ¬ A.M nl := hS.not_m_free nnl
    have hlr : (rs.map V.ref).length = xss.length := by rw [List.length_map, hrows.1]
    refine ⟨_, rfl, ra, _, rfl, SqT.of (Same.new nnl _ _ hra), for_it walk_enumT (fun i σ H' => ∃ u x y cs', σ = [some (.ref t), some (.ref ra), some (.ref nl), u, x, y, none] ∧ i ≤ qs.length ∧ But A.M H H' ∧ StoreAt D p H' t g A cs' ∧ Ext cs cs' ∧ cs'.length ≤ cs.length + i ∧ (∀ q ∈ qs.take i, q ∈ cs') ∧ H' nl = some (.lst (numsV cs' (qs.take i))))
      ⟨_, _, _, cs, rfl, Nat.zero_le _, But.of_same (Same.new nnl), hS.same (Same.new nnl), Ext.refl, Nat.le_refl _, fun _ h => by simp at h, upd_same⟩ (fun i σ H' _ ⟨_, _, _, _, _, _, b, _⟩ => SqT.of (b.tup hra)) ?_ ?_⟩
    · rintro i x σ H1 H2 hi ⟨u, y, z, cs', rfl, hiq, b1, S1, ext, hlen, hin, hnl⟩ ⟨T', y1, y2, rfl, hT, rfl, hy, hz⟩
      cases hy
      rw [hlr] at hi
      replace hz : (rs.map V.ref)[i]? = some y2 := hz
      rw [List.getElem?_map] at hz
      obtain ⟨r, hr', rfl⟩ : ∃ r, rs[i]? = some r ∧ y2 = .ref r := by
        cases e : rs[i]? with
        | none => rw [e] at hz; cases hz
        | some r => rw [e] at hz; exact ⟨r, rfl, (Option.some.inj hz).symm⟩
      have s2 : Same H1 (upd H1 T' (.tup [.int (i : Nat), .ref r])) := Same.new hT
      refine ⟨T', _, rfl, SqT.of upd_same, rfl, _, _, rfl, _, _, rfl, rfl, ?_⟩
      generalize upd H1 T' (.tup [.int (i : Nat), .ref r]) = H3 at s2
      have b3 : But A.M H H3 := b1.trans (But.of_same s2)
      have S3 := S1.same s2
      have hxs : xss[i]? = some xss[i] := List.getElem?_eq_getElem hi
      have hrow3 : H3 r = some (.tup xss[i]) := b3.tup (hrows.2 i r _ hr' hxs)
      have h03 := b3.at h0 (hS.not_m h0 (fun _ => nofun) (fun _ => nofun))
      have hG3 := hG.but hS b3
      have hrow : ∃ o, RowIs p (qs.take i) xss[i] o ∧ (o = none → v = .inr i) ∧ ∀ c, o = some c → qs[i]? = some c := by
        rcases Nat.lt_or_ge i qs.length with hlt | hge
        · obtain ⟨xs, h1, h2⟩ := hgo.2 i qs[i] (List.getElem?_eq_getElem hlt)
          rw [hxs] at h1
          cases h1
          exact ⟨_, h2, (fun h => by cases h), fun c h => by cases h; exact List.getElem?_eq_getElem hlt⟩
        · obtain rfl : i = qs.length := by omega
          rcases hqv with ⟨xs, h1, h2, h3⟩ | ⟨h1, _⟩
          · rw [hxs] at h2
            cases h2
            exact ⟨none, by rw [List.take_length]; exact h3, fun _ => h1, fun c h => by cases h⟩
          · omega
      obtain ⟨o, hro, hon, hos⟩ := hrow
      refine ⟨_, rfl, t, dx, _, rfl, h03, rfl, _, rfl, _, rfl, t, g, r, nl, p, A, cs', qs.take i, xss[i], o, rfl, hp, S3, hG3, by omega, hrow3, s2 _ _ hnl, hin, hro, ?_, ?_⟩
      · rintro c rfl H4 b4 S4
        have hq := hos c rfl
        have hlt := (List.getElem?_eq_some_iff.mp hq).1
        have hnl4 := b4.at (s2 _ _ hnl) nlM
        refine ⟨_, rfl, rfl, _, rfl, ifF rfl ⟨_, rfl, .inl ⟨rfl, _, SqL.of hnl4⟩, _, rfl, nl, _, _, rfl, rfl, hnl4, ?_, ?_⟩⟩
        · have : (numsV cs' (qs.take i)).length < 16777216 := by
            unfold numsV
            rw [List.length_map, List.length_take]
            omega
          exact this
        · have ext2 : Ext cs' (add cs' c) := Ext.add
          refine ⟨_, _, _, add cs' c, rfl, hlt, But.own (b3.trans b4) nnl, S4.beside hnl4 nlM (fun _ => nofun) (fun _ _ _ => nofun), ext.trans ext2, ?_, ?_, ?_⟩
          · have := add_len (cs := cs') (c := c)
            omega
          · intro q hq'
            rw [take_snoc hq] at hq'
            rcases List.mem_append.mp hq' with h | h
            · exact (ext2 q (hin q h)).1
            · rw [List.mem_singleton.mp h]
              exact mem_add
          · rw [upd_same, take_snoc hq, ← numsV_ext ext2 hin]
            unfold numsV
            rw [List.map_append]
            rfl
      · rintro rfl H4 s4
        refine ⟨_, rfl, rfl, _, rfl, ifT rfl ⟨_, rfl, rfl, fun d nd => ?_⟩⟩
        have b4 := b3.trans (But.of_same s4)
        exact kE i (hon rfl) d _ cs' (b4.trans (But.of_same (Same.new nd))) ((S3.same s4).same (Same.new nd)) ext (by omega) (b4.free nd ((S3.same s4).not_m_free nd)) upd_same
    · rintro σ H1 ⟨u, y, z, cs', rfl, hiq, b1, S1, ext, hlen, hin, hnl⟩
      rw [hlr] at hiq hlen hin hnl
      have hql : qs.length = xss.length := Nat.le_antisymm hgo.1 hiq
      rw [List.take_of_length_le (by omega)] at hin hnl
      obtain hqv := hqv.resolve_left fun ⟨xs, _, h, _⟩ => by rw [List.getElem?_eq_none (by omega)] at h; cases h
      obtain ⟨_, hqv⟩ := hqv
      have h01 := b1.at h0 (hS.not_m h0 (fun _ => nofun) (fun _ => nofun))
      refine ⟨_, rfl, !(numsV cs' qs).isEmpty, .inl ⟨_, SqL.of hnl, rfl⟩, ?_⟩
      rcases hqv with ⟨rfl, rfl⟩ | ⟨qs', c, rfl, hv'⟩
      · refine ifT rfl ⟨rfl, fun d nd => ?_⟩
        exact kE 0 rfl d _ cs' (b1.trans (But.of_same (Same.new nd))) (S1.same (Same.new nd)) ext hlen (b1.free nd (S1.not_m_free nd)) upd_same
      · have hcl : c.length ≤ xss.length := by
          have := hgo.short qs'.length qs'.length c (Nat.le_refl _) (by rw [List.getElem?_append_right (Nat.le_refl _), Nat.sub_self]; rfl)
          rw [List.length_append, List.length_singleton] at hql
          omega
        have hcm : c ∈ cs' := hin c (List.mem_append_right _ (List.mem_singleton.mpr rfl))
        have hnum : numsV cs' (qs' ++ [c]) = numsV cs' qs' ++ [.int (num cs' c)] := by unfold numsV; rw [List.map_append]; rfl
        refine ifF (by rw [hnum]; simp) ?_
        refine ⟨_, rfl, t, dx, _, rfl, h01, rfl, _, rfl, 1, rfl, nl, _, _, .int (num cs' c), rfl, rfl, SqL.of hnl, by rw [hnum]; exact atI_last _ _, t, g, p, A, cs', c, rfl, hp, S1, hcm, by omega, fun a H5 rs5 s5 ha hrows5 => ?_⟩
        have b5 := b1.trans (But.of_same s5)
        have S5 := S1.same s5
        obtain ⟨vk, hvk, hlow, hend⟩ : ∃ vk, vk ≤ xss.length ∧ (∀ i, i < vk → xss[i]? = (p.rows c)[i]?) ∧ ((vk < xss.length ∧ v = .inr vk ∧ xss[vk]? ≠ (p.rows c)[vk]?) ∨ (vk = xss.length ∧ v = .inl c)) := by
          rcases hv' with ⟨k, xs, h1, h2, h3, h4⟩ | ⟨h1, h2⟩
          · exact ⟨k, Nat.le_of_lt (List.getElem?_eq_some_iff.mp h3).1, h2, .inl ⟨(List.getElem?_eq_some_iff.mp h3).1, h1, by rw [h3]; exact fun e => h4 e.symm⟩⟩
          · exact ⟨_, Nat.le_refl _, h2, .inr ⟨rfl, h1⟩⟩
        have hl5 : (rs5.map V.ref).length = c.length + 1 := by rw [List.length_map, hrows5.1, Par.rows_len]
        refine ⟨_, rfl, ra, _, rfl, SqT.of (b5.tup hra), for_it walk_enumT (fun i σ H' => ∃ u x y, σ = [some (.ref t), some (.ref ra), some (.ref nl), u, x, y, some (.ref a)] ∧ Same H5 H' ∧ i ≤ vk) ⟨_, _, _, rfl, Same.rfl', Nat.zero_le _⟩ (fun i σ H' _ ⟨_, _, _, _, h, _⟩ => SqT.of (h _ _ (b5.tup hra))) ?_ ?_⟩
        · rintro i x σ H6 H7 hi ⟨u, y, z, rfl, s6, hik⟩ ⟨T', y1, y2, rfl, hT, rfl, hy, hz⟩
          cases hy
          rw [hlr] at hi
          replace hz : (rs.map V.ref)[i]? = some y2 := hz
          rw [List.getElem?_map] at hz
          obtain ⟨r, hr', rfl⟩ : ∃ r, rs[i]? = some r ∧ y2 = .ref r := by
            cases e : rs[i]? with
            | none => rw [e] at hz; cases hz
            | some r => rw [e] at hz; exact ⟨r, rfl, (Option.some.inj hz).symm⟩
          have s7 : Same H5 (upd H6 T' (.tup [.int (i : Nat), .ref r])) := Same.trans' s6 (Same.new hT)
          refine ⟨T', _, rfl, SqT.of upd_same, rfl, _, _, rfl, _, _, rfl, rfl, ?_⟩
          generalize upd H6 T' (.tup [.int (i : Nat), .ref r]) = H8 at s7
          have b8 : But A.M H H8 := b5.trans (But.of_same s7)
          have S8 := S5.same s7
          have hxs : xss[i]? = some xss[i] := List.getElem?_eq_getElem hi
          have hrow8 : H8 r = some (.tup xss[i]) := b8.tup (hrows.2 i r _ hr' hxs)
          -- the way out
          have out : v = .inr i → ∀ d, H8 d = none → E (.ref eB) (some d) (upd H8 d (.xd [("place", .int (i : Nat))])) := fun hvi d nd =>
            kE i hvi d _ cs' (b8.trans (But.of_same (Same.new nd))) (S8.same (Same.new nd)) ext hlen (b8.free nd (S8.not_m_free nd)) upd_same
          have bad : xss[i]? ≠ (p.rows c)[i]? → v = .inr i := fun hne => by
            have hge : ¬ i < vk := fun h => hne (hlow i h)
            obtain rfl : i = vk := by omega
            rcases hend with ⟨_, h, _⟩ | ⟨h, _⟩
            · exact h
            · omega
          have good : xss[i]? = (p.rows c)[i]? → i + 1 ≤ vk := fun he => by
            rcases hend with ⟨h1, _, h2⟩ | ⟨h, _⟩
            · rcases Nat.lt_or_ge i vk with h | h
              · exact h
              · obtain rfl : i = vk := by omega
                exact absurd he h2
            · omega
          refine ⟨_, rfl, _, rfl, a, _, rfl, .inr (SqT.of (s7 _ _ ha)), _, _, rfl, rfl, _, rfl, ifC (fun h1 => ?_) (fun h1 => ?_)⟩
          · have h2 : c.length + 1 ≤ i := by have := oT h1; rw [hl5] at this; omega
            exact ⟨_, rfl, rfl, fun d nd => out (bad (by rw [hxs, List.getElem?_eq_none (by rw [Par.rows_len]; exact h2)]; nofun)) d nd⟩
          · have h2 : i < c.length + 1 := by have := oF h1; rw [hl5] at this; omega
            have hir : i < rs5.length := by rw [hrows5.1, Par.rows_len]; exact h2
            have hrw : (p.rows c)[i]? = some (p.rowAt c i) := Par.rows_get (by omega)
            have hd8 : H8 rs5[i] = some (.tup (p.rowAt c i)) := s7 _ _ (hrows5.2 i _ _ (List.getElem?_eq_getElem hir) hrw)
            have f1 := hfl xss[i] (List.getElem_mem hi)
            have f2 := rowAt_fl hp (c := c) (i := i)
            refine ⟨_, rfl, r, _, rfl, .inr ⟨SqT.of hrow8, _, rfl, _, rfl, a, _, _, .ref rs5[i], rfl, rfl, SqT.of (s7 _ _ ha), atI_nat (by rw [List.getElem?_map, List.getElem?_eq_getElem hir]; rfl), _, _, dp_tup hrow8 f1, dp_tup hd8 f2, flD_shaped f1, flD_shaped f2, _, rfl, ?_⟩⟩
            rw [eqv_tup f1 f2]
            refine ifC (fun h3 => ?_) (fun h3 => ⟨_, _, _, rfl, s7, good ?_⟩)
            · exact ⟨_, rfl, rfl, fun d nd => out (bad (by rw [hxs, hrw]; exact fun e => onT h3 (Option.some.inj e))) d nd⟩
            · rw [hxs, hrw, onF h3]
        · rintro σ H6 ⟨u, y, z, rfl, s6, hik⟩
          rw [hlr] at hik
          have hvc : v = .inl c := by
            rcases hend with ⟨h, _⟩ | ⟨_, h⟩
            · omega
            · exact h
          refine ⟨_, rfl, 1, rfl, nl, _, _, .int (num cs' c), rfl, rfl, SqL.of (s6 _ _ (s5 _ _ hnl)), by rw [hnum]; exact atI_last _ _, k c hvc H6 cs' (b5.trans (But.of_same s6)) (S5.same s6) ext hcm hlen⟩
end
end R87

/-! ## SigInit87 -/
set_option maxHeartbeats 4000000
namespace R87
open PySem PySem.Spec PyProof.Rows L2
variable {D : Ad} {p : Par} {H H' : Hp} {t g : Addr} {A : SA} {cs : List Ch}
def sigF4 (a b c d : Addr) : List (Str × V) := [("_capitals", .ref a), ("_sorts", .ref b), ("_arguments", .ref c), ("_results", .ref d)]
section
variable {P : Program} {w : World} {K : PySem.W.Frag} {mg : Str → Option Value} {base : Heap} {eB eT eBf eTf : Addr}
def spAddSort (D : Ad) : Sp := fun vs H Q _ => ∃ (g dx dC dS dA dR : Addr) (S : Str) (c : Nat), vs = [.ref g, .str S, .str ⟨#[c]⟩] ∧ H g = some (.ins D.c_Signature dx (sigF4 dC dS dA dR)) ∧ H dC = some (.dK []) ∧ H dS = some (.dK []) ∧ dC ≠ dS ∧ nameL S.cps.toList = true ∧ S.length ≤ 1000 ∧ capC c = true ∧
  Q .non (upd (upd H dC (.dK [(.inr S, .str ⟨#[c]⟩)])) dS (.dK [(.inr ⟨#[c]⟩, .str S)]))
theorem ok_add_sort (T : Txt K P mg D eB eT eBf eTf) : FnOk P w K mg base CX0 2 D.a_Signature_add_sort D.d_Signature_add_sort ["self", "name", "capital"] (spAddSort D) := by
  obtain ⟨tC, hC⟩ := T.G.cap
  refine T.F_Signature_add_sort.ok sc_Signature_add_sort (fun vs H Q E h => ?_) (fun cdv AA outer s H vs Q E hr h => ?_)
  · obtain ⟨g, dx, dC, dS, dA, dR, S, c, rfl, _⟩ := h
    rfl
  · obtain ⟨g, dx, dC, dS, dA, dR, S, c, rfl, h0, hC0, hS0, ncs, hn, hl, hc, k⟩ := h
    have hu := hu_of hr
    have GN : FnOk P w K mg base CX0 1 D.a_is_name D.d_is_name ["text"] spIsName := ok_is_name T.F_is_name T.G
    refine ⟨_, PSs.nox (pss_cons (ps_if (pt_not (pt_val (pe_call GN hr rfl T.g_is_name T.F_is_name.kp T.b_is_name .nil pass0 (pa_cons (pv 1) pa_nil)))) (pss_one ps_never) pss_nil)
      (pss_cons (ps_if (pt_cmp (pc_din hu (pv 1) (pe_fld (pv 0) rfl))) (pss_one ps_never) pss_nil)
      (pss_cons (ps_if (PW.pt (pw_or (pt_cmpR op_ne (pe_callB call_len_str (by rfl) T.len PySem.boot_len (pa_cons (pv 2) pa_nil)) pe_int (nomark _)) (pw_or1 (pt_cmpR op_notIn_sign (pv 2) (pgS hC) (by rfl))))) (pss_one ps_never) pss_nil)
      (pss_cons (ps_if (pt_cmp (pc_din hu (pv 2) (pe_fld (pv 0) rfl))) (pss_one ps_never) pss_nil)
      (pss_cons (ps_dput hu (pe_fld (pv 0) rfl) (pv 1) (pv 2) rfl)
      (pss_one (ps_dput hu (pe_fld (pv 0) rfl) (pv 2) (pv 1) rfl))))))), ?_⟩
    have n1 : g ≠ dC := ne_of h0 hC0 nofun
    refine ⟨_, rfl, S, rfl, hl, _, rfl, ?_⟩
    rw [hn]
    refine ifF rfl ⟨_, rfl, _, rfl, g, D.c_Signature, dx, _, _, rfl, h0, T.cl_Signature, T.n_Signature__capitals, rfl, dC, _, rfl, DGet.k (k := Sum.inr S) hC0, _, rfl, ifF rfl ?_⟩
    refine ⟨_, rfl, _, rfl, (by show (1 : Nat) ≤ sizeLine; decide), rfl, _, rfl, ifF rfl ⟨_, rfl, c, cCap, rfl, rfl, _, rfl, ifF (by show (!capC c) = false; rw [hc]; rfl) ?_⟩⟩
    refine ⟨_, rfl, _, rfl, g, D.c_Signature, dx, _, _, rfl, h0, T.cl_Signature, T.n_Signature__sorts, rfl, dS, _, rfl, DGet.k (k := Sum.inr ⟨#[c]⟩) hS0, _, rfl, ifF rfl ?_⟩
    refine ⟨_, rfl, _, rfl, g, D.c_Signature, dx, _, _, rfl, h0, T.cl_Signature, T.n_Signature__capitals, rfl, _, rfl, dC, _, rfl, DPut.k (k := Sum.inr S) hC0 (by show (0 : Nat) < sizeLine; decide), ?_⟩
    exact ⟨_, rfl, _, rfl, g, D.c_Signature, dx, sigF4 dC dS dA dR, _, rfl, by rw [upd_ne n1]; exact h0, T.cl_Signature, T.n_Signature__sorts, rfl, _, rfl, dS, _, rfl, DPut.k (kvs := []) (k := Sum.inr ⟨#[c]⟩) (by rw [upd_ne (Ne.symm ncs)]; exact hS0) (by show (0 : Nat) < sizeLine; decide), k⟩
def spAddSign (D : Ad) : Sp := fun vs H Q _ => ∃ (g dx dC dS dA dR al : Addr) (x S : Str) (n : Nat) (cv : V) (kA kR : List (Key × V)), vs = [.ref g, .str x, .ref al, .str S] ∧ H g = some (.ins D.c_Signature dx (sigF4 dC dS dA dR)) ∧ H dC = some (.dK [(.inr S, cv)]) ∧ H dA = some (.dK kA) ∧ H dR = some (.dK kR) ∧ dA ≠ dR ∧
  H al = some (.lst (List.replicate n (.str S))) ∧ n ≤ 4 ∧ nameL x.cps.toList = true ∧ x.length ≤ 1000 ∧ kA.length ≤ 10 ∧ kR.length ≤ 10 ∧ valV kA (.inr x) = none ∧ valV kR (.inr x) = none ∧
  ∀ H' ta, But (fun a => a = dA ∨ a = dR) H H' → H' dA = some (.dK (kA ++ [(.inr x, .ref ta)])) → H' dR = some (.dK (kR ++ [(.inr x, .str S)])) → H' ta = some (.tup (List.replicate n (.str S))) → Q .non H'
theorem ok_add_sign (T : Txt K P mg D eB eT eBf eTf) : FnOk P w K mg base CX0 2 D.a_Signature_add_sign D.d_Signature_add_sign ["self", "name", "arguments", "result"] (spAddSign D) := by
  refine T.F_Signature_add_sign.ok sc_Signature_add_sign (fun vs H Q E h => ?_) (fun cdv AA outer s H vs Q E hr h => ?_)
  · obtain ⟨g, dx, dC, dS, dA, dR, al, x, S, n, cv, kA, kR, rfl, _⟩ := h
    rfl
  · obtain ⟨g, dx, dC, dS, dA, dR, al, x, S, n, cv, kA, kR, rfl, h0, hC0, hA0, hR0, nar, hal, hn4, hn, hl, lA, lR, vA, vR, k⟩ := h
    have hu := hu_of hr
    have nd := sc_Signature_add_sign.nd
    have GN : FnOk P w K mg base CX0 1 D.a_is_name D.d_is_name ["text"] spIsName := ok_is_name T.F_is_name T.G
    refine ⟨_, PSs.nox (pss_cons (ps_if (pt_not (pt_val (pe_call GN hr rfl T.g_is_name T.F_is_name.kp T.b_is_name .nil pass0 (pa_cons (pv 1) pa_nil)))) (pss_one ps_never) pss_nil)
      (pss_cons (ps_if (pt_cmp (pc_din hu (pv 1) (pe_fld (pv 0) rfl))) (pss_one ps_never) pss_nil)
      (pss_cons (ps_if (pt_cmpR op_gt (pe_callB call_len_seq (by rfl) T.len PySem.boot_len (pa_cons (pv 2) pa_nil)) pe_int (nomark _)) (pss_one ps_never) pss_nil)
      (pss_cons (ps_for PassesOwn.never rfl (pi_list (pe_op op_cat (pe_callTy call_list_of (by rfl) T.list' (by decide +kernel) (pa_cons (pv 2) pa_nil)) (pe_lst (pa_cons (pv 3) pa_nil)))) (pg_name (i := 4) nd rfl (Or.inl rfl))
        (pss_one (ps_if (pt_cmp (pc_dnotin hu (pv 4) (pe_fld (pv 0) rfl))) (pss_one ps_never) pss_nil)))
      (pss_cons (ps_dput hu (pe_fld (pv 0) rfl) (pv 1) (pe_callTy call_tuple_of (by rfl) T.tuple (by decide +kernel) (pa_cons (pv 2) pa_nil)) rfl)
      (pss_one (ps_dput hu (pe_fld (pv 0) rfl) (pv 1) (pv 3) rfl))))))), ?_⟩
    refine ⟨_, rfl, x, rfl, hl, _, rfl, ?_⟩
    rw [hn]
    refine ifF rfl ⟨_, rfl, _, rfl, g, D.c_Signature, dx, _, _, rfl, h0, T.cl_Signature, T.n_Signature__arguments, rfl, dA, _, rfl, DGet.k (k := Sum.inr x) hA0, _, rfl, ?_⟩
    rw [vA]
    refine ifF rfl ⟨_, rfl, al, _, rfl, .inl (SqL.of hal), _, _, rfl, rfl, _, rfl, ifF (dF (by rw [List.length_replicate]; omega)) ?_⟩
    refine ⟨_, rfl, al, _, rfl, .inl (SqL.of hal), fun l1 m1 => ⟨_, rfl, (by show (1 : Nat) ≤ sizeLine; decide), fun l2 m2 => ?_⟩⟩
    have s1 : Same H (upd H l1 (.lst (List.replicate n (.str S)))) := Same.new m1
    have s2 : Same (upd H l1 (.lst (List.replicate n (.str S)))) (upd (upd H l1 (.lst (List.replicate n (.str S)))) l2 (.lst [.str S])) := Same.new m2
    have s02 := Same.trans' s1 s2
    refine ⟨l1, l2, _, _, rfl, rfl, s2 _ _ upd_same, upd_same, ?_, fun l3 m3 => ?_⟩
    · have : (List.replicate n (V.str S)).length + ([V.str S] : List V).length ≤ 16777216 := by rw [List.length_replicate, List.length_singleton]; omega
      exact this
    have s03 := Same.trans' s02 (Same.new (o := .lst (List.replicate n (.str S) ++ [.str S])) m3)
    refine ⟨l3, rfl, ⟨_, SqL.of upd_same⟩, for_list (K := K) (a := l3) (xs := List.replicate n (.str S) ++ [.str S]) (fun i σ H' => (H' = upd (upd (upd H l1 (.lst (List.replicate n (.str S)))) l2 (.lst [.str S])) l3 (.lst (List.replicate n (.str S) ++ [.str S]))) ∧ ∃ u, σ = [some (.ref g), some (.str x), some (.ref al), some (.str S), u]) ⟨rfl, _, rfl⟩ (fun i σ H' _ ⟨e, _⟩ => by rw [e]; exact SqL.of upd_same) ?_ ?_⟩
    · rintro i y σ H' hi ⟨rfl, u, rfl⟩
      obtain rfl : y = .str S := by
        have := List.mem_of_getElem? hi
        rcases List.mem_append.mp this with h | h
        · exact (List.mem_replicate.mp h).2
        · exact List.mem_singleton.mp h
      refine ⟨_, rfl, _, rfl, g, D.c_Signature, dx, _, _, rfl, s03 _ _ h0, T.cl_Signature, T.n_Signature__capitals, rfl, dC, _, rfl, DGet.k (k := Sum.inr S) (s03 _ _ hC0), _, rfl, ?_⟩
      rw [valV_pos rfl]
      exact ifF rfl ⟨rfl, _, rfl⟩
    · rintro σ H' ⟨hH', u, rfl⟩
      rw [← hH'] at s03
      clear hH'
      refine ⟨_, rfl, al, _, rfl, .inl ⟨SqL.of (s03 _ _ hal), fun ta m4 => ?_⟩⟩
      have s04 := Same.trans' s03 (Same.new (o := .tup (List.replicate n (.str S))) m4)
      have ngA : g ≠ dA := fun e => by rw [e, hA0] at h0; cases h0
      refine ⟨_, rfl, g, D.c_Signature, dx, _, _, rfl, s04 _ _ h0, T.cl_Signature, T.n_Signature__arguments, rfl, _, rfl, dA, _, rfl, DPut.k (k := Sum.inr x) (s04 _ _ hA0) (by have h : (16777216 : Nat) = sizeLine := rfl; omega), ?_⟩
      rw [putK_new _ vA]
      refine ⟨_, rfl, _, rfl, g, D.c_Signature, dx, sigF4 dC dS dA dR, _, rfl, by rw [upd_ne ngA]; exact s04 _ _ h0, T.cl_Signature, T.n_Signature__results, rfl, _, rfl, dR, _, rfl, DPut.k (k := Sum.inr x) (by rw [upd_ne (Ne.symm nar)]; exact s04 _ _ hR0) (by have h : (16777216 : Nat) = sizeLine := rfl; omega), ?_⟩
      rw [putK_new _ vR]
      refine k _ ta (fun a o e m => ?_) ?_ upd_same ?_
      · rw [upd_ne, upd_ne]
        · exact s04 _ _ e
        · rintro rfl
          rcases m with m | ⟨xs, rfl⟩
          · exact m (.inl rfl)
          · rw [e] at hA0; cases hA0
        · rintro rfl
          rcases m with m | ⟨xs, rfl⟩
          · exact m (.inr rfl)
          · rw [e] at hR0; cases hR0
      · rw [upd_ne nar, upd_same]
      · rw [upd_ne (fun e => by have := s03 _ _ hR0; rw [← e, m4] at this; cases this), upd_ne (fun e => by have := s03 _ _ hA0; rw [← e, m4] at this; cases this), upd_same]
end
end R87

/-! ## SigMk87 -/
set_option maxHeartbeats 4000000
namespace R87
open PySem PySem.Spec PyProof.Rows L2
variable {D : Ad} {p : Par} {H H' : Hp} {t g : Addr} {A : SA} {cs : List Ch}
def rTupOf (K : PySem.W.Frag) : List V → Hp → VK → Prop := fun xs H Q => ∃ p ys, xs = [.ref p] ∧ ((SqL K H p ys ∧ ∀ l, H l = none → Q (.ref l) (upd H l (.tup ys))) ∨ (SqT K H p ys ∧ Q (.ref p) H))
section
variable {P : Program} {w : World} {K : PySem.W.Frag} {mg : Str → Option Value} {base : Heap} {eB eT eBf eTf : Addr}
def spSInit (D : Ad) : Sp := fun vs H Q _ => ∃ (g dx sl gl s0 g1 g2 a1 a2 : Addr) (p : Par), vs = [.ref g, .ref sl, .ref gl] ∧ H g = some (.ins D.c_Signature dx []) ∧ p.Ok ∧ nameL p.S.cps.toList = true ∧ p.S.length ≤ 1000 ∧ nameL p.one.cps.toList = true ∧ nameL p.many.cps.toList = true ∧
  H sl = some (.lst [.ref s0]) ∧ H s0 = some (.tup [.str p.S, .str ⟨#[p.cap]⟩]) ∧ H gl = some (.lst [.ref g1, .ref g2]) ∧ H g1 = some (.tup [.str p.one, .ref a1, .str p.S]) ∧ H g2 = some (.tup [.str p.many, .ref a2, .str p.S]) ∧ H a1 = some (.lst [.str p.S]) ∧ H a2 = some (.lst (List.replicate p.ar (.str p.S))) ∧
  ∀ H', But (· = g) H H' → SigAt D p H' g → Q .non H'
theorem ok_sinit (T : Txt K P mg D eB eT eBf eTf) : FnOk P w K mg base CX0 3 D.a_Signature_init D.d_Signature_init ["self", "sorts", "signs"] (spSInit D) := by
  refine T.F_Signature_init.ok sc_Signature_init (fun vs H Q E h => ?_) (fun cdv AA outer s H vs Q E hr h => ?_)
  · obtain ⟨g, dx, sl, gl, s0, g1, g2, a1, a2, p, rfl, _⟩ := h
    rfl
  · obtain ⟨g, dx, sl, gl, s0, g1, g2, a1, a2, p, rfl, h0, hp, nS, lS, n1, n2, hsl, hs0, hgl, hg1, hg2, ha1, ha2, k⟩ := h
    have GS := ok_add_sort (P := P) (w := w) (base := base) T
    have GG := ok_add_sign (P := P) (w := w) (base := base) T
    have nd := sc_Signature_init.nd
    refine ⟨_, PSs.nox (pss_cons (ps_if (pt_not (pt_chain op_le op_le pe_int (pe_callB call_len_seq (by rfl) T.len PySem.boot_len (pa_cons (pv 1) pa_nil)) pe_int)) (pss_one ps_never) pss_nil)
      (pss_cons (ps_fld (pv 0) pe_dnewK rfl) (pss_cons (ps_fld (pv 0) pe_dnewK rfl) (pss_cons (ps_fld (pv 0) pe_dnewK rfl) (pss_cons (ps_fld (pv 0) pe_dnewK rfl)
      (pss_cons (ps_for PassesOwn.never rfl (pi_list (pv 1)) (pg_tup rfl (pgs_cons (pg_name (i := 3) nd rfl (Or.inl rfl)) (pgs_cons (pg_name (i := 4) nd rfl (Or.inl rfl)) pgs_nil)))
        (pss_one (ps_expr (pe_meth (pv 0) T.cl_Signature T.m_Signature_add_sort GS hr T.b_Signature_add_sort .nil pass0 (pa_cons (pv 3) (pa_cons (pv 4) pa_nil))))))
      (pss_cons (ps_if (pt_cmpR op_gt (pe_callB call_len_seq (by rfl) T.len PySem.boot_len (pa_cons (pv 2) pa_nil)) pe_int (nomark _)) (pss_one ps_never) pss_nil)
      (pss_cons (ps_for PassesOwn.never rfl (pi_list (pv 2)) (pg_tup rfl (pgs_cons (pg_name (i := 3) nd rfl (Or.inl rfl)) (pgs_cons (pg_name (i := 5) nd rfl (Or.inl rfl)) (pgs_cons (pg_name (i := 6) nd rfl (Or.inl rfl)) pgs_nil))))
        (pss_one (ps_expr (pe_meth (pv 0) T.cl_Signature T.m_Signature_add_sign GG hr T.b_Signature_add_sign .nil pass0 (pa_cons (pv 3) (pa_cons (pv 5) (pa_cons (pv 6) pa_nil)))))))
      (pss_cons (ps_fld (pv 0) (pe_callTy call_tuple_of (by rfl) T.tuple (by decide +kernel) (pa_cons
          (pe_lc (own := [("name", 3), ("capital", 4)]) (g := gTup K 2 (gCons (gName 3) (gCons (gName 4) gNil))) (tt := tYes) rfl nd (pi_list (pv 1)) (blkOk_by (N := N_Signature_init) (sc := defScope s_Signature_init) (by decide +kernel)) (fun _ _ _ _ _ => pg_tup rfl (pgs_cons (pg_name (i := 3) nd rfl (Or.inl rfl)) (pgs_cons (pg_name (i := 4) nd rfl (Or.inl rfl)) pgs_nil))) (fun _ _ _ _ _ => pts_nil)
            (fun _ _ _ _ _ => pe_tup (pa_cons (pv 3) (pa_cons (pv 4) pa_nil)))) pa_nil)) rfl)
      (pss_cons (ps_fld (pv 0) (pe_callTy call_tuple_of (by rfl) T.tuple (by decide +kernel) (pa_cons
          (pe_lc (own := [("name", 3), ("arguments", 5), ("result", 6)]) (g := gTup K 3 (gCons (gName 3) (gCons (gName 5) (gCons (gName 6) gNil)))) (tt := tYes) rfl nd (pi_list (pv 2)) (blkOk_by (N := N_Signature_init) (sc := defScope s_Signature_init) (by decide +kernel)) (fun _ _ _ _ _ => pg_tup rfl (pgs_cons (pg_name (i := 3) nd rfl (Or.inl rfl)) (pgs_cons (pg_name (i := 5) nd rfl (Or.inl rfl)) (pgs_cons (pg_name (i := 6) nd rfl (Or.inl rfl)) pgs_nil)))) (fun _ _ _ _ _ => pts_nil)
            (fun _ _ _ _ _ => pe_tup (pa_cons (pv 3) (pa_cons (pe_callTy (r := rTupOf K) call_tuple_of (by rfl) T.tuple (by decide +kernel) (pa_cons (pv 5) pa_nil)) (pa_cons (pv 6) pa_nil))))) pa_nil)) rfl)
      (pss_one (ps_fld (pv 0) (pe_ix ix_tup (pe_ix ix_tup (pe_fld (pv 0) rfl) pe_int (fun _ _ => rfl)) pe_int (fun _ _ => rfl)) rfl)))))))))))), ?_⟩
    refine ⟨_, rfl, sl, _, rfl, .inl (SqL.of hsl), _, _, rfl, rfl, _, rfl, ifT rfl ⟨_, _, rfl, rfl, _, rfl, ifF rfl ?_⟩⟩
    -- the four dicts
    refine fun dC eC => ⟨_, rfl, g, D.c_Signature, dx, [], rfl, (by rw [upd_ne (ne_of_none h0 eC)]; exact h0), T.cl_Signature, T.n_Signature__capitals, (by decide), fun dS eS => ?_⟩
    have gC := ne_of_none h0 eC
    rw [upd_none, upd_none] at eS
    obtain ⟨gS, cS, eS⟩ := eS
    refine ⟨_, rfl, g, D.c_Signature, dx, _, rfl, (by simp [upd, Ne.symm gS]; rfl), T.cl_Signature, T.n_Signature__sorts, (by show 1 < 1000; decide), fun dA eA => ?_⟩
    simp only [upd_none] at eA
    obtain ⟨gA, sA, _, cA, eA⟩ := eA
    refine ⟨_, rfl, g, D.c_Signature, dx, _, rfl, (by simp [upd, Ne.symm gA]; rfl), T.cl_Signature, T.n_Signature__arguments, (by show 2 < 1000; decide), fun dR eR => ?_⟩
    simp only [upd_none] at eR
    obtain ⟨gR, aR, _, sR, _, cR, eR⟩ := eR
    refine ⟨_, rfl, g, D.c_Signature, dx, _, rfl, (by simp [upd, Ne.symm gR]; rfl), T.cl_Signature, T.n_Signature__results, (by show 3 < 1000; decide), ?_⟩
    have fr : ∀ a o, H a = some o → a ≠ g → a ≠ dC ∧ a ≠ dS ∧ a ≠ dA ∧ a ≠ dR := fun a o e _ => ⟨ne_of_none e eC, ne_of_none e eS, ne_of_none e eA, ne_of_none e eR⟩
    have stay : ∀ a o, H a = some o → a ≠ g → ∀ x1 x2 x3 x4 x5 x6 x7 x8, upd (upd (upd (upd (upd (upd (upd (upd H dC x1) g x2) dS x3) g x4) dA x5) g x6) dR x7) g x8 a = some o := fun a o e ng x1 x2 x3 x4 x5 x6 x7 x8 => by
      obtain ⟨h1, h2, h3, h4⟩ := fr a o e ng
      simp [upd, ng, h1, h2, h3, h4, e]
    have nsl : sl ≠ g := ne_of hsl h0 nofun
    refine ⟨_, rfl, sl, rfl, ⟨_, SqL.of (stay _ _ hsl nsl _ _ _ _ _ _ _ _)⟩, for_list (K := K) (a := sl) (xs := [.ref s0]) (fun i σ Hx => ∃ u v x y, σ = [some (.ref g), some (.ref sl), some (.ref gl), u, v, x, y] ∧ But (· = g) H Hx ∧ Hx g = some (.ins D.c_Signature dx (sigF4 dC dS dA dR)) ∧ Hx dC = some (.dK (if i = 0 then [] else [(.inr p.S, .str ⟨#[p.cap]⟩)])) ∧ Hx dS = some (.dK (if i = 0 then [] else [(.inr ⟨#[p.cap]⟩, .str p.S)])) ∧ Hx dA = some (.dK []) ∧ Hx dR = some (.dK []))
      ⟨_, _, _, _, rfl, ?_, ?_, ?_, ?_, ?_, ?_⟩ (fun i σ Hx _ ⟨_, _, _, _, _, b, _⟩ => SqL.of (b.at hsl nsl)) ?_ ?_⟩
    · intro a o e m
      have ng : a ≠ g := by
        rcases m with m | ⟨xs, rfl⟩
        · exact m
        · exact ne_of e h0 nofun
      exact stay a o e ng _ _ _ _ _ _ _ _
    · rw [upd_same]; rfl
    · simp [upd, gC, Ne.symm gC, cS, Ne.symm cS, cA, Ne.symm cA, cR, Ne.symm cR]
    · simp [upd, gS, sA, Ne.symm sA, sR, Ne.symm sR]
    · simp [upd, gA, aR, Ne.symm aR]
    · simp [upd, gR]
    · rintro i y σ Hx hi ⟨u, v, x, z, rfl, b, q0, qC, qS, qA, qR⟩
      match i, hi with
      | 0, hi =>
        cases hi
        have dg : ∀ d kv, Hx d = some (.dK kv) → d ≠ g := fun d kv e q => by rw [q, q0] at e; cases e
        refine ⟨s0, _, rfl, SqT.of (b.tup hs0), rfl, _, _, rfl, _, _, rfl, rfl, _, rfl, g, dx, _, rfl, q0, rfl, _, rfl, _, rfl, g, dx, dC, dS, dA, dR, p.S, p.cap, rfl, q0, qC, qS, cS.symm, nS, lS, hp.uL, ?_⟩
        refine ⟨_, _, _, _, rfl, (b.own eC).own eS, ?_, ?_, ?_, ?_, ?_⟩
        · rw [upd_ne (dg _ _ qS).symm, upd_ne (dg _ _ qC).symm]; exact q0
        · rw [upd_ne cS.symm, upd_same]; rfl
        · rw [upd_same]; rfl
        · rw [upd_ne sA, upd_ne cA]; exact qA
        · rw [upd_ne sR, upd_ne cR]; exact qR
      | j + 1, hi => exact absurd hi (by simp)
    · rintro σ Hx ⟨u, v, x, z, rfl, b, q0, qC, qS, qA, qR⟩
      have ngl : gl ≠ g := ne_of hgl h0 nofun
      have na : ∀ n : Nat, ∀ a xs, H a = some (.lst xs) → a ≠ g := fun _ a xs e => ne_of e h0 nofun
      refine ⟨_, rfl, gl, _, rfl, .inl (SqL.of (b.at hgl ngl)), _, _, rfl, rfl, _, rfl, ifF rfl ?_⟩
      refine ⟨_, rfl, gl, rfl, ⟨_, SqL.of (b.at hgl ngl)⟩, for_list (K := K) (a := gl) (xs := [.ref g1, .ref g2]) (fun i σ Hx => ∃ u v x y, σ = [some (.ref g), some (.ref sl), some (.ref gl), u, v, x, y] ∧ But (· = g) H Hx ∧ Hx g = some (.ins D.c_Signature dx (sigF4 dC dS dA dR)) ∧ Hx dC = some (.dK [(.inr p.S, .str ⟨#[p.cap]⟩)]) ∧ Hx dS = some (.dK [(.inr ⟨#[p.cap]⟩, .str p.S)]) ∧
          (i = 0 → Hx dA = some (.dK []) ∧ Hx dR = some (.dK [])) ∧
          (i = 1 → ∃ t1, Hx dA = some (.dK [(.inr p.one, .ref t1)]) ∧ Hx dR = some (.dK [(.inr p.one, .str p.S)]) ∧ Hx t1 = some (.tup [.str p.S])) ∧
          (i = 2 → ∃ t1 t2, Hx dA = some (.dK [(.inr p.one, .ref t1), (.inr p.many, .ref t2)]) ∧ Hx dR = some (.dK [(.inr p.one, .str p.S), (.inr p.many, .str p.S)]) ∧ Hx t1 = some (.tup [.str p.S]) ∧ Hx t2 = some (.tup (List.replicate p.ar (.str p.S)))))
        ⟨_, _, _, _, rfl, b, q0, qC, qS, fun _ => ⟨qA, qR⟩, fun h => absurd h (by decide), fun h => absurd h (by decide)⟩ (fun i σ Hx _ ⟨_, _, _, _, _, b, _⟩ => SqL.of (b.at hgl ngl)) ?_ ?_⟩
      · rintro i y σ Hy hi ⟨u, v, x, z, rfl, b, q0, qC, qS, k0, k1, k2⟩
        have own : ∀ H2, But (fun a => a = dA ∨ a = dR) Hy H2 → But (· = g) H H2 := fun H2 b2 a o e m => by
          refine b2 a o (b a o e m) (.inl fun q => ?_)
          rcases q with rfl | rfl
          · rw [eA] at e; cases e
          · rw [eR] at e; cases e
        match i, hi with
        | 0, hi =>
          cases hi
          obtain ⟨qA, qR⟩ := k0 rfl
          refine ⟨g1, _, rfl, SqT.of (b.tup hg1), rfl, _, _, rfl, _, _, rfl, _, _, rfl, rfl, _, rfl, g, dx, _, rfl, q0, rfl, _, rfl, _, rfl, _, rfl, g, dx, dC, dS, dA, dR, a1, p.one, p.S, 1, .str ⟨#[p.cap]⟩, [], [], rfl, q0, qC, qA, qR, aR.symm, b.at ha1 (na 0 _ _ ha1), by decide, n1, Nat.le_trans hp.lo (by decide), by decide, by decide, rfl, rfl, fun H2 ta b2 e1 e2 e3 => ?_⟩
          refine ⟨_, _, _, _, rfl, own H2 b2, b2.at q0 ?_, b2.at qC ?_, b2.at qS ?_, fun h => absurd h (by decide), fun _ => ⟨ta, e1, e2, e3⟩, fun h => absurd h (by decide)⟩
          · rintro (h | h)
            · exact gA h.symm
            · exact gR h.symm
          · rintro (h | h)
            · exact cA h.symm
            · exact cR h.symm
          · rintro (h | h)
            · exact sA h.symm
            · exact sR h.symm
        | 1, hi =>
          cases hi
          obtain ⟨t1, qA, qR, qt⟩ := k1 rfl
          have nom : ¬ ((Sum.inr p.one : Key) = Sum.inr p.many) := fun h => hp.ne (Sum.inr.inj h)
          refine ⟨g2, _, rfl, SqT.of (b.tup hg2), rfl, _, _, rfl, _, _, rfl, _, _, rfl, rfl, _, rfl, g, dx, _, rfl, q0, rfl, _, rfl, _, rfl, _, rfl, g, dx, dC, dS, dA, dR, a2, p.many, p.S, p.ar, .str ⟨#[p.cap]⟩, _, _, rfl, q0, qC, qA, qR, aR.symm, b.at ha2 (na 0 _ _ ha2), hp.ar4, n2, Nat.le_trans hp.lm (by decide), (by show 1 ≤ 10; decide), (by show 1 ≤ 10; decide), by rw [valV_neg nom]; rfl, by rw [valV_neg nom]; rfl, fun H2 ta b2 e1 e2 e3 => ?_⟩
          refine ⟨_, _, _, _, rfl, own H2 b2, b2.at q0 ?_, b2.at qC ?_, b2.at qS ?_, fun h => absurd h (by decide), fun h => absurd h (by decide), fun _ => ⟨t1, ta, e1, e2, b2.tup qt, e3⟩⟩
          · rintro (h | h)
            · exact gA h.symm
            · exact gR h.symm
          · rintro (h | h)
            · exact cA h.symm
            · exact cR h.symm
          · rintro (h | h)
            · exact sA h.symm
            · exact sR h.symm
        | j + 2, hi => exact absurd hi (by simp)
      · rintro σ Hy ⟨u, v, x, z, rfl, b, q0, qC, qS, _, _, k2⟩
        obtain ⟨t1, t2, qA, qR, qt1, qt2⟩ := k2 rfl
        have hsl1 := b.at hsl nsl
        refine ⟨_, rfl, sl, rfl, ⟨_, SqL.of hsl1⟩, fun D1 nD1 => lc_list (K := K) (a := sl) (xs := [.ref s0]) (fun i Hx => ∃ ys, Same Hy Hx ∧ Hx D1 = some (.lst ys) ∧ ys.length = i ∧ ∀ y ∈ ys, ∃ q, y = .ref q ∧ Hx q = some (.tup [.str p.S, .str ⟨#[p.cap]⟩])) ⟨[], Same.new nD1, upd_same, rfl, fun _ h => by simp at h⟩ (fun i Hx _ ⟨_, h, _⟩ => SqL.of (h _ _ hsl1)) ?_ ?_⟩
        · rintro i y Hx hi ⟨ys, s1, hD1, hyl, hys⟩
          match i, hi with
          | 0, hi =>
            cases hi
            refine ⟨s0, _, rfl, SqT.of (s1 _ _ (b.tup hs0)), rfl, _, _, rfl, _, _, rfl, rfl, rfl, _, rfl, _, rfl, (by show 2 ≤ sizeLine; decide), fun q nq => ⟨ys, by rw [upd_ne (ne_of_none hD1 nq)]; exact hD1, by rw [hyl]; decide, ys ++ [.ref q], Same.new' (Same.new' s1 (s1.free nq)) nD1, upd_same, by rw [List.length_append, hyl]; rfl, fun z hz => ?_⟩⟩
            rw [List.eq_nil_of_length_eq_zero hyl] at hz
            obtain rfl := List.mem_singleton.mp hz
            exact ⟨q, rfl, by rw [upd_ne (fun e => by rw [e, hD1] at nq; cases nq), upd_same]⟩
          | j + 1, hi => exact absurd hi (by simp)
        · rintro Hx ⟨ys, s1, hD1, hyl, hys⟩
          refine ⟨D1, _, rfl, .inl ⟨SqL.of hD1, fun ts nts => ?_⟩⟩
          have s2 : Same Hy (upd Hx ts (.tup ys)) := Same.new' s1 (s1.free nts)
          refine ⟨_, rfl, g, D.c_Signature, dx, _, rfl, s2 _ _ q0, T.cl_Signature, T.n_Signature_sorts, (by show 4 < 1000; decide), ?_⟩
          obtain ⟨y0, rfl⟩ : ∃ y0, ys = [y0] := by
            match ys, hyl with
            | [y0], _ => exact ⟨y0, rfl⟩
          obtain ⟨q0', rfl, hq0⟩ := hys _ (List.mem_singleton.mpr rfl)
          -- signs
          have b3 : But (· = g) Hy (upd (upd Hx ts (.tup [.ref q0'])) g (.ins D.c_Signature dx (putF "sorts" (.ref ts) (sigF4 dC dS dA dR)))) := (But.of_same s2).mut rfl (s2 _ _ q0) (fun _ => nofun)
          have hts3 : upd (upd Hx ts (.tup [.ref q0'])) g (.ins D.c_Signature dx (putF "sorts" (.ref ts) (sigF4 dC dS dA dR))) ts = some (.tup [.ref q0']) := by
            rw [upd_ne (fun e => by have := s1 _ _ q0; rw [← e, nts] at this; cases this), upd_same]
          have hq03 : upd (upd Hx ts (.tup [.ref q0'])) g (.ins D.c_Signature dx (putF "sorts" (.ref ts) (sigF4 dC dS dA dR))) q0' = some (.tup [.str p.S, .str ⟨#[p.cap]⟩]) := by
            rw [upd_ne (ne_of hq0 (s1 _ _ q0) nofun), upd_ne (ne_of_none hq0 nts)]
            exact hq0
          have hg3 : upd (upd Hx ts (.tup [.ref q0'])) g (.ins D.c_Signature dx (putF "sorts" (.ref ts) (sigF4 dC dS dA dR))) g = some (.ins D.c_Signature dx (putF "sorts" (.ref ts) (sigF4 dC dS dA dR))) := upd_same
          generalize upd (upd Hx ts (.tup [.ref q0'])) g (.ins D.c_Signature dx (putF "sorts" (.ref ts) (sigF4 dC dS dA dR))) = H3 at b3 hts3 hq03 hg3
          have hgl3 := b3.at (b.at hgl ngl) ngl
          refine ⟨_, rfl, gl, rfl, ⟨_, SqL.of hgl3⟩, fun D2 nD2 => lc_list (K := K) (a := gl) (xs := [.ref g1, .ref g2]) (fun i Hx => ∃ ys, Same H3 Hx ∧ Hx D2 = some (.lst ys) ∧ ys.length = i) ⟨[], Same.new nD2, upd_same, rfl⟩ (fun i Hx _ ⟨_, h, _⟩ => SqL.of (h _ _ hgl3)) ?_ ?_⟩
          · rintro i y Hx hi ⟨ys, s4, hD2, hyl⟩
            obtain ⟨gg, x1, aa, x3, n', rfl, hgg, haa⟩ : ∃ gg x1 aa x3 n', y = V.ref gg ∧ H gg = some (.tup [x1, .ref aa, x3]) ∧ H aa = some (.lst (List.replicate n' (.str p.S))) := by
              match i, hi with
              | 0, hi => cases hi; exact ⟨g1, _, a1, _, 1, rfl, hg1, ha1⟩
              | 1, hi => cases hi; exact ⟨g2, _, a2, _, p.ar, rfl, hg2, ha2⟩
              | j + 2, hi => exact absurd hi (by simp)
            have haa4 := s4 _ _ (b3.at (b.at haa (na 0 _ _ haa)) (na 0 _ _ haa))
            have hi2 := (List.getElem?_eq_some_iff.mp hi).1
            refine ⟨gg, _, rfl, SqT.of (s4 _ _ (b3.tup (b.tup hgg))), rfl, _, _, rfl, _, _, rfl, _, _, rfl, rfl, rfl, _, rfl, _, rfl, aa, _, rfl, .inl ⟨SqL.of haa4, fun q nq => ⟨_, rfl, (by show 3 ≤ sizeLine; decide), fun q2 nq2 => ?_⟩⟩⟩
            rw [upd_none] at nq2
            refine ⟨ys, by rw [upd_ne (ne_of_none hD2 nq2.2), upd_ne (ne_of_none hD2 nq)]; exact hD2, ?_, ys ++ [.ref q2], Same.new' (Same.new' (Same.new' s4 (s4.free nq)) (s4.free nq2.2)) nD2, upd_same, by rw [List.length_append, hyl]; rfl⟩
            have : ys.length < 16777216 := by rw [hyl]; exact Nat.lt_trans hi2 (by show 2 < _; decide)
            exact this
          · rintro Hx ⟨ys2, s4, hD2, _⟩
            refine ⟨D2, _, rfl, .inl ⟨SqL.of hD2, fun tg ntg => ?_⟩⟩
            have s5 : Same H3 (upd Hx tg (.tup ys2)) := Same.new' s4 (s4.free ntg)
            refine ⟨_, rfl, g, D.c_Signature, dx, _, rfl, s5 _ _ hg3, T.cl_Signature, T.n_Signature_signs, (by show 5 < 1000; decide), ?_⟩
            have b6 : But (· = g) H3 (upd (upd Hx tg (.tup ys2)) g (.ins D.c_Signature dx (putF "signs" (.ref tg) (putF "sorts" (.ref ts) (sigF4 dC dS dA dR))))) := (But.of_same s5).mut rfl (s5 _ _ hg3) (fun _ => nofun)
            refine ⟨_, rfl, g, D.c_Signature, dx, _, _, rfl, upd_same, T.cl_Signature, T.n_Signature_sorts, rfl, ts, _, _, _, rfl, rfl, SqT.of (b6.tup hts3), at0, q0', _, _, _, rfl, rfl, SqT.of (b6.tup hq03), at0, _, rfl, g, D.c_Signature, dx, _, rfl, upd_same, T.cl_Signature, T.n_Signature_said, (by show 6 < 1000; decide), ?_⟩
            rw [upd_upd]
            have b7 : But (· = g) H3 (upd (upd Hx tg (.tup ys2)) g (.ins D.c_Signature dx (sigFs dC dS dA dR ts tg (.str p.S)))) := (But.of_same s5).mut rfl (s5 _ _ hg3) (fun _ => nofun)
            have bb := b3.trans b7
            have dg : ∀ d kv, Hy d = some (.dK kv) → d ≠ g := fun d kv e q => by rw [q, q0] at e; cases e
            refine k _ (b.trans bb) ⟨dx, dC, dS, dA, dR, ts, tg, .str p.S, upd_same, ⟨_, bb.at qS (dg _ _ qS), valV_pos rfl⟩, ⟨_, bb.at qA (dg _ _ qA), fun b => ?_⟩, _, bb.at qR (dg _ _ qR), fun b => ?_, fun x hx => ?_⟩
            · cases b with
              | false => exact ⟨t1, valV_pos rfl, bb.tup qt1⟩
              | true => exact ⟨t2, (valV_neg (fun h => hp.ne (Sum.inr.inj h))).trans (valV_pos rfl), bb.tup qt2⟩
            · cases b with
              | false => exact valV_pos rfl
              | true => exact (valV_neg (fun h => hp.ne (Sum.inr.inj h))).trans (valV_pos rfl)
            · exact (valV_neg (fun h => hx false (Sum.inr.inj h).symm)).trans ((valV_neg (fun h => hx true (Sum.inr.inj h).symm)).trans rfl)
end
end R87

/-! ## LawA87 -/
set_option maxHeartbeats 4000000
namespace R87
open PySem PySem.Spec PyProof.Rows L2
variable {D : Ad} {p : Par} {H H' : Hp} {t g : Addr} {A : SA} {cs : List Ch}
theorem ints_snoc {ds : List Int} {i : Int} : ds.map V.int ++ [V.int i] = (ds ++ [i]).map V.int := by rw [List.map_append]; rfl
section
variable {P : Program} {w : World} {K : PySem.W.Frag} {mg : Str → Option Value} {base : Heap} {eB eT eBf eTf : Addr}
def spDraws (K : PySem.W.Frag) : Sp := fun vs H Q _ => ∃ (a : Addr) (ns : List Int), vs = [.ref a, .int 0, .int 20] ∧ SqL K H a (ns.map V.int) ∧ ∀ H' l (ds : List Int), Same H H' → H l = none → H' l = some (.lst (ds.map V.int)) → Q (.ref l) H'
theorem ok_draws (T : Txt K P mg D eB eT eBf eTf) : FnOk P w K mg base CX0 1 D.a_law_draws D.d_law_draws ["script", "first", "cells"] (spDraws K) := by
  refine T.F_law_draws.ok sc_law_draws (fun vs H Q E h => ?_) (fun cdv AA outer s H vs Q E hr h => ?_)
  · obtain ⟨a, ns, rfl, _⟩ := h
    rfl
  · obtain ⟨a, ns, rfl, ha, k⟩ := h
    have nd := sc_law_draws.nd
    refine ⟨_, PSs.nox (pss_cons (ps_set (i := 3) nd rfl (Or.inl rfl) (pe_lst pa_nil)) (pss_cons (ps_for PassesOwn.never rfl (pi_range2 (by rfl) T.range (pa_cons (pv 1) (pa_cons (pe_op op_add (pv 1) (pv 2)) pa_nil))) (pg_name (i := 4) nd rfl (Or.inl rfl)) (pss_cons (ps_set (i := 5) nd rfl (Or.inl rfl) (pe_op op_add (pe_op op_mod (pe_callB call_abs (by rfl) T.abs (by decide +kernel) (pa_cons (pe_callTy call_int1 (by rfl) T.int (by decide +kernel) (pa_cons (pe_callB (cr_sum rfl) (by rfl) T.sum (by decide +kernel) (pa_cons (pv 0) pa_nil)) pa_nil)) pa_nil)) pe_int) (pe_op op_mul (pv 4) pe_int))) (pss_cons (ps_if (pt_cmpR op_lt (pv 4) (pe_callB call_len_seq (by rfl) T.len PySem.boot_len (pa_cons (pv 0) pa_nil)) (nomark _)) (pss_one (ps_set (i := 5) nd rfl (Or.inl rfl) (pe_callB call_abs (by rfl) T.abs (by decide +kernel) (pa_cons (pe_callTy call_int1 (by rfl) T.int (by decide +kernel) (pa_cons (pe_ix ix_list (pv 0) (pv 4) (fun _ _ => rfl)) pa_nil)) pa_nil)))) pss_nil) (pss_cons (ps_set (i := 6) nd rfl (Or.inl rfl) (pv 5)) (pss_one (ps_for PassesOwn.never rfl (pi_range1 (by rfl) T.range (pa_cons pe_int pa_nil)) (pg_name (i := 7) nd rfl (Or.inl rfl)) (pss_one (ps_if (PW.pt (pw_and (pt_cmpR op_ge (pv 5) (pe_op op_pow pe_int pe_int) (nomark _)) (pw_and1 (pt_cmpR op_gt (pv 6) pe_int (nomark _))))) (pss_cons (ps_expr (pe_bm PySem.F.plainAttrs_list PySem.F.slot_list_append PySem.F.type_list_append mt_append (pv 3) (pa_cons (pe_op op_mod (pe_callTy call_int1 (by rfl) T.int (by decide +kernel) (pa_cons (pv 6) pa_nil)) pe_int) pa_nil))) (pss_one (ps_set (i := 6) nd rfl (Or.inl rfl) (pe_op op_fdiv (pv 6) pe_int)))) (pss_cons (ps_set (i := 8) nd rfl (Or.inl rfl) (pe_op op_mod (pe_callTy call_int1 (by rfl) T.int (by decide +kernel) (pa_cons (pe_op op_add (pe_op op_add (pe_op op_mul (pv 5) pe_int) (pe_op op_mul (pe_op op_add (pv 7) pe_int) pe_int)) (pe_op op_mul (pv 4) pe_int)) pa_nil)) pe_int)) (pss_cons (ps_set (i := 8) nd rfl (Or.inl rfl) (pe_op op_mod (pe_callTy call_int1 (by rfl) T.int (by decide +kernel) (pa_cons (pe_op op_add (pe_op op_mul (pv 8) (pv 8)) (pe_op op_mul pe_int (pe_op op_add (pv 7) pe_int))) pa_nil)) pe_int)) (pss_one (ps_expr (pe_bm PySem.F.plainAttrs_list PySem.F.slot_list_append PySem.F.type_list_append mt_append (pv 3) (pa_cons (pe_op op_mod (pe_callTy call_int1 (by rfl) T.int (by decide +kernel) (pa_cons (pe_op op_fdiv (pv 8) pe_int) pa_nil)) pe_int) pa_nil)))))))))))))) (pss_cons (ps_expr (pe_bm0 PySem.F.plainAttrs_list PySem.F.slot_list_reverse PySem.F.type_list_reverse mt_reverse (pv 3))) (pss_one (ps_ret (pv 3)))))), ?_⟩
    have i997 : (0 : Int) < 997 := by decide
    refine ⟨Nat.zero_le _, fun fo nf => ⟨_, rfl, _, rfl, _, rfl, _, _, rfl, rfl, 0, 20, rfl, ⟨by decide, by decide, by decide, by decide⟩, for_range (lo := 0) (n := 20) (fun i σ H' => ∃ ds : List Int, ∃ u v x y z, σ = [some (.ref a), some (.int 0), some (.int 20), some (.ref fo), u, v, x, y, z] ∧ Same H H' ∧ H' fo = some (.lst (ds.map V.int)) ∧ ds.length = 40 * i) ⟨[], _, _, _, _, _, rfl, Same.new nf, upd_same, rfl⟩ ?_ ?_⟩⟩
    · rintro i σ H1 hi ⟨ds, u, v, x, y, z, rfl, s1, hfo, hl⟩
      have ha1 := s1.seq ha
      refine ⟨_, rfl, a, ns, rfl, ha1, .inl ⟨_, rfl, _, rfl, _, _, rfl, rfl, (by show (0 : Int) < 1000003; decide), _, rfl, _, _, rfl, rfl, .inr ⟨by decide, by decide⟩, _, _, rfl, rfl, ?_⟩⟩
      refine ⟨_, rfl, _, rfl, a, _, rfl, .inl ha1, _, _, rfl, rfl, _, rfl, ifC (fun h1 => ?wA) (fun h1 => ?wB)⟩
      case' wA =>
        have hin : i < ns.length := by have := oT h1; rw [List.length_map] at this; omega
        refine ⟨_, rfl, _, rfl, a, _, _, .int ns[i], rfl, rfl, ha1, ?_, .inl ⟨_, rfl, _, rfl, ?_⟩⟩
        · rw [Int.zero_add]
          exact atI_nat (by rw [List.getElem?_map, List.getElem?_eq_getElem hin]; rfl)
      all_goals
        refine ⟨_, rfl, 40, rfl, by decide, by decide, for_range (lo := 0) (n := 40) (fun j σ H' => ∃ (c r : Int) (ds' : List Int) (u v : Option V), σ = [some (.ref a), some (.int 0), some (.int 20), some (.ref fo), some (.int (0 + (i : Nat))), some (.int c), some (.int r), u, v] ∧ Same H H' ∧ H' fo = some (.lst (ds'.map V.int)) ∧ ds'.length = 40 * i + j) ⟨_, _, ds, _, _, rfl, s1, hfo, hl⟩ ?_ ?_⟩
        · rintro j σ H2 hj ⟨c, r, ds', u, v, rfl, s2, hfo2, hl2⟩
          have len : (ds'.map V.int).length < sizeLine := by
            rw [List.length_map]
            have h : (16777216 : Nat) = sizeLine := rfl
            omega
          refine ⟨_, rfl, _, _, rfl, rfl, ⟨by decide, by decide, by decide⟩, _, _, rfl, rfl, _, rfl, ifC (fun h2 => ⟨_, rfl, _, _, rfl, rfl, _, rfl, ifC (fun h3 => ?_) (fun h3 => ?_)⟩) (fun h2 => iteF ?_)⟩
          · refine ⟨_, rfl, .inl ⟨rfl, _, SqL.of hfo2⟩, _, rfl, .inl ⟨_, rfl, _, _, rfl, rfl, i997, fo, _, _, rfl, rfl, hfo2, len, _, rfl, _, _, rfl, rfl, ⟨by decide, by decide⟩, ?_⟩⟩
            rw [ints_snoc]
            exact ⟨_, _, _, _, _, rfl, Same.new' s2 nf, upd_same, by rw [List.length_append, List.length_singleton]; omega⟩
          all_goals
            refine ⟨_, rfl, _, _, rfl, rfl, .inr ⟨by decide, by decide⟩, _, rfl, _, _, rfl, rfl, _, _, rfl, rfl, .inr ⟨by decide, by decide⟩, _, _, rfl, rfl, _, rfl, _, _, rfl, rfl, .inr ⟨by decide, by decide⟩, _, _, rfl, rfl, .inl ⟨_, rfl, _, _, rfl, rfl, (by show (0 : Int) < 2147483647; decide), ?_⟩⟩
            refine ⟨_, rfl, _, rfl, _, _, rfl, rfl, .inl ⟨Int.lt_of_lt_of_le (by decide) (Int.emod_nonneg _ (by decide)), Int.lt_trans (Int.emod_lt_of_pos _ (by decide)) (by decide)⟩, _, rfl, _, _, rfl, rfl, _, _, rfl, rfl, .inl ⟨by decide, by decide⟩, _, _, rfl, rfl, .inl ⟨_, rfl, _, _, rfl, rfl, (by show (0 : Int) < 2147483399; decide), ?_⟩⟩
            refine ⟨_, rfl, .inl ⟨rfl, _, SqL.of hfo2⟩, _, rfl, _, _, rfl, rfl, ⟨by decide, by decide⟩, .inl ⟨_, rfl, _, _, rfl, rfl, i997, fo, _, _, rfl, rfl, hfo2, len, ?_⟩⟩
            rw [ints_snoc]
            exact ⟨_, _, _, _, _, rfl, Same.new' s2 nf, upd_same, by rw [List.length_append, List.length_singleton]; omega⟩
        · rintro σ H2 ⟨c, r, ds', u, v, rfl, s2, hfo2, hl2⟩
          exact ⟨ds', _, _, _, _, _, rfl, s2, hfo2, by omega⟩
    · rintro σ H1 ⟨ds, u, v, x, y, z, rfl, s1, hfo, hl⟩
      refine ⟨_, rfl, .inl ⟨rfl, _, SqL.of hfo⟩, fo, _, rfl, rfl, hfo, _, rfl, ?_⟩
      rw [← List.map_reverse]
      exact k _ fo ds.reverse (Same.new' s1 nf) nf upd_same
end
end R87

/-! ## LawB87 -/
set_option maxHeartbeats 4000000
namespace R87
open PySem PySem.Spec PyProof.Rows L2
variable {D : Ad} {p : Par} {H H' : Hp} {t g : Addr} {A : SA} {cs : List Ch}
section
variable {P : Program} {w : World} {K : PySem.W.Frag} {mg : Str → Option Value} {base : Heap} {eB eT eBf eTf : Addr}
def spTake : Sp := fun vs H Q _ => ∃ (dr : Addr) (ds : List Int) (m : Int), vs = [.ref dr, .int m] ∧ 0 < m ∧ H dr = some (.lst (ds.map V.int)) ∧ ∀ H' (r : Int) (ds' : List Int), But (· = dr) H H' → H' dr = some (.lst (ds'.map V.int)) → 0 ≤ r → r < m → Q (.int r) H'
theorem ok_take (T : Txt K P mg D eB eT eBf eTf) : FnOk P w K mg base CX0 1 D.a_law_take D.d_law_take ["draws", "many"] spTake := by
  refine T.F_law_take.ok sc_law_take (fun vs H Q E h => ?_) (fun cdv AA outer s H vs Q E hr h => ?_)
  · obtain ⟨dr, ds, m, rfl, _⟩ := h
    rfl
  · obtain ⟨dr, ds, m, rfl, hm, hd, k⟩ := h
    refine ⟨_, PSs.nox (pss_cons (ps_if (pt_not (pt_truth (pv 0) (by intro _; rfl))) (pss_one (ps_ret pe_int)) pss_nil) (pss_one (ps_ret (pe_op op_mod (pe_callTy call_int1 (by rfl) T.int (by decide +kernel) (pa_cons (pe_bm0 PySem.F.plainAttrs_list PySem.F.slot_list_pop PySem.F.type_list_pop mt_pop (pv 0)) pa_nil)) (pv 1))))), ?_⟩
    refine ⟨_, rfl, !(ds.map V.int).isEmpty, .inl ⟨_, SqL.of hd, rfl⟩, ?_⟩
    rcases List.eq_nil_or_concat ds with rfl | ⟨d', x, rfl⟩
    · exact ifT rfl (k H 0 [] (But.refl H) hd (Int.le_refl _) hm)
    · rw [List.concat_eq_append] at *
      refine ifF (by simp) ⟨_, rfl, .inl ⟨rfl, _, SqL.of hd⟩, dr, _, .int x, rfl, rfl, hd, ?_, .inl ⟨_, rfl, _, rfl, _, _, rfl, rfl, hm, ?_⟩⟩
      · rw [List.map_append, List.length_append]
        show (d'.map V.int ++ [V.int x])[(d'.map V.int).length + 1 - 1]? = _
        rw [Nat.add_sub_cancel, List.getElem?_append_right (Nat.le_refl _), Nat.sub_self]
        rfl
      · refine k _ _ d' ((But.refl H).mut rfl hd (fun _ => nofun)) ?_ (Int.emod_nonneg _ (by omega)) (Int.emod_lt_of_pos _ hm)
        rw [upd_same, List.map_append]
        show some (HO.lst ((d'.map V.int ++ [V.int x]).dropLast)) = _
        rw [List.dropLast_concat]
def spIsNum : Sp := fun vs H Q _ => ∃ i : Int, vs = [.int i] ∧ Q (.bl true) H
theorem ok_is_number (T : Txt K P mg D eB eT eBf eTf) : FnOk P w K mg base CX0 1 D.a_law_is_number D.d_law_is_number ["told"] spIsNum := by
  refine T.F_law_is_number.ok sc_law_is_number (fun vs H Q E h => ?_) (fun cdv AA outer s H vs Q E hr h => ?_)
  · obtain ⟨i, rfl, _⟩ := h
    rfl
  · obtain ⟨i, rfl, k⟩ := h
    refine ⟨_, PSs.nox (pss_one (ps_ret (pe_and (pe_callB call_isi (by rfl) T.isinstance (by decide +kernel) (pa_cons (pv 0) (pa_cons (pe_bltn (v := V.ty "int") (by rfl) T.int (by decide +kernel) rfl) pa_nil))) (pe_one (pe_not (pe_callB call_isi (by rfl) T.isinstance (by decide +kernel) (pa_cons (pv 0) (pa_cons (pe_bltn (v := V.ty "bool") (by rfl) T.bool (by decide +kernel) rfl) pa_nil)))))))), ?_⟩
    exact ⟨_, rfl, _, _, _, _, _, rfl, .ty "int", .base (.int i), kit_ty (r := true) (by decide +kernel), _, rfl, iteT ⟨_, rfl, _, _, _, _, _, rfl, .ty "bool", .base (.int i), kit_ty (r := false) (by decide +kernel), _, rfl, k⟩⟩
/-- the signs of a letter's number -/
def DigOk (l : List Nat) : Prop := l.all digC = true ∧ 1 ≤ l.length ∧ l.length ≤ 300 ∧ (2 ≤ l.length → l.getD 0 0 ≠ 48)
def spDigits : Sp := fun vs H Q _ => ∃ (dr : Addr) (ds : List Int), vs = [.ref dr] ∧ H dr = some (.lst (ds.map V.int)) ∧ ∀ H' (x : Str) (ds' : List Int), But (· = dr) H H' → H' dr = some (.lst (ds'.map V.int)) → DigOk x.cps.toList → Q (.str x) H'
theorem many_of {i : Nat} (h : i < 8) : ∃ m : Nat, ([.int 1, .int 1, .int 2, .int 9, .int 10, .int 60, .int 299, .int 300] : List V)[i]? = some (.int (m : Nat)) ∧ 1 ≤ m ∧ m ≤ 300 := by
  match i, h with
  | 0, _ => exact ⟨1, rfl, by decide, by decide⟩
  | 1, _ => exact ⟨1, rfl, by decide, by decide⟩
  | 2, _ => exact ⟨2, rfl, by decide, by decide⟩
  | 3, _ => exact ⟨9, rfl, by decide, by decide⟩
  | 4, _ => exact ⟨10, rfl, by decide, by decide⟩
  | 5, _ => exact ⟨60, rfl, by decide, by decide⟩
  | 6, _ => exact ⟨299, rfl, by decide, by decide⟩
  | 7, _ => exact ⟨300, rfl, by decide, by decide⟩
  | j + 8, h => omega
theorem joinL_nil_one : ∀ (l : List Nat), TL.joinL [] (l.map fun c => [c]) = l
  | [] => rfl
  | [c] => rfl
  | c :: d :: l => by
    show [c] ++ ([] ++ TL.joinL [] ((d :: l).map fun c => [c])) = c :: d :: l
    rw [joinL_nil_one (d :: l)]
    rfl
/-- one-sign texts joined -/
theorem join_one (l : List Nat) : (Txt.join "" (l.map fun c => (⟨#[c]⟩ : Str))).cps.toList = l := by
  have h := TL.tl_join "" (l.map fun c => (⟨#[c]⟩ : Str))
  rw [TL.join_eq]
  refine h.trans ?_
  rw [List.map_map]
  exact joinL_nil_one l
theorem ok_digits (T : Txt K P mg D eB eT eBf eTf) : FnOk P w K mg base CX0 2 D.a_law_digits D.d_law_digits ["draws"] spDigits := by
  refine T.F_law_digits.ok sc_law_digits (fun vs H Q E h => ?_) (fun cdv AA outer s H vs Q E hr h => ?_)
  · obtain ⟨dr, ds, rfl, _⟩ := h
    rfl
  · obtain ⟨dr, ds, rfl, hd, k⟩ := h
    have GT := ok_take (P := P) (w := w) (base := base) T
    have nd := sc_law_digits.nd
    refine ⟨_, PSs.nox (pss_cons (ps_set (i := 1) nd rfl (Or.inl rfl) (pe_ix ix_list (pe_lst (pa_cons pe_int (pa_cons pe_int (pa_cons pe_int (pa_cons pe_int (pa_cons pe_int (pa_cons pe_int (pa_cons pe_int (pa_cons pe_int pa_nil))))))))) (pe_call GT hr rfl T.g_law_take T.F_law_take.kp T.b_law_take .nil pass0 (pa_cons (pv 0) (pa_cons pe_int pa_nil))) (fun _ _ => rfl))) (pss_cons (ps_set (i := 2) nd rfl (Or.inl rfl) (pe_join pe_str (pe_lc (own := [("k", 3)]) (g := (gName 3)) (tt := tYes) rfl nd (pi_range1 (by rfl) T.range (pa_cons (pv 1) pa_nil)) (blkOk_by (N := N_law_digits) (sc := defScope s_law_digits) (by decide +kernel)) (fun _ _ _ _ _ => (pg_name (i := 3) nd rfl (Or.inl rfl))) (fun _ _ _ _ _ => pts_nil) (fun _ _ _ _ _ => (pe_ix ix_str pe_str (pe_call GT hr rfl T.g_law_take T.F_law_take.kp T.b_law_take .nil pass0 (pa_cons (pv 0) (pa_cons pe_int pa_nil))) (fun _ _ => rfl)))))) (pss_cons (ps_if (PW.pt (pw_and (pt_cmpR op_gt (pv 1) pe_int (nomark _)) (pw_and1 (pt_cmpR op_eq (pe_ix ix_str (pv 2) pe_int (fun _ _ => rfl)) pe_str (nomark _))))) (pss_one (ps_set (i := 2) nd rfl (Or.inl rfl) (pe_op op_add_str pe_str (pe_slice sl_str (pv 2) (po_some pe_int) po_none)))) pss_nil) (pss_one (ps_ret (pv 2)))))), ?_⟩
    refine ⟨by show 8 ≤ sizeLine; decide, fun l nl => ⟨_, rfl, dr, ds, 8, rfl, by decide, by rw [upd_ne (ne_of_none hd nl)]; exact hd, fun H1 r ds1 b1 hd1 h0 h8 => ?_⟩⟩
    obtain ⟨i, rfl⟩ : ∃ i : Nat, r = i := ⟨r.toNat, by omega⟩
    obtain ⟨m, hm, m1, m300⟩ := many_of (i := i) (by omega)
    have nld : l ≠ dr := (ne_of_none hd nl).symm
    refine ⟨l, _, _, _, rfl, rfl, SqL.of (b1.at upd_same nld), atI_nat hm, ?_⟩
    have b01 : But (· = dr) H H1 := (But.of_same (Same.new nl)).trans b1
    refine ⟨⟨_, rfl⟩, _, rfl, _, rfl, by omega, by omega, fun D1 nD1 => lc_range (lo := 0) (n := m) (fun j Hx => ∃ (cl : List Nat) (dx : List Int), But (· = dr) H Hx ∧ Hx dr = some (.lst (dx.map V.int)) ∧ Hx D1 = some (.lst ((cl.map fun c => (⟨#[c]⟩ : Str)).map V.str)) ∧ cl.length = j ∧ cl.all digC = true) ⟨[], ds1, b01.trans (But.of_same (Same.new nD1)), by rw [upd_ne (ne_of_none hd1 nD1)]; exact hd1, upd_same, rfl, rfl⟩ ?_ ?_⟩
    · rintro j Hx hj ⟨cl, dx, bx, hdx, hDx, hl, hall⟩
      have nDd : D1 ≠ dr := (ne_of_none hd1 nD1).symm
      refine ⟨rfl, _, rfl, dr, dx, 10, rfl, by decide, hdx, fun H2 r ds2 b2 hd2 h0 h10 => ?_⟩
      obtain ⟨q, rfl⟩ : ∃ q : Nat, r = q := ⟨r.toNat, by omega⟩
      have hq : q < cDig.cps.toList.length := by
        have : cDig.cps.toList.length = 10 := by decide +kernel
        omega
      have hD2 := b2.at hDx nDd
      refine ⟨cDig, q, cDig.cps.toList[q], rfl, rfl, by decide +kernel, atI_nat (List.getElem?_eq_getElem hq), _, hD2, ?_, cl ++ [cDig.cps.toList[q]], ds2, (bx.trans b2).own (b01.free nD1 nDd), by rw [upd_ne nDd.symm]; exact hd2, ?_, by rw [List.length_append, hl]; rfl, ?_⟩
      · have : ((cl.map fun c => (⟨#[c]⟩ : Str)).map V.str).length < 16777216 := by rw [List.length_map, List.length_map]; omega
        exact this
      · rw [upd_same, List.map_append, List.map_append]
        rfl
      · rw [List.all_append, hall]
        show (true && (decide (cDig.cps.toList[q] ∈ cDig.cps.toList) && true)) = true
        rw [decide_eq_true (List.getElem_mem hq)]
        rfl
    · rintro Hx ⟨cl, dx, bx, hdx, hDx, hl, hall⟩
      refine ⟨"", D1, cl.map fun c => (⟨#[c]⟩ : Str), rfl, rfl, .inl (SqL.of hDx), ?_, ?_⟩
      · have q := sum_le (l := (cl.map fun c => (⟨#[c]⟩ : Str)).map (·.length)) (n := 1) (by
          intro x hx
          obtain ⟨y, hy, rfl⟩ := List.mem_map.mp hx
          obtain ⟨c, _, rfl⟩ := List.mem_map.mp hy
          exact Nat.le_refl _)
        rw [List.length_map, List.length_map] at q
        rw [List.length_map]
        have e0 : ("" : Str).length = 0 := rfl
        rw [e0]
        omega
      · have hx := join_one cl
        generalize Txt.join "" (cl.map fun c => (⟨#[c]⟩ : Str)) = x at hx
        have hlx : x.length = m := by rw [len_cps, hx, hl]
        have hsz : x.length ≤ sizeLine := by rw [hlx]; exact Nat.le_trans m300 (by decide)
        refine ⟨_, rfl, _, _, rfl, rfl, _, rfl, ?_⟩
        obtain ⟨c0, rest, rfl⟩ : ∃ c0 rest, cl = c0 :: rest := by
          cases cl with
          | nil => rw [List.length_nil] at hl; omega
          | cons c r => exact ⟨c, r, rfl⟩
        have e48 : (V.str ⟨#[c0]⟩ = V.str "0") ↔ c0 = 48 := by
          constructor
          · intro q
            injection q with q
            injection q with q
            have q2 := congrArg Array.toList q
            have q3 : ([c0] : List Nat) = [48] := q2.trans (by decide +kernel)
            injection q3
          · rintro rfl
            rfl
        rw [List.length_cons] at hl
        refine ifC (fun h1 => ⟨_, rfl, x, 0, c0, rfl, rfl, hsz, by rw [hx]; exact at0, rfl, _, rfl, ifC (fun h2 => ?_) (fun h2 => ?_)⟩) (fun h1 => iteF ?_)
        · have h0' := e48.mp (oT h2)
          subst h0'
          have e1 : (cutS x (some 1) none).cps.toList = rest := by rw [cutS1, hx]; rfl
          refine ⟨_, rfl, _, rfl, x, rfl, hsz, _, _, rfl, rfl, ?_, _, rfl, ?_⟩
          · have h2 : (cutS x (some 1) none).length = rest.length := by rw [len_cps, e1]
            have h3 : ("7" : Str).length = 1 := rfl
            show ("7" : Str).length + (cutS x (some 1) none).length ≤ 16777216
            omega
          · refine k _ _ dx bx hdx ?_
            have ea : (("7" : Str) ++ cutS x (some 1) none).cps.toList = 55 :: rest := by
              rw [show (("7" : Str) ++ cutS x (some 1) none).cps.toList = TL.tl (("7" : Str) ++ cutS x (some 1) none) from rfl, TL.tl_append]
              show ("7" : Str).cps.toList ++ (cutS x (some 1) none).cps.toList = _
              rw [e1]
              rfl
            rw [ea]
            refine ⟨?_, by rw [List.length_cons]; omega, by rw [List.length_cons]; omega, fun _ => by show ¬ 55 = 48; decide⟩
            rw [List.all_cons] at hall ⊢
            rw [Bool.and_eq_true] at hall
            rw [hall.2]
            decide +kernel
        · refine ⟨_, rfl, k _ _ dx bx hdx ?_⟩
          rw [hx]
          exact ⟨hall, by rw [List.length_cons]; omega, by rw [List.length_cons]; omega, fun _ e => oF h2 (e48.mpr e)⟩
        · refine ⟨_, rfl, k _ _ dx bx hdx ?_⟩
          rw [hx]
          have := oF h1
          exact ⟨hall, by rw [List.length_cons]; omega, by rw [List.length_cons]; omega, fun h => by rw [List.length_cons] at h; omega⟩
end
end R87

/-! ## LawC87 -/
set_option maxHeartbeats 4000000
namespace R87
open PySem PySem.Spec PyProof.Rows L2
variable {D : Ad} {p : Par} {H H' : Hp} {t g : Addr} {A : SA} {cs : List Ch}
/-! ### rows as data -/
def rowD (r : List V) : PyData := .tuple (r.map flD)
theorem dp_rows {K : PySem.W.Frag} : ∀ {rs : List Addr} {rows : List (List V)}, RowsAt H rs rows → (∀ r ∈ rows, FlD r) → DpAll K H (rs.map V.ref) (rows.map rowD)
  | [], [], _, _ => .nil
  | [], _ :: _, h, _ => by have := h.1; simp at this
  | _ :: _, [], h, _ => by have := h.1; simp at this
  | a :: rs, r :: rows, h, f => .cons (dp_tup (h.2 0 a r rfl rfl) (f r (List.mem_cons_self ..))) (dp_rows ⟨Nat.succ.inj h.1, fun i b q e1 e2 => h.2 (i + 1) b q e1 e2⟩ fun q hq => f q (List.mem_cons_of_mem _ hq))
theorem rows_lay : ∀ {rows : List (List V)}, (∀ r ∈ rows, FlD r) → PyData.canLayAll0 (rows.map rowD) = true ∧ PyData.depthAll (rows.map rowD) ≤ 1
  | [], _ => ⟨rfl, Nat.zero_le _⟩
  | r :: rows, f => by
    have q := rows_lay (rows := rows) fun x hx => f x (List.mem_cons_of_mem _ hx)
    have e := flD_lay (f r (List.mem_cons_self ..))
    refine ⟨?_, ?_⟩
    · show (PyData.canLayAll0 (r.map flD) && PyData.canLayAll0 (rows.map rowD)) = true
      rw [e.1, q.1]; rfl
    · show max (PyData.depthAll (r.map flD) + 1) (PyData.depthAll (rows.map rowD)) ≤ 1
      rw [e.2]
      have := q.2
      omega
theorem rows_shaped {rows : List (List V)} (f : ∀ r ∈ rows, FlD r) : SeqAt.shaped (.list (rows.map rowD)) = true := by
  have q := rows_lay f
  show (PyData.canLayAll0 (rows.map rowD) && decide (PyData.depthAll (rows.map rowD) + 1 ≤ 64)) = true
  rw [q.1, decide_eq_true (by have := q.2; omega)]; rfl
theorem rows_shapedT {rows : List (List V)} (f : ∀ r ∈ rows, FlD r) : SeqAt.shaped (.tuple (rows.map rowD)) = true := by
  have q := rows_lay f
  show (PyData.canLayAll0 (rows.map rowD) && decide (PyData.depthAll (rows.map rowD) + 1 ≤ 64)) = true
  rw [q.1, decide_eq_true (by have := q.2; omega)]; rfl
theorem rows_fl (hp : p.Ok) {c : Ch} : ∀ r ∈ p.rows c, FlD r := by
  intro r hr
  unfold Par.rows at hr
  obtain ⟨i, _, rfl⟩ := List.mem_map.mp hr
  exact rowAt_fl hp
theorem row_fl (hp : p.Ok) {b : Bool} {j : Nat} : FlD (p.row b j) := fl_str (hp.os b) fl_rep
theorem row_inj (hp : p.Ok) {b b' : Bool} {i j : Nat} (e : p.row b i = p.row b' j) : b = b' ∧ i = j := by
  unfold Par.row at e
  injection e with e1 e2
  injection e1 with e1
  obtain rfl := hp.sg_inj e1
  refine ⟨rfl, ?_⟩
  have h1 : 0 < p.arr b := hp.arr1 b
  have q1 : (List.replicate (p.arr b) (V.int i))[0]? = some (V.int i) := by rw [List.getElem?_replicate, if_pos h1]
  rw [e2, List.getElem?_replicate, if_pos h1] at q1
  have q2 := Option.some.inj q1
  injection q2 with q2
  exact_mod_cast q2.symm
theorem row_new (hp : p.Ok) {c : Ch} {b : Bool} {i : Nat} (hi : i ≤ c.length) : p.rowAt c i ≠ p.row b c.length := by
  cases i with
  | zero =>
    intro e
    injection e with e1 _
    injection e1 with e1
    exact hp.sgL b e1.symm
  | succ i =>
    intro e
    have := (row_inj hp (show p.row (c.getD i false) i = p.row b c.length from e)).2
    omega
theorem row_len {b : Bool} {j : Nat} : (p.row b j).length = p.arr b + 1 := by unfold Par.row; rw [List.length_cons, List.length_replicate]
/-- a list of a term's rows -/
def RowsL (p : Par) (H : Hp) (rl : Addr) (c : Ch) : Prop := ∃ rs : List Addr, H rl = some (.lst (rs.map V.ref)) ∧ RowsAt H rs (p.rows c)
theorem RowsL.but {M : Addr → Prop} {rl : Addr} {c : Ch} (h : RowsL p H rl c) (b : But M H H') (m : ¬ M rl) : RowsL p H' rl c := by
  obtain ⟨rs, h1, h2⟩ := h
  exact ⟨rs, b.at h1 m, h2.keep fun a xs e => b.tup e⟩
theorem RowsL.same {rl : Addr} {c : Ch} (h : RowsL p H rl c) (b : Same H H') : RowsL p H' rl c := h.but (M := fun _ => False) (But.of_same b) id
section
variable {P : Program} {w : World} {K : PySem.W.Frag} {mg : Str → Option Value} {base : Heap} {eB eT eBf eTf : Addr}
def spMade : Sp := fun vs H Q _ => ∃ (rl pl : Addr) (p : Par) (c : Ch) (b : Bool), vs = [.ref rl, .str (p.sg b), .ref pl] ∧ p.Ok ∧ RowsL p H rl c ∧ c.length ≤ 20000 ∧ H pl = some (.lst (List.replicate (p.arr b) (.int c.length))) ∧
  ∀ H', But (· = rl) H H' → RowsL p H' rl (c ++ [b]) → Q (.int (c.length + 1 : Nat)) H'
theorem ok_made (T : Txt K P mg D eB eT eBf eTf) : FnOk P w K mg base CX0 1 D.a_law_made D.d_law_made ["rows", "word", "places"] spMade := by
  refine T.F_law_made.ok sc_law_made (fun vs H Q E h => ?_) (fun cdv AA outer s H vs Q E hr h => ?_)
  · obtain ⟨rl, pl, p, c, b, rfl, _⟩ := h
    rfl
  · obtain ⟨rl, pl, p, c, b, rfl, hp, ⟨rs, hrl, hrows⟩, hlen, hpl, k⟩ := h
    have nd := sc_law_made.nd
    have hu65 : (AA.deeper (envOfC "_law_made" (defScope s_law_made) s.heap.objs.size D.a_law_made cdv)).units + 65 < cLine := by have := hr.un; omega
    refine ⟨_, PSs.nox (pss_cons (ps_set (i := 3) nd rfl (Or.inl rfl) (pe_callTy call_tuple_of (by rfl) T.tuple (by decide +kernel) (pa_cons (pe_op op_cat (pe_lst (pa_cons (pv 1) pa_nil)) (pv 2)) pa_nil))) (pss_cons (ps_if (pt_cmpR (op_notInD hu65) (pv 3) (pv 0) (by rfl)) (pss_one (ps_expr (pe_bm PySem.F.plainAttrs_list PySem.F.slot_list_append PySem.F.type_list_append mt_append (pv 0) (pa_cons (pv 3) pa_nil)))) pss_nil) (pss_one (ps_ret (pe_bm PySem.F.plainAttrs_list PySem.F.slot_list_index PySem.F.type_list_index (mt_indexD hu65) (pv 0) (pa_cons (pv 3) pa_nil)))))), ?_⟩
    refine ⟨_, rfl, (by show 1 ≤ sizeLine; decide), fun l1 n1 => ⟨_, rfl, l1, pl, _, _, rfl, rfl, upd_same, Same.new n1 _ _ hpl, ?_, fun l2 n2 => ⟨l2, _, rfl, .inl ⟨SqL.of upd_same, fun t n3 => ?_⟩⟩⟩⟩
    · have := hp.arr4 b
      have : ([V.str (p.sg b)] : List V).length + (List.replicate (p.arr b) (V.int c.length)).length ≤ 16777216 := by rw [List.length_replicate, List.length_singleton]; omega
      exact this
    have s3 : Same H (upd (upd (upd H l1 (.lst [.str (p.sg b)])) l2 (.lst ([.str (p.sg b)] ++ List.replicate (p.arr b) (.int c.length)))) t (.tup ([.str (p.sg b)] ++ List.replicate (p.arr b) (.int c.length)))) := Same.trans' (Same.new n1) (Same.trans' (Same.new n2) (Same.new n3))
    have ht : upd (upd (upd H l1 (.lst [.str (p.sg b)])) l2 (.lst ([.str (p.sg b)] ++ List.replicate (p.arr b) (.int c.length)))) t (.tup ([.str (p.sg b)] ++ List.replicate (p.arr b) (.int c.length))) t = some (.tup (p.row b c.length)) := upd_same
    generalize upd (upd (upd H l1 (.lst [.str (p.sg b)])) l2 (.lst ([.str (p.sg b)] ++ List.replicate (p.arr b) (.int c.length)))) t (.tup ([.str (p.sg b)] ++ List.replicate (p.arr b) (.int c.length))) = H3 at s3 ht
    have hrl3 := s3 _ _ hrl
    have hrows3 := hrows.keep fun a xs e => s3 _ _ e
    have f1 := row_fl hp (b := b) (j := c.length)
    have f2 := rows_fl hp (c := c)
    have neq : ∀ i, i ≤ c.length → PyData.eqv (rowD (p.rowAt c i)) (rowD (p.row b c.length)) = false := fun i hi => by
      rw [show PyData.eqv (rowD (p.rowAt c i)) (rowD (p.row b c.length)) = decide (p.rowAt c i = p.row b c.length) from eqv_tup (rowAt_fl hp) f1]
      exact decide_eq_false (row_new hp hi)
    refine ⟨_, rfl, _, rfl, rowD (p.row b c.length), (p.rows c).map rowD, dp_tup ht f1, .lst (SqL.of hrl3) (dp_rows hrows3 f2), flD_shaped f1, rows_shaped f2, _, rfl, ifT ?_ ?_⟩
    · rw [Bool.not_eq_true', List.any_eq_false]
      intro z hz
      obtain ⟨r, hr', rfl⟩ := List.mem_map.mp hz
      unfold Par.rows at hr'
      obtain ⟨i, hi, rfl⟩ := List.mem_map.mp hr'
      rw [neq i (by have := List.mem_range.mp hi; omega)]
      exact Bool.false_ne_true
    have ntr : t ≠ rl := ne_of ht hrl3 nofun
    refine ⟨_, rfl, .inl ⟨rfl, _, SqL.of hrl3⟩, _, rfl, rl, _, _, rfl, rfl, hrl3, ?_, ?_⟩
    · have : (rs.map V.ref).length < 16777216 := by rw [List.length_map, hrows.1, Par.rows_len]; omega
      exact this
    have er : rs.map V.ref ++ [V.ref t] = (rs ++ [t]).map V.ref := by rw [List.map_append]; rfl
    rw [er]
    have b4 : But (· = rl) H (upd H3 rl (.lst ((rs ++ [t]).map V.ref))) := (But.of_same s3).mut rfl hrl3 (fun _ => nofun)
    have ht4 : upd H3 rl (.lst ((rs ++ [t]).map V.ref)) t = some (.tup (p.row b c.length)) := by rw [upd_ne ntr]; exact ht
    have hrl4 : upd H3 rl (.lst ((rs ++ [t]).map V.ref)) rl = some (.lst ((rs ++ [t]).map V.ref)) := upd_same
    generalize upd H3 rl (.lst ((rs ++ [t]).map V.ref)) = H4 at b4 ht4 hrl4
    have hrows4 : RowsAt H4 (rs ++ [t]) (p.rows (c ++ [b])) := by
      rw [Par.rows_snoc]
      exact (hrows.keep fun a xs e => b4.tup e).snoc ht4
    have f4 := rows_fl hp (c := c ++ [b])
    refine ⟨_, rfl, .inl ⟨rfl, _, SqL.of hrl4⟩, _, rfl, rl, _, rowD (p.row b c.length), (p.rows (c ++ [b])).map rowD, c.length + 1, rowD (p.row b c.length), rfl, rfl, .lst (SqL.of hrl4) (dp_rows hrows4 f4), dp_tup ht4 f1, rows_shaped f4, flD_shaped f1, ?_, ?_, ?_, k H4 b4 ⟨_, hrl4, hrows4⟩⟩
    · rw [Par.rows_snoc, List.map_append, List.getElem?_append_right (by rw [List.length_map, Par.rows_len]; exact Nat.le_refl _), List.length_map, Par.rows_len, Nat.sub_self]
      rfl
    · rw [show PyData.eqv (rowD (p.row b c.length)) (rowD (p.row b c.length)) = decide (p.row b c.length = p.row b c.length) from eqv_tup f1 f1]
      exact decide_eq_true rfl
    · intro m z' hm hz
      rw [Par.rows_snoc, List.map_append, List.getElem?_append_left (by rw [List.length_map, Par.rows_len]; exact hm), List.getElem?_map, Par.rows_get (by omega)] at hz
      cases hz
      exact neq m (by omega)
end
end R87

/-! ## LawD87 -/
set_option maxHeartbeats 4000000
namespace R87
open PySem PySem.Spec PyProof.Rows L2
variable {D : Ad} {p : Par} {H H' : Hp} {t g : Addr} {A : SA} {cs : List Ch}
theorem sum_rep (n : Nat) (z : Int) : (List.replicate n z).sum = n * z := by
  induction n with
  | zero => simp
  | succ n ih =>
    rw [List.replicate_succ, List.sum_cons, ih, Int.natCast_add, Int.add_mul]
    omega
/-- what stands behind a row's word -/
def tailAt (p : Par) (c : Ch) : Nat → List V
  | 0 => []
  | i + 1 => List.replicate (p.arr (c.getD i false)) (.int (i : Nat))
theorem rowAt_drop {c : Ch} {i : Nat} : (p.rowAt c i).drop 1 = tailAt p c i := by
  cases i <;> rfl
theorem tail_succ {c : Ch} {i : Nat} (h : i < c.length) : tailAt p c (i + 1) = List.replicate (p.arr c[i]) (.int (i : Nat)) := by
  show List.replicate (p.arr (c.getD i false)) _ = _
  rw [List.getD_eq_getElem?_getD, List.getElem?_eq_getElem h]
  rfl
theorem rowAt_len1 (hp : p.Ok) {c : Ch} {i : Nat} : (p.rowAt c i).length = 1 ↔ i = 0 := by
  cases i with
  | zero => exact ⟨fun _ => rfl, fun _ => rfl⟩
  | succ i =>
    refine ⟨fun h => ?_, fun h => absurd h (Nat.succ_ne_zero _)⟩
    rw [show p.rowAt c (i + 1) = p.row (c.getD i false) i from rfl, row_len] at h
    have := hp.arr1 (c.getD i false)
    omega
/-- the rows of a list, one by one -/
theorem RowsL.row_at {rl : Addr} {c : Ch} {rs : List Addr} (h : RowsAt H rs (p.rows c)) {i : Nat} {y : V} (hy : (rs.map V.ref)[i]? = some y) : i ≤ c.length ∧ ∃ r, y = .ref r ∧ H r = some (.tup (p.rowAt c i)) := by
  rw [List.getElem?_map] at hy
  cases e : rs[i]? with
  | none => rw [e] at hy; cases hy
  | some r =>
    rw [e] at hy
    have hi := (List.getElem?_eq_some_iff.mp e).1
    rw [h.1, Par.rows_len] at hi
    exact ⟨by omega, r, (Option.some.inj hy).symm, h.2 i r _ e (Par.rows_get (by omega))⟩
theorem get_rep {n i : Nat} {x y : V} (h : (List.replicate n x)[i]? = some y) : i < n ∧ y = x := by
  rw [List.getElem?_replicate] at h
  split at h
  · exact ⟨by assumption, (Option.some.inj h).symm⟩
  · cases h
def rLenL (K : PySem.W.Frag) : List V → Hp → VK → Prop := fun xs H Q => ∃ p ys, xs = [.ref p] ∧ (SqL K H p ys ∨ SqT K H p ys) ∧ Q (.int ys.length) H
/-- a thing made since then may change -/
theorem But.past {M : Addr → Prop} {H1 H2 : Hp} {a : Addr} (b : But M H H1) (b2 : But (· = a) H1 H2) (n : H a = none) : But M H H2 := fun x o e m => b2 x o (b x o e m) (.inl (ne_of_none e n))
section
variable {P : Program} {w : World} {K : PySem.W.Frag} {mg : Str → Option Value} {base : Heap} {eB eT eBf eTf : Addr}
def szs (p : Par) (c : Ch) (n : Nat) : List V := (List.range n).map fun i => V.int (p.siz (c.take i))
theorem szs_snoc {c : Ch} {n : Nat} : szs p c (n + 1) = szs p c n ++ [.int (p.siz (c.take n))] := by
  unfold szs
  rw [List.range_succ, List.map_append]
  rfl
theorem szs_get {c : Ch} {n i : Nat} (h : i < n) : (szs p c n)[i]? = some (.int (p.siz (c.take i))) := by
  unfold szs
  rw [List.getElem?_map, List.getElem?_range h]
  rfl
def spSizes : Sp := fun vs H Q _ => ∃ (rl : Addr) (p : Par) (c : Ch), vs = [.ref rl] ∧ p.Ok ∧ RowsL p H rl c ∧ c.length ≤ 20000 ∧ ∀ H' l, Same H H' → H' l = some (.lst (szs p c (c.length + 1))) → Q (.ref l) H'
theorem ok_sizes (T : Txt K P mg D eB eT eBf eTf) : FnOk P w K mg base CX0 1 D.a_law_sizes D.d_law_sizes ["rows"] spSizes := by
  refine T.F_law_sizes.ok sc_law_sizes (fun vs H Q E h => ?_) (fun cdv AA outer s H vs Q E hr h => ?_)
  · obtain ⟨rl, p, c, rfl, _⟩ := h
    rfl
  · obtain ⟨rl, p, c, rfl, hp, ⟨rs, hrl, hrows⟩, hlen, k⟩ := h
    have nd := sc_law_sizes.nd
    refine ⟨_, PSs.nox (pss_cons (ps_set (i := 1) nd rfl (Or.inr rfl) (pe_lst pa_nil)) (pss_cons (ps_for PassesOwn.never rfl (pi_list (pv 0)) (pg_name (i := 2) nd rfl (Or.inl rfl)) (pss_one (ps_expr (pe_bm PySem.F.plainAttrs_list PySem.F.slot_list_append PySem.F.type_list_append mt_append (pv 1) (pa_cons (pe_op op_add pe_int (pe_callB (cr_sum rfl) (by rfl) T.sum (by decide +kernel) (pa_cons (pe_lc (own := [("k", 3)]) (g := (gName 3)) (tt := tYes) rfl nd (pi_tup (pe_slice sl_tupA (pv 2) (po_some pe_int) po_none)) (blkOk_by (N := N_law_sizes) (sc := defScope s_law_sizes) (by decide +kernel)) (fun _ _ _ _ _ => (pg_name (i := 3) nd rfl (Or.inl rfl))) (fun _ _ _ _ _ => pts_nil) (fun _ _ _ _ _ => (pe_ix (r := rIxL K) ix_list (pv 1) (pv 3) (fun _ _ => rfl)))) pa_nil))) pa_nil))))) (pss_one (ps_ret (pv 1))))), ?_⟩
    refine ⟨Nat.zero_le _, fun sz nsz => ⟨_, rfl, rl, rfl, ⟨_, SqL.of (Same.new nsz _ _ hrl)⟩, for_list (K := K) (a := rl) (xs := rs.map V.ref) (fun i σ H' => ∃ u, σ = [some (.ref rl), some (.ref sz), u, none] ∧ Same H H' ∧ H' sz = some (.lst (szs p c i))) ⟨_, rfl, Same.new nsz, upd_same⟩ (fun i σ H' _ ⟨_, _, s1, _⟩ => SqL.of (s1 _ _ hrl)) ?_ ?_⟩⟩
    · rintro i y σ H1 hi ⟨u, rfl, s1, hsz⟩
      obtain ⟨hic, r, rfl, hr0⟩ := RowsL.row_at (rl := rl) (hrows.keep fun a xs e => s1 _ _ e) hi
      refine ⟨_, rfl, .inl ⟨rfl, _, SqL.of hsz⟩, _, rfl, 1, rfl, ?_⟩
      unfold tNoPart
      refine slA_of hr0 fun H2 sl s2 hsl => ?_
      rw [cutV1, rowAt_drop] at hsl
      refine ⟨sl, rfl, ⟨_, SqT.of hsl⟩, fun D1 nD1 => lc_tup (K := K) (a := sl) (xs := tailAt p c i) (fun j Hx => Hx = upd H2 D1 (.lst ((List.replicate j (p.siz (c.take (i - 1)))).map V.int))) rfl (fun j Hx _ e => by rw [e]; exact (Same.new nD1).seqT (SqT.of hsl)) ?_ ?_⟩
      · rintro j y Hx hj rfl
        obtain ⟨i', rfl⟩ : ∃ i', i = i' + 1 := by
          cases i with
          | zero => simp [tailAt] at hj
          | succ i' => exact ⟨i', rfl⟩
        have hi' : i' < c.length := hic
        rw [tail_succ hi'] at hj
        obtain ⟨hjn, rfl⟩ := get_rep hj
        have h4 := hp.arr4 c[i']
        refine ⟨rfl, _, rfl, _, rfl, sz, _, _, _, rfl, rfl, SqL.of (Same.new nD1 _ _ (s2 _ _ hsz)), atI_nat (szs_get (Nat.lt_succ_self _)), _, upd_same, ?_, ?_⟩
        · have : ((List.replicate j (p.siz (c.take (i' + 1 - 1)))).map V.int).length < 16777216 := by rw [List.length_map, List.length_replicate]; omega
          exact this
        · rw [upd_upd, Nat.add_sub_cancel, List.replicate_succ', ← ints_snoc]
      · rintro Hx rfl
        have hsz2 := Same.new nD1 (o := .lst ((List.replicate (tailAt p c i).length (p.siz (c.take (i - 1)))).map V.int)) _ _ (s2 _ _ hsz)
        refine ⟨D1, _, rfl, SqL.of upd_same, _, _, rfl, rfl, sz, _, _, rfl, rfl, hsz2, ?_, ?_⟩
        · have : (szs p c i).length < 16777216 := by unfold szs; rw [List.length_map, List.length_range]; omega
          exact this
        · have ev : 1 + (List.replicate (tailAt p c i).length (p.siz (c.take (i - 1)))).sum = p.siz (c.take i) := by
            cases i with
            | zero => rfl
            | succ i' =>
              have hi' : i' < c.length := hic
              rw [sum_rep, tail_succ hi', List.length_replicate, take_snoc' hi', Par.siz_snoc]
              rfl
          refine ⟨_, rfl, Same.new' (Same.trans' s1 (Same.trans' s2 (Same.new nD1))) nsz, ?_⟩
          rw [upd_same, szs_snoc, ← ev]
    · rintro σ H1 ⟨u, rfl, s1, hsz⟩
      rw [List.length_map, hrows.1, Par.rows_len] at hsz
      exact ⟨_, rfl, k H1 sz s1 hsz⟩
def spSmall : Sp := fun vs H Q _ => ∃ (dr : Addr) (p : Par) (ds : List Int), vs = [.ref dr, .str p.L, .str p.one, .str p.many, .int p.ar] ∧ p.Ok ∧ H dr = some (.lst (ds.map V.int)) ∧
  ∀ H' rl c (ds' : List Int), But (· = dr) H H' → H rl = none → RowsL p H' rl c → c.length ≤ 3 → H' dr = some (.lst (ds'.map V.int)) → Q (.ref rl) H'
theorem ok_small (T : Txt K P mg D eB eT eBf eTf) : FnOk P w K mg base CX0 2 D.a_law_small D.d_law_small ["draws", "letter", "one", "many", "arity"] spSmall := by
  refine T.F_law_small.ok sc_law_small (fun vs H Q E h => ?_) (fun cdv AA outer s H vs Q E hr h => ?_)
  · obtain ⟨dr, p, ds, rfl, _⟩ := h
    rfl
  · obtain ⟨dr, p, ds, rfl, hp, hd, k⟩ := h
    have GT := ok_take (P := P) (w := w) (base := base) T
    have GM := ok_made (P := P) (w := w) (base := base) T
    have nd := sc_law_small.nd
    refine ⟨_, PSs.nox (pss_cons (ps_set (i := 5) nd rfl (Or.inr rfl) (pe_lst (pa_cons (pe_tup (pa_cons (pv 1) pa_nil)) pa_nil))) (pss_cons (ps_for PassesOwn.never rfl (pi_range1 (by rfl) T.range (pa_cons (pe_call GT hr rfl T.g_law_take T.F_law_take.kp T.b_law_take .nil pass0 (pa_cons (pv 0) (pa_cons pe_int pa_nil))) pa_nil)) (pg_name (i := 6) nd rfl (Or.inl rfl)) (pss_one (ps_if (pt_cmpR op_eq (pe_call GT hr rfl T.g_law_take T.F_law_take.kp T.b_law_take .nil pass0 (pa_cons (pv 0) (pa_cons pe_int pa_nil))) pe_int (nomark _)) (pss_one (ps_expr (pe_call GM hr rfl T.g_law_made T.F_law_made.kp T.b_law_made .nil pass0 (pa_cons (pv 5) (pa_cons (pv 2) (pa_cons (pe_lst (pa_cons (pe_op op_sub (pe_callB call_len_seq (by rfl) T.len PySem.boot_len (pa_cons (pv 5) pa_nil)) pe_int) pa_nil)) pa_nil)))))) (pss_one (ps_expr (pe_call GM hr rfl T.g_law_made T.F_law_made.kp T.b_law_made .nil pass0 (pa_cons (pv 5) (pa_cons (pv 3) (pa_cons (pe_lc (own := [("j", 7)]) (g := (gName 7)) (tt := tYes) rfl nd (pi_range1 (by rfl) T.range (pa_cons (pv 4) pa_nil)) (blkOk_by (N := N_law_small) (sc := defScope s_law_small) (by decide +kernel)) (fun _ _ _ _ _ => (pg_name (i := 7) nd rfl (Or.inl rfl))) (fun _ _ _ _ _ => pts_nil) (fun _ _ _ _ _ => (pe_op op_sub (pe_callB (r := rLenL K) call_len_seq (by rfl) T.len PySem.boot_len (pa_cons (pv 5) pa_nil)) pe_int))) pa_nil))))))))) (pss_one (ps_ret (pv 5))))), ?_⟩
    refine ⟨_, rfl, (by show 1 ≤ sizeLine; decide), fun r0 nr0 => ⟨(by show 1 ≤ sizeLine; decide), fun rl nrl => ?_⟩⟩
    have s1 : Same H (upd (upd H r0 (.tup [.str p.L])) rl (.lst [.ref r0])) := Same.trans' (Same.new nr0) (Same.new nrl)
    have hR : RowsL p (upd (upd H r0 (.tup [.str p.L])) rl (.lst [.ref r0])) rl [] := ⟨[r0], upd_same, rfl, fun i a r e1 e2 => by
      match i, e1, e2 with
      | 0, e1, e2 =>
        cases e1
        cases e2
        rw [upd_ne (fun e => by rw [← e, upd_same] at nrl; cases nrl), upd_same]
        rfl
      | j + 1, e1, _ => simp at e1⟩
    have nrl0 : H rl = none := (upd_none.mp nrl).2
    generalize upd (upd H r0 (.tup [.str p.L])) rl (.lst [.ref r0]) = H1 at s1 hR
    have nrd : rl ≠ dr := (ne_of_none hd nrl0).symm
    refine ⟨_, rfl, dr, ds, 4, rfl, by decide, s1 _ _ hd, fun H2 r ds2 b2 hd2 h0 h4 => ?_⟩
    obtain ⟨n, rfl⟩ : ∃ n : Nat, r = n := ⟨r.toNat, by omega⟩
    refine ⟨_, rfl, by omega, by omega, for_range (lo := 0) (n := n) (fun i σ H' => ∃ (u : Option V) (c : Ch) (ds' : List Int), σ = [some (.ref dr), some (.str p.L), some (.str p.one), some (.str p.many), some (.int p.ar), some (.ref rl), u, none] ∧ But (· = dr) H H' ∧ RowsL p H' rl c ∧ c.length = i ∧ H' dr = some (.lst (ds'.map V.int))) ⟨_, [], ds2, rfl, (But.of_same s1).trans b2, hR.but b2 nrd, rfl, hd2⟩ ?_ ?_⟩
    · rintro i σ H3 hi ⟨u, c, ds3, rfl, b3, hR3, hci, hd3⟩
      refine ⟨_, rfl, dr, ds3, 2, rfl, by decide, hd3, fun H4 r4 ds4 b4 hd4 _ _ => ⟨rfl, _, rfl, ?_⟩⟩
      have hR4 := hR3.but b4 nrd
      have b04 := b3.trans b4
      obtain ⟨rs, hrl4, hrows4⟩ := id hR4
      have hln : ((rs.map V.ref).length : Int) - 1 = (c.length : Int) := by rw [List.length_map, hrows4.1, Par.rows_len]; omega
      refine ifC (fun _ => ?_) (fun _ => ?_)
      · refine ⟨_, rfl, _, rfl, _, rfl, rl, _, rfl, .inl (SqL.of hrl4), _, _, rfl, rfl, (by show 1 ≤ sizeLine; decide), fun pl npl => ?_⟩
        refine ⟨rl, pl, p, c, false, rfl, hp, hR4.same (Same.new npl), by omega, ?_, fun H5 b5 hR5 => ?_⟩
        · rw [upd_same]
          show some (HO.lst [V.int (((rs.map V.ref).length : Int) - 1)]) = _
          rw [hln]
          rfl
        · exact ⟨_, _, ds4, rfl, But.past (b04.trans (But.of_same (Same.new npl))) b5 nrl0, hR5, by rw [List.length_append, hci]; rfl, b5.at (Same.new npl _ _ hd4) nrd.symm⟩
      · have har := hp.ar4
        refine ⟨_, rfl, _, rfl, _, rfl, p.ar, rfl, by omega, by omega, fun pl npl => lc_range (lo := 0) (n := p.ar) (fun j Hx => Hx = upd H4 pl (.lst (List.replicate j (.int c.length)))) rfl ?_ ?_⟩
        · rintro j Hx hj rfl
          refine ⟨rfl, _, rfl, rl, _, rfl, .inl (SqL.of (Same.new npl _ _ hrl4)), _, _, rfl, rfl, _, upd_same, ?_, ?_⟩
          · have : (List.replicate j (V.int c.length)).length < 16777216 := by rw [List.length_replicate]; omega
            exact this
          · rw [upd_upd, List.replicate_succ', ← hln]
        · rintro Hx rfl
          refine ⟨rl, pl, p, c, true, rfl, hp, hR4.same (Same.new npl), by omega, upd_same, fun H5 b5 hR5 => ?_⟩
          exact ⟨_, _, ds4, rfl, But.past (b04.trans (But.of_same (Same.new npl))) b5 nrl0, hR5, by rw [List.length_append, hci]; rfl, b5.at (Same.new npl _ _ hd4) nrd.symm⟩
    · rintro σ H3 ⟨u, c, ds3, rfl, b3, hR3, hci, hd3⟩
      exact ⟨_, rfl, k H3 rl c ds3 b3 nrl0 hR3 (by omega) hd3⟩
end
end R87

/-! ## LawE87 -/
set_option maxHeartbeats 4000000
namespace R87
open PySem PySem.Spec PyProof.Rows L2
variable {D : Ad} {p : Par} {H H' : Hp} {t g : Addr} {A : SA} {cs : List Ch}
theorem lv_snoc {f : Nat → Int} {i : Nat} : lv f (List.range i) ++ [.int (f i)] = lv f (List.range (i + 1)) := by
  unfold lv
  rw [List.range_succ, List.map_append]
  rfl
theorem lv_get {f : Nat → Int} {n i : Nat} (h : i < n) : (lv f (List.range n))[i]? = some (.int (f i)) := by
  unfold lv
  rw [List.getElem?_map, List.getElem?_range h]
  rfl
theorem lv_congr {f f' : Nat → Int} {n : Nat} (h : ∀ i, i < n → f i = f' i) : lv f (List.range n) = lv f' (List.range n) := by
  unfold lv
  exact List.map_congr_left fun i hi => by rw [h i (List.mem_range.mp hi)]
theorem lv_len {f : Nat → Int} {n : Nat} : (lv f (List.range n)).length = n := by unfold lv; rw [List.length_map, List.length_range]
section
variable {P : Program} {w : World} {K : PySem.W.Frag} {mg : Str → Option Value} {base : Heap} {eB eT eBf eTf : Addr}
def spBuilt (D : Ad) : Sp := fun vs H Q _ => ∃ (t g rl : Addr) (p : Par) (A : SA) (cs : List Ch) (c : Ch), vs = [.ref t, .ref rl] ∧ p.Ok ∧ StoreAt D p H t g A cs ∧ SigAt D p H g ∧ RowsL p H rl c ∧ ¬ A.M rl ∧ cs.length + c.length + 1 ≤ 20000 ∧
  ∀ H' cs', But A.M H H' → StoreAt D p H' t g A cs' → Ext cs cs' → c ∈ cs' → cs'.length ≤ cs.length + c.length + 1 → Q (.int (num cs' c)) H'
theorem ok_built (T : Txt K P mg D eB eT eBf eTf) : FnOk P w K mg base CX0 4 D.a_law_built D.d_law_built ["terms", "rows"] (spBuilt D) := by
  refine T.F_law_built.ok sc_law_built (fun vs H Q E h => ?_) (fun cdv AA outer s H vs Q E hr h => ?_)
  · obtain ⟨t, g, rl, p, A, cs, c, rfl, _⟩ := h
    rfl
  · obtain ⟨t, g, rl, p, A, cs, c, rfl, hp, hS, hG, ⟨rs, hrl, hrows⟩, nM, hlen, k⟩ := h
    have GL := ok_letter (P := P) (w := w) (base := base) T
    have GK := ok_make (P := P) (w := w) (base := base) T
    have nd := sc_law_built.nd
    refine ⟨_, PSs.nox (pss_cons (ps_set (i := 2) nd rfl (Or.inr rfl) (pe_lst pa_nil)) (pss_cons (ps_for PassesOwn.never rfl (pi_list (pv 1)) (pg_name (i := 3) nd rfl (Or.inl rfl)) (pss_one (ps_if (pt_cmpR op_eq (pe_callB call_len_seq (by rfl) T.len PySem.boot_len (pa_cons (pv 3) pa_nil)) pe_int (nomark _)) (pss_one (ps_expr (pe_bm PySem.F.plainAttrs_list PySem.F.slot_list_append PySem.F.type_list_append mt_append (pv 2) (pa_cons (pe_meth (pv 0) T.cl_Terms T.m_Terms_letter GL hr T.b_Terms_letter .nil pass0 (pa_cons (pe_ix ix_tup (pv 3) pe_int (fun _ _ => rfl)) pa_nil)) pa_nil)))) (pss_one (ps_expr (pe_bm PySem.F.plainAttrs_list PySem.F.slot_list_append PySem.F.type_list_append mt_append (pv 2) (pa_cons (pe_meth (pv 0) T.cl_Terms T.m_Terms_make GK hr T.b_Terms_make .nil pass0 (pa_cons (pe_ix ix_tup (pv 3) pe_int (fun _ _ => rfl)) (pa_cons (pe_lc (own := [("k", 4)]) (g := (gName 4)) (tt := tYes) rfl nd (pi_tup (pe_slice sl_tupA (pv 3) (po_some pe_int) po_none)) (blkOk_by (N := N_law_built) (sc := defScope s_law_built) (by decide +kernel)) (fun _ _ _ _ _ => (pg_name (i := 4) nd rfl (Or.inl rfl))) (fun _ _ _ _ _ => pts_nil) (fun _ _ _ _ _ => (pe_ix (r := rIxL K) ix_list (pv 2) (pv 4) (fun _ _ => rfl)))) pa_nil))) pa_nil))))))) (pss_one (ps_ret (pe_ix ix_list (pv 2) (pe_un un_neg pe_int) (fun _ _ => rfl)))))), ?_⟩
    obtain ⟨dx, tx, h0⟩ := hS.ob
    have nt := hS.not_m h0 (fun _ => nofun) (fun _ => nofun)
    refine ⟨Nat.zero_le _, fun nl nnl => ⟨_, rfl, rl, rfl, ⟨_, SqL.of (Same.new nnl _ _ hrl)⟩, for_list (K := K) (a := rl) (xs := rs.map V.ref) (fun i σ H' => ∃ (u : Option V) (cs' : List Ch), σ = [some (.ref t), some (.ref rl), some (.ref nl), u, none] ∧ But A.M H H' ∧ StoreAt D p H' t g A cs' ∧ Ext cs cs' ∧ (∀ j, j < i → c.take j ∈ cs') ∧ cs'.length ≤ cs.length + i ∧ H' nl = some (.lst (lv (nm cs' c) (List.range i)))) ⟨_, cs, rfl, But.of_same (Same.new nnl), hS.same (Same.new nnl), Ext.refl, fun _ h => absurd h (Nat.not_lt_zero _), Nat.le_refl _, upd_same⟩ (fun i σ H' _ ⟨_, _, _, b, _⟩ => SqL.of (b.at hrl nM)) ?_ ?_⟩⟩
    · rintro i y σ H1 hi ⟨u, cs', rfl, b1, S1, ext, hin, hl, hnl⟩
      obtain ⟨hic, r, rfl, hr0⟩ := RowsL.row_at (rl := rl) (hrows.keep fun a xs e => b1.tup e) hi
      have h01 := b1.at h0 nt
      have hG1 := hG.but hS b1
      have nlM : ¬ A.M nl := hS.not_m_free nnl
      have len : (lv (nm cs' c) (List.range i)).length < sizeLine := by
        rw [lv_len]
        have h : (16777216 : Nat) = sizeLine := rfl
        omega
      -- one more number
      have fin : ∀ (H2 : Hp), But A.M H1 H2 → StoreAt D p H2 t g A (add cs' (c.take i)) → H2 nl = some (.lst (lv (nm cs' c) (List.range i))) → But A.M H (upd H2 nl (.lst (lv (nm cs' c) (List.range i) ++ [.int (num (add cs' (c.take i)) (c.take i))]))) ∧
          StoreAt D p (upd H2 nl (.lst (lv (nm cs' c) (List.range i) ++ [.int (num (add cs' (c.take i)) (c.take i))]))) t g A (add cs' (c.take i)) ∧ Ext cs (add cs' (c.take i)) ∧ (∀ j, j < i + 1 → c.take j ∈ add cs' (c.take i)) ∧ (add cs' (c.take i)).length ≤ cs.length + (i + 1) ∧
          upd H2 nl (.lst (lv (nm cs' c) (List.range i) ++ [.int (num (add cs' (c.take i)) (c.take i))])) nl = some (.lst (lv (nm (add cs' (c.take i)) c) (List.range (i + 1)))) := fun H2 b2 S2 e2 => by
        have ex2 : Ext cs' (add cs' (c.take i)) := Ext.add
        refine ⟨But.own (b1.trans b2) nnl, S2.beside e2 nlM (fun _ => nofun) (fun _ _ _ => nofun), ext.trans ex2, fun j hj => ?_, ?_, ?_⟩
        · rcases Nat.lt_or_ge j i with h | h
          · exact (ex2 _ (hin j h)).1
          · obtain rfl : j = i := by omega
            exact mem_add
        · have := add_len (cs := cs') (c := c.take i)
          omega
        · rw [upd_same, lv_congr (f := nm cs' c) (f' := nm (add cs' (c.take i)) c) (fun j hj => by unfold nm; rw [(ex2 _ (hin j hj)).2]), ← lv_snoc]
          rfl
      refine ⟨_, rfl, r, _, rfl, .inr (SqT.of hr0), rfl, _, rfl, ?_⟩
      cases i with
      | zero =>
        refine ifT rfl ⟨_, rfl, .inl ⟨rfl, _, SqL.of hnl⟩, _, rfl, t, dx, _, rfl, h01, rfl, _, rfl, r, _, _, _, rfl, rfl, SqT.of hr0, at0, t, g, p, A, cs', rfl, hp, S1, hG1, by omega, fun H2 b2 S2 => ?_⟩
        have e2 := b2.at hnl nlM
        obtain ⟨q1, q2, q3, q4, q5, q6⟩ := fin H2 b2 S2 e2
        exact ⟨nl, _, _, rfl, rfl, e2, len, _, _, rfl, q1, q2, q3, q4, q5, q6⟩
      | succ i =>
        have hi' : i < c.length := hic
        refine ifF (dF fun e => ?_) ?_
        · injection e with e
          have h1 : (p.rowAt c (i + 1)).length = 1 := by exact_mod_cast e
          exact absurd ((rowAt_len1 hp).mp h1) (Nat.succ_ne_zero _)
        · have hw : (p.rowAt c (i + 1))[0]? = some (.str (p.sg c[i])) := by rw [rowAt_succ hi']; rfl
          refine ⟨_, rfl, .inl ⟨rfl, _, SqL.of hnl⟩, _, rfl, t, dx, _, rfl, h01, rfl, _, rfl, r, _, _, _, rfl, rfl, SqT.of hr0, atI_nat (j := 0) hw, _, rfl, 1, rfl, ?_⟩
          unfold tNoPart
          refine slA_of hr0 fun H2 sl s2 hsl => ?_
          rw [cutV1, rowAt_drop, tail_succ hi'] at hsl
          have h4 := hp.arr4 c[i]
          refine ⟨sl, rfl, ⟨_, SqT.of hsl⟩, fun D1 nD1 => lc_tup (K := K) (a := sl) (xs := List.replicate (p.arr c[i]) (.int (i : Nat))) (fun j Hx => Hx = upd H2 D1 (.lst (List.replicate j (.int (num cs' (c.take i)))))) rfl (fun j Hx _ e => by rw [e]; exact (Same.new nD1).seqT (SqT.of hsl)) ?_ ?_⟩
          · rintro j y Hx hj rfl
            obtain ⟨hjn, rfl⟩ := get_rep hj
            refine ⟨rfl, _, rfl, _, rfl, nl, _, _, _, rfl, rfl, SqL.of (Same.new nD1 _ _ (s2 _ _ hnl)), atI_nat (lv_get (Nat.lt_succ_self _)), _, upd_same, ?_, ?_⟩
            · have : (List.replicate j (V.int (num cs' (c.take i)))).length < 16777216 := by rw [List.length_replicate]; omega
              exact this
            · rw [upd_upd, List.replicate_succ']
              rfl
          · rintro Hx rfl
            rw [List.length_replicate]
            have s3 := Same.trans' s2 (Same.new (o := .lst (List.replicate (p.arr c[i]) (.int (num cs' (c.take i))))) nD1)
            have S3 := S1.same s3
            have nDM : ¬ A.M D1 := (S1.same s2).not_m_free nD1
            refine ⟨t, g, D1, p, A, cs', c.take i, c[i], rfl, hp, S3, hG1.same s3, by omega, hin i (Nat.lt_succ_self _), upd_same, nDM, fun H4 b4 S4 => ?_⟩
            rw [← take_snoc' hi'] at S4 ⊢
            have b14 := (But.of_same (M := A.M) s3).trans b4
            have e4 := b14.at hnl nlM
            obtain ⟨q1, q2, q3, q4, q5, q6⟩ := fin H4 b14 S4 e4
            exact ⟨nl, _, _, rfl, rfl, e4, len, _, _, rfl, q1, q2, q3, q4, q5, q6⟩
    · rintro σ H1 ⟨u, cs', rfl, b1, S1, ext, hin, hl, hnl⟩
      have hln : (rs.map V.ref).length = c.length + 1 := by rw [List.length_map, hrows.1, Par.rows_len]
      rw [hln] at hin hl hnl
      have hc := hin c.length (Nat.lt_succ_self _)
      rw [List.take_length] at hc
      refine ⟨_, rfl, 1, rfl, nl, _, _, .int (num cs' c), rfl, rfl, SqL.of hnl, ?_, k H1 cs' b1 S1 ext hc (by omega)⟩
      rw [← lv_snoc, nm_top]
      exact atI_last _ _
def spPutL : Sp := fun vs H Q _ => ∃ (rl il : Addr) (p : Par) (d e : Ch), vs = [.ref rl, .ref il] ∧ p.Ok ∧ RowsL p H rl e ∧ RowsL p H il d ∧ d.length + e.length ≤ 20000 ∧ ∀ H' fo, Same H H' → H fo = none → RowsL p H' fo (d ++ e) → Q (.ref fo) H'
theorem ok_putl (T : Txt K P mg D eB eT eBf eTf) : FnOk P w K mg base CX0 2 D.a_law_put D.d_law_put ["rows", "inner"] spPutL := by
  refine T.F_law_put.ok sc_law_put (fun vs H Q E h => ?_) (fun cdv AA outer s H vs Q E hr h => ?_)
  · obtain ⟨rl, il, p, d, e, rfl, _⟩ := h
    rfl
  · obtain ⟨rl, il, p, d, e, rfl, hp, ⟨rs, hrl, hrows⟩, ⟨is, hil, hirows⟩, hlen, k⟩ := h
    have GM := ok_made (P := P) (w := w) (base := base) T
    have nd := sc_law_put.nd
    refine ⟨_, PSs.nox (pss_cons (ps_set (i := 2) nd rfl (Or.inl rfl) (pe_callTy call_list_of (by rfl) T.list' (by decide +kernel) (pa_cons (pv 1) pa_nil))) (pss_cons (ps_set (i := 3) nd rfl (Or.inr rfl) (pe_lst pa_nil)) (pss_cons (ps_for PassesOwn.never rfl (pi_list (pv 0)) (pg_name (i := 4) nd rfl (Or.inl rfl)) (pss_one (ps_if (pt_cmpR op_eq (pe_callB call_len_seq (by rfl) T.len PySem.boot_len (pa_cons (pv 4) pa_nil)) pe_int (nomark _)) (pss_one (ps_expr (pe_bm PySem.F.plainAttrs_list PySem.F.slot_list_append PySem.F.type_list_append mt_append (pv 3) (pa_cons (pe_op op_sub (pe_callB call_len_seq (by rfl) T.len PySem.boot_len (pa_cons (pv 1) pa_nil)) pe_int) pa_nil)))) (pss_one (ps_expr (pe_bm PySem.F.plainAttrs_list PySem.F.slot_list_append PySem.F.type_list_append mt_append (pv 3) (pa_cons (pe_call GM hr rfl T.g_law_made T.F_law_made.kp T.b_law_made .nil pass0 (pa_cons (pv 2) (pa_cons (pe_ix ix_tup (pv 4) pe_int (fun _ _ => rfl)) (pa_cons (pe_lc (own := [("k", 5)]) (g := (gName 5)) (tt := tYes) rfl nd (pi_tup (pe_slice sl_tupA (pv 4) (po_some pe_int) po_none)) (blkOk_by (N := N_law_put) (sc := defScope s_law_put) (by decide +kernel)) (fun _ _ _ _ _ => (pg_name (i := 5) nd rfl (Or.inl rfl))) (fun _ _ _ _ _ => pts_nil) (fun _ _ _ _ _ => (pe_ix (r := rIxL K) ix_list (pv 3) (pv 5) (fun _ _ => rfl)))) pa_nil)))) pa_nil))))))) (pss_one (ps_ret (pv 2)))))), ?_⟩
    refine ⟨_, rfl, il, _, rfl, .inl (SqL.of hil), fun fo nfo => ⟨Nat.zero_le _, fun al nal => ?_⟩⟩
    have s0 : Same H (upd (upd H fo (.lst (is.map V.ref))) al (.lst [])) := Same.trans' (Same.new nfo) (Same.new nal)
    obtain ⟨naf, nal0⟩ := upd_none.mp nal
    refine ⟨_, rfl, rl, rfl, ⟨_, SqL.of (s0 _ _ hrl)⟩, for_list (K := K) (a := rl) (xs := rs.map V.ref) (fun i σ H' => ∃ u : Option V, σ = [some (.ref rl), some (.ref il), some (.ref fo), some (.ref al), u, none] ∧ Same H H' ∧ RowsL p H' fo (d ++ e.take (i - 1)) ∧ H' al = some (.lst (lv (fun j => (d.length + j : Nat)) (List.range i)))) ⟨_, rfl, s0, ?_, upd_same⟩ (fun i σ H' _ ⟨_, _, s, _⟩ => SqL.of (s _ _ hrl)) ?_ ?_⟩
    · rw [Nat.zero_sub, List.take_zero, List.append_nil]
      exact ⟨is, by rw [upd_ne (Ne.symm naf), upd_same], hirows.keep fun a xs q => s0 _ _ q⟩
    · rintro i y σ H1 hi ⟨u, rfl, s1, hR, hal⟩
      obtain ⟨hic, r, rfl, hr0⟩ := RowsL.row_at (rl := rl) (hrows.keep fun a xs e => s1 _ _ e) hi
      have len : (lv (fun j => ((d.length + j : Nat) : Int)) (List.range i)).length < sizeLine := by
        rw [lv_len]
        have h : (16777216 : Nat) = sizeLine := rfl
        omega
      obtain ⟨fs, hfo, hfrows⟩ := id hR
      refine ⟨_, rfl, r, _, rfl, .inr (SqT.of hr0), rfl, _, rfl, ?_⟩
      cases i with
      | zero =>
        refine ifT rfl ⟨_, rfl, .inl ⟨rfl, _, SqL.of hal⟩, _, rfl, il, _, rfl, .inl (SqL.of (s1 _ _ hil)), _, _, rfl, rfl, al, _, _, rfl, rfl, hal, len, ?_⟩
        have nfa : fo ≠ al := Ne.symm naf
        refine ⟨_, rfl, Same.new' s1 nal0, hR.but (M := (· = al)) ((But.refl H1).mut rfl hal (fun _ => nofun)) nfa, ?_⟩
        rw [upd_same, ← lv_snoc]
        show some (HO.lst (_ ++ [V.int (((is.map V.ref).length : Int) - 1)])) = _
        rw [show (((is.map V.ref).length : Int) - 1) = ((d.length + 0 : Nat) : Int) by rw [List.length_map, hirows.1, Par.rows_len]; omega]
      | succ i =>
        have hi' : i < e.length := hic
        refine ifF (dF fun q => ?_) ?_
        · injection q with q
          have h1 : (p.rowAt e (i + 1)).length = 1 := by exact_mod_cast q
          exact absurd ((rowAt_len1 hp).mp h1) (Nat.succ_ne_zero _)
        · have hw : (p.rowAt e (i + 1))[0]? = some (.str (p.sg e[i])) := by rw [rowAt_succ hi']; rfl
          refine ⟨_, rfl, .inl ⟨rfl, _, SqL.of hal⟩, _, rfl, _, rfl, r, _, _, _, rfl, rfl, SqT.of hr0, atI_nat (j := 0) hw, _, rfl, 1, rfl, ?_⟩
          unfold tNoPart
          refine slA_of hr0 fun H2 sl s2 hsl => ?_
          rw [cutV1, rowAt_drop, tail_succ hi'] at hsl
          have h4 := hp.arr4 e[i]
          refine ⟨sl, rfl, ⟨_, SqT.of hsl⟩, fun D1 nD1 => lc_tup (K := K) (a := sl) (xs := List.replicate (p.arr e[i]) (.int (i : Nat))) (fun j Hx => Hx = upd H2 D1 (.lst (List.replicate j (.int (d.length + i : Nat))))) rfl (fun j Hx _ e => by rw [e]; exact (Same.new nD1).seqT (SqT.of hsl)) ?_ ?_⟩
          · rintro j y Hx hj rfl
            obtain ⟨hjn, rfl⟩ := get_rep hj
            refine ⟨rfl, _, rfl, _, rfl, al, _, _, _, rfl, rfl, SqL.of (Same.new nD1 _ _ (s2 _ _ hal)), atI_nat (lv_get (Nat.lt_succ_self _)), _, upd_same, ?_, ?_⟩
            · have : (List.replicate j (V.int (d.length + i : Nat))).length < 16777216 := by rw [List.length_replicate]; omega
              exact this
            · rw [upd_upd, List.replicate_succ']
          · rintro Hx rfl
            rw [List.length_replicate]
            have s3 := Same.trans' s2 (Same.new (o := .lst (List.replicate (p.arr e[i]) (.int (d.length + i : Nat)))) nD1)
            have hl : (d ++ e.take i).length = d.length + i := by rw [List.length_append, List.length_take]; omega
            refine ⟨fo, D1, p, d ++ e.take i, e[i], rfl, hp, by have := hR.same s3; rwa [Nat.add_sub_cancel] at this, by omega, by rw [hl]; exact upd_same, fun H4 b4 hR4 => ?_⟩
            have nfa : al ≠ fo := naf
            have hal4 := b4.at (s3 _ _ hal) nfa
            have b04 : But (fun _ => False) H H4 := But.past (But.of_same (Same.trans' s1 s3)) b4 nfo
            refine ⟨al, _, _, rfl, rfl, hal4, len, _, rfl, Same.new' b04.same nal0, ?_, ?_⟩
            · rw [List.append_assoc, ← take_snoc' hi'] at hR4
              exact hR4.but (M := (· = al)) ((But.refl H4).mut rfl hal4 (fun _ => nofun)) (Ne.symm nfa)
            · rw [upd_same, hl]
              exact congrArg (fun l => some (HO.lst l)) (lv_snoc (f := fun j => ((d.length + j : Nat) : Int)) (i := i + 1))
    · rintro σ H1 ⟨u, rfl, s1, hR, hal⟩
      rw [List.length_map, hrows.1, Par.rows_len, Nat.add_sub_cancel, List.take_length] at hR
      exact ⟨_, rfl, k H1 fo s1 nfo hR⟩
end
end R87

/-! ## ExcCall -/
set_option maxHeartbeats 4000000
/-! A def that raises nothing, called where an exception is being handled. -/
namespace L2
open PySem PySem.Spec PyProof.Rows
/-- room, whatever is handled -/
structure RoomW (k : Nat) (A : Around) : Prop where
  deep : A.depth + 3 * k + 5 < recursionLimit
  wide : A.units + 16 * k + 200 < cLine
theorem Room.warm {k : Nat} {A : Around} (r : Room k A) : RoomW k A := ⟨r.dp, r.un⟩
theorem RoomW.down {k : Nat} {A : Around} (r : RoomW (k + 1) A) (env : Env) : RoomW k (A.deeper env) := by
  refine ⟨?_, ?_⟩
  · have h := r.deep
    show A.depth + 1 + 3 * k + 5 < _
    omega
  · have h := r.wide
    show A.units + 3 + 16 * k + 200 < _
    omega
/-- the body's context there -/
def cxW (CX : CXT) (P : Program) (w : World) (K : PySem.W.Frag) (mg : Str → Option Value) (base : Heap) (N : List Str) (qual : Str) (scope : Scope) (f : Addr) (cd : Value) (A : Around) (outer : List Env) (s : Shared) (H : Hp) (E : XK) : Cx :=
  { cxOf CX P w K mg base N qual scope f cd A outer s H E with calm := false }
theorem inv_warm {CX : CXT} {P : Program} {w : World} {K : PySem.W.Frag} {mg : Str → Option Value} {base : Heap} {N ps : List Str} {qual : Str} {scope : Scope} {f : Addr} {cd : Value} {A : Around} {outer : List Env} {s s1 : Shared} {H : Hp} {E : XK} {us : List Value} {vs : List V}
    (sc : FnScope N ps scope) (e0 : Env0 P w K mg base A outer s H) (hl : vs.length = ps.length) (rel : Vals vs us)
    (ic : InCallC s s.heap.objs.size (bindL (envOfC qual scope s.heap.objs.size f cd).kindOf (ps.zip us) fun _ => none) (cellsFrom (s.heap.objs.size + 1) scope.names []) (bindC (envOfC qual scope s.heap.objs.size f cd).kindOf (ps.zip us) fun _ => none) s1) :
    Inv (cxW CX P w K mg base N qual scope f cd A outer s H E) [] (L2.start N vs) H s1 := by
  have hpl : ps.length ≤ N.length := by
    have h := congrArg List.length sc.pre
    rw [List.length_take] at h
    omega
  have none_ex : ∀ b : Addr, b ∉ (cxW CX P w K mg base N qual scope f cd A outer s H E).ex := fun b z => absurd (show b ∈ ([] : List Addr) from z) (by simp)
  obtain ⟨h1, tk, rfl, kept⟩ := ic.done
  refine ⟨⟨e0.mod, sc.kind, rfl, rfl, Nat.le_refl _, fun y z c m1 m2 => ?_, fun y hy => ?_, fun y c _ h => ?_, (fun z => Bool.noConfusion (show false = true from z)), Around.frames_deeper e0.frames, .inr ⟨rfl, rfl⟩, fun b z => absurd z (none_ex b), e0.bs, e0.bsz, fun b _ _ => none_ex b, fun b z => absurd z (none_ex b), e0.funs, e0.frf⟩,
    rfl, e0.bare, Un.kept kept, ⟨_, ic.toInCall.ns, fun i y v m1 m2 m3 => ?_⟩, fun y c h => ⟨_, ic.cell y c h⟩, e0.hok.fresh (Nat.le_refl _), fun y c h => ?_, fun q hq => absurd (show q ∈ ([] : List (Addr × Obj)) from hq) (by simp), e0.hok.kept kept, ?_⟩
  · exact name_of_addr ic.apart (PySem.mem_of_lookup m1) (PySem.mem_of_lookup m2)
  · rcases (show scope.names.lookup y = some .cell ∨ scope.names.lookup y = some .free from hy) with z | z
    · exact cell_has z
    · exact absurd rfl (sc.nofree _ (PySem.mem_of_lookup z))
  · exact Nat.le_of_lt (ic.above y c (PySem.mem_of_lookup h))
  · have at_v : vs[i]? = some v := by
      unfold L2.start at m2
      by_cases lt : i < vs.length
      · rw [List.getElem?_append_left (by simpa using lt), List.getElem?_map] at m2
        cases q : vs[i]? with
        | some a =>
          rw [q] at m2
          cases m2
          rfl
        | none =>
          rw [q] at m2
          cases m2
      · rw [List.getElem?_append_right (by simpa using lt), List.getElem?_replicate] at m2
        split at m2 <;> cases m2
    have lt : i < vs.length := (List.getElem?_eq_some_iff.mp at_v).1
    obtain ⟨u, at_u, rv⟩ := rel.get at_v
    have at_p : ps[i]? = some y := by
      rw [← sc.pre, List.getElem?_take_of_lt (by omega)]
      exact m1
    have nd : ps.Nodup := by
      rw [← sc.pre]
      exact sc.nd.sublist (List.take_sublist _ _)
    refine ⟨u, rv, ?_⟩
    rcases sc.par y (List.mem_of_getElem? at_p) with z | z
    · exact .inl ⟨z, bindL_get nd at_p at_u z⟩
    · obtain ⟨c, q⟩ := cell_has (n := s.heap.objs.size + 1) z
      have hc := ic.cell y c q
      rw [bindC_get nd at_p at_u (by show scope.names.lookup y ≠ _; rw [z]; decide)] at hc
      exact .inr ⟨.inl z, c, q, hc⟩
  · exact e0.hok.fresh (Nat.le_of_lt (ic.above y c (PySem.mem_of_lookup h)))
  · unfold L2.start
    show _ = N.length
    rw [List.length_append, List.length_map, List.length_replicate]
    omega
/-- what such a def promises -/
structure FnW (P : Program) (w : World) (K : PySem.W.Frag) (mg : Str → Option Value) (base : Heap) (k : Nat) (f : Addr) (fd : FuncData) (ps : List Str) (sp : Sp) : Prop where
  len : ∀ vs H Q E, sp vs H Q E → vs.length = ps.length
  go : ∀ (A : Around) (outer : List Env) (s : Shared) (H : Hp) (args : Args) (us : List Value) (vs : List V) (Q : VK) (E : XK), RoomW k A → Env0 P w K mg base A outer s H → BindsTo s fd args (ps.zip us) → Vals vs us → sp vs H Q E →
    codeAny (model P w) A (.call (.ref f) args) (CR CX0 outer P w H s Q E) s
section
variable {P : Program} {w : World} {K : PySem.W.Frag} {mg : Str → Option Value} {base : Heap} {x qual : Str} {params : Arguments} {body : List Stmt} {scope : Scope} {dvs : List V} {f : Addr} {fd : FuncData}
theorem FunD.warm {N ps : List Str} {k : Nat} {sp : Sp} (F : FunD K x qual params body scope dvs [] f fd) (sc : FnScope N ps scope) (len : ∀ vs H Q E, sp vs H Q E → vs.length = ps.length)
    (hbody : ∀ (cdv : Value) (A : Around) (outer : List Env) (s : Shared) (H : Hp) (vs : List V) (Q : VK) (E : XK), RoomW k (A.deeper (envOfC qual scope s.heap.objs.size f cdv)) → sp vs H Q E →
      ∃ t, PSs (cxW CX0 P w K mg base N qual scope f cdv A outer s H E) body t ∧ t { nx := fun _ H' => Q .non H', rt := Q } (L2.start N vs) H) : FnW P w K mg base (k + 1) f fd ps sp := by
  obtain ⟨oc, od, dV, kV, doc, pm, an, cdv, ct, osl, rfl, lk, hcd, _, _⟩ := F.ex
  refine ⟨len, fun A outer s H args us vs Q E room e0 binds rel hsp => ?_⟩
  have inK : K.In s.heap := e0.mod.kin.keeps fun b o e => (e0.bs b o e).1
  have noL : s.heap.NoLimit := e0.mod.nolimit.keeps fun b o e => (e0.bs b o e).1
  refine codeAny_call_function (by have := room.deep; omega) (inK _ _ lk) rfl sc.co sc.gen rfl (PySem.W.codeRec_of inK hcd) (binds _ _ _ _ ?_)
  refine wpAny_newFunctionEnv_cells sc.kind (fun ⟨n, v⟩ hy => ?_) fun env he s1 ic => ?_
  · rcases sc.par n (List.of_mem_zip hy).1 with z | z
    · exact .inl z
    · exact .inr ⟨z, PySem.W.cellsFrom_some _ _ _ (.inl z)⟩
  · subst he
    refine ⟨noL.keeps ic.toInCall.keep, codeAny_func ?_⟩
    obtain ⟨t, ht, reading⟩ := hbody cdv A outer s H vs Q E (room.down _) hsp
    have I := inv_warm (CX := CX0) (E := E) sc e0 (len _ _ _ _ hsp) rel ic
    refine wpAny_mono (ht.run [] s1 (L2.start N vs) H _ I reading) (fun fl s' hs => ?_) fun e s' hs => hs
    have done : ∀ {σ' : St} {H' : Hp} {v : V} {u : Value}, Inv (cxW CX0 P w K mg base N qual scope f cdv A outer s H E) [] σ' H' s' → RelV v u → Q v H' → CE outer P w H s Q u s' :=
      fun {_ H' v _} J rv q => ⟨v, H', J.os, J.bare, J.base, J.hok, rv, q⟩
    match fl, hs with
    | .ret u, ⟨v, σ', H', J, rv, q⟩ => exact done J rv q
    | .next, ⟨σ', H', J, q⟩ => exact done (v := V.non) (u := Value.none) J rfl q
    | .brk, ⟨_, _, _, q⟩ => exact False.elim q
    | .cont, ⟨_, _, _, q⟩ => exact False.elim q
end
section
variable {X : Cx} {k : Nat} {f : Addr} {fd : FuncData} {ps : List Str} {sp : Sp} {x : Str} {q pos : Pos} {e : Expr} {es : List Expr} {t : TA}
/-- f(e, ..), whatever is handled -/
theorem pe_callW (F : FnW X.prog X.w X.K X.mg X.base k f fd ps sp) (room : RoomW k X.A) (hg : Gl X x) (hm : X.mg x = some (.ref f)) (hk : PySem.W.keepIn X.K (.ref f) = true) (hb : Binds X.K fd ps [])
    (ha : PA X (e :: es) t) (hdb : (x == ("__debug__" : Str)) = false := by decide) (he : starEach (e :: es) X.env = (false, eval e X.env) :: starEach es X.env := by rfl) (hpl : (backTo pos (starEach es X.env)).any (·.1) = false := by rfl) :
    PE X (.Call (.Name x q) (e :: es) [] pos) (tCall sp [] E0 t) := by
  refine ⟨fun pins s σ H Q I reading => ?_⟩
  refine wpAny_Call_Name_kw (ld_glob I hg hm ?_ hdb)
  refine PySem.W.callWith_K (h₀ := X.base) I.ok.mod.kin hk (thn (ha.run pos pins s σ H _ I reading) fun us s1 ⟨vs, H1, I1, rel, hsp⟩ => ⟨I1.kIn, ?_⟩) he hpl
  have hsp' : sp vs H1 Q E0 := by
    have z : sp (vs ++ []) H1 Q E0 := hsp
    rwa [List.append_nil] at z
  have b := hb s1 us I1.kIn (by rw [List.append_nil, ← rel.length]; exact F.len _ _ _ _ hsp')
  rw [List.append_nil] at b
  refine wpAny_call (codeAny_mono (F.go X.A X.stack s1 H1 ⟨us, []⟩ us vs Q E0 room I1.env0 b rel hsp') fun r s' hq => ?_)
  match r, hq with
  | .error u, hq => exact hq.elim
  | .ok (.ret u), hq => exact I1.after hq
  | .ok .next, hq => exact False.elim hq
  | .ok .brk, hq => exact False.elim hq
  | .ok .cont, hq => exact False.elim hq
end
section
variable {X : Cx} {CX : CXT} {k : Nat} {f C : Addr} {fd : FuncData} {ps : List Str} {sp : Sp} {E : St → XK} {m : Str} {pos apos : Pos} {o e : Expr} {es : List Expr} {ta : TE} {t : TA}
/-- o.m(e, ..) of a def that may raise, within a try -/
def tMethE (C : Addr) (m : Str) (sp : Sp) (E : St → XK) (ta : TE) (t : TA) : TE := fun σ H Q => ta σ H fun x H1 => ∃ a dx fs, x = .ref a ∧ H1 a = some (.ins C dx fs) ∧ fs.lookup m = none ∧ t σ H1 fun vs H2 => sp (x :: vs) H2 Q (E σ)
theorem pe_methE {pl : Sem Bool} (he : PE X o ta) (c : Cls X.K C) (hm : Meth X.K C m f) (F : FnOk X.prog X.w X.K X.mg X.base CX k f fd ps sp) (hr : Room k X.A) (hb : Binds X.K fd ps []) (hx : ∀ σ, PassesAt CX X σ (E σ)) (ha : PA X (e :: es) t)
    (hst : starEach (e :: es) X.env = (false, eval e X.env) :: starEach es X.env := by rfl) (hpl : (backTo pos (starEach es X.env)).any (·.1) = false := by rfl)
    (ht : eval (.Call (.Attribute o m apos) (e :: es) [] pos) X.env = (do
      let ov ← eval o X.env
      standAt apos.atName
      let (g, first) ← holding [ov] (getMethod ov m pl)
      callWith pos g first (backTo pos (starEach (e :: es) X.env)) (backToKw pos (keywordEach [] X.env))) := by rfl) :
    PE X (.Call (.Attribute o m apos) (e :: es) [] pos) (tMethE C m sp E ta t) := by
  refine ⟨fun pins s σ H Q I reading => ?_⟩
  refine PySem.W.methodCall_KW (pl := pl) (thn (he.run pins s σ H _ I reading) fun u s1 ⟨x, H1, I1, rx, a, dx, fs, ex, ea, lk, more⟩ => ?_) ht
  subst ex
  obtain rfl : u = Value.ref a := rx
  refine getmeth_ok I1 ea c hm lk ?_
  refine PySem.W.callWith_K (first := [.ref a]) (h₀ := X.base) I.ok.mod.kin hm.kp (thn (ha.run pos pins s1 σ H1 _ I1 more) fun us s2 ⟨vs, H2, I2, rel, hsp⟩ => ⟨I2.kIn, ?_⟩) hst hpl
  exact run_fnS (us := .ref a :: us) (vs := .ref a :: vs) F hr hb (hx σ) I2 (.cons rfl rel) hsp
end
end L2

/-! ## LawF87 -/
set_option maxHeartbeats 4000000
namespace R87
open PySem PySem.Spec PyProof.Rows L2
variable {D : Ad} {p : Par} {H H' : Hp} {t g : Addr} {A : SA} {cs : List Ch}
/-! ### the text of a term -/
theorem joinL_has {S q : List Nat} : ∀ {parts : List (List Nat)}, q ∈ parts → ∃ i r, (TL.joinL S parts).drop i = q ++ r
  | [], h => absurd h List.not_mem_nil
  | [x], h => by
    rw [List.mem_singleton.mp h]
    exact ⟨0, [], by rw [List.append_nil]; rfl⟩
  | x :: y :: l, h => by
    show ∃ i r, (x ++ (S ++ TL.joinL S (y :: l))).drop i = q ++ r
    rcases List.mem_cons.mp h with rfl | h
    · exact ⟨0, _, rfl⟩
    · obtain ⟨i, r, e⟩ := joinL_has (S := S) h
      refine ⟨x.length + (S.length + i), r, ?_⟩
      rw [List.drop_append, List.drop_of_length_le (by omega), List.nil_append, Nat.add_sub_cancel_left, List.drop_append, List.drop_of_length_le (by omega), List.nil_append, Nat.add_sub_cancel_left, e]
theorem joinL_len {S : List Nat} : ∀ (parts : List (List Nat)), (TL.joinL S parts).length ≤ (parts.map (·.length)).sum + parts.length * S.length
  | [] => Nat.zero_le _
  | [x] => by
    show x.length ≤ x.length + 0 + 1 * S.length
    omega
  | x :: y :: l => by
    show (x ++ (S ++ TL.joinL S (y :: l))).length ≤ _
    have ih := joinL_len (S := S) (y :: l)
    rw [List.length_append, List.length_append, List.map_cons, List.sum_cons, List.length_cons, Nat.add_mul]
    omega
theorem txt_count (hp : p.Ok) (c : Ch) : 1 ≤ Txt.count (txt p c) p.L := by
  have hne : TL.tl p.L ≠ [] := by
    have := hp.cL
    intro e
    rw [show p.L.cps.toList = [] from e] at this
    cases this
  have hm : TL.tl p.L ∈ (p.wds c).map TL.tl := List.mem_map_of_mem (Par.wds_L hp c)
  obtain ⟨i, r, e⟩ := joinL_has (S := TL.tl " ") hm
  have ht : TL.tl (txt p c) = TL.joinL (TL.tl " ") ((p.wds c).map TL.tl) := by
    unfold txt
    rw [TL.join_eq, TL.tl_join]
  have hat : PySem.StrLaws.At (txt p c) p.L (txt p c).length i := (TL.at_iff hne i).mpr (by rw [ht, e]; exact TL.pre_self _ _)
  unfold Txt.count
  rcases PySem.StrLaws.occ_head (txt p c) p.L ((txt p c).length + 1) (by omega) with ⟨_, h⟩ | ⟨j, r, h, _⟩
  · exact absurd hat (h i)
  · rw [h, List.length_cons]
    omega
theorem txt_split (hp : p.Ok) (c : Ch) : Txt.split (txt p c) " " = p.wds c := by
  refine TL.split_join (s := 32) (S := []) rfl (by decide +kernel) (fun e => ?_) fun x hx => ?_
  · have := Par.wds_pos (p := p) (c := c)
    rw [e] at this
    exact absurd this (by decide)
  · rcases Par.wds_mem hx with rfl | ⟨b, rfl⟩
    · exact hp.nL _ rfl
    · exact hp.ns b
theorem txt_len (hp : p.Ok) {c : Ch} (h : p.siz c ≤ 200) : (txt p c).length ≤ 61000 := by
  have hl : (p.wds c).length ≤ 200 := by have := Par.wds_len (p := p) c; omega
  have ht : TL.tl (txt p c) = TL.joinL (TL.tl " ") ((p.wds c).map TL.tl) := by
    unfold txt
    rw [TL.join_eq, TL.tl_join]
  rw [TL.len_tl, ht]
  have h1 := joinL_len (S := TL.tl " ") ((p.wds c).map TL.tl)
  have h2 := sum_le (l := ((p.wds c).map TL.tl).map (·.length)) (n := 301) (by
    intro x hx
    obtain ⟨y, hy, rfl⟩ := List.mem_map.mp hx
    obtain ⟨z, hz, rfl⟩ := List.mem_map.mp hy
    rw [← TL.len_tl]
    rcases Par.wds_mem hz with rfl | ⟨b, rfl⟩
    · exact hp.lenL
    · exact Nat.le_trans (hp.lenS b) (by decide))
  rw [List.length_map, List.length_map] at h2
  have h3 : (TL.tl " ").length = 1 := rfl
  rw [h3, List.length_map] at h1
  omega
/-- what is asked of the caught errors -/
structure TxtE (K : PySem.W.Frag) (mg : Str → Option Value) (eB eT eR : Addr) : Prop where
  gR : mg "RuleError" = some (.ref eR)
  xB : XfC K eB
  nB : PySem.W.findIn K (.ref eB) "place" = some none
  mB : PySem.W.exmOne K (.ref eB) (.ref eR) = some true
  xT : XfC K eT
  nT : PySem.W.findIn K (.ref eT) "size" = some none
  mT : PySem.W.exmOne K (.ref eT) (.ref eT) = some true
/-- except TooLarge as e: return size > 200 and _law_is_number(e.size) and e.size == size -/
def tsTells (K : PySem.W.Frag) (eT : Addr) (a : Addr) (cls : Value) (d : Option Addr) : TS :=
  tRet (tAndV (tOp (rI0 fun i j => .bl (decide (j < i))) (tVar 4) (tC (.int 200))) (tAndV (tCall spIsNum [] E0 (tCons (tXf a cls d eT "size" (tVar 7)) tNil)) (tOp rEq (tXf a cls d eT "size" (tVar 7)) (tVar 4))))
section
variable {P : Program} {w : World} {K : PySem.W.Frag} {mg : Str → Option Value} {base : Heap} {eB eT eBf eTf eR : Addr}
theorem ok_is_numberW (T : Txt K P mg D eB eT eBf eTf) : FnW P w K mg base 1 D.a_law_is_number D.d_law_is_number ["told"] spIsNum := by
  refine T.F_law_is_number.warm sc_law_is_number (fun vs H Q E h => ?_) (fun cdv AA outer s H vs Q E hr h => ?_)
  · obtain ⟨i, rfl, _⟩ := h
    rfl
  · obtain ⟨i, rfl, k⟩ := h
    refine ⟨_, pss_one (ps_ret (pe_and (pe_callB call_isi (by rfl) T.isinstance (by decide +kernel) (pa_cons (pv 0) (pa_cons (pe_bltn (v := V.ty "int") (by rfl) T.int (by decide +kernel) rfl) pa_nil))) (pe_one (pe_not (pe_callB call_isi (by rfl) T.isinstance (by decide +kernel) (pa_cons (pv 0) (pa_cons (pe_bltn (v := V.ty "bool") (by rfl) T.bool (by decide +kernel) rfl) pa_nil))))))), ?_⟩
    exact ⟨_, rfl, _, _, _, _, _, rfl, .ty "int", .base (.int i), kit_ty (r := true) (by decide +kernel), _, rfl, iteT ⟨_, rfl, _, _, _, _, _, rfl, .ty "bool", .base (.int i), kit_ty (r := false) (by decide +kernel), _, rfl, k⟩⟩
def spTells (D : Ad) : Sp := fun vs H Q _ => ∃ (t g rl : Addr) (p : Par) (A : SA) (cs : List Ch) (c : Ch), vs = [.ref t, .int (num cs c), .ref rl, .str p.L] ∧ p.Ok ∧ StoreAt D p H t g A cs ∧ c ∈ cs ∧ RowsL p H rl c ∧ c.length ≤ 20000 ∧ ∀ H', Same H H' → Q (.bl true) H'
theorem ok_tells (T : Txt K P mg D eB eT eBf eTf) (TE : TxtE K mg eB eT eR) : FnOk P w K mg base CX0 2 D.a_law_tells D.d_law_tells ["terms", "number", "rows", "letter"] (spTells D) := by
  refine T.F_law_tells.ok sc_law_tells (fun vs H Q E h => ?_) (fun cdv AA outer s H vs Q E hr h => ?_)
  · obtain ⟨t, g, rl, p, A, cs, c, rfl, _⟩ := h
    rfl
  · obtain ⟨t, g, rl, p, A, cs, c, rfl, hp, hS, hc, ⟨rs, hrl, hrows⟩, hlen, k⟩ := h
    have GZ := ok_sizes (P := P) (w := w) (base := base) T
    have GO := ok_size_of (P := P) (w := w) (base := base) T
    have GN := ok_is_number (P := P) (w := w) (base := base) T
    have NW := ok_is_numberW (P := P) (w := w) (base := base) T
    have GLo := ok_letters_of (P := P) (w := w) (base := base) T
    have GFl := ok_first (P := P) (w := w) (base := base) T
    have GSh := ok_shared (P := P) (w := w) (base := base) T
    have GW := ok_write (P := P) (w := w) (base := base) T
    have nd := sc_law_tells.nd
    refine ⟨_, PSs.nox (pss_cons (ps_set (i := 4) nd rfl (Or.inl rfl) (pe_ix ix_list (pe_call GZ hr rfl T.g_law_sizes T.F_law_sizes.kp T.b_law_sizes .nil pass0 (pa_cons (pv 2) pa_nil)) (pe_un un_neg pe_int) (fun _ _ => rfl))) (pss_cons (ps_set (i := 5) nd rfl (Or.inl rfl) (pe_meth (pv 0) T.cl_Terms T.m_Terms_size_of GO hr T.b_Terms_size_of .nil pass0 (pa_cons (pv 1) pa_nil))) (pss_cons (ps_if (PW.pt (pw_or (pt_not (pt_val (pe_call GN hr rfl T.g_law_is_number T.F_law_is_number.kp T.b_law_is_number .nil pass0 (pa_cons (pv 5) pa_nil)))) (pw_or (pt_cmpR op_ne (pv 5) (pv 4) (nomark _)) (pw_or1 (pt_cmpR (op_neD hr.units) (pe_meth (pv 0) T.cl_Terms T.m_Terms_letters_of GLo hr T.b_Terms_letters_of .nil pass0 (pa_cons (pv 1) pa_nil)) (pe_tup (pa_cons (pv 3) pa_nil)) (nomark _)))))) (pss_one (ps_ret pe_bl)) pss_nil) (pss_cons (ps_if (PW.pt (pw_or (pt_cmpR (op_neD hr.units) (pe_meth (pv 0) T.cl_Terms T.m_Terms_first_letters_of GFl hr T.b_Terms_first_letters_of .nil pass0 (pa_cons (pv 1) pa_nil)) (pe_tup (pa_cons (pv 3) pa_nil)) (nomark _)) (pw_or1 (pt_cmpR (op_neD hr.units) (pe_meth (pv 0) T.cl_Terms T.m_Terms_shared GSh hr T.b_Terms_shared .nil pass0 (pa_cons (pv 1) pa_nil)) (pe_callTy call_tuple_of (by rfl) T.tuple (by decide +kernel) (pa_cons (pv 2) pa_nil)) (nomark _))))) (pss_one (ps_ret pe_bl)) pss_nil) (pss_cons (ps_try_as (i := 7) (tb := fun W => tAsg (tMethE D.c_Terms "write" (spWrite D eT) (WE W) (tVar 0) (tCons (tVar 1) tNil)) (gName 6)) (ts := tsTells K eT) (Wout := fun _ _ _ _ => False) rfl rfl nd rfl rfl ⟨rfl, by decide, Or.inl T.large.gC⟩ takes0
          (fun W pn xe tk _ => pss_one (ps_set (i := 6) nd rfl (Or.inl rfl) (by exact (pe_methE (pv 0) T.cl_Terms T.m_Terms_write GW hr T.b_Terms_write (fun σ => passAt tk σ) (by exact (pa_cons (pv 1) pa_nil))))))
          (fun a oe cls d pn hz hf => pss_one (ps_ret (by exact (pe_and (pe_cmpR op_gt (pv 4) pe_int (nomark _)) (pe_and (pe_callW NW ⟨hr.dp, hr.un⟩ rfl T.g_law_is_number T.F_law_is_number.kp T.b_law_is_number (by exact (pa_cons (pe_xf TE.xT TE.nT hz hf (pv 7)) pa_nil))) (pe_one (pe_cmpR op_eq (pe_xf TE.xT TE.nT hz hf (pv 7)) (pv 4) (nomark _))))))))) (pss_one (ps_ret (pe_and (pe_cmpR op_le (pv 4) pe_int (nomark _)) (pe_and (pe_cmpR op_eq (pe_callB call_len_seq (by rfl) T.len PySem.boot_len (pa_cons (pe_split (pv 6) pe_str) pa_nil)) (pv 4) (nomark _)) (pe_one (pe_cmpR op_ge (pe_m1 PySem.F.slot_str_count PySem.F.type_str_count mt_count (pv 6) (pv 3)) pe_int (nomark _)))))))))))), ?_⟩
    obtain ⟨dx, tx, h0⟩ := hS.ob
    refine ⟨_, rfl, rl, p, c, rfl, hp, ⟨rs, hrl, hrows⟩, hlen, fun H1 l1 s1 hl1 => ?_⟩
    refine ⟨1, rfl, l1, _, _, .int (p.siz c), rfl, rfl, SqL.of hl1, ?_, ?_⟩
    · rw [szs_snoc, List.take_length]
      exact atI_last _ _
    have S1 := hS.same s1
    refine ⟨_, rfl, t, dx, _, rfl, s1 _ _ h0, rfl, _, rfl, t, g, p, A, cs, c, rfl, S1, hc, ?_⟩
    refine ⟨_, rfl, p.siz c, rfl, _, rfl, ifF rfl ⟨_, rfl, _, rfl, rfl, _, rfl, ifF (dnF rfl) ?_⟩⟩
    have f1 : FlD [V.str p.L] := fl_str hp.oL fl_nil
    refine ⟨_, rfl, t, dx, _, rfl, s1 _ _ h0, rfl, _, rfl, t, g, p, A, cs, c, rfl, S1, hc, fun la hla => ⟨_, rfl, (by show 1 ≤ sizeLine; decide), fun tu ntu => ⟨_, _, dp_tup (Same.new ntu _ _ hla) f1, dp_tup upd_same f1, flD_shaped f1, flD_shaped f1, _, rfl, ?_⟩⟩⟩
    rw [eqv_tup f1 f1]
    refine ifF (dnF rfl) ?_
    have s2 : Same H (upd H1 tu (.tup [.str p.L])) := Same.trans' s1 (Same.new ntu)
    generalize upd H1 tu (.tup [.str p.L]) = H2 at s2
    have S2 := hS.same s2
    refine ⟨_, rfl, t, dx, _, rfl, s2 _ _ h0, rfl, _, rfl, t, g, p, A, cs, c, rfl, hp, S2, hc, hlen, fun fa H3 s3 hfa => ⟨_, rfl, (by show 1 ≤ sizeLine; decide), fun tv ntv => ⟨_, _, dp_tup (Same.new ntv _ _ hfa) f1, dp_tup upd_same f1, flD_shaped f1, flD_shaped f1, _, rfl, ?_⟩⟩⟩
    rw [eqv_tup f1 f1]
    refine ifF (dnF rfl) ?_
    have s4 : Same H (upd H3 tv (.tup [.str p.L])) := Same.trans' s2 (Same.trans' s3 (Same.new ntv))
    generalize upd H3 tv (.tup [.str p.L]) = H4 at s4
    have S4 := hS.same s4
    refine ⟨_, rfl, t, dx, _, rfl, s4 _ _ h0, rfl, _, rfl, t, g, p, A, cs, c, rfl, hp, S4, hc, hlen, fun sa H5 ss s5 hsa hss => ?_⟩
    have s05 := Same.trans' s4 s5
    have f2 := rows_fl hp (c := c)
    refine ⟨_, rfl, rl, _, rfl, .inl ⟨SqL.of (s05 _ _ hrl), fun tr ntr => ?_⟩⟩
    have s56 := Same.new (o := .tup (rs.map V.ref)) ntr
    refine ⟨.tuple ((p.rows c).map rowD), .tuple ((p.rows c).map rowD), .tup (SqT.of (s56 _ _ hsa)) (dp_rows (hss.keep fun a xs e => s56 _ _ e) f2), .tup (SqT.of upd_same) (dp_rows (hrows.keep fun a xs e => s56 _ _ (s05 _ _ e)) f2), rows_shapedT f2, rows_shapedT f2, _, rfl, ?_⟩
    rw [SeqAt.eqv_refl _ (SeqAt.canLay_of_shaped (rows_shapedT f2))]
    refine ifF rfl ?_
    have s6 : Same H (upd H5 tr (.tup (rs.map V.ref))) := Same.trans' s05 s56
    generalize upd H5 tr (.tup (rs.map V.ref)) = H6 at s6
    have S6 := hS.same s6
    refine ⟨_, rfl, t, dx, _, rfl, s6 _ _ h0, rfl, _, rfl, t, g, p, A, cs, c, rfl, hp, S6, hc, fun hle H7 s7 => ?_, fun hgt d H7 s7 nd7 hd7 => ?_⟩
    · have s07 := Same.trans' s6 s7
      have hl := txt_len hp hle
      have hsz : (txt p c).length + 2 ≤ 16777216 := by omega
      refine ⟨_, rfl, _, _, rfl, rfl, _, rfl, ifT (dT hle) ⟨_, rfl, ⟨_, rfl⟩, txt p c, " ", rfl, rfl, rfl, hsz, fun q nq => ⟨q, _, rfl, .inl (SqL.of upd_same), _, rfl, rfl, _, rfl, ifT ?_ ⟨_, rfl, ⟨_, rfl⟩, _, rfl, txt p c, p.L, rfl, rfl, _, _, rfl, rfl, ?_⟩⟩⟩⟩
      · rw [List.length_map, txt_split hp]
        exact dT (by rw [Par.wds_len])
      · show Q (V.bl (decide (Txt.count (txt p c) p.L ≥ 1))) _
        rw [decide_eq_true (txt_count hp c)]
        exact k _ (Same.trans' s07 (Same.new nq))
    · have s07 := Same.trans' s6 s7
      refine ⟨true, TE.mT, fun _ a na => ?_, nofun⟩
      refine ⟨_, rfl, _, _, rfl, rfl, _, rfl, ifT (dT hgt) ⟨_, rfl, rfl, rfl, d, _, _, rfl, hd7, rfl, p.siz c, rfl, _, rfl, ifT rfl ⟨_, rfl, rfl, rfl, d, _, _, rfl, hd7, rfl, _, rfl, rfl, ?_⟩⟩⟩
      show Q (V.bl (decide (V.int (p.siz c) = V.int (p.siz c)))) _
      rw [decide_eq_true rfl]
      exact k _ s07
end
end R87

/-! ## LawG87 -/
set_option maxHeartbeats 4000000
namespace R87
open PySem PySem.Spec PyProof.Rows L2
variable {D : Ad} {p : Par} {H H' : Hp} {t g : Addr} {A : SA} {cs : List Ch}
/-! ### spoilt rows, in plain Lean -/
theorem Goes.snoc {xss : List (List V)} {qs : List Ch} {xs : List V} {c : Ch} (h : Goes p xss qs) (hx : xss[qs.length]? = some xs) (hr : RowIs p qs xs (some c)) : Goes p xss (qs ++ [c]) := by
  have hl := (List.getElem?_eq_some_iff.mp hx).1
  refine ⟨by rw [List.length_append, List.length_singleton]; omega, fun i d hi => ?_⟩
  rcases Nat.lt_or_ge i qs.length with lt | ge
  · rw [List.getElem?_append_left lt] at hi
    rw [List.take_append_of_le_length (Nat.le_of_lt lt)]
    exact h.2 i d hi
  · have hi2 := (List.getElem?_eq_some_iff.mp hi).1
    rw [List.length_append, List.length_singleton] at hi2
    obtain rfl : i = qs.length := by omega
    rw [List.getElem?_append_right (Nat.le_refl _), Nat.sub_self] at hi
    cases hi
    rw [List.take_append_of_le_length (Nat.le_refl _), List.take_length]
    exact ⟨xs, hx, hr⟩
theorem goes_nil {xss : List (List V)} : Goes p xss [] := ⟨Nat.zero_le _, fun i c e => by simp at e⟩
/-- the inner terms, k of them -/
def pfx (c : Ch) (k : Nat) : List Ch := (List.range k).map fun i => c.take i
theorem pfx_len {c : Ch} {k : Nat} : (pfx c k).length = k := by unfold pfx; rw [List.length_map, List.length_range]
theorem pfx_get {c : Ch} {k i : Nat} (h : i < k) : (pfx c k)[i]? = some (c.take i) := by
  unfold pfx
  rw [List.getElem?_map, List.getElem?_range h]
  rfl
theorem pfx_succ {c : Ch} {k : Nat} : pfx c (k + 1) = pfx c k ++ [c.take k] := by
  unfold pfx
  rw [List.range_succ, List.map_append]
  rfl
/-- a term's row, behind any terms that have its inner one at the due place -/
theorem rowIs_at {c : Ch} {i : Nat} (hi : i ≤ c.length) {qs : List Ch} {q : Ch} (hq : ∀ k, i = k + 1 → qs[k]? = some q) : ∃ d, RowIs p qs (p.rowAt c i) (some d) ∧ ((i = 0 ∧ d = []) ∨ ∃ b, d = q ++ [b] ∧ ∀ k, i = k + 1 → c[k]? = some b) := by
  cases i with
  | zero => exact ⟨[], .lf, .inl ⟨rfl, rfl⟩⟩
  | succ k =>
    have hk : k < c.length := hi
    refine ⟨q ++ [c[k]], ?_, .inr ⟨c[k], rfl, fun j e => ?_⟩⟩
    · rw [rowAt_succ hk]
      exact .nd (b := c[k]) (j := k) (hq k rfl)
    · obtain rfl : k = j := by omega
      exact List.getElem?_eq_getElem hk
theorem rowIs_pfx {c : Ch} {i : Nat} (hi : i ≤ c.length) {qs : List Ch} (hq : ∀ k, k < i → qs[k]? = some (c.take k)) : RowIs p qs (p.rowAt c i) (some (c.take i)) := by
  cases i with
  | zero => rw [List.take_zero]; exact .lf
  | succ k =>
    have hk : k < c.length := hi
    rw [rowAt_succ hk, take_snoc' hk]
    exact .nd (b := c[k]) (j := k) (hq k (Nat.lt_succ_self _))
theorem goes_pfx {xss : List (List V)} {c : Ch} : ∀ (k : Nat), k ≤ c.length + 1 → (∀ i, i < k → xss[i]? = some (p.rowAt c i)) → Goes p xss (pfx c k)
  | 0, _, _ => goes_nil
  | k + 1, hk, h => by
    rw [pfx_succ]
    refine (goes_pfx k (by omega) fun i hi => h i (by omega)).snoc (xs := p.rowAt c k) (by rw [pfx_len]; exact h k (Nat.lt_succ_self _)) (rowIs_pfx (by omega) fun j hj => pfx_get hj)
/-- the rows with another one at place k -/
def spoil (p : Par) (c : Ch) (k : Nat) (xs : List V) : List (List V) := (p.rows c).take k ++ [xs] ++ (p.rows c).drop (k + 1)
theorem spoil_lt {c : Ch} {k i : Nat} {xs : List V} (hk : k ≤ c.length) (h : i < k) : (spoil p c k xs)[i]? = some (p.rowAt c i) := by
  unfold spoil
  rw [List.append_assoc, List.getElem?_append_left (by rw [List.length_take, Par.rows_len]; omega), List.getElem?_take, if_pos h, Par.rows_get (by omega)]
theorem spoil_at {c : Ch} {k : Nat} {xs : List V} (hk : k ≤ c.length) : (spoil p c k xs)[k]? = some xs := by
  have hl : ((p.rows c).take k).length = k := by rw [List.length_take, Par.rows_len]; omega
  unfold spoil
  rw [List.append_assoc, List.getElem?_append_right (by omega), hl, Nat.sub_self]
  rfl
theorem spoil_len {c : Ch} {k : Nat} {xs : List V} (hk : k ≤ c.length) : (spoil p c k xs).length = c.length + 1 := by
  unfold spoil
  rw [List.length_append, List.length_append, List.length_take, List.length_drop, Par.rows_len, List.length_singleton]
  omega
theorem fromV_bad {c : Ch} {k : Nat} {xs : List V} (hk : k ≤ c.length) (hb : Bad p k xs) : FromV p (spoil p c k xs) (.inr k) := by
  refine .inl ⟨pfx c k, xs, by rw [pfx_len], goes_pfx k (by omega) fun i hi => spoil_lt hk hi, by rw [pfx_len]; exact spoil_at hk, .bad ?_⟩
  rw [pfx_len]
  exact hb
theorem fromV_none : FromV p [] (.inr 0) := .inr (.inl ⟨rfl, rfl⟩)
theorem fromV_first {c : Ch} : FromV p (p.rows c ++ [p.rowAt c 0]) (.inr 1) := by
  have h : ∀ i, i < c.length + 1 → (p.rows c ++ [p.rowAt c 0])[i]? = some (p.rowAt c i) := fun i hi => by
    rw [List.getElem?_append_left (by rw [Par.rows_len]; exact hi), Par.rows_get (by omega)]
  have hlen : (p.rows c ++ [p.rowAt c 0]).length = c.length + 2 := by rw [List.length_append, Par.rows_len]; rfl
  refine .inr (.inr ⟨pfx c (c.length + 1), [], ?_, ?_, .inl ⟨1, ((p.rows c ++ [p.rowAt c 0])[1]'(by omega)), rfl, fun i hi => ?_, List.getElem?_eq_getElem _, ?_⟩⟩)
  · refine (goes_pfx (c.length + 1) (Nat.le_refl _) h).snoc (xs := p.rowAt c 0) ?_ .lf
    rw [pfx_len, List.getElem?_append_right (by rw [Par.rows_len]; exact Nat.le_refl _), Par.rows_len, Nat.sub_self]
    rfl
  · rw [List.length_append, pfx_len, hlen]
    rfl
  · obtain rfl : i = 0 := by omega
    rw [h 0 (by omega)]
    rfl
  · rw [Par.rows_nil]
    nofun
/-- the rows with the one at place k twice -/
def twice (p : Par) (c : Ch) (k : Nat) : List (List V) := (p.rows c).take (k + 1) ++ [p.rowAt c k] ++ (p.rows c).drop (k + 1)
theorem twice_len {c : Ch} {k : Nat} (hk : k ≤ c.length) : (twice p c k).length = c.length + 2 := by
  unfold twice
  rw [List.length_append, List.length_append, List.length_take, List.length_drop, Par.rows_len, List.length_singleton]
  omega
theorem twice_le {c : Ch} {k i : Nat} (hk : k ≤ c.length) (h : i ≤ k) : (twice p c k)[i]? = some (p.rowAt c i) := by
  unfold twice
  rw [List.append_assoc, List.getElem?_append_left (by rw [List.length_take, Par.rows_len]; omega), List.getElem?_take, if_pos (by omega), Par.rows_get (by omega)]
theorem twice_gt {c : Ch} {k i : Nat} (hk : k ≤ c.length) (h : k < i) (hi : i ≤ c.length + 1) : (twice p c k)[i]? = some (p.rowAt c (i - 1)) := by
  have hl : ((p.rows c).take (k + 1)).length = k + 1 := by rw [List.length_take, Par.rows_len]; omega
  unfold twice
  rw [List.append_assoc, List.getElem?_append_right (by omega), hl]
  by_cases e : i = k + 1
  · subst e
    rw [Nat.sub_self]
    rfl
  · rw [List.getElem?_append_right (by rw [List.length_singleton]; omega), List.length_singleton, List.getElem?_drop, show k + 1 + (i - (k + 1) - 1) = i - 1 by omega, Par.rows_get (by omega)]
theorem twice_goes {c : Ch} {k : Nat} (hk : k ≤ c.length) : ∀ m, m ≤ c.length + 1 - k → ∃ qs, qs.length = k + 1 + m ∧ Goes p (twice p c k) qs ∧ (∀ i, i ≤ k → qs[i]? = some (c.take i)) ∧ ∀ j q, k ≤ j → qs[j]? = some q → ∃ r, q = c.take k ++ r
  | 0, _ => ⟨pfx c (k + 1), pfx_len, goes_pfx (k + 1) (by omega) fun i hi => twice_le hk (by omega), fun i hi => pfx_get (by omega), fun j q hj hq => by
      have hl := (List.getElem?_eq_some_iff.mp hq).1
      rw [pfx_len] at hl
      obtain rfl : j = k := by omega
      rw [pfx_get (Nat.lt_succ_self _)] at hq
      cases hq
      exact ⟨[], (List.append_nil _).symm⟩⟩
  | m + 1, hm => by
    obtain ⟨qs, hl, hg, hp, hx⟩ := twice_goes hk m (by omega)
    have hrow : (twice p c k)[qs.length]? = some (p.rowAt c (k + m)) := by
      rw [hl, twice_gt hk (by omega) (by omega), show k + 1 + m - 1 = k + m by omega]
    have more : ∀ d, RowIs p qs (p.rowAt c (k + m)) (some d) → (∃ r, d = c.take k ++ r) → ∃ qs, qs.length = k + 1 + (m + 1) ∧ Goes p (twice p c k) qs ∧ (∀ i, i ≤ k → qs[i]? = some (c.take i)) ∧ ∀ j q, k ≤ j → qs[j]? = some q → ∃ r, q = c.take k ++ r := fun d hd hr => by
      refine ⟨qs ++ [d], by rw [List.length_append, hl]; rfl, hg.snoc hrow hd, fun i hi => by rw [List.getElem?_append_left (by omega)]; exact hp i hi, fun j q hj hq => ?_⟩
      rcases Nat.lt_or_ge j qs.length with lt | ge
      · rw [List.getElem?_append_left lt] at hq
        exact hx j q hj hq
      · have hj2 := (List.getElem?_eq_some_iff.mp hq).1
        rw [List.length_append, List.length_singleton] at hj2
        obtain rfl : j = qs.length := by omega
        rw [List.getElem?_append_right (Nat.le_refl _), Nat.sub_self] at hq
        cases hq
        exact hr
    cases m with
    | zero =>
      rw [Nat.add_zero] at more
      exact more (c.take k) (rowIs_pfx hk fun j hj => hp j (by omega)) ⟨[], (List.append_nil _).symm⟩
    | succ m =>
      have hq : k + m < qs.length := by omega
      have hi : k + m < c.length := by omega
      obtain ⟨r, hr⟩ := hx (k + m) qs[k + m] (by omega) (List.getElem?_eq_getElem hq)
      refine more (qs[k + m] ++ [c[k + m]]) ?_ ⟨r ++ [c[k + m]], by rw [hr, List.append_assoc]⟩
      rw [show k + (m + 1) = (k + m) + 1 by omega, rowAt_succ hi]
      exact .nd (b := c[k + m]) (j := k + m) (List.getElem?_eq_getElem hq)
theorem fromV_twice (hp : p.Ok) {c : Ch} {k : Nat} (hk : k ≤ c.length) : FromV p (twice p c k) (.inr (k + 1)) := by
  obtain ⟨qs, hl, hg, hpx, hx⟩ := twice_goes (p := p) hk (c.length + 1 - k) (Nat.le_refl _)
  rcases List.eq_nil_or_concat qs with rfl | ⟨qs', d, rfl⟩
  · rw [List.length_nil] at hl; omega
  · rw [List.concat_eq_append] at *
    obtain ⟨r, rfl⟩ := hx qs'.length d (by rw [List.length_append, List.length_singleton] at hl; omega) (by rw [List.getElem?_append_right (Nat.le_refl _), Nat.sub_self]; rfl)
    have hkl : (c.take k).length = k := by rw [List.length_take]; omega
    refine .inr (.inr ⟨qs', _, hg, by rw [twice_len hk, hl]; omega, .inl ⟨k + 1, p.rowAt c k, rfl, fun i hi => ?_, ?_, ?_⟩⟩)
    · rw [twice_le hk (by omega), Par.rows_get (by rw [List.length_append, hkl]; omega), rowAt_app (by omega)]
      have e := rowAt_app (p := p) (c := c.take k) (d := c.drop k) (i := i) (by omega)
      rw [List.take_append_drop] at e
      rw [e]
    · rw [twice_gt hk (by omega) (by omega), Nat.add_sub_cancel]
    · intro e
      have hlt := (List.getElem?_eq_some_iff.mp e).1
      rw [Par.rows_len] at hlt
      rw [Par.rows_get (by omega)] at e
      have e := Option.some.inj e
      cases k with
      | zero =>
        have := (rowAt_len1 hp (c := c.take 0 ++ r) (i := 0 + 1)).mp (by rw [e]; rfl)
        omega
      | succ k =>
        have := (row_inj hp (show p.row ((c.take (k + 1) ++ r).getD (k + 1) false) (k + 1) = p.row (c.getD k false) k from e)).2
        omega
/-! the rows that spoil -/
theorem bad_ats (hp : p.Ok) {b : Bool} {k : Nat} {j : Int} (h : j < 0 ∨ (k : Int) ≤ j) : Bad p k (.str (p.sg b) :: List.replicate (p.arr b) (.int j)) := by
  refine ⟨p.sg b, List.replicate (p.arr b) j, by rw [List.map_replicate], Nat.le_trans (hp.lenS b) (by decide), by rw [List.length_replicate]; have := hp.arr4 b; omega, .inr (.inr (.inr ⟨b, j, rfl, rfl, h⟩))⟩
theorem tailAt_ints {c : Ch} {i : Nat} : ∃ ats : List Int, tailAt p c i = ats.map V.int ∧ (i = 0 → ats = []) ∧ ∀ k, i = k + 1 → ats = List.replicate (p.arr (c.getD k false)) (k : Int) := by
  cases i with
  | zero => exact ⟨[], rfl, fun _ => rfl, fun k e => by omega⟩
  | succ i =>
    refine ⟨List.replicate (p.arr (c.getD i false)) (i : Int), by rw [List.map_replicate]; rfl, fun e => by omega, fun k e => ?_⟩
    obtain rfl : i = k := by omega
    rfl
theorem bad_long (hp : p.Ok) {c : Ch} {k : Nat} : Bad p k (p.rowAt c k ++ [.int 0]) := by
  cases k with
  | zero => exact ⟨p.L, [0], rfl, Nat.le_trans hp.lenL (by decide), by decide, .inr (.inl ⟨rfl, by simp⟩)⟩
  | succ i =>
    have h4 := hp.arr4 (c.getD i false)
    refine ⟨p.sg (c.getD i false), List.replicate (p.arr (c.getD i false)) (i : Int) ++ [0], ?_, Nat.le_trans (hp.lenS _) (by decide), by rw [List.length_append, List.length_replicate]; show _ + 1 ≤ 100; omega, .inr (.inr (.inl ⟨_, rfl, by rw [List.length_append, List.length_replicate]; show ¬ _ + 1 = _; omega⟩))⟩
    show p.row (c.getD i false) i ++ [V.int 0] = _
    unfold Par.row
    rw [List.map_append, List.map_replicate]
    rfl
theorem bad_strange (hp : p.Ok) {c : Ch} {k : Nat} {w : Str} (h1 : ∀ b, w ≠ p.sg b) (h2 : isLet 300 w.cps.toList = false) (h3 : w.length ≤ 1000) : Bad p k (.str w :: tailAt p c k) := by
  obtain ⟨ats, e, h0, hs⟩ := tailAt_ints (p := p) (c := c) (i := k)
  refine ⟨w, ats, by rw [e], h3, ?_, .inl ⟨h1, h2⟩⟩
  cases k with
  | zero => rw [h0 rfl]; exact Nat.zero_le _
  | succ i =>
    rw [hs i rfl, List.length_replicate]
    have := hp.arr4 (c.getD i false)
    omega
/-- except RuleError as e: return isinstance(e, BadRows) and _law_is_number(e.place) and e.place == due -/
def tsRefuses (K : PySem.W.Frag) (eB : Addr) (a : Addr) (cls : Value) (d : Option Addr) : TS :=
  tRet (tAndV (tCB (rIsX cls a) (tCons (tVar 4) (tCons (tC (.ref eB)) tNil))) (tAndV (tCall spIsNum [] E0 (tCons (tXf a cls d eB "place" (tVar 4)) tNil)) (tOp rEq (tXf a cls d eB "place" (tVar 4)) (tVar 3))))
section
variable {P : Program} {w : World} {K : PySem.W.Frag} {mg : Str → Option Value} {base : Heap} {eB eT eBf eTf eR : Addr}
def spRefuses (D : Ad) : Sp := fun vs H Q _ => ∃ (t g sl : Addr) (rv : V) (p : Par) (A : SA) (cs : List Ch) (rs : List Addr) (xss : List (List V)) (k : Nat), vs = [.ref t, rv, .ref sl, .int k] ∧ p.Ok ∧ StoreAt D p H t g A cs ∧ SigAt D p H g ∧ cs.length + xss.length ≤ 20000 ∧
  H sl = some (.lst (rs.map V.ref)) ∧ RowsAt H rs xss ∧ (∀ xs ∈ xss, FlD xs) ∧ FromV p xss (.inr k) ∧ ∀ H' cs', But A.M H H' → StoreAt D p H' t g A cs' → cs'.length ≤ cs.length + xss.length → Q (.bl true) H'
theorem ok_refuses (T : Txt K P mg D eB eT eBf eTf) (TE : TxtE K mg eB eT eR) : FnOk P w K mg base CX0 5 D.a_law_refuses D.d_law_refuses ["terms", "rows", "spoilt", "due"] (spRefuses D) := by
  refine T.F_law_refuses.ok sc_law_refuses (fun vs H Q E h => ?_) (fun cdv AA outer s H vs Q E hr h => ?_)
  · obtain ⟨t, g, sl, rv, p, A, cs, rs, xss, k, rfl, _⟩ := h
    rfl
  · obtain ⟨t, g, sl, rv, p, A, cs, rs, xss, n, rfl, hp, hS, hG, hsm, hsl, hrows, hfl, hv, k⟩ := h
    have NW := ok_is_numberW (P := P) (w := w) (base := base) T
    have GF := ok_from (P := P) (w := w) (base := base) T
    have nd := sc_law_refuses.nd
    have hr1 : Room 1 _ := hr.mono (by decide)
    refine ⟨_, PSs.nox (pss_cons (ps_try_as (i := 4) (tb := fun W => tDrop (tMethE D.c_Terms "from_shared" (spFrom D eB) (WE W) (tVar 0) (tCons (tCB (rTupOf K) (tCons (tVar 2) tNil)) tNil))) (ts := tsRefuses K eB) (Wout := fun _ _ _ _ => False) rfl rfl nd rfl rfl ⟨rfl, by decide, Or.inl TE.gR⟩ takes0
          (fun W pn xe tk _ => pss_one (ps_expr (by exact (pe_methE (pv 0) T.cl_Terms T.m_Terms_from_shared GF hr T.b_Terms_from_shared (fun σ => passAt tk σ) (by exact (pa_cons (pe_callTy (r := rTupOf K) call_tuple_of (by rfl) T.tuple (by decide +kernel) (pa_cons (pv 2) pa_nil)) pa_nil))))))
          (fun a oe cls d pn hz hf => pss_one (ps_ret (by exact (pe_and (pe_callB (call_isX hz) (by rfl) T.isinstance (by decide +kernel) (pa_cons (pv 4) (pa_cons (pe_glob (v := V.ref eB) (by rfl) T.rows.gC rfl) pa_nil))) (pe_and (pe_callW NW ⟨hr1.dp, hr1.un⟩ rfl T.g_law_is_number T.F_law_is_number.kp T.b_law_is_number (by exact (pa_cons (pe_xf TE.xB TE.nB hz hf (pv 4)) pa_nil))) (pe_one (pe_cmpR op_eq (pe_xf TE.xB TE.nB hz hf (pv 4)) (pv 3) (nomark _))))))))) (pss_one (ps_ret pe_bl))), ?_⟩
    obtain ⟨dx, tx, h0⟩ := hS.ob
    refine ⟨_, rfl, t, dx, _, rfl, h0, rfl, _, rfl, sl, _, rfl, .inl ⟨SqL.of hsl, fun ra na => ?_⟩⟩
    have s1 : Same H (upd H ra (.tup (rs.map V.ref))) := Same.new na
    refine ⟨t, g, ra, p, A, cs, rs, xss, .inr n, rfl, hp, hS.same s1, hG.same s1, hsm, upd_same, hrows.keep fun a xs e => s1 _ _ e, hfl, hv, fun c e => (nomatch e), fun m e d H2 cs' b2 S2 _ hl nd2 hd2 => ?_⟩
    cases e
    have b02 := (But.of_same (M := A.M) s1).trans b2
    refine ⟨true, TE.mB, fun _ a na2 => ?_, nofun⟩
    refine ⟨_, rfl, eB, rfl, rfl, _, rfl, ifT rfl ⟨_, rfl, rfl, rfl, d, _, _, rfl, hd2, rfl, (n : Int), rfl, _, rfl, ifT rfl ⟨_, rfl, rfl, rfl, d, _, _, rfl, hd2, rfl, _, rfl, rfl, ?_⟩⟩⟩
    show Q (V.bl (decide (V.int (n : Int) = V.int (n : Int)))) _
    rw [decide_eq_true rfl]
    exact k _ cs' b02 S2 hl
end
end R87

/-! ## LawH87 -/
set_option maxHeartbeats 4000000
namespace R87
open PySem PySem.Spec PyProof.Rows L2
variable {D : Ad} {p : Par} {H H' : Hp} {t g : Addr} {A : SA} {cs : List Ch}
/-! ### lists put together, known by their items alone -/
theorem cat_of {a b : Addr} {xs ys : List V} {Q : VK} (ha : H a = some (.lst xs)) (hb : H b = some (.lst ys)) (hl : xs.length + ys.length ≤ 16777216) (k : ∀ H' r, Same H H' → H r = none → H' r = some (.lst (xs ++ ys)) → Q (.ref r) H') : rCat (.ref a) (.ref b) H Q :=
  ⟨a, b, xs, ys, rfl, rfl, ha, hb, hl, fun q hq => k _ q (Same.new hq) hq upd_same⟩
theorem slTo_of {K : PySem.W.Frag} {a : Addr} {xs : List V} {m : Nat} {Q : VK} (ha : H a = some (.lst xs)) (k : ∀ H' r, Same H H' → H r = none → H' r = some (.lst (xs.take m)) → Q (.ref r) H') : rSlL K (.ref a) none (some (m : Int)) H Q :=
  ⟨a, xs, rfl, SqL.of ha, fun q hq => k _ q (Same.new hq) hq (by rw [upd_same, cutV_to])⟩
theorem slFrom_of {K : PySem.W.Frag} {a : Addr} {xs : List V} {m : Nat} {Q : VK} (ha : H a = some (.lst xs)) (k : ∀ H' r, Same H H' → H r = none → H' r = some (.lst (xs.drop m)) → Q (.ref r) H') : rSlL K (.ref a) (some (m : Int)) none H Q :=
  ⟨a, xs, rfl, SqL.of ha, fun q hq => k _ q (Same.new hq) hq (by rw [upd_same, cutV_from])⟩
theorem RowsAt.app {as bs : List Addr} {xs ys : List (List V)} (h : RowsAt H as xs) (k : RowsAt H bs ys) : RowsAt H (as ++ bs) (xs ++ ys) := by
  refine ⟨by rw [List.length_append, List.length_append, h.1, k.1], fun i a r e1 e2 => ?_⟩
  rcases Nat.lt_or_ge i as.length with lt | ge
  · rw [List.getElem?_append_left lt] at e1
    rw [List.getElem?_append_left (by rw [← h.1]; exact lt)] at e2
    exact h.2 i a r e1 e2
  · rw [List.getElem?_append_right ge] at e1
    rw [List.getElem?_append_right (by rw [← h.1]; exact ge), ← h.1] at e2
    exact k.2 _ a r e1 e2
theorem RowsAt.take {as : List Addr} {xs : List (List V)} (h : RowsAt H as xs) (n : Nat) : RowsAt H (as.take n) (xs.take n) := by
  refine ⟨by rw [List.length_take, List.length_take, h.1], fun i a r e1 e2 => ?_⟩
  rw [List.getElem?_take] at e1 e2
  split at e1
  · rename_i lt
    rw [if_pos lt] at e2
    exact h.2 i a r e1 e2
  · cases e1
theorem RowsAt.drop {as : List Addr} {xs : List (List V)} (h : RowsAt H as xs) (n : Nat) : RowsAt H (as.drop n) (xs.drop n) := by
  refine ⟨by rw [List.length_drop, List.length_drop, h.1], fun i a r e1 e2 => ?_⟩
  rw [List.getElem?_drop] at e1 e2
  exact h.2 _ a r e1 e2
theorem RowsAt.one {a : Addr} {r : List V} (h : H a = some (.tup r)) : RowsAt H [a] [r] := RowsAt.snoc RowsAt.nil h
section
variable {P : Program} {w : World} {K : PySem.W.Frag} {mg : Str → Option Value} {base : Heap} {eB eT eBf eTf eR : Addr}
def spSpoils (D : Ad) : Sp := fun vs H Q _ => ∃ (dr t g rl : Addr) (p : Par) (A : SA) (cs : List Ch) (c : Ch) (ds : List Int), vs = [.ref dr, .ref t, .ref rl, .str p.one, .str p.many, .int p.ar] ∧ p.Ok ∧ StoreAt D p H t g A cs ∧ SigAt D p H g ∧ H dr = some (.lst (ds.map V.int)) ∧ RowsL p H rl c ∧
  ¬ A.M rl ∧ ¬ A.M dr ∧ cs.length + 8 * (c.length + 3) ≤ 20000 ∧ (∀ b, ("none0" : Str) ≠ p.sg b) ∧ ∀ H', Q (.bl true) H'
theorem ok_spoils (T : Txt K P mg D eB eT eBf eTf) (TE : TxtE K mg eB eT eR) : FnOk P w K mg base CX0 6 D.a_law_spoils D.d_law_spoils ["draws", "terms", "rows", "one", "many", "arity"] (spSpoils D) := by
  refine T.F_law_spoils.ok sc_law_spoils (fun vs H Q E h => ?_) (fun cdv AA outer s H vs Q E hr h => ?_)
  · obtain ⟨dr, t, g, rl, p, A, cs, c, ds, rfl, _⟩ := h
    rfl
  · obtain ⟨dr, t, g, rl, p, A, cs, c, ds, rfl, hp, hS, hG, hd, hR, nrl, ndr, hsm, hno, k⟩ := h
    have GT := ok_take (P := P) (w := w) (base := base) T
    have GR := ok_refuses (P := P) (w := w) (base := base) T TE
    have nd := sc_law_spoils.nd
    have hr1 : Room 1 _ := hr.mono (by decide)
    refine ⟨_, PSs.nox (pss_cons (ps_set (i := 6) nd rfl (Or.inr rfl) (pe_op op_mod (pe_call GT hr1 rfl T.g_law_take T.F_law_take.kp T.b_law_take .nil pass0 (pa_cons (pv 0) (pa_cons pe_int pa_nil))) (pe_callB call_len_seq (by rfl) T.len PySem.boot_len (pa_cons (pv 2) pa_nil)))) (pss_cons (ps_if (pt_not (pt_val (pe_call GR hr rfl T.g_law_refuses T.F_law_refuses.kp T.b_law_refuses .nil pass0 (pa_cons (pv 1) (pa_cons (pv 2) (pa_cons (pe_op op_cat (pe_op op_cat (pe_slice sl_list (pv 2) po_none (po_some (pe_op op_add (pv 6) pe_int))) (pe_lst (pa_cons (pe_ix ix_list (pv 2) (pv 6) (fun _ _ => rfl)) pa_nil))) (pe_slice sl_list (pv 2) (po_some (pe_op op_add (pv 6) pe_int)) po_none)) (pa_cons (pe_op op_add (pv 6) pe_int) pa_nil))))))) (pss_one (ps_ret pe_bl)) pss_nil) (pss_cons (ps_if (PW.pt (pw_or (pt_not (pt_val (pe_call GR hr rfl T.g_law_refuses T.F_law_refuses.kp T.b_law_refuses .nil pass0 (pa_cons (pv 1) (pa_cons (pv 2) (pa_cons (pe_op op_cat (pv 2) (pe_lst (pa_cons (pe_ix ix_list (pv 2) pe_int (fun _ _ => rfl)) pa_nil))) (pa_cons pe_int pa_nil))))))) (pw_or1 (pt_not (pt_val (pe_call GR hr rfl T.g_law_refuses T.F_law_refuses.kp T.b_law_refuses .nil pass0 (pa_cons (pv 1) (pa_cons (pv 2) (pa_cons (pe_lst pa_nil) (pa_cons pe_int pa_nil)))))))))) (pss_one (ps_ret pe_bl)) pss_nil) (pss_cons (ps_set (i := 7) nd rfl (Or.inl rfl) (pe_ix ix_list (pv 2) (pv 6) (fun _ _ => rfl))) (pss_cons (ps_if (pt_cmpR op_gt (pe_callB call_len_seq (by rfl) T.len PySem.boot_len (pa_cons (pv 7) pa_nil)) pe_int (nomark _)) (pss_cons (ps_set (i := 8) nd rfl (Or.inl rfl) (pe_op op_cat (pe_op op_cat (pe_slice sl_list (pv 2) po_none (po_some (pv 6))) (pe_lst (pa_cons (pe_callTy call_tuple_of (by rfl) T.tuple (by decide +kernel) (pa_cons (pe_op op_cat (pe_lst (pa_cons (pe_ix ix_tup (pv 7) pe_int (fun _ _ => rfl)) pa_nil)) (pe_lc (own := [("k", 12)]) (g := (gName 12)) (tt := tYes) rfl nd (pi_tup (pe_slice sl_tupA (pv 7) (po_some pe_int) po_none)) (blkOk_by (N := N_law_spoils) (sc := defScope s_law_spoils) (by decide +kernel)) (fun _ _ _ _ _ => (pg_name (i := 12) nd rfl (Or.inl rfl))) (fun _ _ _ _ _ => pts_nil) (fun _ _ _ _ _ => (pv 6)))) pa_nil)) pa_nil))) (pe_slice sl_list (pv 2) (po_some (pe_op op_add (pv 6) pe_int)) po_none))) (pss_cons (ps_set (i := 9) nd rfl (Or.inl rfl) (pe_op op_cat (pe_op op_cat (pe_slice sl_list (pv 2) po_none (po_some (pv 6))) (pe_lst (pa_cons (pe_callTy call_tuple_of (by rfl) T.tuple (by decide +kernel) (pa_cons (pe_op op_cat (pe_lst (pa_cons (pe_ix ix_tup (pv 7) pe_int (fun _ _ => rfl)) pa_nil)) (pe_lc (own := [("k", 12)]) (g := (gName 12)) (tt := tYes) rfl nd (pi_tup (pe_slice sl_tupA (pv 7) (po_some pe_int) po_none)) (blkOk_by (N := N_law_spoils) (sc := defScope s_law_spoils) (by decide +kernel)) (fun _ _ _ _ _ => (pg_name (i := 12) nd rfl (Or.inl rfl))) (fun _ _ _ _ _ => pts_nil) (fun _ _ _ _ _ => (pe_un un_neg pe_int)))) pa_nil)) pa_nil))) (pe_slice sl_list (pv 2) (po_some (pe_op op_add (pv 6) pe_int)) po_none))) (pss_one (ps_if (PW.pt (pw_or (pt_not (pt_val (pe_call GR hr rfl T.g_law_refuses T.F_law_refuses.kp T.b_law_refuses .nil pass0 (pa_cons (pv 1) (pa_cons (pv 2) (pa_cons (pv 8) (pa_cons (pv 6) pa_nil))))))) (pw_or1 (pt_not (pt_val (pe_call GR hr rfl T.g_law_refuses T.F_law_refuses.kp T.b_law_refuses .nil pass0 (pa_cons (pv 1) (pa_cons (pv 2) (pa_cons (pv 9) (pa_cons (pv 6) pa_nil)))))))))) (pss_one (ps_ret pe_bl)) pss_nil)))) pss_nil) (pss_cons (ps_set (i := 10) nd rfl (Or.inl rfl) (pe_op op_cat (pe_op op_cat (pe_slice sl_list (pv 2) po_none (po_some (pv 6))) (pe_lst (pa_cons (pe_op op_catA (pv 7) (pe_tup (pa_cons pe_int pa_nil))) pa_nil))) (pe_slice sl_list (pv 2) (po_some (pe_op op_add (pv 6) pe_int)) po_none))) (pss_cons (ps_set (i := 11) nd rfl (Or.inl rfl) (pe_op op_cat (pe_op op_cat (pe_slice sl_list (pv 2) po_none (po_some (pv 6))) (pe_lst (pa_cons (pe_op op_catA (pe_tup (pa_cons pe_str pa_nil)) (pe_slice sl_tupA (pv 7) (po_some pe_int) po_none)) pa_nil))) (pe_slice sl_list (pv 2) (po_some (pe_op op_add (pv 6) pe_int)) po_none))) (pss_one (ps_ret (pe_and (pe_call GR hr rfl T.g_law_refuses T.F_law_refuses.kp T.b_law_refuses .nil pass0 (pa_cons (pv 1) (pa_cons (pv 2) (pa_cons (pv 10) (pa_cons (pv 6) pa_nil))))) (pe_one (pe_call GR hr rfl T.g_law_refuses T.F_law_refuses.kp T.b_law_refuses .nil pass0 (pa_cons (pv 1) (pa_cons (pv 2) (pa_cons (pv 11) (pa_cons (pv 6) pa_nil)))))))))))))))), ?_⟩
    obtain ⟨dx, tx, h0⟩ := hS.ob
    obtain ⟨rs, hrl, hrows⟩ := id hR
    have nrd : rl ≠ dr := by
      intro e
      rw [e, hd] at hrl
      have hl := hrows.1
      rw [Par.rows_len] at hl
      cases rs with
      | nil => cases hl
      | cons a r =>
        cases ds with
        | nil => cases hrl
        | cons i l => injection hrl with q; injection q with q; injection q with q; cases q
    have hl : rs.length = c.length + 1 := by rw [hrows.1, Par.rows_len]
    have hlv : (rs.map V.ref).length = c.length + 1 := by rw [List.length_map, hl]
    refine ⟨_, rfl, dr, ds, 997, rfl, by decide, hd, fun H1 r ds1 b1 hd1 h0r h9r => ?_⟩
    have hrl1 := b1.at hrl nrd
    refine ⟨_, rfl, rl, _, rfl, .inl (SqL.of hrl1), _, _, rfl, rfl, (by rw [hlv]; show (0 : Int) < _; omega), ?_⟩
    obtain ⟨n, hn, hnc⟩ : ∃ n : Nat, r % ((rs.map V.ref).length : Int) = n ∧ n ≤ c.length := by
      rw [hlv]
      have q1 := Int.emod_nonneg r (show ((c.length + 1 : Nat) : Int) ≠ 0 by omega)
      have q2 := Int.emod_lt_of_pos r (show (0 : Int) < ((c.length + 1 : Nat) : Int) by omega)
      exact ⟨(r % ((c.length + 1 : Nat) : Int)).toNat, by omega, by omega⟩
    rw [show (fun (i j : Int) => V.int (i % j)) r ((rs.map V.ref).length : Int) = V.int (n : Int) from by show V.int _ = _; rw [hn]]
    have bM : But (fun a => A.M a ∨ a = dr) H H1 := b1.mono fun a h => .inr h
    have S1 : StoreAt D p H1 t g A cs := hS.but b1 (fun a m e => ndr (e ▸ m)) (fun e => by rw [e, hd] at h0; cases h0)
    have hG1 : SigAt D p H1 g := hG.keep fun a o e n1 n2 => b1.at e fun q => by rw [q, hd] at e; cases e; exact n2 _ rfl
    have hrn : (rs.map V.ref)[n]? = some (.ref (rs[n]'(by omega))) := by rw [List.getElem?_map, List.getElem?_eq_getElem (by omega)]; rfl
    have hr0 : H (rs[n]'(by omega)) = some (.tup (p.rowAt c n)) := hrows.2 n _ _ (List.getElem?_eq_getElem (by omega)) (Par.rows_get hnc)
    generalize hr00 : rs[n]'(by omega) = r0 at hrn hr0
    have ff := rows_fl hp (c := c)
    -- the row doubled
    have hrows1 : RowsAt H1 rs (p.rows c) := hrows.keep fun a xs e => b1.tup e
    refine ⟨_, rfl, _, rfl, _, rfl, ?_⟩
    unfold tNoPart
    refine ⟨_, rfl, _, _, rfl, rfl, ((n + 1 : Nat) : Int), rfl, ?_⟩
    refine slTo_of (m := n + 1) hrl1 fun H2 a2 s2 n2 e2 => ?_
    have hrl2 := s2 _ _ hrl1
    refine ⟨_, rfl, _, rfl, rl, _, _, _, rfl, rfl, SqL.of hrl2, atI_nat hrn, (by show 1 ≤ sizeLine; decide), fun a3 n3 => ?_⟩
    have s3 := Same.new (o := .lst [.ref r0]) n3
    have l16 : ∀ m, m ≤ 20000 → m ≤ 16777216 := fun m h => by omega
    refine cat_of (s3 _ _ e2) upd_same ?_ fun H4 a4 s4 n4 e4 => ?_
    · rw [List.length_take, hlv, List.length_singleton]; omega
    have s24 := Same.trans' s2 (Same.trans' s3 s4)
    refine ⟨_, rfl, _, rfl, _, _, rfl, rfl, ((n + 1 : Nat) : Int), rfl, ?_⟩
    refine slFrom_of (m := n + 1) (s24 _ _ hrl1) fun H5 a5 s5 n5 e5 => ?_
    refine cat_of (s5 _ _ e4) e5 ?_ fun H6 a6 s6 n6 e6 => ?_
    · rw [List.length_append, List.length_take, List.length_drop, hlv, List.length_singleton]; omega
    have s16 : Same H1 H6 := Same.trans' s24 (Same.trans' s5 s6)
    have er1 : (rs.map V.ref).take (n + 1) ++ [V.ref r0] ++ (rs.map V.ref).drop (n + 1) = (rs.take (n + 1) ++ [r0] ++ rs.drop (n + 1)).map V.ref := by simp
    rw [er1] at e6
    have hr06 : H6 r0 = some (.tup (p.rowAt c n)) := s16 _ _ (b1.tup hr0)
    have hrows6 : RowsAt H6 rs (p.rows c) := hrows1.keep fun a xs e => s16 _ _ e
    have fl1 : ∀ xs ∈ twice p c n, FlD xs := fun xs hx => by
      unfold twice at hx
      rcases List.mem_append.mp hx with hx | hx
      · rcases List.mem_append.mp hx with hx | hx
        · exact ff xs (List.mem_of_mem_take hx)
        · rw [List.mem_singleton.mp hx]; exact rowAt_fl hp
      · exact ff xs (List.mem_of_mem_drop hx)
    have ht1 := twice_len (p := p) hnc
    refine ⟨_, rfl, _, _, rfl, rfl, t, g, a6, .ref rl, p, A, cs, _, twice p c n, n + 1, rfl, hp, S1.same s16, hG1.same s16, by rw [ht1]; omega, e6, ((hrows6.take (n + 1)).app (RowsAt.one hr06)).app (hrows6.drop (n + 1)), fl1, fromV_twice hp hnc, fun H7 cs7 b7 S7 l7 => ⟨_, rfl, ifF rfl ?_⟩⟩
    rw [ht1] at l7
    have b07 : But (fun a => A.M a ∨ a = dr) H H7 := (bM.trans (But.of_same s16)).trans (b7.mono fun a h => .inl h)
    have nrlM : ¬ (A.M rl ∨ rl = dr) := fun h => h.elim nrl nrd
    have hrl7 := b07.at hrl nrlM
    have hG7 : SigAt D p H7 g := (hG1.same s16).but (S1.same s16) b7
    -- the first row once more
    have hr1n : (rs.map V.ref)[0]? = some (.ref (rs[0]'(by omega))) := by rw [List.getElem?_map, List.getElem?_eq_getElem (by omega)]; rfl
    have hr01 : H (rs[0]'(by omega)) = some (.tup (p.rowAt c 0)) := hrows.2 0 _ _ (List.getElem?_eq_getElem (by omega)) (Par.rows_get (Nat.zero_le _))
    generalize hr000 : rs[0]'(by omega) = q0 at hr1n hr01
    refine ⟨_, rfl, _, rfl, _, rfl, _, rfl, rl, _, _, _, rfl, rfl, SqL.of hrl7, atI_nat (j := 0) hr1n, (by show 1 ≤ sizeLine; decide), fun a8 n8 => ?_⟩
    have s8 := Same.new (o := .lst [.ref q0]) n8
    refine cat_of (s8 _ _ hrl7) upd_same ?_ fun H9 a9 s9 n9 e9 => ?_
    · rw [hlv, List.length_singleton]; omega
    have s79 := Same.trans' s8 s9
    have er2 : rs.map V.ref ++ [V.ref q0] = (rs ++ [q0]).map V.ref := by simp
    rw [er2] at e9
    have b09 := b07.trans (But.of_same s79)
    have fl2 : ∀ xs ∈ p.rows c ++ [p.rowAt c 0], FlD xs := fun xs hx => by
      rcases List.mem_append.mp hx with hx | hx
      · exact ff xs hx
      · rw [List.mem_singleton.mp hx]; exact rowAt_fl hp
    have ht2 : (p.rows c ++ [p.rowAt c 0]).length = c.length + 2 := by rw [List.length_append, Par.rows_len]; rfl
    refine ⟨t, g, a9, .ref rl, p, A, cs7, _, p.rows c ++ [p.rowAt c 0], 1, rfl, hp, S7.same s79, hG7.same s79, by rw [ht2]; omega, e9, (hrows.keep fun a xs e => b09.tup e).app (RowsAt.one (b09.tup hr01)), fl2, fromV_first, fun H10 cs10 b10 S10 l10 => ⟨_, rfl, ifF rfl ?_⟩⟩
    rw [ht2] at l10
    have b010 := b09.trans (b10.mono (M' := fun a => A.M a ∨ a = dr) fun a h => .inl h)
    have hG10 : SigAt D p H10 g := (hG7.same s79).but (S7.same s79) b10
    -- no rows
    refine ⟨_, rfl, _, rfl, Nat.zero_le _, fun a11 n11 => ?_⟩
    have s11 := Same.new (o := .lst []) n11
    refine ⟨t, g, a11, .ref rl, p, A, cs10, [], [], 0, rfl, hp, S10.same s11, hG10.same s11, by show cs10.length + 0 ≤ 20000; omega, upd_same, RowsAt.nil, (fun _ h => absurd h List.not_mem_nil), fromV_none, fun H12 cs12 b12 S12 l12 => ⟨_, rfl, ifF rfl ?_⟩⟩
    have b012 := (b010.trans (But.of_same s11)).trans (b12.mono (M' := fun a => A.M a ∨ a = dr) fun a h => .inl h)
    have hG12 : SigAt D p H12 g := (hG10.same s11).but (S10.same s11) b12
    have l12' : cs12.length ≤ cs.length + 2 * (c.length + 2) := by
      have : cs12.length ≤ cs10.length + 0 := l12
      omega
    -- the row itself
    have hrl12 := b012.at hrl nrlM
    refine ⟨_, rfl, _, rfl, rl, _, _, _, rfl, rfl, SqL.of hrl12, atI_nat hrn, ?_⟩
    have hr12 := b012.tup hr0
    refine ⟨_, rfl, r0, _, rfl, .inr (SqT.of hr12), _, _, rfl, rfl, _, rfl, ?_⟩
    have ersp : ∀ x : Addr, (rs.map V.ref).take n ++ [V.ref x] ++ (rs.map V.ref).drop (n + 1) = (rs.take n ++ [x] ++ rs.drop (n + 1)).map V.ref := fun x => by simp
    have flsp : ∀ xs0, FlD xs0 → ∀ xs ∈ spoil p c n xs0, FlD xs := fun xs0 h0 xs hx => by
      unfold spoil at hx
      rcases List.mem_append.mp hx with hx | hx
      · rcases List.mem_append.mp hx with hx | hx
        · exact ff xs (List.mem_of_mem_take hx)
        · rw [List.mem_singleton.mp hx]; exact h0
      · exact ff xs (List.mem_of_mem_drop hx)
    have rwsp : ∀ Hx x xs0, But (fun a => A.M a ∨ a = dr) H Hx → Hx x = some (.tup xs0) → RowsAt Hx (rs.take n ++ [x] ++ rs.drop (n + 1)) (spoil p c n xs0) := fun Hx x xs0 b e =>
      (((hrows.keep fun a xs e => b.tup e).take n).app (RowsAt.one e)).app ((hrows.keep fun a xs e => b.tup e).drop (n + 1))
    have lsp : ∀ xs0, (spoil p c n xs0).length = c.length + 1 := fun xs0 => spoil_len hnc
    have rlen : ∀ i, (p.rowAt c i).length ≤ 5 := fun i => by
      cases i with
      | zero => exact (by decide : (1 : Nat) ≤ 5)
      | succ i =>
        rw [show p.rowAt c (i + 1) = p.row (c.getD i false) i from rfl, row_len]
        have := hp.arr4 (c.getD i false)
        omega
    have tlen : ∀ i, (tailAt p c i).length ≤ 5 := fun i => by
      rw [← rowAt_drop, List.length_drop]
      have := rlen i
      omega
    have tfl : ∀ {i}, FlD (tailAt p c i) := fun {i} => by
      cases i with
      | zero => exact fl_nil
      | succ i => exact fl_rep
    refine ifC (fun h1 => ?wA) (fun h1 => ?wB)
    case wA =>
      obtain ⟨n', rfl⟩ : ∃ n', n = n' + 1 := by
        cases n with
        | zero =>
          have h2 := oT h1
          rw [show (p.rowAt c 0).length = 1 from rfl] at h2
          exact absurd h2 (by decide)
        | succ n' => exact ⟨n', rfl⟩
      have hn' : n' < c.length := hnc
      have hw0 : (p.rowAt c (n' + 1))[0]? = some (.str (p.sg c[n'])) := by rw [rowAt_succ hn']; rfl
      have fl3 : ∀ j : Int, FlD (.str (p.sg c[n']) :: List.replicate (p.arr c[n']) (.int j)) := fun j => fl_str (hp.os _) fl_rep
      refine ⟨_, rfl, _, rfl, ((n' + 1 : Nat) : Int), rfl, ?_⟩
      refine slTo_of (m := n' + 1) hrl12 fun I1a u1a v1a w1a x1a => ?_
      refine ⟨_, rfl, r0, _, _, _, rfl, rfl, SqT.of (v1a _ _ hr12), atI_nat (j := 0) hw0, (by show 1 ≤ sizeLine; decide), fun u2a w2a => ?_⟩
      have v2a := Same.new (o := .lst [.str (p.sg c[n'])]) w2a
      refine ⟨_, rfl, 1, rfl, ?_⟩
      refine slA_of (v2a _ _ (v1a _ _ hr12)) fun I3a u3a v3a x3a => ?_
      rw [cutV1, rowAt_drop, tail_succ hn'] at x3a
      refine ⟨u3a, rfl, ⟨_, SqT.of x3a⟩, fun D1a nD1a => lc_tup (K := K) (a := u3a) (xs := List.replicate (p.arr c[n']) (.int (n' : Nat))) (fun j Hx => Hx = upd I3a D1a (.lst (List.replicate j (.int (n' + 1 : Nat))))) rfl (fun j Hx _ e => by rw [e]; exact (Same.new nD1a).seqT (SqT.of x3a)) ?_ ?_⟩
      · rintro j y Hx hj rfl
        obtain ⟨hjn, rfl⟩ := get_rep hj
        refine ⟨rfl, _, rfl, _, upd_same, ?_, ?_⟩
        · have h4 := hp.arr4 c[n']
          have : (List.replicate j (V.int (n' + 1 : Nat))).length < 16777216 := by rw [List.length_replicate]; omega
          exact this
        · rw [upd_upd, List.replicate_succ']
      rintro Hxa rfl
      rw [List.length_replicate]
      have v4a := Same.new (o := .lst (List.replicate (p.arr c[n']) (.int (n' + 1 : Nat)))) nD1a
      refine cat_of (v4a _ _ (v3a _ _ upd_same)) upd_same (by rw [List.length_replicate, List.length_singleton]; have := hp.arr4 c[n']; omega) fun I5a u5a v5a w5a x5a => ?_
      refine ⟨u5a, _, rfl, .inl ⟨SqL.of x5a, fun u6a w6a => ⟨(by show 1 ≤ sizeLine; decide), fun u7a w7a => ?_⟩⟩⟩
      have v6a := Same.new (o := .tup ([V.str (p.sg c[n'])] ++ List.replicate (p.arr c[n']) (.int (n' + 1 : Nat)))) w6a
      have v7a := Same.new (o := .lst [.ref u6a]) w7a
      have v17a := Same.trans' v2a (Same.trans' v3a (Same.trans' v4a (Same.trans' v5a (Same.trans' v6a v7a))))
      refine cat_of (v17a _ _ x1a) upd_same (by rw [List.length_take, hlv, List.length_singleton]; omega) fun I8a u8a v8a w8a x8a => ?_
      refine ⟨_, rfl, _, rfl, _, _, rfl, rfl, ((n' + 1 + 1 : Nat) : Int), rfl, ?_⟩
      have v18a := Same.trans' v1a (Same.trans' v17a v8a)
      refine slFrom_of (m := n' + 1 + 1) (v18a _ _ hrl12) fun I9a u9a v9a w9a x9a => ?_
      refine cat_of (v9a _ _ x8a) x9a (by rw [List.length_append, List.length_take, List.length_drop, hlv, List.length_singleton]; omega) fun I10a u10a v10a w10a x10a => ?_
      rw [ersp u6a] at x10a
      have vva := Same.trans' v18a (Same.trans' v9a v10a)
      have xta : I10a u6a = some (.tup (.str (p.sg c[n']) :: List.replicate (p.arr c[n']) (.int (n' + 1 : Nat)))) := v10a _ _ (v9a _ _ (v8a _ _ (v7a _ _ upd_same)))
      have hrl20 := vva _ _ hrl12
      have hr20 := vva _ _ hr12
      refine ⟨_, rfl, _, rfl, ((n' + 1 : Nat) : Int), rfl, ?_⟩
      refine slTo_of (m := n' + 1) hrl20 fun I1b u1b v1b w1b x1b => ?_
      refine ⟨_, rfl, r0, _, _, _, rfl, rfl, SqT.of (v1b _ _ hr20), atI_nat (j := 0) hw0, (by show 1 ≤ sizeLine; decide), fun u2b w2b => ?_⟩
      have v2b := Same.new (o := .lst [.str (p.sg c[n'])]) w2b
      refine ⟨_, rfl, 1, rfl, ?_⟩
      refine slA_of (v2b _ _ (v1b _ _ hr20)) fun I3b u3b v3b x3b => ?_
      rw [cutV1, rowAt_drop, tail_succ hn'] at x3b
      refine ⟨u3b, rfl, ⟨_, SqT.of x3b⟩, fun D1b nD1b => lc_tup (K := K) (a := u3b) (xs := List.replicate (p.arr c[n']) (.int (n' : Nat))) (fun j Hx => Hx = upd I3b D1b (.lst (List.replicate j (.int (-1))))) rfl (fun j Hx _ e => by rw [e]; exact (Same.new nD1b).seqT (SqT.of x3b)) ?_ ?_⟩
      · rintro j y Hx hj rfl
        obtain ⟨hjn, rfl⟩ := get_rep hj
        refine ⟨rfl, 1, rfl, _, upd_same, ?_, ?_⟩
        · have h4 := hp.arr4 c[n']
          have : (List.replicate j (V.int (-1))).length < 16777216 := by rw [List.length_replicate]; omega
          exact this
        · rw [upd_upd, List.replicate_succ']
      rintro Hxb rfl
      rw [List.length_replicate]
      have v4b := Same.new (o := .lst (List.replicate (p.arr c[n']) (.int (-1)))) nD1b
      refine cat_of (v4b _ _ (v3b _ _ upd_same)) upd_same (by rw [List.length_replicate, List.length_singleton]; have := hp.arr4 c[n']; omega) fun I5b u5b v5b w5b x5b => ?_
      refine ⟨u5b, _, rfl, .inl ⟨SqL.of x5b, fun u6b w6b => ⟨(by show 1 ≤ sizeLine; decide), fun u7b w7b => ?_⟩⟩⟩
      have v6b := Same.new (o := .tup ([V.str (p.sg c[n'])] ++ List.replicate (p.arr c[n']) (.int (-1)))) w6b
      have v7b := Same.new (o := .lst [.ref u6b]) w7b
      have v17b := Same.trans' v2b (Same.trans' v3b (Same.trans' v4b (Same.trans' v5b (Same.trans' v6b v7b))))
      refine cat_of (v17b _ _ x1b) upd_same (by rw [List.length_take, hlv, List.length_singleton]; omega) fun I8b u8b v8b w8b x8b => ?_
      refine ⟨_, rfl, _, rfl, _, _, rfl, rfl, ((n' + 1 + 1 : Nat) : Int), rfl, ?_⟩
      have v18b := Same.trans' v1b (Same.trans' v17b v8b)
      refine slFrom_of (m := n' + 1 + 1) (v18b _ _ hrl20) fun I9b u9b v9b w9b x9b => ?_
      refine cat_of (v9b _ _ x8b) x9b (by rw [List.length_append, List.length_take, List.length_drop, hlv, List.length_singleton]; omega) fun I10b u10b v10b w10b x10b => ?_
      rw [ersp u6b] at x10b
      have vvb := Same.trans' v18b (Same.trans' v9b v10b)
      have xtb : I10b u6b = some (.tup (.str (p.sg c[n']) :: List.replicate (p.arr c[n']) (.int (-1)))) := v10b _ _ (v9b _ _ (v8b _ _ (v7b _ _ upd_same)))
      have vab := Same.trans' vva vvb
      have b20 := b012.trans (But.of_same vab)
      -- late
      refine ⟨_, rfl, _, rfl, _, rfl, _, rfl, t, g, u10a, .ref rl, p, A, cs12, _, spoil p c (n' + 1) (.str (p.sg c[n']) :: List.replicate (p.arr c[n']) (.int (n' + 1 : Nat))), n' + 1, rfl, hp, S12.same vab, hG12.same vab, by rw [lsp]; omega, vvb _ _ x10a, rwsp _ _ _ b20 (vvb _ _ xta), flsp _ (fl3 _), fromV_bad hnc (bad_ats hp (.inr (Int.le_refl _))), fun H21 cs21 b21 S21 l21 => ⟨_, rfl, ifF rfl ?_⟩⟩
      rw [lsp] at l21
      have b021 := b20.trans (b21.mono (M' := fun a => A.M a ∨ a = dr) fun a h => .inl h)
      have hG21 : SigAt D p H21 g := (hG12.same vab).but (S12.same vab) b21
      have nuM : ¬ A.M u10b := fun m => by
        have := (S12.same (Same.trans' vva (Same.trans' v18b v9b))).not_m_free w10b
        exact this m
      -- below
      refine ⟨_, rfl, _, rfl, _, rfl, _, rfl, t, g, u10b, .ref rl, p, A, cs21, _, spoil p c (n' + 1) (.str (p.sg c[n']) :: List.replicate (p.arr c[n']) (.int (-1))), n' + 1, rfl, hp, S21, hG21, by rw [lsp]; omega, b21.at x10b nuM, rwsp _ _ _ b021 (b21.tup xtb), flsp _ (fl3 _), fromV_bad hnc (bad_ats hp (.inl (by decide))), fun H22 cs22 b22 S22 l22 => ⟨_, rfl, ifF rfl ?_⟩⟩
      rw [lsp] at l22
      have bx := b021.trans (b22.mono (M' := fun a => A.M a ∨ a = dr) fun a h => .inl h)
      have Sx := S22
      have hGx : SigAt D p H22 g := hG21.but S21 b22
      have lx : cs22.length ≤ cs.length + 4 * (c.length + 2) := by omega
      have hrlX := bx.at hrl nrlM
      have hrX := bx.tup hr0
      have lrow : (p.rowAt c (n' + 1)).length + ([V.int 0] : List V).length ≤ sizeLine := by
        have h : (16777216 : Nat) = sizeLine := rfl
        have := rlen (n' + 1)
        rw [List.length_singleton]
        omega
      have lrow2 : ([V.str "none0"] : List V).length + (tailAt p c (n' + 1)).length ≤ sizeLine := by
        have h : (16777216 : Nat) = sizeLine := rfl
        have := tlen (n' + 1)
        rw [List.length_singleton]
        omega
      refine ⟨_, rfl, _, rfl, ((n' + 1 : Nat) : Int), rfl, ?_⟩
      refine slTo_of (m := n' + 1) hrlX fun J1c u1c v1c w1c x1c => ?_
      refine ⟨_, rfl, (by show 1 ≤ sizeLine; decide), fun uz wz => ?_⟩
      have vz := Same.new (o := .tup [.int 0]) wz
      refine catA_of (vz _ _ (v1c _ _ hrX)) upd_same lrow fun Jc txc vzc hxc => ?_
      have vmc := Same.trans' vz vzc
      refine ⟨(by show 1 ≤ sizeLine; decide), fun u7c w7c => ?_⟩
      have v7c := Same.new (o := .lst [.ref txc]) w7c
      refine cat_of (v7c _ _ (vmc _ _ x1c)) upd_same (by rw [List.length_take, hlv, List.length_singleton]; omega) fun J8c u8c v8c w8c x8c => ?_
      refine ⟨_, rfl, _, rfl, _, _, rfl, rfl, ((n' + 1 + 1 : Nat) : Int), rfl, ?_⟩
      have v18c := Same.trans' v1c (Same.trans' vmc (Same.trans' v7c v8c))
      refine slFrom_of (m := n' + 1 + 1) (v18c _ _ hrlX) fun J9c u9c v9c w9c x9c => ?_
      refine cat_of (v9c _ _ x8c) x9c (by rw [List.length_append, List.length_take, List.length_drop, hlv, List.length_singleton]; omega) fun J10c u10c v10c w10c x10c => ?_
      rw [ersp txc] at x10c
      have vvc := Same.trans' v18c (Same.trans' v9c v10c)
      have xtc : J10c txc = some (.tup (p.rowAt c (n' + 1) ++ [V.int 0])) := v10c _ _ (v9c _ _ (v8c _ _ (v7c _ _ hxc)))
      have hrlY := vvc _ _ hrlX
      have hrY := vvc _ _ hrX
      refine ⟨_, rfl, _, rfl, ((n' + 1 : Nat) : Int), rfl, ?_⟩
      refine slTo_of (m := n' + 1) hrlY fun J1d u1d v1d w1d x1d => ?_
      refine ⟨(by show 1 ≤ sizeLine; decide), fun uy wy => ⟨_, rfl, 1, rfl, ?_⟩⟩
      have vy := Same.new (o := .tup [.str "none0"]) wy
      refine slA_of (vy _ _ (v1d _ _ hrY)) fun Jd ud vyd hyd => ?_
      rw [cutV1, rowAt_drop] at hyd
      refine catA_of (vyd _ _ upd_same) hyd lrow2 fun Je txd vye hxd => ?_
      have vmd := Same.trans' vy (Same.trans' vyd vye)
      refine ⟨(by show 1 ≤ sizeLine; decide), fun u7d w7d => ?_⟩
      have v7d := Same.new (o := .lst [.ref txd]) w7d
      refine cat_of (v7d _ _ (vmd _ _ x1d)) upd_same (by rw [List.length_take, hlv, List.length_singleton]; omega) fun J8d u8d v8d w8d x8d => ?_
      refine ⟨_, rfl, _, rfl, _, _, rfl, rfl, ((n' + 1 + 1 : Nat) : Int), rfl, ?_⟩
      have v18d := Same.trans' v1d (Same.trans' vmd (Same.trans' v7d v8d))
      refine slFrom_of (m := n' + 1 + 1) (v18d _ _ hrlY) fun J9d u9d v9d w9d x9d => ?_
      refine cat_of (v9d _ _ x8d) x9d (by rw [List.length_append, List.length_take, List.length_drop, hlv, List.length_singleton]; omega) fun J10d u10d v10d w10d x10d => ?_
      rw [ersp txd] at x10d
      have vvd := Same.trans' v18d (Same.trans' v9d v10d)
      have xtd : J10d txd = some (.tup ([V.str "none0"] ++ tailAt p c (n' + 1))) := v10d _ _ (v9d _ _ (v8d _ _ (v7d _ _ hxd)))
      have vcd := Same.trans' vvc vvd
      have by0 := bx.trans (But.of_same vcd)
      refine ⟨_, rfl, _, rfl, _, rfl, _, rfl, t, g, u10c, .ref rl, p, A, cs22, _, spoil p c (n' + 1) (p.rowAt c (n' + 1) ++ [V.int 0]), n' + 1, rfl, hp, Sx.same vcd, hGx.same vcd, by rw [lsp]; omega, vvd _ _ x10c, rwsp _ _ _ by0 (vvd _ _ xtc), flsp _ (fl_app (rowAt_fl hp) (fl_int fl_nil)), fromV_bad hnc (bad_long hp), fun Hz cz bz Sz lz => ⟨_, rfl, ifT rfl ?_⟩⟩
      rw [lsp] at lz
      have bz0 := by0.trans (bz.mono (M' := fun a => A.M a ∨ a = dr) fun a h => .inl h)
      have hGz : SigAt D p Hz g := (hGx.same vcd).but (Sx.same vcd) bz
      have nzM : ¬ A.M u10d := fun m => (Sx.same (Same.trans' vvc (Same.trans' v18d v9d))).not_m_free w10d m
      exact ⟨_, rfl, _, rfl, _, rfl, _, rfl, t, g, u10d, .ref rl, p, A, cz, _, spoil p c (n' + 1) ([V.str "none0"] ++ tailAt p c (n' + 1)), n' + 1, rfl, hp, Sz, hGz, by rw [lsp]; omega, bz.at x10d nzM, rwsp _ _ _ bz0 (bz.tup xtd), flsp _ (fl_str (by decide +kernel) tfl), fromV_bad hnc (bad_strange hp hno (by decide +kernel) (by decide +kernel)), fun Hq cq bq Sq lq => k Hq⟩
    case wB =>
      have bx := b012
      have Sx := S12
      have hGx := hG12
      have lx : cs12.length ≤ cs.length + 4 * (c.length + 2) := by omega
      have hrlX := bx.at hrl nrlM
      have hrX := bx.tup hr0
      have lrow : (p.rowAt c (n)).length + ([V.int 0] : List V).length ≤ sizeLine := by
        have h : (16777216 : Nat) = sizeLine := rfl
        have := rlen (n)
        rw [List.length_singleton]
        omega
      have lrow2 : ([V.str "none0"] : List V).length + (tailAt p c (n)).length ≤ sizeLine := by
        have h : (16777216 : Nat) = sizeLine := rfl
        have := tlen (n)
        rw [List.length_singleton]
        omega
      refine ⟨_, rfl, _, rfl, ((n : Nat) : Int), rfl, ?_⟩
      refine slTo_of (m := n) hrlX fun J1c u1c v1c w1c x1c => ?_
      refine ⟨_, rfl, (by show 1 ≤ sizeLine; decide), fun uz wz => ?_⟩
      have vz := Same.new (o := .tup [.int 0]) wz
      refine catA_of (vz _ _ (v1c _ _ hrX)) upd_same lrow fun Jc txc vzc hxc => ?_
      have vmc := Same.trans' vz vzc
      refine ⟨(by show 1 ≤ sizeLine; decide), fun u7c w7c => ?_⟩
      have v7c := Same.new (o := .lst [.ref txc]) w7c
      refine cat_of (v7c _ _ (vmc _ _ x1c)) upd_same (by rw [List.length_take, hlv, List.length_singleton]; omega) fun J8c u8c v8c w8c x8c => ?_
      refine ⟨_, rfl, _, rfl, _, _, rfl, rfl, ((n + 1 : Nat) : Int), rfl, ?_⟩
      have v18c := Same.trans' v1c (Same.trans' vmc (Same.trans' v7c v8c))
      refine slFrom_of (m := n + 1) (v18c _ _ hrlX) fun J9c u9c v9c w9c x9c => ?_
      refine cat_of (v9c _ _ x8c) x9c (by rw [List.length_append, List.length_take, List.length_drop, hlv, List.length_singleton]; omega) fun J10c u10c v10c w10c x10c => ?_
      rw [ersp txc] at x10c
      have vvc := Same.trans' v18c (Same.trans' v9c v10c)
      have xtc : J10c txc = some (.tup (p.rowAt c (n) ++ [V.int 0])) := v10c _ _ (v9c _ _ (v8c _ _ (v7c _ _ hxc)))
      have hrlY := vvc _ _ hrlX
      have hrY := vvc _ _ hrX
      refine ⟨_, rfl, _, rfl, ((n : Nat) : Int), rfl, ?_⟩
      refine slTo_of (m := n) hrlY fun J1d u1d v1d w1d x1d => ?_
      refine ⟨(by show 1 ≤ sizeLine; decide), fun uy wy => ⟨_, rfl, 1, rfl, ?_⟩⟩
      have vy := Same.new (o := .tup [.str "none0"]) wy
      refine slA_of (vy _ _ (v1d _ _ hrY)) fun Jd ud vyd hyd => ?_
      rw [cutV1, rowAt_drop] at hyd
      refine catA_of (vyd _ _ upd_same) hyd lrow2 fun Je txd vye hxd => ?_
      have vmd := Same.trans' vy (Same.trans' vyd vye)
      refine ⟨(by show 1 ≤ sizeLine; decide), fun u7d w7d => ?_⟩
      have v7d := Same.new (o := .lst [.ref txd]) w7d
      refine cat_of (v7d _ _ (vmd _ _ x1d)) upd_same (by rw [List.length_take, hlv, List.length_singleton]; omega) fun J8d u8d v8d w8d x8d => ?_
      refine ⟨_, rfl, _, rfl, _, _, rfl, rfl, ((n + 1 : Nat) : Int), rfl, ?_⟩
      have v18d := Same.trans' v1d (Same.trans' vmd (Same.trans' v7d v8d))
      refine slFrom_of (m := n + 1) (v18d _ _ hrlY) fun J9d u9d v9d w9d x9d => ?_
      refine cat_of (v9d _ _ x8d) x9d (by rw [List.length_append, List.length_take, List.length_drop, hlv, List.length_singleton]; omega) fun J10d u10d v10d w10d x10d => ?_
      rw [ersp txd] at x10d
      have vvd := Same.trans' v18d (Same.trans' v9d v10d)
      have xtd : J10d txd = some (.tup ([V.str "none0"] ++ tailAt p c (n))) := v10d _ _ (v9d _ _ (v8d _ _ (v7d _ _ hxd)))
      have vcd := Same.trans' vvc vvd
      have by0 := bx.trans (But.of_same vcd)
      refine ⟨_, rfl, _, rfl, _, rfl, _, rfl, t, g, u10c, .ref rl, p, A, cs12, _, spoil p c (n) (p.rowAt c (n) ++ [V.int 0]), n, rfl, hp, Sx.same vcd, hGx.same vcd, by rw [lsp]; omega, vvd _ _ x10c, rwsp _ _ _ by0 (vvd _ _ xtc), flsp _ (fl_app (rowAt_fl hp) (fl_int fl_nil)), fromV_bad hnc (bad_long hp), fun Hz cz bz Sz lz => ⟨_, rfl, ifT rfl ?_⟩⟩
      rw [lsp] at lz
      have bz0 := by0.trans (bz.mono (M' := fun a => A.M a ∨ a = dr) fun a h => .inl h)
      have hGz : SigAt D p Hz g := (hGx.same vcd).but (Sx.same vcd) bz
      have nzM : ¬ A.M u10d := fun m => (Sx.same (Same.trans' vvc (Same.trans' v18d v9d))).not_m_free w10d m
      exact ⟨_, rfl, _, rfl, _, rfl, _, rfl, t, g, u10d, .ref rl, p, A, cz, _, spoil p c (n) ([V.str "none0"] ++ tailAt p c (n)), n, rfl, hp, Sz, hGz, by rw [lsp]; omega, bz.at x10d nzM, rwsp _ _ _ bz0 (bz.tup xtd), flsp _ (fl_str (by decide +kernel) tfl), fromV_bad hnc (bad_strange hp hno (by decide +kernel) (by decide +kernel)), fun Hq cq bq Sq lq => k Hq⟩
end
end R87

/-! ## Par87 -/
set_option maxHeartbeats 4000000
namespace R87
open PySem PySem.Spec PyProof.Rows L2
/-- the drawn end of the names -/
def RestOk (l : List Nat) : Prop := (∀ c ∈ l, c = 120 ∨ c = 121 ∨ c = 122 ∨ c = 48 ∨ c = 53) ∧ l.length ≤ 22
theorem rest_of {i : Nat} (h : i < ("xyz05" : Str).cps.toList.length) : (("xyz05" : Str).cps.toList[i] = 120 ∨ ("xyz05" : Str).cps.toList[i] = 121 ∨ ("xyz05" : Str).cps.toList[i] = 122 ∨ ("xyz05" : Str).cps.toList[i] = 48 ∨ ("xyz05" : Str).cps.toList[i] = 53) := by
  have e : ∀ c ∈ ("xyz05" : Str).cps.toList, c = 120 ∨ c = 121 ∨ c = 122 ∨ c = 48 ∨ c = 53 := by decide +kernel
  exact e _ (List.getElem_mem h)
theorem cap_lt {c : Nat} (h : capC c = true) : c < 1114112 ∧ c ≠ 32 := by
  have e : ∀ c ∈ cCap.cps.toList, c < 1114112 ∧ c ≠ 32 := by decide +kernel
  exact e c (oT h)
theorem dig_lt {c : Nat} (h : digC c = true) : c < 1114112 ∧ c ≠ 32 := by
  have := digC_num h
  omega
theorem strOk_of {x : Str} (h : ∀ c ∈ x.cps.toList, c < 1114112) : PyData.strOk x = true := by
  unfold PyData.strOk
  rw [← Array.all_toList, List.all_eq_true]
  intro c hc
  exact decide_eq_true (h c hc)
theorem app_cps (x y : Str) : (x ++ y).cps.toList = x.cps.toList ++ y.cps.toList := TL.tl_append x y
theorem rest_name {c : Nat} {l : List Nat} (hc : smallC c = true) (h : RestOk l) : nameL (c :: l) = true := by
  unfold nameL
  have e : (c :: l).all (fun c => smallC c || digC c) = true := by
    rw [List.all_cons, hc, Bool.true_or, Bool.true_and, List.all_eq_true]
    intro d hd
    rcases h.1 d hd with rfl | rfl | rfl | rfl | rfl <;> decide +kernel
  have h2 := h.2
  rw [e, decide_eq_true (show 1 ≤ (c :: l).length by rw [List.length_cons]; omega), decide_eq_true (show (c :: l).length ≤ 24 by rw [List.length_cons]; omega)]
  show (true && true && ((c :: l).head?.any smallC && true)) = true
  rw [List.head?_cons]
  show (true && true && (smallC c && true)) = true
  rw [hc]
  rfl
theorem rest_sign {c : Nat} {l : List Nat} (hc : c < 200 ∧ c ≠ 32) (h : RestOk l) : ∀ d ∈ c :: l, d < 1114112 ∧ d ≠ 32 := by
  intro d hd
  rcases List.mem_cons.mp hd with rfl | hd
  · omega
  · rcases h.1 d hd with rfl | rfl | rfl | rfl | rfl <;> decide
theorem par_ok {xd x3 : Str} {c0 ar : Nat} (hc : capC c0 = true) (hd : DigOk xd.cps.toList) (hr : RestOk x3.cps.toList) (h1 : 1 ≤ ar) (h4 : ar ≤ 4) :
    (⟨(⟨#[c0]⟩ : Str) ++ xd, "s" ++ x3, "p" ++ x3, "q" ++ x3, c0, ar⟩ : Par).Ok ∧ nameL ("s" ++ x3 : Str).cps.toList = true ∧ ("s" ++ x3 : Str).length ≤ 1000 ∧ nameL ("p" ++ x3 : Str).cps.toList = true ∧ nameL ("q" ++ x3 : Str).cps.toList = true ∧
      ∀ b, ("none0" : Str) ≠ (⟨(⟨#[c0]⟩ : Str) ++ xd, "s" ++ x3, "p" ++ x3, "q" ++ x3, c0, ar⟩ : Par).sg b := by
  have eL : ((⟨#[c0]⟩ : Str) ++ xd).cps.toList = c0 :: xd.cps.toList := app_cps _ _
  have ep : ("p" ++ x3 : Str).cps.toList = 112 :: x3.cps.toList := app_cps _ _
  have eq : ("q" ++ x3 : Str).cps.toList = 113 :: x3.cps.toList := app_cps _ _
  have es : ("s" ++ x3 : Str).cps.toList = 115 :: x3.cps.toList := app_cps _ _
  obtain ⟨d1, d2, d3, d4⟩ := hd
  have hL : ∀ d ∈ ((⟨#[c0]⟩ : Str) ++ xd).cps.toList, d < 1114112 ∧ d ≠ 32 := by
    rw [eL]
    intro d hd
    rcases List.mem_cons.mp hd with rfl | hd
    · exact cap_lt hc
    · exact dig_lt (List.all_eq_true.mp d1 d hd)
  have hsg : ∀ b, ∃ c, c < 200 ∧ c ≠ 32 ∧ c ≠ 110 ∧ capC c = false ∧ ((⟨(⟨#[c0]⟩ : Str) ++ xd, "s" ++ x3, "p" ++ x3, "q" ++ x3, c0, ar⟩ : Par).sg b).cps.toList = c :: x3.cps.toList := by
    intro b
    cases b with
    | false => exact ⟨112, by decide, by decide, by decide, by decide +kernel, ep⟩
    | true => exact ⟨113, by decide, by decide, by decide, by decide +kernel, eq⟩
  have hr2 := hr.2
  refine ⟨⟨?_, ?_, hc, fun b => ?_, ?_, h1, h4, ?_, ?_, ?_, fun b => ?_, ?_, fun b => ?_⟩, ?_, ?_, ?_, ?_, fun b e => ?_⟩
  · show isLet 300 ((⟨#[c0]⟩ : Str) ++ xd).cps.toList = true
    rw [eL]
    unfold isLet
    rw [decide_eq_true (show 2 ≤ (c0 :: xd.cps.toList).length by rw [List.length_cons]; omega), decide_eq_true (show ((c0 :: xd.cps.toList).length : Int) ≤ 300 + 1 by rw [List.length_cons]; omega)]
    show (true && true && (capC c0 && (!(decide (xd.cps.toList.getD 0 0 = 48) && decide (2 < (c0 :: xd.cps.toList).length)) && xd.cps.toList.all digC))) = true
    rw [hc, d1]
    by_cases h2 : 2 ≤ xd.cps.toList.length
    · rw [decide_eq_false (d4 h2)]
      rfl
    · rw [decide_eq_false (show ¬ 2 < (c0 :: xd.cps.toList).length by rw [List.length_cons]; omega), Bool.and_false]
      rfl
  · show ((⟨#[c0]⟩ : Str) ++ xd).cps.toList[0]? = some c0
    rw [eL]
    rfl
  · obtain ⟨c, _, _, _, h, e⟩ := hsg b
    exact ⟨c, by rw [e]; rfl, h⟩
  · show ("p" ++ x3 : Str) ≠ "q" ++ x3
    intro e
    have := congrArg (fun x : Str => x.cps.toList) e
    rw [ep, eq] at this
    injection this with h
    exact absurd h (by decide)
  · show ("p" ++ x3 : Str).length ≤ 24
    rw [len_cps, ep, List.length_cons]
    omega
  · show ("q" ++ x3 : Str).length ≤ 24
    rw [len_cps, eq, List.length_cons]
    omega
  · rintro x rfl h
    exact (hL 32 h).2 rfl
  · obtain ⟨c, c1, c2, _, _, e⟩ := hsg b
    rw [e]
    exact fun h => (rest_sign ⟨c1, c2⟩ hr 32 h).2 rfl
  · exact strOk_of fun d hd => (hL d hd).1
  · obtain ⟨c, c1, c2, _, _, e⟩ := hsg b
    refine strOk_of fun d hd => ?_
    rw [e] at hd
    exact (rest_sign ⟨c1, c2⟩ hr d hd).1
  · rw [es]
    exact rest_name (by decide +kernel) hr
  · rw [len_cps, es, List.length_cons]
    omega
  · rw [ep]
    exact rest_name (by decide +kernel) hr
  · rw [eq]
    exact rest_name (by decide +kernel) hr
  · obtain ⟨c, _, _, c3, _, e2⟩ := hsg b
    have := congrArg (fun x : Str => x.cps.toList) e
    rw [e2, show ("none0" : Str).cps.toList = [110, 111, 110, 101, 48] from by decide +kernel] at this
    injection this with h
    exact c3 h.symm
end R87

/-! ## LawI87 -/
set_option maxHeartbeats 4000000
namespace R87
open PySem PySem.Spec PyProof.Rows L2
variable {D : Ad} {p : Par} {H H' : Hp} {t g : Addr} {A : SA} {cs : List Ch}
theorem fromV_self {c : Ch} : FromV p (p.rows c) (.inl c) := by
  have h := goes_pfx (p := p) (xss := p.rows c) (c := c) (c.length + 1) (Nat.le_refl _) fun i hi => Par.rows_get (by omega)
  rw [pfx_succ, List.take_length] at h
  exact .inr (.inr ⟨pfx c c.length, c, h, by rw [List.length_append, pfx_len, Par.rows_len]; rfl, .inr ⟨rfl, fun _ _ => rfl⟩⟩)
section
variable {P : Program} {w : World} {K : PySem.W.Frag} {mg : Str → Option Value} {base : Heap} {eB eT eBf eTf eR : Addr}
def spLaw (K : PySem.W.Frag) : Sp := fun vs H Q _ => ∃ (a : Addr) (ns : List Int), vs = [.ref a] ∧ SqL K H a (ns.map V.int) ∧ ∀ H', Q (.bl true) H'
theorem ok_law (T : Txt K P mg D eB eT eBf eTf) (TE : TxtE K mg eB eT eR) : FnOk P w K mg base CX0 7 D.a_law D.d_law ["script"] (spLaw K) := by
  refine T.F_law.ok sc_law (fun vs H Q E h => ?_) (fun cdv AA outer s H vs Q E hr h => ?_)
  · obtain ⟨a, ns, rfl, _⟩ := h
    rfl
  · obtain ⟨a, ns, rfl, ha, k⟩ := h
    have GD := ok_draws (P := P) (w := w) (base := base) T
    have GT := ok_take (P := P) (w := w) (base := base) T
    have GDi := ok_digits (P := P) (w := w) (base := base) T
    have GSi := ok_sinit (P := P) (w := w) (base := base) T
    have GTi := ok_tinit (P := P) (w := w) (base := base) T
    have GS := ok_small (P := P) (w := w) (base := base) T
    have GB := ok_built (P := P) (w := w) (base := base) T
    have GM := ok_made (P := P) (w := w) (base := base) T
    have GMk := ok_make (P := P) (w := w) (base := base) T
    have GP := ok_put_in (P := P) (w := w) (base := base) T
    have GPl := ok_putl (P := P) (w := w) (base := base) T
    have GTe := ok_tells (P := P) (w := w) (base := base) T TE
    have GF := ok_from (P := P) (w := w) (base := base) T
    have GSh := ok_shared (P := P) (w := w) (base := base) T
    have GSp := ok_spoils (P := P) (w := w) (base := base) T TE
    have nd := sc_law.nd
    have hr1 : Room 1 _ := hr.mono (by decide)
    have hr2 : Room 2 _ := hr.mono (by decide)
    have hr3 : Room 3 _ := hr.mono (by decide)
    have hr4 : Room 4 _ := hr.mono (by decide)
    have hr5 : Room 5 _ := hr.mono (by decide)
    refine ⟨_, PSs.nox (pss_cons (ps_set (i := 1) nd rfl (Or.inr rfl) (pe_call GD hr1 rfl T.g_law_draws T.F_law_draws.kp T.b_law_draws .nil pass0 (pa_cons (pv 0) (pa_cons pe_int (pa_cons pe_int pa_nil))))) (pss_cons (ps_set (i := 2) nd rfl (Or.inl rfl) (pe_ix ix_str pe_str (pe_call GT hr1 rfl T.g_law_take T.F_law_take.kp T.b_law_take .nil pass0 (pa_cons (pv 1) (pa_cons pe_int pa_nil))) (fun _ _ => rfl))) (pss_cons (ps_set (i := 3) nd rfl (Or.inr rfl) (pe_join pe_str (pe_lc (own := [("k", 13)]) (g := (gName 13)) (tt := tYes) rfl nd (pi_range1 (by rfl) T.range (pa_cons (pe_call GT hr1 rfl T.g_law_take T.F_law_take.kp T.b_law_take .nil pass0 (pa_cons (pv 1) (pa_cons pe_int pa_nil))) pa_nil)) (blkOk_by (N := N_law) (sc := defScope s_law) (by decide +kernel)) (fun _ _ _ _ _ => (pg_name (i := 13) nd rfl (Or.inl rfl))) (fun _ _ _ _ _ => pts_nil) (fun _ _ _ _ _ => (pe_ix ix_str pe_str (pe_call GT hr1 rfl T.g_law_take T.F_law_take.kp T.b_law_take .nil pass0 (pa_cons (pv 1) (pa_cons pe_int pa_nil))) (fun _ _ => rfl)))))) (pss_cons (ps_set (i := 4) nd rfl (Or.inl rfl) (pe_op op_add_str pe_str (pv 3))) (pss_cons (ps_set (i := 5) nd rfl (Or.inl rfl) (pe_op op_add_str pe_str (pv 3))) (pss_cons (ps_set (i := 6) nd rfl (Or.inl rfl) (pe_op op_add pe_int (pe_call GT hr1 rfl T.g_law_take T.F_law_take.kp T.b_law_take .nil pass0 (pa_cons (pv 1) (pa_cons pe_int pa_nil))))) (pss_cons (ps_set (i := 7) nd rfl (Or.inl rfl) (pe_op op_add_str (pv 2) (pe_call GDi hr2 rfl T.g_law_digits T.F_law_digits.kp T.b_law_digits .nil pass0 (pa_cons (pv 1) pa_nil)))) (pss_cons (ps_set (i := 8) nd rfl (Or.inl rfl) (pe_make T.m_Signature_init GSi hr4 rfl T.g_Signature T.b_Signature_init .nil pass0 (pa_cons (pe_lst (pa_cons (pe_tup (pa_cons (pe_op op_add_str pe_str (pv 3)) (pa_cons (pv 2) pa_nil))) pa_nil)) (pa_cons (pe_lst (pa_cons (pe_tup (pa_cons (pv 4) (pa_cons (pe_lst (pa_cons (pe_op op_add_str pe_str (pv 3)) pa_nil)) (pa_cons (pe_op op_add_str pe_str (pv 3)) pa_nil)))) (pa_cons (pe_tup (pa_cons (pv 5) (pa_cons (pe_lc (own := [("k", 13)]) (g := (gName 13)) (tt := tYes) rfl nd (pi_range1 (by rfl) T.range (pa_cons (pv 6) pa_nil)) (blkOk_by (N := N_law) (sc := defScope s_law) (by decide +kernel)) (fun _ _ _ _ _ => (pg_name (i := 13) nd rfl (Or.inl rfl))) (fun _ _ _ _ _ => pts_nil) (fun _ _ _ _ _ => (pe_op op_add_str pe_str (pv 3)))) (pa_cons (pe_op op_add_str pe_str (pv 3)) pa_nil)))) pa_nil))) pa_nil)))) (pss_cons (ps_set (i := 9) nd rfl (Or.inl rfl) (pe_make T.m_Terms_init GTi hr2 rfl T.g_Terms T.b_Terms_init .nil pass0 (pa_cons (pv 8) pa_nil))) (pss_cons (ps_set (i := 10) nd rfl (Or.inr rfl) (pe_call GS hr2 rfl T.g_law_small T.F_law_small.kp T.b_law_small .nil pass0 (pa_cons (pv 1) (pa_cons (pv 7) (pa_cons (pv 4) (pa_cons (pv 5) (pa_cons (pv 6) pa_nil))))))) (pss_cons (ps_set (i := 11) nd rfl (Or.inr rfl) (pe_call GB hr4 rfl T.g_law_built T.F_law_built.kp T.b_law_built .nil pass0 (pa_cons (pv 9) (pa_cons (pv 10) pa_nil)))) (pss_cons (ps_set (i := 12) nd rfl (Or.inl rfl) (pe_call GT hr1 rfl T.g_law_take T.F_law_take.kp T.b_law_take .nil pass0 (pa_cons (pv 1) (pa_cons pe_int pa_nil)))) (pss_cons (ps_if (pt_cmpR op_eq (pe_call GT hr1 rfl T.g_law_take T.F_law_take.kp T.b_law_take .nil pass0 (pa_cons (pv 1) (pa_cons pe_int pa_nil))) pe_int (nomark _)) (pss_one (ps_set (i := 12) nd rfl (Or.inl rfl) (pe_call GT hr1 rfl T.g_law_take T.F_law_take.kp T.b_law_take .nil pass0 (pa_cons (pv 1) (pa_cons pe_int pa_nil))))) pss_nil) (pss_cons (ps_for PassesOwn.never rfl (pi_range1 (by rfl) T.range (pa_cons (pv 12) pa_nil)) (pg_name (i := 13) nd rfl (Or.inl rfl)) (pss_one (ps_if (pt_cmpR op_gt (pe_call GT hr1 rfl T.g_law_take T.F_law_take.kp T.b_law_take .nil pass0 (pa_cons (pv 1) (pa_cons pe_int pa_nil))) pe_int (nomark _)) (pss_cons (ps_expr (pe_call GM hr1 rfl T.g_law_made T.F_law_made.kp T.b_law_made .nil pass0 (pa_cons (pv 10) (pa_cons (pv 5) (pa_cons (pe_lc (own := [("j", 18)]) (g := (gName 18)) (tt := tYes) rfl nd (pi_range1 (by rfl) T.range (pa_cons (pv 6) pa_nil)) (blkOk_by (N := N_law) (sc := defScope s_law) (by decide +kernel)) (fun _ _ _ _ _ => (pg_name (i := 18) nd rfl (Or.inl rfl))) (fun _ _ _ _ _ => pts_nil) (fun _ _ _ _ _ => (pe_op op_sub (pe_callB (r := rLenL K) call_len_seq (by rfl) T.len PySem.boot_len (pa_cons (pv 10) pa_nil)) pe_int))) pa_nil))))) (pss_one (ps_set (i := 11) nd rfl (Or.inr rfl) (pe_meth (pv 9) T.cl_Terms T.m_Terms_make GMk hr3 T.b_Terms_make .nil pass0 (pa_cons (pv 5) (pa_cons (pe_lc (own := [("j", 18)]) (g := (gName 18)) (tt := tYes) rfl nd (pi_range1 (by rfl) T.range (pa_cons (pv 6) pa_nil)) (blkOk_by (N := N_law) (sc := defScope s_law) (by decide +kernel)) (fun _ _ _ _ _ => (pg_name (i := 18) nd rfl (Or.inl rfl))) (fun _ _ _ _ _ => pts_nil) (fun _ _ _ _ _ => (pv 11))) pa_nil)))))) (pss_cons (ps_set (i := 14) nd rfl (Or.inl rfl) (pe_call GS hr2 rfl T.g_law_small T.F_law_small.kp T.b_law_small .nil pass0 (pa_cons (pv 1) (pa_cons (pv 7) (pa_cons (pv 4) (pa_cons (pv 5) (pa_cons (pv 6) pa_nil))))))) (pss_cons (ps_set (i := 11) nd rfl (Or.inr rfl) (pe_meth (pv 9) T.cl_Terms T.m_Terms_put_in GP hr5 T.b_Terms_put_in .nil pass0 (pa_cons (pe_call GB hr4 rfl T.g_law_built T.F_law_built.kp T.b_law_built .nil pass0 (pa_cons (pv 9) (pa_cons (pv 14) pa_nil))) (pa_cons (pe_disp (pps_cons (pv 7) (pv 11) pps_nil) (by rfl) (by rfl) (fun z => by cases z) (by decide)) pa_nil)))) (pss_one (ps_set (i := 10) nd rfl (Or.inr rfl) (pe_call GPl hr2 rfl T.g_law_put T.F_law_put.kp T.b_law_put .nil pass0 (pa_cons (pv 14) (pa_cons (pv 10) pa_nil)))))))))) (pss_cons (ps_if (pt_not (pt_val (pe_call GTe hr2 rfl T.g_law_tells T.F_law_tells.kp T.b_law_tells .nil pass0 (pa_cons (pv 9) (pa_cons (pv 11) (pa_cons (pv 10) (pa_cons (pv 7) pa_nil))))))) (pss_one (ps_ret pe_bl)) pss_nil) (pss_cons (ps_set (i := 15) nd rfl (Or.inl rfl) (pe_make T.m_Terms_init GTi hr2 rfl T.g_Terms T.b_Terms_init .nil pass0 (pa_cons (pv 8) pa_nil))) (pss_cons (ps_if (pt_not (pt_val (pe_call GTe hr2 rfl T.g_law_tells T.F_law_tells.kp T.b_law_tells .nil pass0 (pa_cons (pv 15) (pa_cons (pe_meth (pv 15) T.cl_Terms T.m_Terms_from_shared GF hr4 T.b_Terms_from_shared .nil (passes_call takes0 (fun _ _ _ _ h => h)) (pa_cons (pe_meth (pv 9) T.cl_Terms T.m_Terms_shared GSh hr1 T.b_Terms_shared .nil pass0 (pa_cons (pv 11) pa_nil)) pa_nil)) (pa_cons (pv 10) (pa_cons (pv 7) pa_nil))))))) (pss_one (ps_ret pe_bl)) pss_nil) (pss_cons (ps_set (i := 16) nd rfl (Or.inl rfl) (pe_call GS hr2 rfl T.g_law_small T.F_law_small.kp T.b_law_small .nil pass0 (pa_cons (pv 1) (pa_cons (pv 7) (pa_cons (pv 4) (pa_cons (pv 5) (pa_cons (pv 6) pa_nil))))))) (pss_cons (ps_set (i := 17) nd rfl (Or.inl rfl) (pe_meth (pv 9) T.cl_Terms T.m_Terms_put_in GP hr5 T.b_Terms_put_in .nil pass0 (pa_cons (pv 11) (pa_cons (pe_disp (pps_cons (pv 7) (pe_call GB hr4 rfl T.g_law_built T.F_law_built.kp T.b_law_built .nil pass0 (pa_cons (pv 9) (pa_cons (pv 16) pa_nil))) pps_nil) (by rfl) (by rfl) (fun z => by cases z) (by decide)) pa_nil)))) (pss_one (ps_ret (pe_and (pe_call GTe hr2 rfl T.g_law_tells T.F_law_tells.kp T.b_law_tells .nil pass0 (pa_cons (pv 9) (pa_cons (pv 17) (pa_cons (pe_call GPl hr2 rfl T.g_law_put T.F_law_put.kp T.b_law_put .nil pass0 (pa_cons (pv 10) (pa_cons (pv 16) pa_nil))) (pa_cons (pv 7) pa_nil))))) (pe_one (pe_call GSp hr rfl T.g_law_spoils T.F_law_spoils.kp T.b_law_spoils .nil pass0 (pa_cons (pv 1) (pa_cons (pv 15) (pa_cons (pv 10) (pa_cons (pv 4) (pa_cons (pv 5) (pa_cons (pv 6) pa_nil)))))))))))))))))))))))))))))), ?_⟩
    -- draws, capital
    refine ⟨_, rfl, a, ns, rfl, ha, fun H1 dr ds s1 ndr hd => ?_⟩
    refine ⟨_, rfl, dr, ds, 26, rfl, by decide, hd, fun H2 r2 ds2 b2 hd2 g2 l2 => ?_⟩
    obtain ⟨i2, rfl⟩ : ∃ i : Nat, r2 = i := ⟨r2.toNat, by omega⟩
    have hc26 : cCap.cps.toList.length = 26 := by decide +kernel
    have hi2 : i2 < cCap.cps.toList.length := by omega
    have hcap : capC cCap.cps.toList[i2] = true := dT (List.getElem_mem hi2)
    refine ⟨cCap, i2, cCap.cps.toList[i2], rfl, rfl, by decide +kernel, atI_nat (List.getElem?_eq_getElem hi2), ?_⟩
    generalize cCap.cps.toList[i2] = c0 at hcap
    -- rest
    refine ⟨⟨_, rfl⟩, _, rfl, dr, ds2, 23, rfl, by decide, hd2, fun H3 r3 ds3 b3 hd3 g3 l3 => ?_⟩
    obtain ⟨n3, rfl⟩ : ∃ i : Nat, r3 = i := ⟨r3.toNat, by omega⟩
    refine ⟨_, rfl, by omega, by omega, fun D1 nD1 => lc_range (lo := 0) (n := n3) (fun j Hx => ∃ (cl : List Nat) (dx : List Int), But (· = dr) H3 Hx ∧ Hx dr = some (.lst (dx.map V.int)) ∧ Hx D1 = some (.lst ((cl.map fun c => (⟨#[c]⟩ : Str)).map V.str)) ∧ cl.length = j ∧ ∀ c ∈ cl, c = 120 ∨ c = 121 ∨ c = 122 ∨ c = 48 ∨ c = 53) ⟨[], ds3, But.of_same (Same.new nD1), by rw [upd_ne (ne_of_none hd3 nD1)]; exact hd3, upd_same, rfl, fun _ h => absurd h List.not_mem_nil⟩ ?_ ?_⟩
    · rintro j Hx hj ⟨cl, dx, bx, hdx, hDx, hl, hall⟩
      have nDd : D1 ≠ dr := (ne_of_none hd3 nD1).symm
      refine ⟨rfl, _, rfl, dr, dx, 5, rfl, by decide, hdx, fun H4 r ds4 b4 hd4 h0 h10 => ?_⟩
      obtain ⟨q, rfl⟩ : ∃ q : Nat, r = q := ⟨r.toNat, by omega⟩
      have hq : q < ("xyz05" : Str).cps.toList.length := by
        have : ("xyz05" : Str).cps.toList.length = 5 := by decide +kernel
        omega
      refine ⟨"xyz05", q, ("xyz05" : Str).cps.toList[q], rfl, rfl, by decide +kernel, atI_nat (List.getElem?_eq_getElem hq), _, b4.at hDx nDd, ?_, cl ++ [("xyz05" : Str).cps.toList[q]], ds4, (bx.trans b4).own nD1, by rw [upd_ne nDd.symm]; exact hd4, ?_, by rw [List.length_append, hl]; rfl, ?_⟩
      · have : ((cl.map fun c => (⟨#[c]⟩ : Str)).map V.str).length < 16777216 := by rw [List.length_map, List.length_map]; omega
        exact this
      · rw [upd_same, List.map_append, List.map_append]
        rfl
      · intro c hc
        rcases List.mem_append.mp hc with hc | hc
        · exact hall c hc
        · rw [List.mem_singleton.mp hc]
          exact rest_of hq
    rintro H4 ⟨cl, dx, b4, hd4, hD4, hl4, hall4⟩
    refine ⟨"", D1, cl.map fun c => (⟨#[c]⟩ : Str), rfl, rfl, .inl (SqL.of hD4), ?_, ?_⟩
    · have q := sum_le (l := (cl.map fun c => (⟨#[c]⟩ : Str)).map (·.length)) (n := 1) (by
        intro x hx
        obtain ⟨y, hy, rfl⟩ := List.mem_map.mp hx
        obtain ⟨c, _, rfl⟩ := List.mem_map.mp hy
        exact Nat.le_refl _)
      rw [List.length_map, List.length_map] at q
      rw [List.length_map]
      have e0 : ("" : Str).length = 0 := rfl
      rw [e0]
      omega
    have hx3 := join_one cl
    generalize Txt.join "" (cl.map fun c => (⟨#[c]⟩ : Str)) = x3 at hx3
    have hrest : RestOk x3.cps.toList := by rw [hx3]; exact ⟨hall4, by omega⟩
    have hx3l : x3.length ≤ 22 := by rw [len_cps, hx3]; omega
    have l1 : ∀ z : Str, z.length ≤ 1 → z.length + x3.length ≤ sizeLine := fun z hz => by
      have h : (16777216 : Nat) = sizeLine := rfl
      omega
    -- one, many, arity
    refine ⟨_, rfl, _, _, rfl, rfl, l1 _ (by decide +kernel), _, rfl, _, _, rfl, rfl, l1 _ (by decide +kernel), ?_⟩
    refine ⟨_, rfl, dr, dx, 4, rfl, by decide, hd4, fun H5 r5 ds5 b5 hd5 g5 l5 => ?_⟩
    obtain ⟨ar0, rfl⟩ : ∃ i : Nat, r5 = i := ⟨r5.toNat, by omega⟩
    refine ⟨_, _, rfl, rfl, ?_⟩
    -- the letter
    refine ⟨_, rfl, _, rfl, dr, ds5, rfl, hd5, fun H6 xd ds6 b6 hd6 hdig => ⟨_, _, rfl, rfl, ?_, ?_⟩⟩
    · have := hdig.2.2.1
      rw [← len_cps] at this
      have h : (16777216 : Nat) = sizeLine := rfl
      have h1 : (⟨#[c0]⟩ : Str).length = 1 := rfl
      omega
    obtain ⟨hp, nS, lS, n1, n2, hno⟩ := par_ok (ar := 1 + ar0) hcap hdig hrest (by omega) (by omega)
    -- the signature
    have ls := l1 "s" (by decide +kernel)
    refine ⟨_, rfl, _, _, rfl, rfl, ls, _, rfl, (by show 2 ≤ sizeLine; decide), fun s0 m0 => ⟨(by show 1 ≤ sizeLine; decide), fun sl m1 => ?_⟩⟩
    have w0 := Same.new (o := .tup [.str ("s" ++ x3), .str ⟨#[c0]⟩]) m0
    have w1 := Same.new (o := .lst [.ref s0]) m1
    refine ⟨_, rfl, _, rfl, _, _, rfl, rfl, ls, (by show 1 ≤ sizeLine; decide), fun a1 m2 => ⟨_, rfl, _, _, rfl, rfl, ls, (by show 3 ≤ sizeLine; decide), fun g1 m3 => ?_⟩⟩
    have w2 := Same.new (o := .lst [.str ("s" ++ x3)]) m2
    have w3 := Same.new (o := .tup [.str ("p" ++ x3), .ref a1, .str ("s" ++ x3)]) m3
    refine ⟨_, rfl, _, rfl, ((1 + ar0 : Nat) : Int), rfl, by omega, by omega, fun a2 m4 => lc_range (lo := 0) (n := 1 + ar0) (fun j Hx => Hx = upd (upd (upd (upd (upd H6 s0 (.tup [.str ("s" ++ x3), .str ⟨#[c0]⟩])) sl (.lst [.ref s0])) a1 (.lst [.str ("s" ++ x3)])) g1 (.tup [.str ("p" ++ x3), .ref a1, .str ("s" ++ x3)])) a2 (.lst (List.replicate j (.str ("s" ++ x3))))) rfl ?_ ?_⟩
    · rintro j Hx hj rfl
      refine ⟨rfl, _, rfl, _, _, rfl, rfl, ls, _, upd_same, ?_, ?_⟩
      · have : (List.replicate j (V.str ("s" ++ x3))).length < 16777216 := by rw [List.length_replicate]; omega
        exact this
      · rw [upd_upd, List.replicate_succ']
    rintro Hx rfl
    have w4 := Same.new (o := .lst (List.replicate (1 + ar0) (.str ("s" ++ x3)))) m4
    refine ⟨_, rfl, _, _, rfl, rfl, ls, (by show 3 ≤ sizeLine; decide), fun g2 m5 => ⟨(by show 2 ≤ sizeLine; decide), fun gl m6 => ?_⟩⟩
    have w5 := Same.new (o := .tup [.str ("q" ++ x3), .ref a2, .str ("s" ++ x3)]) m5
    have w6 := Same.new (o := .lst [.ref g1, .ref g2]) m6
    have w56 := Same.trans' w5 w6
    have w46 := Same.trans' w4 w56
    have w36 := Same.trans' w3 w46
    have w26 := Same.trans' w2 w36
    have w16 := Same.trans' w1 w26
    have e0 := w16 _ _ upd_same
    have e1 := w26 _ _ upd_same
    have e2 := w36 _ _ upd_same
    have e3 := w46 _ _ upd_same
    have e4 := w56 _ _ upd_same
    have e5 := w6 _ _ upd_same
    have w06 : Same H6 _ := Same.trans' w0 w16
    have e6 : upd (upd (upd (upd (upd (upd (upd H6 s0 (.tup [.str ("s" ++ x3), .str ⟨#[c0]⟩])) sl (.lst [.ref s0])) a1 (.lst [.str ("s" ++ x3)])) g1 (.tup [.str ("p" ++ x3), .ref a1, .str ("s" ++ x3)])) a2 (.lst (List.replicate (1 + ar0) (.str ("s" ++ x3))))) g2 (.tup [.str ("q" ++ x3), .ref a2, .str ("s" ++ x3)])) gl (.lst [.ref g1, .ref g2]) gl = some (.lst [.ref g1, .ref g2]) := upd_same
    generalize upd (upd (upd (upd (upd (upd (upd H6 s0 (.tup [.str ("s" ++ x3), .str ⟨#[c0]⟩])) sl (.lst [.ref s0])) a1 (.lst [.str ("s" ++ x3)])) g1 (.tup [.str ("p" ++ x3), .ref a1, .str ("s" ++ x3)])) a2 (.lst (List.replicate (1 + ar0) (.str ("s" ++ x3))))) g2 (.tup [.str ("q" ++ x3), .ref a2, .str ("s" ++ x3)])) gl (.lst [.ref g1, .ref g2]) = H7 at e0 e1 e2 e3 e4 e5 e6 w06
    have hd7 := w06 _ _ hd6
    clear w0 w1 w2 w3 w4 w5 w6 w56 w46 w36 w26 w16 m0 m1 m2 m3 m4 m5 m6
    intro gs dx nx ndx nex
    have s8 : Same H7 (upd (upd H7 dx (.own gs)) gs (.ins D.c_Signature dx [])) := fun b o e => by
      rw [upd_ne (ne_of_none e nx), upd_ne (ne_of_none e ndx)]
      exact e
    refine ⟨gs, dx, sl, gl, s0, g1, g2, a1, a2, _, rfl, upd_same, hp, nS, lS, n1, n2, s8 _ _ e1, s8 _ _ e0, s8 _ _ e6, s8 _ _ e3, s8 _ _ e5, s8 _ _ e2, s8 _ _ e4, fun H8 b8 hG8 => ⟨rfl, ?_⟩⟩
    have hd8 : H8 dr = some (.lst (ds6.map V.int)) := b8.at (s8 _ _ hd7) (ne_of_none hd7 nx)
    -- the names by their letters
    have q1 : ((⟨#[c0]⟩ : Str) ++ xd) = (⟨(⟨#[c0]⟩ : Str) ++ xd, "s" ++ x3, "p" ++ x3, "q" ++ x3, c0, 1 + ar0⟩ : Par).L := rfl
    have q2 : ("p" ++ x3 : Str) = (⟨(⟨#[c0]⟩ : Str) ++ xd, "s" ++ x3, "p" ++ x3, "q" ++ x3, c0, 1 + ar0⟩ : Par).one := rfl
    have q3 : ("q" ++ x3 : Str) = (⟨(⟨#[c0]⟩ : Str) ++ xd, "s" ++ x3, "p" ++ x3, "q" ++ x3, c0, 1 + ar0⟩ : Par).many := rfl
    have q4 : (1 + (ar0 : Int)) = ((⟨(⟨#[c0]⟩ : Str) ++ xd, "s" ++ x3, "p" ++ x3, "q" ++ x3, c0, 1 + ar0⟩ : Par).ar : Int) := by show (1 : Int) + ar0 = ((1 + ar0 : Nat) : Int); omega
    clear e0 e1 e2 e3 e4 e5 e6
    generalize (⟨(⟨#[c0]⟩ : Str) ++ xd, "s" ++ x3, "p" ++ x3, "q" ++ x3, c0, 1 + ar0⟩ : Par) = p at hp hno q1 q2 q3 q4 hG8
    rw [q1, q2, q3, show (fun (i j : Int) => V.int (i + j)) 1 (ar0 : Int) = V.int (p.ar : Int) from by show V.int _ = _; rw [q4]]
    clear q1 q2 q3 q4 nS lS n1 n2 ls l1
    have har4 := hp.ar4
    -- the store
    refine ⟨_, rfl, ?_⟩
    intro t dt nt ndt net
    have s9 : Same H8 (upd (upd H8 dt (.own t)) t (.ins D.c_Terms dt [])) := fun b o e => by
      rw [upd_ne (ne_of_none e nt), upd_ne (ne_of_none e ndt)]
      exact e
    refine ⟨t, gs, dt, p, rfl, upd_same, fun H9 A b9 nA S9 => ⟨rfl, ?_⟩⟩
    have hd9 : H9 dr = some (.lst (ds6.map V.int)) := b9.at (s9 _ _ hd8) (ne_of_none hd8 nt)
    have hG9 : SigAt D p H9 gs := hG8.keep fun a o e _ _ => b9.at (s9 _ _ e) (ne_of_none e nt)
    have ndrM : ¬ A.M dr := fun m => by
      have := nA dr m
      rw [s9 _ _ hd8] at this
      cases this
    have ntd : ∀ {Hx : Hp} {cx : List Ch} {dl : List Int}, StoreAt D p Hx t gs A cx → Hx dr = some (.lst (dl.map V.int)) → t ≠ dr := fun S e q => by
      obtain ⟨dx, tx, h0⟩ := S.ob
      rw [q, e] at h0
      cases h0
    -- what changes with a draw
    have drawS : ∀ {Hx Hy : Hp} {cx : List Ch} {dl : List Int}, StoreAt D p Hx t gs A cx → Hx dr = some (.lst (dl.map V.int)) → But (· = dr) Hx Hy → StoreAt D p Hy t gs A cx := fun S e b => S.but b (fun a m q => ndrM (q ▸ m)) (ntd S e)
    have drawG : ∀ {Hx Hy : Hp} {dl : List Int}, SigAt D p Hx gs → Hx dr = some (.lst (dl.map V.int)) → But (· = dr) Hx Hy → SigAt D p Hy gs := fun G e b => G.keep fun a o ea n1 n2 => b.at ea fun q => by rw [q, e] at ea; cases ea; exact n2 _ rfl
    -- rows, number
    refine ⟨_, rfl, _, rfl, _, rfl, _, rfl, _, rfl, dr, p, ds6, rfl, hp, hd9, fun H10 rl c ds10 b10 nrl hR10 hc10 hd10 => ?_⟩
    have S10 := drawS S9 hd9 b10
    have hG10 := drawG hG9 hd9 b10
    have nrM : ¬ A.M rl := S9.not_m_free nrl
    have nrd : rl ≠ dr := (ne_of_none hd9 nrl).symm
    refine ⟨_, rfl, _, rfl, t, gs, rl, p, A, [], c, rfl, hp, S10, hG10, hR10, nrM, by show 0 + c.length + 1 ≤ 20000; omega, fun H11 cs11 b11 S11 ext11 hc11 l11 => ?_⟩
    have hd11 := b11.at hd10 ndrM
    have hG11 : SigAt D p H11 gs := hG10.but S10 b11
    have hR11 : RowsL p H11 rl c := hR10.but b11 nrM
    refine ⟨_, rfl, dr, ds10, 9, rfl, by decide, hd11, fun H12 r12 ds12 b12 hd12 g12 l12 => ?_⟩
    obtain ⟨n12, rfl⟩ : ∃ i : Nat, r12 = i := ⟨r12.toNat, by omega⟩
    refine ⟨_, rfl, dr, ds12, 3, rfl, by decide, hd12, fun H13 r13 ds13 b13 hd13 g13 l13 => ⟨rfl, _, rfl, ifC (fun _ => ?_) (fun _ => ?_)⟩⟩
    · refine ⟨_, rfl, dr, ds13, 121, rfl, by decide, hd13, fun H14 r14 ds14 b14 hd14 g14 l14 => ?_⟩
      obtain ⟨nz, rfl⟩ : ∃ i : Nat, r14 = i := ⟨r14.toNat, by omega⟩
      have Sz := drawS (drawS (drawS S11 hd11 b12) hd12 b13) hd13 b14
      have Gz := drawG (drawG (drawG hG11 hd11 b12) hd12 b13) hd13 b14
      have Rz := ((hR11.but b12 nrd).but b13 nrd).but b14 nrd
      have hdz := hd14
      change (([] : List Ch).length + c.length + 1) ≥ cs11.length at l11
      rw [List.length_nil] at l11
      refine ⟨_, rfl, (nz : Int), rfl, by omega, by omega, for_range (lo := 0) (n := nz) (fun i σ Hx => ∃ (rl : Addr) (c : Ch) (cs : List Ch) (dl : List Int) (u13 u14 : Option V), σ = [some (.ref a), some (.ref dr), some (.str ⟨#[c0]⟩), some (.str x3), some (.str p.one), some (.str p.many), some (.int p.ar), some (.str p.L), some (.ref gs), some (.ref t), some (.ref rl), some (.int (num cs c)), some (.int (nz : Int)), u13, u14, none, none, none, none] ∧ StoreAt D p Hx t gs A cs ∧ SigAt D p Hx gs ∧ RowsL p Hx rl c ∧ c ∈ cs ∧ Hx dr = some (.lst (dl.map V.int)) ∧ ¬ A.M rl ∧ rl ≠ dr ∧ c.length ≤ 3 + 3 * i ∧ cs.length ≤ 4 + 10 * i)
        ⟨rl, c, cs11, _, _, _, rfl, Sz, Gz, Rz, hc11, hdz, nrM, nrd, by omega, by omega⟩ ?_ ?_⟩
      · clear Sz Gz Rz hdz hR10 hR11 nrM nrd hc11 hc10 ext11 l11 nrl
        rintro i σ Hx hi ⟨rl, c, cs, dl, u13, u14, rfl, Sx, Gx, Rx, hc, hdx, nrM, nrd, lc, lcs⟩
        refine ⟨_, rfl, dr, dl, 3, rfl, by decide, hdx, fun I1 r1 dl1 c1 hd1 _ _ => ⟨_, _, rfl, rfl, _, rfl, ?_⟩⟩
        have T1 := drawS Sx hdx c1
        have G1 := drawG Gx hdx c1
        have R1 : RowsL p I1 rl c := Rx.but c1 nrd
        clear Sx Gx Rx hdx c1
        obtain ⟨dx1, tx1, h01⟩ := T1.ob
        refine ifC (fun _ => ?_) (fun _ => ?_)
        · obtain ⟨rs, hrl1, hrows1⟩ := id R1
          have hln : ((rs.map V.ref).length : Int) - 1 = (c.length : Int) := by rw [List.length_map, hrows1.1, Par.rows_len]; omega
          refine ⟨_, rfl, _, rfl, _, rfl, p.ar, rfl, by omega, by omega, fun pl npl => lc_range (lo := 0) (n := p.ar) (fun j Hy => Hy = upd I1 pl (.lst (List.replicate j (.int c.length)))) rfl ?_ ?_⟩
          · rintro j Hy hj rfl
            refine ⟨rfl, _, rfl, rl, _, rfl, .inl (SqL.of (Same.new npl _ _ hrl1)), _, _, rfl, rfl, _, upd_same, ?_, ?_⟩
            · have : (List.replicate j (V.int c.length)).length < 16777216 := by rw [List.length_replicate]; omega
              exact this
            · rw [upd_upd, List.replicate_succ', ← hln]
          rintro Hy rfl
          have t1 := Same.new (o := .lst (List.replicate p.ar (.int c.length))) npl
          refine ⟨rl, pl, p, c, true, rfl, hp, R1.same t1, by omega, upd_same, fun I2 c2 R2 => ?_⟩
          have nrt : t ≠ rl := ne_of h01 hrl1 nofun
          have T2 : StoreAt D p I2 t gs A cs := (T1.same t1).but c2 (fun a m q => nrM (q ▸ m)) nrt
          have G2 : SigAt D p I2 gs := (G1.same t1).keep fun a o e n1 n2 => c2.at e fun q => by
            rw [q, t1 _ _ hrl1] at e
            cases e
            exact n2 _ rfl
          have hd2 := c2.at (t1 _ _ hd1) nrd.symm
          obtain ⟨dx2, tx2, h02⟩ := T2.ob
          refine ⟨_, rfl, t, dx2, _, rfl, h02, rfl, _, rfl, _, rfl, p.ar, rfl, by omega, by omega, fun D2 nD2 => lc_range (lo := 0) (n := p.ar) (fun j Hy => Hy = upd I2 D2 (.lst (List.replicate j (.int (num cs c))))) rfl ?_ ?_⟩
          · rintro j Hy hj rfl
            refine ⟨rfl, _, rfl, _, upd_same, ?_, ?_⟩
            · have : (List.replicate j (V.int (num cs c))).length < 16777216 := by rw [List.length_replicate]; omega
              exact this
            · rw [upd_upd, List.replicate_succ']
          rintro Hy rfl
          have t3 := Same.new (o := .lst (List.replicate p.ar (.int (num cs c)))) nD2
          refine ⟨t, gs, D2, p, A, cs, c, true, rfl, hp, T2.same t3, G2.same t3, by omega, hc, upd_same, T2.not_m_free nD2, fun I4 c4 T4 => ?_⟩
          have la := add_len (cs := cs) (c := c ++ [true])
          exact ⟨rl, c ++ [true], add cs (c ++ [true]), dl1, _, _, rfl, T4, (G2.same t3).but (T2.same t3) c4, (R2.same t3).but c4 nrM, mem_add, c4.at (t3 _ _ hd2) ndrM, nrM, nrd, by rw [List.length_append, List.length_singleton]; omega, by omega⟩
        · refine ⟨_, rfl, _, rfl, _, rfl, _, rfl, _, rfl, dr, p, dl1, rfl, hp, hd1, fun I2 ol o dl2 c2 nol R2 lo hd2 => ?_⟩
          have T2 := drawS T1 hd1 c2
          have G2 := drawG G1 hd1 c2
          have Rr2 := R1.but c2 nrd
          have nolM : ¬ A.M ol := T1.not_m_free nol
          obtain ⟨dx2, tx2, h02⟩ := T2.ob
          refine ⟨_, rfl, t, dx2, _, rfl, h02, rfl, _, rfl, _, rfl, t, gs, ol, p, A, cs, o, rfl, hp, T2, G2, R2, nolM, by omega, fun I3 cs3 c3 T3 ext3 ho3 l3 => ?_⟩
          have G3 : SigAt D p I3 gs := G2.but T2 c3
          have hd3 := c3.at hd2 ndrM
          have Ro3 := R2.but c3 nolM
          have Rr3 := Rr2.but c3 nrM
          refine fun fl nfl => ⟨_, rfl, _, rfl, upd_same, [(Sum.inr p.L, .int (num cs c))], rfl, (by show 1 ≤ 15; decide), ?_⟩
          rw [upd_upd]
          have t4 := Same.new (o := .dK [(Sum.inr p.L, .int (num cs c))]) nfl
          refine ⟨t, gs, fl, p, A, cs3, c, o, rfl, hp, T3.same t4, G3.same t4, ho3, (ext3 c hc).1, by omega, by rw [(ext3 c hc).2]; exact upd_same, fun I5 cs5 c5 T5 ext5 hm5 l5 => ?_⟩
          have G5 : SigAt D p I5 gs := (G3.same t4).but (T3.same t4) c5
          have hd5 := c5.at (t4 _ _ hd3) ndrM
          refine ⟨_, rfl, _, rfl, ol, rl, p, c, o, rfl, hp, (Ro3.same t4).but c5 nolM, (Rr3.same t4).but c5 nrM, by omega, fun I6 fo t6 nfo R6 => ?_⟩
          exact ⟨fo, c ++ o, cs5, dl2, _, _, rfl, T5.same t6, G5.same t6, R6, hm5, t6 _ _ hd5, T5.not_m_free nfo, (ne_of_none hd5 nfo).symm, by rw [List.length_append]; omega, by omega⟩
      · clear Sz Gz Rz hdz hR10 hR11 nrM nrd hc11 hc10 ext11 l11 nrl
        rintro σ Hx ⟨rl, c, cs, dl, u13, u14, rfl, Sx, Gx, Rx, hc, hdx, nrM, nrd, lc, lcs⟩
        refine ⟨_, rfl, _, rfl, _, rfl, _, rfl, t, gs, rl, p, A, cs, c, rfl, hp, Sx, hc, Rx, by omega, fun I1 t1 => ⟨_, rfl, ifF rfl ⟨_, rfl, ?_⟩⟩⟩
        have S1 := Sx.same t1
        have G1 := Gx.same t1
        have R1 := Rx.same t1
        have hd1 := t1 _ _ hdx
        clear Sx Gx Rx hdx t1
        -- another store
        intro t2 dt2 nt2 ndt2 net2
        have s2 : Same I1 (upd (upd I1 dt2 (.own t2)) t2 (.ins D.c_Terms dt2 [])) := fun b o e => by
          rw [upd_ne (ne_of_none e nt2), upd_ne (ne_of_none e ndt2)]
          exact e
        refine ⟨t2, gs, dt2, p, rfl, upd_same, fun I2 A2 c2 nA2 S2 => ⟨rfl, ?_⟩⟩
        have old : ∀ a o, I1 a = some o → I2 a = some o := fun a o e => c2.at (s2 _ _ e) (ne_of_none e nt2)
        have nA2' : ∀ a o, I1 a = some o → ¬ A2.M a := fun a o e m => by
          have := nA2 a m
          rw [s2 _ _ e] at this
          cases this
        have S12 : StoreAt D p I2 t gs A cs := S1.same old
        have G2 : SigAt D p I2 gs := G1.same old
        have R2 : RowsL p I2 rl c := R1.same old
        have hd2 := old _ _ hd1
        obtain ⟨rs, hrl1, hrows1⟩ := id R1
        have nr2 : ¬ A2.M rl := nA2' _ _ hrl1
        have nd2 : ¬ A2.M dr := nA2' _ _ hd1
        obtain ⟨dx1, tx1, h01⟩ := S1.ob
        have ntA2 : ¬ A2.M t := nA2' _ _ h01
        have dis : ∀ a, A.M a → ¬ A2.M a := fun a m => by
          rcases S1.kind m with ⟨q, e⟩ | ⟨q, e⟩
          · exact nA2' _ _ e
          · exact nA2' _ _ e
        obtain ⟨dx2, tx2, h02⟩ := S2.ob
        refine ⟨_, rfl, _, rfl, t2, dx2, _, rfl, h02, rfl, _, rfl, t, dx1, _, rfl, old _ _ h01, rfl, _, rfl, t, gs, p, A, cs, c, rfl, hp, S12, hc, by omega, fun sa I3 ss t3 hsa hss => ?_⟩
        refine ⟨t2, gs, sa, p, A2, [], ss, p.rows c, .inl c, rfl, hp, S2.same t3, G2.same t3, by rw [Par.rows_len]; show 0 + _ ≤ 20000; omega, hsa, hss, rows_fl hp, fromV_self, fun c' e I4 cs4 c4 S4 _ hm4 l4 => ?_, fun m e => (nomatch e)⟩
        cases e
        rw [Par.rows_len, List.length_nil] at l4
        have S14 : StoreAt D p I4 t gs A cs := (S12.same t3).but c4 dis ntA2
        have G4 : SigAt D p I4 gs := (G2.same t3).but (S2.same t3) c4
        have R4 : RowsL p I4 rl c := (R2.same t3).but c4 nr2
        have hd4 := c4.at (t3 _ _ hd2) nd2
        refine ⟨_, rfl, _, rfl, t2, gs, rl, p, A2, cs4, c, rfl, hp, S4, hm4, R4, by omega, fun I5 t5 => ⟨_, rfl, ifF rfl ?_⟩⟩
        have S15 := S14.same t5
        have S5 := S4.same t5
        have G5 := G4.same t5
        have R5 := R4.same t5
        have hd5 := t5 _ _ hd4
        -- one more put in
        refine ⟨_, rfl, _, rfl, _, rfl, _, rfl, _, rfl, dr, p, dl, rfl, hp, hd5, fun I6 il o dl6 c6 nil6 Ro6 lo hd6 => ?_⟩
        have S16 := drawS S15 hd5 c6
        have G6 := drawG G5 hd5 c6
        have nt2d : t2 ≠ dr := (ne_of_none hd1 nt2).symm
        have S6 : StoreAt D p I6 t2 gs A2 cs4 := S5.but c6 (fun a m q => nd2 (q ▸ m)) nt2d
        have R6 := R5.but c6 nrd
        have nilM : ¬ A.M il := S15.not_m_free nil6
        have nilM2 : ¬ A2.M il := S5.not_m_free nil6
        obtain ⟨dx6, tx6, h06⟩ := S16.ob
        refine ⟨_, rfl, t, dx6, _, rfl, h06, rfl, _, rfl, fun fl nfl => ?_⟩
        have t7 := Same.new (o := .dK []) nfl
        have nflM : ¬ A.M fl := S16.not_m_free nfl
        refine ⟨_, rfl, _, rfl, _, rfl, t, gs, il, p, A, cs, o, rfl, hp, S16.same t7, G6.same t7, Ro6.same t7, nilM, by omega, fun I8 cs8 c8 S8 ext8 ho8 l8 => ?_⟩
        have hfl8 := c8.at upd_same nflM
        refine ⟨hfl8, [(Sum.inr p.L, .int (num cs8 o))], rfl, (by show 1 ≤ 15; decide), ?_⟩
        have G8 : SigAt D p I8 gs := (G6.same t7).but (S16.same t7) c8
        have hd8' := c8.at (t7 _ _ hd6) ndrM
        have dis' : ∀ a, A2.M a → ¬ A.M a := fun a m m' => dis a m' m
        obtain ⟨dx26, tx26, h026⟩ := S6.ob
        have nt2M : ¬ A.M t2 := S16.not_m h026 (fun _ => nofun) (fun _ => nofun)
        have S28 : StoreAt D p I8 t2 gs A2 cs4 := (S6.same t7).but c8 dis' nt2M
        have R8 := (R6.same t7).but c8 nrM
        have Ro8 := (Ro6.same t7).but c8 nilM
        have nflM2 : ¬ A2.M fl := S6.not_m_free nfl
        have b9 : But (· = fl) I8 (upd I8 fl (.dK (mergeK [] [(Sum.inr p.L, .int (num cs8 o))]))) := (But.refl I8).mut rfl hfl8 (fun _ => nofun)
        have S9' := S8.beside (o := .dK (mergeK [] [(Sum.inr p.L, .int (num cs8 o))])) hfl8 nflM (fun _ => nofun) (fun _ _ _ => nofun)
        have S29 := S28.beside (o := .dK (mergeK [] [(Sum.inr p.L, .int (num cs8 o))])) hfl8 nflM2 (fun _ => nofun) (fun _ _ _ => nofun)
        have keepL : ∀ b xs, I8 b = some (.lst xs) → b ≠ fl := fun b xs e q => by rw [q, hfl8] at e; cases e
        obtain ⟨rs8, hrl8, _⟩ := id R8
        obtain ⟨ro8, hil8, _⟩ := id Ro8
        have R9 := R8.but b9 (keepL _ _ hrl8)
        have Ro9 := Ro8.but b9 (keepL _ _ hil8)
        have hd9' := b9.at hd8' (keepL _ _ hd8')
        have hfl9 : upd I8 fl (.dK (mergeK [] [(Sum.inr p.L, .int (num cs8 o))])) fl = some (.dK [(Sum.inr p.L, .int (num cs8 o))]) := upd_same
        -- the dict is none of the signature's
        have G9 : SigAt D p (upd I8 fl (.dK (mergeK [] [(Sum.inr p.L, .int (num cs8 o))]))) gs := by
          have G7 : SigAt D p I6 gs := G6
          refine ⟨?_⟩
          obtain ⟨dx, dC, dS, dA, dR, ts, tg, sd, e0, ⟨kS, e1, v1⟩, ⟨kA, e2, v2⟩, kR, e3, v3, v4⟩ := G7.ob
          have up : ∀ b u, I6 b = some u → (∀ k, u ≠ .dT k) → (∀ xs, u ≠ .lst xs) → upd I8 fl (.dK (mergeK [] [(Sum.inr p.L, .int (num cs8 o))])) b = some u := fun b u e n1 n2 => by
            rw [upd_ne (ne_of_none e nfl)]
            exact c8.at (t7 _ _ e) ((S16.same t7).not_m (t7 _ _ e) n1 n2)
          exact ⟨dx, dC, dS, dA, dR, ts, tg, sd, up _ _ e0 (fun _ => nofun) (fun _ => nofun), ⟨kS, up _ _ e1 (fun _ => nofun) (fun _ => nofun), v1⟩, ⟨kA, up _ _ e2 (fun _ => nofun) (fun _ => nofun), fun b => let ⟨q, x, y⟩ := v2 b; ⟨q, x, up _ _ y (fun _ => nofun) (fun _ => nofun)⟩⟩, kR, up _ _ e3 (fun _ => nofun) (fun _ => nofun), v3, v4⟩
        clear b9
        generalize upd I8 fl (.dK (mergeK [] [(Sum.inr p.L, .int (num cs8 o))])) = I9 at S9' S29 R9 Ro9 hd9' hfl9 G9
        refine ⟨t, gs, fl, p, A, cs8, o, c, by rw [(ext8 c hc).2]; rfl, hp, S9', G9, (ext8 c hc).1, ho8, by omega, hfl9, fun J1 cs10 c10 S10' ext10 hm10 l10' => ?_⟩
        have G10 : SigAt D p J1 gs := G9.but S9' c10
        have R10 := R9.but c10 nrM
        have Ro10 := Ro9.but c10 nilM
        have hd10' := c10.at hd9' ndrM
        have S210 : StoreAt D p J1 t2 gs A2 cs4 := S29.but c10 dis' nt2M
        refine ⟨_, rfl, _, rfl, _, rfl, _, rfl, rl, il, p, o, c, rfl, hp, R10, Ro10, by omega, fun J2 fo t11 nfo R11 => ?_⟩
        refine ⟨_, rfl, t, gs, fo, p, A, cs10, o ++ c, rfl, hp, S10'.same t11, hm10, R11, by rw [List.length_append]; omega, fun J3 t12 => ⟨_, rfl, ifT rfl ?_⟩⟩
        have t13 := Same.trans' t11 t12
        exact ⟨_, rfl, _, rfl, _, rfl, _, rfl, _, rfl, _, rfl, dr, t2, gs, rl, p, A2, cs4, c, dl6, rfl, hp, S210.same t13, G10.same t13, t13 _ _ hd10', R10.same t13, nr2, nd2, by omega, hno, fun Hq => k Hq⟩
    · obtain ⟨nz, hnz⟩ : ∃ nz : Nat, nz = n12 := ⟨_, rfl⟩
      subst hnz
      have Sz := drawS (drawS S11 hd11 b12) hd12 b13
      have Gz := drawG (drawG hG11 hd11 b12) hd12 b13
      have Rz := (hR11.but b12 nrd).but b13 nrd
      have hdz := hd13
      rw [List.length_nil] at l11
      refine ⟨_, rfl, (nz : Int), rfl, by omega, by omega, for_range (lo := 0) (n := nz) (fun i σ Hx => ∃ (rl : Addr) (c : Ch) (cs : List Ch) (dl : List Int) (u13 u14 : Option V), σ = [some (.ref a), some (.ref dr), some (.str ⟨#[c0]⟩), some (.str x3), some (.str p.one), some (.str p.many), some (.int p.ar), some (.str p.L), some (.ref gs), some (.ref t), some (.ref rl), some (.int (num cs c)), some (.int (nz : Int)), u13, u14, none, none, none, none] ∧ StoreAt D p Hx t gs A cs ∧ SigAt D p Hx gs ∧ RowsL p Hx rl c ∧ c ∈ cs ∧ Hx dr = some (.lst (dl.map V.int)) ∧ ¬ A.M rl ∧ rl ≠ dr ∧ c.length ≤ 3 + 3 * i ∧ cs.length ≤ 4 + 10 * i)
        ⟨rl, c, cs11, _, _, _, rfl, Sz, Gz, Rz, hc11, hdz, nrM, nrd, by omega, by omega⟩ ?_ ?_⟩
      · clear Sz Gz Rz hdz hR10 hR11 nrM nrd hc11 hc10 ext11 l11 nrl
        rintro i σ Hx hi ⟨rl, c, cs, dl, u13, u14, rfl, Sx, Gx, Rx, hc, hdx, nrM, nrd, lc, lcs⟩
        refine ⟨_, rfl, dr, dl, 3, rfl, by decide, hdx, fun I1 r1 dl1 c1 hd1 _ _ => ⟨_, _, rfl, rfl, _, rfl, ?_⟩⟩
        have T1 := drawS Sx hdx c1
        have G1 := drawG Gx hdx c1
        have R1 : RowsL p I1 rl c := Rx.but c1 nrd
        clear Sx Gx Rx hdx c1
        obtain ⟨dx1, tx1, h01⟩ := T1.ob
        refine ifC (fun _ => ?_) (fun _ => ?_)
        · obtain ⟨rs, hrl1, hrows1⟩ := id R1
          have hln : ((rs.map V.ref).length : Int) - 1 = (c.length : Int) := by rw [List.length_map, hrows1.1, Par.rows_len]; omega
          refine ⟨_, rfl, _, rfl, _, rfl, p.ar, rfl, by omega, by omega, fun pl npl => lc_range (lo := 0) (n := p.ar) (fun j Hy => Hy = upd I1 pl (.lst (List.replicate j (.int c.length)))) rfl ?_ ?_⟩
          · rintro j Hy hj rfl
            refine ⟨rfl, _, rfl, rl, _, rfl, .inl (SqL.of (Same.new npl _ _ hrl1)), _, _, rfl, rfl, _, upd_same, ?_, ?_⟩
            · have : (List.replicate j (V.int c.length)).length < 16777216 := by rw [List.length_replicate]; omega
              exact this
            · rw [upd_upd, List.replicate_succ', ← hln]
          rintro Hy rfl
          have t1 := Same.new (o := .lst (List.replicate p.ar (.int c.length))) npl
          refine ⟨rl, pl, p, c, true, rfl, hp, R1.same t1, by omega, upd_same, fun I2 c2 R2 => ?_⟩
          have nrt : t ≠ rl := ne_of h01 hrl1 nofun
          have T2 : StoreAt D p I2 t gs A cs := (T1.same t1).but c2 (fun a m q => nrM (q ▸ m)) nrt
          have G2 : SigAt D p I2 gs := (G1.same t1).keep fun a o e n1 n2 => c2.at e fun q => by
            rw [q, t1 _ _ hrl1] at e
            cases e
            exact n2 _ rfl
          have hd2 := c2.at (t1 _ _ hd1) nrd.symm
          obtain ⟨dx2, tx2, h02⟩ := T2.ob
          refine ⟨_, rfl, t, dx2, _, rfl, h02, rfl, _, rfl, _, rfl, p.ar, rfl, by omega, by omega, fun D2 nD2 => lc_range (lo := 0) (n := p.ar) (fun j Hy => Hy = upd I2 D2 (.lst (List.replicate j (.int (num cs c))))) rfl ?_ ?_⟩
          · rintro j Hy hj rfl
            refine ⟨rfl, _, rfl, _, upd_same, ?_, ?_⟩
            · have : (List.replicate j (V.int (num cs c))).length < 16777216 := by rw [List.length_replicate]; omega
              exact this
            · rw [upd_upd, List.replicate_succ']
          rintro Hy rfl
          have t3 := Same.new (o := .lst (List.replicate p.ar (.int (num cs c)))) nD2
          refine ⟨t, gs, D2, p, A, cs, c, true, rfl, hp, T2.same t3, G2.same t3, by omega, hc, upd_same, T2.not_m_free nD2, fun I4 c4 T4 => ?_⟩
          have la := add_len (cs := cs) (c := c ++ [true])
          exact ⟨rl, c ++ [true], add cs (c ++ [true]), dl1, _, _, rfl, T4, (G2.same t3).but (T2.same t3) c4, (R2.same t3).but c4 nrM, mem_add, c4.at (t3 _ _ hd2) ndrM, nrM, nrd, by rw [List.length_append, List.length_singleton]; omega, by omega⟩
        · refine ⟨_, rfl, _, rfl, _, rfl, _, rfl, _, rfl, dr, p, dl1, rfl, hp, hd1, fun I2 ol o dl2 c2 nol R2 lo hd2 => ?_⟩
          have T2 := drawS T1 hd1 c2
          have G2 := drawG G1 hd1 c2
          have Rr2 := R1.but c2 nrd
          have nolM : ¬ A.M ol := T1.not_m_free nol
          obtain ⟨dx2, tx2, h02⟩ := T2.ob
          refine ⟨_, rfl, t, dx2, _, rfl, h02, rfl, _, rfl, _, rfl, t, gs, ol, p, A, cs, o, rfl, hp, T2, G2, R2, nolM, by omega, fun I3 cs3 c3 T3 ext3 ho3 l3 => ?_⟩
          have G3 : SigAt D p I3 gs := G2.but T2 c3
          have hd3 := c3.at hd2 ndrM
          have Ro3 := R2.but c3 nolM
          have Rr3 := Rr2.but c3 nrM
          refine fun fl nfl => ⟨_, rfl, _, rfl, upd_same, [(Sum.inr p.L, .int (num cs c))], rfl, (by show 1 ≤ 15; decide), ?_⟩
          rw [upd_upd]
          have t4 := Same.new (o := .dK [(Sum.inr p.L, .int (num cs c))]) nfl
          refine ⟨t, gs, fl, p, A, cs3, c, o, rfl, hp, T3.same t4, G3.same t4, ho3, (ext3 c hc).1, by omega, by rw [(ext3 c hc).2]; exact upd_same, fun I5 cs5 c5 T5 ext5 hm5 l5 => ?_⟩
          have G5 : SigAt D p I5 gs := (G3.same t4).but (T3.same t4) c5
          have hd5 := c5.at (t4 _ _ hd3) ndrM
          refine ⟨_, rfl, _, rfl, ol, rl, p, c, o, rfl, hp, (Ro3.same t4).but c5 nolM, (Rr3.same t4).but c5 nrM, by omega, fun I6 fo t6 nfo R6 => ?_⟩
          exact ⟨fo, c ++ o, cs5, dl2, _, _, rfl, T5.same t6, G5.same t6, R6, hm5, t6 _ _ hd5, T5.not_m_free nfo, (ne_of_none hd5 nfo).symm, by rw [List.length_append]; omega, by omega⟩
      · clear Sz Gz Rz hdz hR10 hR11 nrM nrd hc11 hc10 ext11 l11 nrl
        rintro σ Hx ⟨rl, c, cs, dl, u13, u14, rfl, Sx, Gx, Rx, hc, hdx, nrM, nrd, lc, lcs⟩
        refine ⟨_, rfl, _, rfl, _, rfl, _, rfl, t, gs, rl, p, A, cs, c, rfl, hp, Sx, hc, Rx, by omega, fun I1 t1 => ⟨_, rfl, ifF rfl ⟨_, rfl, ?_⟩⟩⟩
        have S1 := Sx.same t1
        have G1 := Gx.same t1
        have R1 := Rx.same t1
        have hd1 := t1 _ _ hdx
        clear Sx Gx Rx hdx t1
        -- another store
        intro t2 dt2 nt2 ndt2 net2
        have s2 : Same I1 (upd (upd I1 dt2 (.own t2)) t2 (.ins D.c_Terms dt2 [])) := fun b o e => by
          rw [upd_ne (ne_of_none e nt2), upd_ne (ne_of_none e ndt2)]
          exact e
        refine ⟨t2, gs, dt2, p, rfl, upd_same, fun I2 A2 c2 nA2 S2 => ⟨rfl, ?_⟩⟩
        have old : ∀ a o, I1 a = some o → I2 a = some o := fun a o e => c2.at (s2 _ _ e) (ne_of_none e nt2)
        have nA2' : ∀ a o, I1 a = some o → ¬ A2.M a := fun a o e m => by
          have := nA2 a m
          rw [s2 _ _ e] at this
          cases this
        have S12 : StoreAt D p I2 t gs A cs := S1.same old
        have G2 : SigAt D p I2 gs := G1.same old
        have R2 : RowsL p I2 rl c := R1.same old
        have hd2 := old _ _ hd1
        obtain ⟨rs, hrl1, hrows1⟩ := id R1
        have nr2 : ¬ A2.M rl := nA2' _ _ hrl1
        have nd2 : ¬ A2.M dr := nA2' _ _ hd1
        obtain ⟨dx1, tx1, h01⟩ := S1.ob
        have ntA2 : ¬ A2.M t := nA2' _ _ h01
        have dis : ∀ a, A.M a → ¬ A2.M a := fun a m => by
          rcases S1.kind m with ⟨q, e⟩ | ⟨q, e⟩
          · exact nA2' _ _ e
          · exact nA2' _ _ e
        obtain ⟨dx2, tx2, h02⟩ := S2.ob
        refine ⟨_, rfl, _, rfl, t2, dx2, _, rfl, h02, rfl, _, rfl, t, dx1, _, rfl, old _ _ h01, rfl, _, rfl, t, gs, p, A, cs, c, rfl, hp, S12, hc, by omega, fun sa I3 ss t3 hsa hss => ?_⟩
        refine ⟨t2, gs, sa, p, A2, [], ss, p.rows c, .inl c, rfl, hp, S2.same t3, G2.same t3, by rw [Par.rows_len]; show 0 + _ ≤ 20000; omega, hsa, hss, rows_fl hp, fromV_self, fun c' e I4 cs4 c4 S4 _ hm4 l4 => ?_, fun m e => (nomatch e)⟩
        cases e
        rw [Par.rows_len, List.length_nil] at l4
        have S14 : StoreAt D p I4 t gs A cs := (S12.same t3).but c4 dis ntA2
        have G4 : SigAt D p I4 gs := (G2.same t3).but (S2.same t3) c4
        have R4 : RowsL p I4 rl c := (R2.same t3).but c4 nr2
        have hd4 := c4.at (t3 _ _ hd2) nd2
        refine ⟨_, rfl, _, rfl, t2, gs, rl, p, A2, cs4, c, rfl, hp, S4, hm4, R4, by omega, fun I5 t5 => ⟨_, rfl, ifF rfl ?_⟩⟩
        have S15 := S14.same t5
        have S5 := S4.same t5
        have G5 := G4.same t5
        have R5 := R4.same t5
        have hd5 := t5 _ _ hd4
        -- one more put in
        refine ⟨_, rfl, _, rfl, _, rfl, _, rfl, _, rfl, dr, p, dl, rfl, hp, hd5, fun I6 il o dl6 c6 nil6 Ro6 lo hd6 => ?_⟩
        have S16 := drawS S15 hd5 c6
        have G6 := drawG G5 hd5 c6
        have nt2d : t2 ≠ dr := (ne_of_none hd1 nt2).symm
        have S6 : StoreAt D p I6 t2 gs A2 cs4 := S5.but c6 (fun a m q => nd2 (q ▸ m)) nt2d
        have R6 := R5.but c6 nrd
        have nilM : ¬ A.M il := S15.not_m_free nil6
        have nilM2 : ¬ A2.M il := S5.not_m_free nil6
        obtain ⟨dx6, tx6, h06⟩ := S16.ob
        refine ⟨_, rfl, t, dx6, _, rfl, h06, rfl, _, rfl, fun fl nfl => ?_⟩
        have t7 := Same.new (o := .dK []) nfl
        have nflM : ¬ A.M fl := S16.not_m_free nfl
        refine ⟨_, rfl, _, rfl, _, rfl, t, gs, il, p, A, cs, o, rfl, hp, S16.same t7, G6.same t7, Ro6.same t7, nilM, by omega, fun I8 cs8 c8 S8 ext8 ho8 l8 => ?_⟩
        have hfl8 := c8.at upd_same nflM
        refine ⟨hfl8, [(Sum.inr p.L, .int (num cs8 o))], rfl, (by show 1 ≤ 15; decide), ?_⟩
        have G8 : SigAt D p I8 gs := (G6.same t7).but (S16.same t7) c8
        have hd8' := c8.at (t7 _ _ hd6) ndrM
        have dis' : ∀ a, A2.M a → ¬ A.M a := fun a m m' => dis a m' m
        obtain ⟨dx26, tx26, h026⟩ := S6.ob
        have nt2M : ¬ A.M t2 := S16.not_m h026 (fun _ => nofun) (fun _ => nofun)
        have S28 : StoreAt D p I8 t2 gs A2 cs4 := (S6.same t7).but c8 dis' nt2M
        have R8 := (R6.same t7).but c8 nrM
        have Ro8 := (Ro6.same t7).but c8 nilM
        have nflM2 : ¬ A2.M fl := S6.not_m_free nfl
        have b9 : But (· = fl) I8 (upd I8 fl (.dK (mergeK [] [(Sum.inr p.L, .int (num cs8 o))]))) := (But.refl I8).mut rfl hfl8 (fun _ => nofun)
        have S9' := S8.beside (o := .dK (mergeK [] [(Sum.inr p.L, .int (num cs8 o))])) hfl8 nflM (fun _ => nofun) (fun _ _ _ => nofun)
        have S29 := S28.beside (o := .dK (mergeK [] [(Sum.inr p.L, .int (num cs8 o))])) hfl8 nflM2 (fun _ => nofun) (fun _ _ _ => nofun)
        have keepL : ∀ b xs, I8 b = some (.lst xs) → b ≠ fl := fun b xs e q => by rw [q, hfl8] at e; cases e
        obtain ⟨rs8, hrl8, _⟩ := id R8
        obtain ⟨ro8, hil8, _⟩ := id Ro8
        have R9 := R8.but b9 (keepL _ _ hrl8)
        have Ro9 := Ro8.but b9 (keepL _ _ hil8)
        have hd9' := b9.at hd8' (keepL _ _ hd8')
        have hfl9 : upd I8 fl (.dK (mergeK [] [(Sum.inr p.L, .int (num cs8 o))])) fl = some (.dK [(Sum.inr p.L, .int (num cs8 o))]) := upd_same
        -- the dict is none of the signature's
        have G9 : SigAt D p (upd I8 fl (.dK (mergeK [] [(Sum.inr p.L, .int (num cs8 o))]))) gs := by
          have G7 : SigAt D p I6 gs := G6
          refine ⟨?_⟩
          obtain ⟨dx, dC, dS, dA, dR, ts, tg, sd, e0, ⟨kS, e1, v1⟩, ⟨kA, e2, v2⟩, kR, e3, v3, v4⟩ := G7.ob
          have up : ∀ b u, I6 b = some u → (∀ k, u ≠ .dT k) → (∀ xs, u ≠ .lst xs) → upd I8 fl (.dK (mergeK [] [(Sum.inr p.L, .int (num cs8 o))])) b = some u := fun b u e n1 n2 => by
            rw [upd_ne (ne_of_none e nfl)]
            exact c8.at (t7 _ _ e) ((S16.same t7).not_m (t7 _ _ e) n1 n2)
          exact ⟨dx, dC, dS, dA, dR, ts, tg, sd, up _ _ e0 (fun _ => nofun) (fun _ => nofun), ⟨kS, up _ _ e1 (fun _ => nofun) (fun _ => nofun), v1⟩, ⟨kA, up _ _ e2 (fun _ => nofun) (fun _ => nofun), fun b => let ⟨q, x, y⟩ := v2 b; ⟨q, x, up _ _ y (fun _ => nofun) (fun _ => nofun)⟩⟩, kR, up _ _ e3 (fun _ => nofun) (fun _ => nofun), v3, v4⟩
        clear b9
        generalize upd I8 fl (.dK (mergeK [] [(Sum.inr p.L, .int (num cs8 o))])) = I9 at S9' S29 R9 Ro9 hd9' hfl9 G9
        refine ⟨t, gs, fl, p, A, cs8, o, c, by rw [(ext8 c hc).2]; rfl, hp, S9', G9, (ext8 c hc).1, ho8, by omega, hfl9, fun J1 cs10 c10 S10' ext10 hm10 l10' => ?_⟩
        have G10 : SigAt D p J1 gs := G9.but S9' c10
        have R10 := R9.but c10 nrM
        have Ro10 := Ro9.but c10 nilM
        have hd10' := c10.at hd9' ndrM
        have S210 : StoreAt D p J1 t2 gs A2 cs4 := S29.but c10 dis' nt2M
        refine ⟨_, rfl, _, rfl, _, rfl, _, rfl, rl, il, p, o, c, rfl, hp, R10, Ro10, by omega, fun J2 fo t11 nfo R11 => ?_⟩
        refine ⟨_, rfl, t, gs, fo, p, A, cs10, o ++ c, rfl, hp, S10'.same t11, hm10, R11, by rw [List.length_append]; omega, fun J3 t12 => ⟨_, rfl, ifT rfl ?_⟩⟩
        have t13 := Same.trans' t11 t12
        exact ⟨_, rfl, _, rfl, _, rfl, _, rfl, _, rfl, _, rfl, dr, t2, gs, rl, p, A2, cs4, c, dl6, rfl, hp, S210.same t13, G10.same t13, t13 _ _ hd10', R10.same t13, nr2, nd2, by omega, hno, fun Hq => k Hq⟩
end
end R87

/-! ## ErrHook -/
set_option maxHeartbeats 4000000
/-! the head's facts of own errors that say super().__init__(..): a Hook beside HeadHook2's -/
namespace HeX
open PySem PySem.Spec PyProof.Rows L2 He
/-- one error class: its name, its fields, its __init__ -/
structure ErrD where
  x : Str
  ns : List Str
  qual : Str
  params : Arguments
  body : List Stmt
  scope : Scope
abbrev EV : Type := Option (Str × Str × Arguments × FuncBody × Scope × Addr × List Str × Addr)
def fI (K : PySem.W.Frag) (x : Str) : Addr := ma K (ga K x) "__init__"
def obsI (K : PySem.W.Frag) (x : Str) : EV := match K.lookup (fI K x) with
  | some ⟨_, _, .func fd, _⟩ => some (fd.name, fd.qualname, fd.params, fd.body, fd.scope, fd.globals, fd.closure.map (·.1), fd.builtins)
  | _ => none
def ErrD.val (d : ErrD) : EV := some ("__init__", d.qual, d.params, .stmts d.body, d.scope, mainGlobals, ["__class__"], builtinsNs)
def mroB (C : Addr) : List Value → Bool
  | .ref C' :: bm => decide (C' = C) && PySem.HandSPX.refsVE bm
  | _ => false
def slB : List (Option Value) → Bool
  | [_, _, _, _, some (.builtin n), _] => decide (n = "ValueError.__new__")
  | _ => false
def clsO (C : Addr) (o : Obj) : Bool := match o.cls, o.data with
  | .type t, .cls cd => decide (t = "type") && (mroB C cd.mro && (slB o.slots.toList && (!cd.hasDel && cd.hasDict)))
  | _, _ => false
def clsB (K : PySem.W.Frag) (C : Addr) : Bool := match K.lookup C with
  | some o => clsO C o
  | none => false
def filB (K : PySem.W.Frag) (file : Str) : Value → Bool
  | .ref a => (match K.lookup a with
    | some ⟨_, _, .fields vs, _⟩ => (match (vs[2]? : Option Value) with
      | some (Value.str f _) => file == f
      | _ => false)
    | _ => false)
  | _ => false
def cloB (K : PySem.W.Frag) (C : Addr) : List (Str × Addr) → Bool
  | [(_, cc)] => (match K.lookup cc with
    | some ⟨_, _, .cell (some (.ref C')), _⟩ => decide (C' = C)
    | _ => false)
  | _ => false
def nonB : Value → Bool
  | .none => true
  | _ => false
def codB (K : PySem.W.Frag) (file : Str) (C : Addr) (d : ErrD) : Bool := match K.lookup (fI K d.x) with
  | some ⟨_, _, .func fd, _⟩ => PySem.W.codeIn K fd.code d.qual && (filB K file fd.code && (cloB K C fd.closure && nonB fd.defaults))
  | _ => false
theorem mroB_ok {C : Addr} : ∀ {l : List Value}, mroB C l = true → ∃ bm, l = .ref C :: bm ∧ PySem.HandSPX.refsVE bm = true := by
  intro l h
  unfold mroB at h
  split at h
  · obtain ⟨h1, h2⟩ := ba h
    exact ⟨_, by rw [of_decide_eq_true h1], h2⟩
  · cases h
theorem slB_ok : ∀ {l : List (Option Value)}, slB l = true → ∃ k0 k1 k2 k3 k5, l = [k0, k1, k2, k3, some (.builtin "ValueError.__new__"), k5] := by
  intro l h
  unfold slB at h
  split at h
  · exact ⟨_, _, _, _, _, by rw [of_decide_eq_true h]⟩
  · cases h
theorem filB_ok {K : PySem.W.Frag} {file : Str} {v : Value} (h : filB K file v = true) : ∃ a ccl cdd vs ccs f tf, v = .ref a ∧ K.lookup a = some ⟨ccl, cdd, .fields vs, ccs⟩ ∧ vs[2]? = some (.str f tf) ∧ (file == f) = true := by
  unfold filB at h
  split at h
  · split at h
    · rename_i hk
      split at h
      · rename_i hf
        exact ⟨_, _, _, _, _, _, _, rfl, hk, hf, h⟩
      · cases h
    · cases h
  · cases h
theorem cloB_ok {K : PySem.W.Frag} {C : Addr} {l : List (Str × Addr)} (h : cloB K C l = true) : ∃ n cc cl cld csl, l = [(n, cc)] ∧ K.lookup cc = some ⟨cl, cld, .cell (some (.ref C)), csl⟩ := by
  unfold cloB at h
  split at h
  · split at h
    · rename_i hk
      obtain rfl := of_decide_eq_true h
      exact ⟨_, _, _, _, _, rfl, hk⟩
    · cases h
  · cases h
theorem nonB_ok {v : Value} (h : nonB v = true) : v = .none := by
  cases v <;> first | rfl | cases h
def ErrD.ok (K : PySem.W.Frag) (file : Str) (d : ErrD) : Bool :=
  eqO (PySem.W.nsIn K mainGlobals d.x) (some (some (.ref (ga K d.x)))) && (clsB K (ga K d.x) && (eqO (PySem.W.findIn K (.ref (ga K d.x)) "__setattr__") (some (some (.builtin "object.__setattr__"))) &&
  (decide (PySem.W.subIn K (.ref (ga K d.x)) (.type "BaseException") = some true) && (decide (PySem.W.subIn K (.ref (ga K d.x)) (.type "ValueError") = some true) && (decide (PySem.W.typeIn K (.ref (ga K d.x)) = some (.type "type")) &&
  (PySem.W.keepIn K (.ref (ga K d.x)) && (decide (PySem.W.mroIn K (ga K d.x) (.ref (ga K d.x)) = some true) && (eqO (PySem.W.ks_superIn K (ga K d.x) (ga K d.x) "__init__") (some (some (.builtin "ValueError.__init__"))) &&
  (eqO (PySem.W.nsIn K cStatics "thirdparty.any") (some none) && (decide (PySem.W.typeIn K (.ref (fI K d.x)) = some (.type "function")) && (eqO (PySem.W.findIn K (.ref (ga K d.x)) "__init__") (some (some (.ref (fI K d.x)))) &&
  ((d.ns.all fun n => eqO (PySem.W.findIn K (.ref (ga K d.x)) n) (some none)) && (codB K file (ga K d.x) d && xfB K (ga K d.x))))))))))))))
theorem clsB_ok {K : PySem.W.Frag} {C : Addr} (h : clsB K C = true) : ∃ nm q N bs bm sn sub ab col dd k0 k1 k2 k3 k5, K.lookup C = some (excClassObj nm q C N bs bm true sn sub ab col dd k0 k1 k2 k3 k5 "ValueError.__new__") ∧ PySem.HandSPX.refsVE bm = true := by
  unfold clsB at h
  cases ho : K.lookup C with
  | none => rw [ho] at h; cases h
  | some o =>
    rw [ho] at h
    obtain ⟨oc, dd, dt, sl⟩ := o
    unfold clsO at h
    cases oc with
    | type t =>
      cases dt with
      | cls cd =>
        obtain ⟨h0, h⟩ := ba (show (decide (t = "type") && (mroB C cd.mro && (slB sl.toList && (!cd.hasDel && cd.hasDict)))) = true from h)
        obtain ⟨h1, h⟩ := ba h
        obtain ⟨h2, h⟩ := ba h
        obtain ⟨h3, h4⟩ := ba h
        obtain rfl := of_decide_eq_true h0
        obtain ⟨bm, hm, hv⟩ := mroB_ok h1
        obtain ⟨k0, k1, k2, k3, k5, hs⟩ := slB_ok h2
        obtain ⟨nm, bs, mro, ns, qn, hd, sn, sub, ab, col, del⟩ := cd
        dsimp only at hm h3 h4
        rw [Bool.not_eq_true'] at h3
        subst hm h3 h4
        have hsl : sl = #[k0, k1, k2, k3, some (.builtin "ValueError.__new__"), k5] := by
          obtain ⟨l⟩ := sl
          simp only at hs
          rw [hs]
        subst hsl
        exact ⟨nm, qn, ns, bs, bm, sn, sub, ab, col, dd, k0, k1, k2, k3, k5, rfl, hv⟩
      | _ => cases h
    | _ => cases dt <;> cases h
/-- what an error class's text must be -/
structure ErrText (P : Program) (d : ErrD) (st : Stmt) (rest : List Stmt) (ar : Arg) : Prop where
  body : d.body = st :: rest
  hd : (d.params.posonlyargs ++ d.params.args).head? = some ar
  self : ar.arg = ("self" : Str)
  sup : PySem.ErrX.SupSt P st
  sto : PySem.ErrX.stores d.ns rest
  bind : ∀ (kV doc pm : Value) (an : Option Addr) (cda : Addr) (ct : Value) (cc : Addr) (s : Shared) (us : List Value), us.length = d.ns.length → ∀ x : Value, BindsTo s (PySem.W.ksFn "__init__" d.qual d.params (st :: rest) d.scope .none kV doc pm an (.ref cda) ct cc) ⟨x :: us, []⟩ (("self", x) :: d.ns.zip us)
  s1 : d.scope.names.lookup ("super" : Str) = some .globalImplicit
  s2 : d.scope.names.lookup ("__class__" : Str) = some .free
  s3 : d.scope.names.lookup ("self" : Str) = some .local
  s4 : ∀ n ∈ d.ns, d.scope.names.lookup n = some .local
  k : d.scope.kind = .function
  co : d.scope.isCoroutine = false
  ge : d.scope.isGenerator = false
  ce : ∀ x ∈ d.scope.names, x.2 ≠ .cell
  hs : (P.main.scope.names.lookup ("super" : Str)).isSome = false
  no : PySem.ErrX.NsOk d.ns
theorem ErrD.errTxt {K : PySem.W.Frag} {P : Program} {h : Heap} {mg : Str → Option Value} (X : K.In h) (G : h.Ns mainGlobals mg) {d : ErrD} (e : obsI K d.x = d.val) (c : d.ok K P.main.file = true) (gS : mg "super" = none) {st : Stmt} {rest : List Stmt} {ar : Arg} (t : ErrText P d st rest ar) :
    ErrTxt K P mg d.x (ga K d.x) (fI K d.x) d.ns ∧ XfC K (ga K d.x) := by
  obtain ⟨c1, c⟩ := ba c
  obtain ⟨c2, c⟩ := ba c
  obtain ⟨c3, c⟩ := ba c
  obtain ⟨c4, c⟩ := ba c
  obtain ⟨c5, c⟩ := ba c
  obtain ⟨c6, c⟩ := ba c
  obtain ⟨c7, c⟩ := ba c
  obtain ⟨c8, c⟩ := ba c
  obtain ⟨c9, c⟩ := ba c
  obtain ⟨c10, c⟩ := ba c
  obtain ⟨c11, c⟩ := ba c
  obtain ⟨c12, c⟩ := ba c
  obtain ⟨c13, c⟩ := ba c
  obtain ⟨c14, c15⟩ := ba c
  refine ⟨⟨PySem.W.mg_of X G (eqO_ok c1), gS, ⟨clsB_ok c2, eqO_ok c3, of_decide_eq_true c4, of_decide_eq_true c5, of_decide_eq_true c6, c7, of_decide_eq_true c8, eqO_ok c9, eqO_ok c10⟩, ?_, t.no⟩, xfB_ok c15⟩
  refine ⟨?_, of_decide_eq_true c11, eqO_ok c12, fun n hn => eqO_ok (List.all_eq_true.mp c13 n hn), t.hs⟩
  unfold obsI at e
  unfold codB at c14
  cases q : K.lookup (fI K d.x) with
  | none => rw [q] at e; cases e
  | some o =>
    obtain ⟨oc, od, dt, osl⟩ := o
    rw [q] at e c14
    cases dt with
    | func fd =>
      obtain ⟨n1, n2, n3, n4, n5, n6, n7, n8, n9, n10, n11, n12, n13, n14, n15⟩ := fd
      have e2 : (some (n1, n2, n3, n4, n5, n6, n7.map (·.1), n15) : EV) = d.val := e
      unfold ErrD.val at e2
      simp only [Option.some.injEq, Prod.mk.injEq] at e2
      obtain ⟨h1, h2, h3, h4, h5, h6, h7, h8⟩ := e2
      subst h1 h2 h3 h4 h5 h6 h8
      obtain ⟨k1, c14⟩ := ba (show (PySem.W.codeIn K n13 d.qual && (filB K P.main.file n13 && (cloB K (ga K d.x) n7 && nonB n8))) = true from c14)
      obtain ⟨k2, c14⟩ := ba c14
      obtain ⟨k3, k4⟩ := ba c14
      obtain ⟨a, ccl, cdd, vs, ccs, f, tf, rfl, hcd, hf, hff⟩ := filB_ok k2
      obtain ⟨m, cc, cl, cld, csl, rfl, hcl⟩ := cloB_ok k3
      obtain rfl := nonB_ok k4
      simp only [List.map_cons, List.map_nil, List.cons.injEq, and_true] at h7
      subst h7
      have hb := t.bind n9 n10 n11 n12 a n14 cc
      rw [← t.body] at hb
      exact ⟨d.qual, d.params, st, rest, d.scope, oc, n9, n10, n11, n12, od, a, n14, cc, osl, ar, vs, f, tf, ccl, cl, cdd, cld, ccs, csl, by rw [← t.body] <;> exact q, k1, t.hd, t.self, hcd, hf, hff, hcl, t.sup, t.sto, by rw [← t.body] <;> exact hb, t.s1, t.s2, t.s3, t.s4, t.k, t.co, t.ge, t.ce⟩
    | _ => cases e
/-! ### the Hook -/
def asX (g : Addr → Option Obj) : Nat → List Addr
  | 0 => [mainGlobals, cStatics]
  | n + 1 => growD g (asX g n)
abbrev AlX : Type := Bool × List FnW × List EV
def obsX (file : Str) (fa : List Fa) (fn : List DefD) (ex : List ErrD) (K : PySem.W.Frag) : AlX := ((fa.all fun f => f.ok K) && ((fn.all fun d => d.ok K) && ex.all fun d => d.ok K file), fn.map fun d => fnW K d.at_, ex.map fun d => obsI K d.x)
def valX (fn : List DefD) (ex : List ErrD) : AlX := (true, fn.map DefD.val, ex.map ErrD.val)
def SaysX (file : Str) (fa : List Fa) (fn : List DefD) (ex : List ErrD) (K : PySem.W.Frag) : Prop := obsX file fa fn ex K = valX fn ex
def obsXG (n : Nat) (file : Str) (fa : List Fa) (fn : List DefD) (ex : List ErrD) (g : Addr → Option Obj) : AlX := obsX file fa fn ex (frG g (asX g n))
def hookX (n : Nat) (file : Str) (fa : List Fa) (fn : List DefD) (ex : List ErrD) : PySem.W.Hook where
  α := AlX
  obs := fun s => obsXG n file fa fn ex s.heap.get?
  val := fun _ => valX fn ex
  says := fun _ h => ∃ K : PySem.W.Frag, K.In h ∧ SaysX file fa fn ex K
  of := fun _ _ e => ⟨_, frG_in, e⟩
  keeps := fun _ _ _ ⟨K, hK, c⟩ k => ⟨K, PySem.W.Frag.In.keeps hK k, c⟩
theorem obsXG_eq {n : Nat} {file : Str} {fa : List Fa} {fn : List DefD} {ex : List ErrD} {g : Addr → Option Obj} {s : Shared} (h : ∀ a, g a = s.heap.get? a) : obsXG n file fa fn ex g = (hookX n file fa fn ex).obs s := by
  have e : g = s.heap.get? := funext h
  rw [e] <;> rfl
section
variable {file : Str} {fa : List Fa} {fn : List DefD} {ex : List ErrD} {K : PySem.W.Frag}
theorem SaysX.all (c : SaysX file fa fn ex K) : (fa.all fun f => f.ok K) = true ∧ (fn.all fun d => d.ok K) = true ∧ (ex.all fun d => d.ok K file) = true := by
  have c1 : ((fa.all fun f => f.ok K) && ((fn.all fun d => d.ok K) && ex.all fun d => d.ok K file)) = true := congrArg (fun z : AlX => z.1) c
  obtain ⟨h1, h2⟩ := ba c1
  exact ⟨h1, ba h2⟩
theorem SaysX.fact (c : SaysX file fa fn ex K) (i : Nat) {f : Fa} (h : fa[i]? = some f := by rfl) : f.ok K = true := List.all_eq_true.mp c.all.1 f (List.mem_of_getElem? h)
theorem SaysX.def_ (c : SaysX file fa fn ex K) (i : Nat) {d : DefD} (h : fn[i]? = some d := by rfl) : ∃ fd, FunD K d.name d.qual d.params d.body d.scope (d.dvs K) (d.kws K) (fAd K d.at_) fd := by
  have e : fn.map (fun d => fnW K d.at_) = fn.map DefD.val := congrArg (fun z : AlX => z.2.1) c
  have e2 : (fn.map fun d => fnW K d.at_)[i]? = (fn.map DefD.val)[i]? := by rw [e]
  rw [List.getElem?_map, List.getElem?_map, h] at e2
  exact DefD.funD (Option.some.inj e2) (List.all_eq_true.mp c.all.2.1 d (List.mem_of_getElem? h))
theorem SaysX.err (c : SaysX file fa fn ex K) (i : Nat) {d : ErrD} (h : ex[i]? = some d := by rfl) : obsI K d.x = d.val ∧ d.ok K file = true := by
  have e : ex.map (fun d => obsI K d.x) = ex.map ErrD.val := congrArg (fun z : AlX => z.2.2) c
  have e2 : (ex.map fun d => obsI K d.x)[i]? = (ex.map ErrD.val)[i]? := by rw [e]
  rw [List.getElem?_map, List.getElem?_map, h] at e2
  exact ⟨Option.some.inj e2, List.all_eq_true.mp c.all.2.2 d (List.mem_of_getElem? h)⟩
end
end HeX

/-! ## HeadA87 -/
set_option maxHeartbeats 0
namespace R87
open PySem PySem.Spec PyProof.Rows L2
def d_is_name : He.DefD := ⟨("is_name", none), "is_name", "is_name", defArgs s_is_name, defBody s_is_name, defScope s_is_name, [], []⟩
def d_is_letter : He.DefD := ⟨("is_letter", none), "is_letter", "is_letter", defArgs s_is_letter, defBody s_is_letter, defScope s_is_letter, [.int 9], []⟩
def d_letter_key : He.DefD := ⟨("letter_key", none), "letter_key", "letter_key", defArgs s_letter_key, defBody s_letter_key, defScope s_letter_key, [], []⟩
def d_in_order : He.DefD := ⟨("in_order", none), "in_order", "in_order", defArgs s_in_order, defBody s_in_order, defScope s_in_order, [], []⟩
def d_Signature_init : He.DefD := ⟨("Signature", some "__init__"), "__init__", "Signature.__init__", defArgs s_Signature_init, defBody s_Signature_init, defScope s_Signature_init, [], []⟩
def d_Signature_add_sort : He.DefD := ⟨("Signature", some "_add_sort"), "_add_sort", "Signature._add_sort", defArgs s_Signature_add_sort, defBody s_Signature_add_sort, defScope s_Signature_add_sort, [], []⟩
def d_Signature_add_sign : He.DefD := ⟨("Signature", some "_add_sign"), "_add_sign", "Signature._add_sign", defArgs s_Signature_add_sign, defBody s_Signature_add_sign, defScope s_Signature_add_sign, [], []⟩
def d_Signature_arguments : He.DefD := ⟨("Signature", some "arguments"), "arguments", "Signature.arguments", defArgs s_Signature_arguments, defBody s_Signature_arguments, defScope s_Signature_arguments, [], []⟩
def d_Signature_result : He.DefD := ⟨("Signature", some "result"), "result", "Signature.result", defArgs s_Signature_result, defBody s_Signature_result, defScope s_Signature_result, [], []⟩
def d_Signature_sort_of_word : He.DefD := ⟨("Signature", some "sort_of_word"), "sort_of_word", "Signature.sort_of_word", defArgs s_Signature_sort_of_word, defBody s_Signature_sort_of_word, defScope s_Signature_sort_of_word, [.int 9], []⟩
def d_joined : He.DefD := ⟨("joined", none), "joined", "joined", defArgs s_joined, defBody s_joined, defScope s_joined, [], []⟩
def d_Terms_init : He.DefD := ⟨("Terms", some "__init__"), "__init__", "Terms.__init__", defArgs s_Terms_init, defBody s_Terms_init, defScope s_Terms_init, [], []⟩
def d_Terms_put : He.DefD := ⟨("Terms", some "_put"), "_put", "Terms._put", defArgs s_Terms_put, defBody s_Terms_put, defScope s_Terms_put, [], []⟩
def d_Terms_letter : He.DefD := ⟨("Terms", some "letter"), "letter", "Terms.letter", defArgs s_Terms_letter, defBody s_Terms_letter, defScope s_Terms_letter, [], []⟩
def d_Terms_make : He.DefD := ⟨("Terms", some "make"), "make", "Terms.make", defArgs s_Terms_make, defBody s_Terms_make, defScope s_Terms_make, [], []⟩
def d_Terms_size_of : He.DefD := ⟨("Terms", some "size_of"), "size_of", "Terms.size_of", defArgs s_Terms_size_of, defBody s_Terms_size_of, defScope s_Terms_size_of, [], []⟩
def d_Terms_letters_of : He.DefD := ⟨("Terms", some "letters_of"), "letters_of", "Terms.letters_of", defArgs s_Terms_letters_of, defBody s_Terms_letters_of, defScope s_Terms_letters_of, [], []⟩
def d_Terms_first_letters_of : He.DefD := ⟨("Terms", some "first_letters_of"), "first_letters_of", "Terms.first_letters_of", defArgs s_Terms_first_letters_of, defBody s_Terms_first_letters_of, defScope s_Terms_first_letters_of, [], []⟩
def d_Terms_put_in : He.DefD := ⟨("Terms", some "put_in"), "put_in", "Terms.put_in", defArgs s_Terms_put_in, defBody s_Terms_put_in, defScope s_Terms_put_in, [], []⟩
def d_Terms_touched : He.DefD := ⟨("Terms", some "_touched"), "_touched", "Terms._touched", defArgs s_Terms_touched, defBody s_Terms_touched, defScope s_Terms_touched, [], []⟩
def d_Terms_write : He.DefD := ⟨("Terms", some "write"), "write", "Terms.write", defArgs s_Terms_write, defBody s_Terms_write, defScope s_Terms_write, [], []⟩
def d_Terms_shared : He.DefD := ⟨("Terms", some "shared"), "shared", "Terms.shared", defArgs s_Terms_shared, defBody s_Terms_shared, defScope s_Terms_shared, [], []⟩
def d_Terms_from_shared : He.DefD := ⟨("Terms", some "from_shared"), "from_shared", "Terms.from_shared", defArgs s_Terms_from_shared, defBody s_Terms_from_shared, defScope s_Terms_from_shared, [], []⟩
def d_Terms_of_row : He.DefD := ⟨("Terms", some "_of_row"), "_of_row", "Terms._of_row", defArgs s_Terms_of_row, defBody s_Terms_of_row, defScope s_Terms_of_row, [], []⟩
def d_law_draws : He.DefD := ⟨("_law_draws", none), "_law_draws", "_law_draws", defArgs s_law_draws, defBody s_law_draws, defScope s_law_draws, [], []⟩
def d_law_take : He.DefD := ⟨("_law_take", none), "_law_take", "_law_take", defArgs s_law_take, defBody s_law_take, defScope s_law_take, [], []⟩
def d_law_is_number : He.DefD := ⟨("_law_is_number", none), "_law_is_number", "_law_is_number", defArgs s_law_is_number, defBody s_law_is_number, defScope s_law_is_number, [], []⟩
def d_law_digits : He.DefD := ⟨("_law_digits", none), "_law_digits", "_law_digits", defArgs s_law_digits, defBody s_law_digits, defScope s_law_digits, [], []⟩
def d_law_made : He.DefD := ⟨("_law_made", none), "_law_made", "_law_made", defArgs s_law_made, defBody s_law_made, defScope s_law_made, [], []⟩
def d_law_put : He.DefD := ⟨("_law_put", none), "_law_put", "_law_put", defArgs s_law_put, defBody s_law_put, defScope s_law_put, [], []⟩
def d_law_sizes : He.DefD := ⟨("_law_sizes", none), "_law_sizes", "_law_sizes", defArgs s_law_sizes, defBody s_law_sizes, defScope s_law_sizes, [], []⟩
def d_law_small : He.DefD := ⟨("_law_small", none), "_law_small", "_law_small", defArgs s_law_small, defBody s_law_small, defScope s_law_small, [], []⟩
def d_law_built : He.DefD := ⟨("_law_built", none), "_law_built", "_law_built", defArgs s_law_built, defBody s_law_built, defScope s_law_built, [], []⟩
def d_law_tells : He.DefD := ⟨("_law_tells", none), "_law_tells", "_law_tells", defArgs s_law_tells, defBody s_law_tells, defScope s_law_tells, [], []⟩
def d_law_refuses : He.DefD := ⟨("_law_refuses", none), "_law_refuses", "_law_refuses", defArgs s_law_refuses, defBody s_law_refuses, defScope s_law_refuses, [], []⟩
def d_law_spoils : He.DefD := ⟨("_law_spoils", none), "_law_spoils", "_law_spoils", defArgs s_law_spoils, defBody s_law_spoils, defScope s_law_spoils, [], []⟩
def d_law : He.DefD := ⟨("law", none), "law", "law", defArgs s_law, defBody s_law, defScope s_law, [], []⟩
def fn1 : List He.DefD := [d_is_name, d_is_letter, d_letter_key, d_in_order, d_Signature_init, d_Signature_add_sort, d_Signature_add_sign, d_Signature_arguments, d_Signature_result, d_Signature_sort_of_word, d_joined, d_Terms_init, d_Terms_put]
def fn2 : List He.DefD := [d_Terms_letter, d_Terms_make, d_Terms_size_of, d_Terms_letters_of, d_Terms_first_letters_of, d_Terms_put_in, d_Terms_touched, d_Terms_write, d_Terms_shared, d_Terms_from_shared, d_Terms_of_row, d_law_draws, d_law_take]
def fn3 : List He.DefD := [d_law_is_number, d_law_digits, d_law_made, d_law_put, d_law_sizes, d_law_small, d_law_built, d_law_tells, d_law_refuses, d_law_spoils, d_law]
def fn : List He.DefD := fn1 ++ (fn2 ++ fn3)
def fa0 : List He.Fa := [.free "len", .free "int", .free "list", .free "tuple", .free "sorted", .free "reversed", .free "enumerate", .free "range", .free "abs", .free "sum", .free "isinstance", .free "any", .free "bool", .free "super", .glo "is_name", .glo "is_letter", .glo "letter_key", .glo "in_order", .mkr "Signature", .meth "Signature" "_add_sort", .meth "Signature" "_add_sign", .meth "Signature" "arguments", .meth "Signature" "result", .meth "Signature" "sort_of_word", .glo "joined"]
def fa1 : List He.Fa := [.mkr "Terms", .meth "Terms" "_put", .meth "Terms" "letter", .meth "Terms" "make", .meth "Terms" "size_of", .meth "Terms" "letters_of", .meth "Terms" "first_letters_of", .meth "Terms" "put_in", .meth "Terms" "_touched", .meth "Terms" "write", .meth "Terms" "shared", .meth "Terms" "from_shared", .meth "Terms" "_of_row", .glo "_law_draws", .glo "_law_take", .glo "_law_is_number", .glo "_law_digits", .glo "_law_made", .glo "_law_put", .glo "_law_sizes", .glo "_law_small", .glo "_law_built", .glo "_law_tells", .glo "_law_refuses", .glo "_law_spoils"]
def fa2 : List He.Fa := [.glo "law", .glo "Signature", .cls "Signature", .noat "Signature" "_capitals", .noat "Signature" "_sorts", .noat "Signature" "_arguments", .noat "Signature" "_results", .noat "Signature" "sorts", .noat "Signature" "signs", .noat "Signature" "said", .glo "Terms", .cls "Terms", .noat "Terms" "signature", .noat "Terms" "_numbers", .noat "Terms" "_texts", .noat "Terms" "_words", .noat "Terms" "_parts", .noat "Terms" "_kinds", .noat "Terms" "_sizes", .noat "Terms" "_letters", .str "SMALL" cSmall, .str "CAPITALS" cCap, .str "DIGITS" cDig, .int "MOST_WORDS" 200, .glo "RuleError"]
def fa3 : List He.Fa := [.exm "BadRows" "RuleError" true, .exm "TooLarge" "TooLarge" true]
def fa : List He.Fa := fa0 ++ (fa1 ++ (fa2 ++ (fa3)))
abbrev sB : Stmt := inClass (top 10) 0
abbrev sT : Stmt := inClass (top 11) 0
def dB : HeX.ErrD := ⟨"BadRows", ["place"], "BadRows.__init__", defArgs sB, defBody sB, defScope sB⟩
def dT : HeX.ErrD := ⟨"TooLarge", ["size"], "TooLarge.__init__", defArgs sT, defBody sT, defScope sT⟩
def ex : List HeX.ErrD := [dB, dT]
abbrev PP : Program := (PySem.Challenge.rw_rulesonrules_k87_great_terms_shared).prog
theorem textB : ∃ st rest ar, HeX.ErrText PP dB st rest ar := by
  refine ⟨_, _, _, ⟨rfl, rfl, rfl, ⟨_, _, _, _, _, _, _, _, _, rfl, fun _ => rfl, fun _ => rfl⟩, ⟨_, _, _, _, _, rfl, fun _ => rfl, rfl⟩, fun _ _ _ _ _ _ _ s us hl x => match us, hl with | [_], _ => .of_eq rfl, rfl, rfl, rfl, ?_, rfl, rfl, rfl, ?_, ?_, ?_⟩⟩
  · intro n hn
    rw [List.mem_singleton.mp hn]
    rfl
  · decide +kernel
  · decide +kernel
  · exact ⟨by decide +kernel, by decide +kernel, by decide⟩
theorem textT : ∃ st rest ar, HeX.ErrText PP dT st rest ar := by
  refine ⟨_, _, _, ⟨rfl, rfl, rfl, ⟨_, _, _, _, _, _, _, _, _, rfl, fun _ => rfl, fun _ => rfl⟩, ⟨_, _, _, _, _, rfl, fun _ => rfl, rfl⟩, fun _ _ _ _ _ _ _ s us hl x => match us, hl with | [_], _ => .of_eq rfl, rfl, rfl, rfl, ?_, rfl, rfl, rfl, ?_, ?_, ?_⟩⟩
  · intro n hn
    rw [List.mem_singleton.mp hn]
    rfl
  · decide +kernel
  · decide +kernel
  · exact ⟨by decide +kernel, by decide +kernel, by decide⟩
end R87

/-! ## HeadB87 -/
set_option maxHeartbeats 0
namespace R87
open PySem PySem.W PySem.Calls PyProof.Rows
abbrev R : OpenRow := OpenLaw.row PySem.Challenge.rw_rulesonrules_k87_great_terms_shared
abbrev qv : Program := view R.prog [39]
def names1 : List PySem.Str := ["_wall", "RuleError", "BadName", "Twice", "UnknownName", "BadCapital", "BadCount", "BadTerm", "BadSort", "BadRows", "TooLarge", "SMALL", "CAPITALS", "DIGITS", "is_name", "is_letter", "letter_key"]
def names2 : List PySem.Str := ["in_order", "MOST_WORDS", "Signature", "joined", "Terms", "_law_draws", "_law_take", "_law_is_number", "_law_digits", "_law_made", "_law_put", "_law_sizes", "_law_small", "_law_built", "_law_tells", "_law_refuses", "_law_spoils"]
def names : List PySem.Str := names1 ++ names2
abbrev hk : Hook := HeX.hookX 5 PP.main.file fa fn ex
def ob (s : SharedT) : HeX.AlX := HeX.obsXG 5 PP.main.file fa fn ex (HandSHeadRun.getT s)
theorem ob_eq (s : SharedT) : ob s = hk.obs s.abs := HeX.obsXG_eq (HandSHeadRun.getT_eq s)
theorem run (w : World) : HandSHeadRun.RunEq R qv hk ob 6000 names w := by
  intro os
  kernel_rfl
end R87

/-! ## HeadC87 -/
set_option maxHeartbeats 0
namespace R87
open PySem PySem.Spec PyProof.Rows L2
/-- all arguments given, the defaults unused -/
theorem binds_full {K : PySem.W.Frag} {x qual : Str} {st : Stmt} {dvs : List V} {f : Addr} {fd : FuncData} (F : Fn K x qual st dvs f fd) {ps : List Str} (n : Nat)
    (h : ∀ (T : Addr) (kV doc pm : Value) (an : Option Addr) (cdv ct : Value) (us its : List Value), us.length = n → its.length = dvs.length →
      ∃ k, bindArgs (PySem.W.fnOf x qual (defArgs st) (defBody st) (defScope st) (.ref T) kV doc pm an cdv ct) ⟨us, []⟩ = seqItems? (.ref T) >>= k ∧ k (some its.toArray) = pure (ps.zip (us ++ its.drop dvs.length))) (hd : dvs ≠ [] := by simp) (hn : n = ps.length := by rfl) : Binds K fd ps [] := by
  obtain ⟨ds, hv, hb⟩ := FunD.binds1 F (ps := ps) n dvs.length hd (by rw [Nat.sub_self]; exact hn) h
  rw [List.drop_length] at hv
  cases hv
  exact hb
set_option maxHeartbeats 4000000 in
theorem facts {w : World} {K : PySem.W.Frag} {h : Heap} {mg : Str → Option Value} {f : Addr} (X : K.In h) (G : h.Ns mainGlobals mg) (hfa : mg ("law" : Str) = some (.ref f)) (c : HeX.SaysX PP.main.file fa fn ex K) :
    ∃ fd : FuncData, (∀ (s : Shared) (v : Value), BindsTo s fd ⟨[v], []⟩ [("script", v)]) ∧ ∀ base : Heap, K.In base → base.Ns mainGlobals mg → FnOk PP w K mg base CX0 7 f fd ["script"] (spLaw K) := by
  obtain ⟨f_is_name, F_is_name⟩ := c.def_ 0 (d := d_is_name) rfl
  obtain ⟨f_is_letter, F_is_letter⟩ := c.def_ 1 (d := d_is_letter) rfl
  obtain ⟨f_letter_key, F_letter_key⟩ := c.def_ 2 (d := d_letter_key) rfl
  obtain ⟨f_in_order, F_in_order⟩ := c.def_ 3 (d := d_in_order) rfl
  obtain ⟨f_Signature_init, F_Signature_init⟩ := c.def_ 4 (d := d_Signature_init) rfl
  obtain ⟨f_Signature_add_sort, F_Signature_add_sort⟩ := c.def_ 5 (d := d_Signature_add_sort) rfl
  obtain ⟨f_Signature_add_sign, F_Signature_add_sign⟩ := c.def_ 6 (d := d_Signature_add_sign) rfl
  obtain ⟨f_Signature_arguments, F_Signature_arguments⟩ := c.def_ 7 (d := d_Signature_arguments) rfl
  obtain ⟨f_Signature_result, F_Signature_result⟩ := c.def_ 8 (d := d_Signature_result) rfl
  obtain ⟨f_Signature_sort_of_word, F_Signature_sort_of_word⟩ := c.def_ 9 (d := d_Signature_sort_of_word) rfl
  obtain ⟨f_joined, F_joined⟩ := c.def_ 10 (d := d_joined) rfl
  obtain ⟨f_Terms_init, F_Terms_init⟩ := c.def_ 11 (d := d_Terms_init) rfl
  obtain ⟨f_Terms_put, F_Terms_put⟩ := c.def_ 12 (d := d_Terms_put) rfl
  obtain ⟨f_Terms_letter, F_Terms_letter⟩ := c.def_ 13 (d := d_Terms_letter) rfl
  obtain ⟨f_Terms_make, F_Terms_make⟩ := c.def_ 14 (d := d_Terms_make) rfl
  obtain ⟨f_Terms_size_of, F_Terms_size_of⟩ := c.def_ 15 (d := d_Terms_size_of) rfl
  obtain ⟨f_Terms_letters_of, F_Terms_letters_of⟩ := c.def_ 16 (d := d_Terms_letters_of) rfl
  obtain ⟨f_Terms_first_letters_of, F_Terms_first_letters_of⟩ := c.def_ 17 (d := d_Terms_first_letters_of) rfl
  obtain ⟨f_Terms_put_in, F_Terms_put_in⟩ := c.def_ 18 (d := d_Terms_put_in) rfl
  obtain ⟨f_Terms_touched, F_Terms_touched⟩ := c.def_ 19 (d := d_Terms_touched) rfl
  obtain ⟨f_Terms_write, F_Terms_write⟩ := c.def_ 20 (d := d_Terms_write) rfl
  obtain ⟨f_Terms_shared, F_Terms_shared⟩ := c.def_ 21 (d := d_Terms_shared) rfl
  obtain ⟨f_Terms_from_shared, F_Terms_from_shared⟩ := c.def_ 22 (d := d_Terms_from_shared) rfl
  obtain ⟨f_Terms_of_row, F_Terms_of_row⟩ := c.def_ 23 (d := d_Terms_of_row) rfl
  obtain ⟨f_law_draws, F_law_draws⟩ := c.def_ 24 (d := d_law_draws) rfl
  obtain ⟨f_law_take, F_law_take⟩ := c.def_ 25 (d := d_law_take) rfl
  obtain ⟨f_law_is_number, F_law_is_number⟩ := c.def_ 26 (d := d_law_is_number) rfl
  obtain ⟨f_law_digits, F_law_digits⟩ := c.def_ 27 (d := d_law_digits) rfl
  obtain ⟨f_law_made, F_law_made⟩ := c.def_ 28 (d := d_law_made) rfl
  obtain ⟨f_law_put, F_law_put⟩ := c.def_ 29 (d := d_law_put) rfl
  obtain ⟨f_law_sizes, F_law_sizes⟩ := c.def_ 30 (d := d_law_sizes) rfl
  obtain ⟨f_law_small, F_law_small⟩ := c.def_ 31 (d := d_law_small) rfl
  obtain ⟨f_law_built, F_law_built⟩ := c.def_ 32 (d := d_law_built) rfl
  obtain ⟨f_law_tells, F_law_tells⟩ := c.def_ 33 (d := d_law_tells) rfl
  obtain ⟨f_law_refuses, F_law_refuses⟩ := c.def_ 34 (d := d_law_refuses) rfl
  obtain ⟨f_law_spoils, F_law_spoils⟩ := c.def_ 35 (d := d_law_spoils) rfl
  obtain ⟨f_law, F_law⟩ := c.def_ 36 (d := d_law) rfl
  let D : Ad := { a_is_name := He.fAd K d_is_name.at_, d_is_name := f_is_name, a_is_letter := He.fAd K d_is_letter.at_, d_is_letter := f_is_letter, a_letter_key := He.fAd K d_letter_key.at_, d_letter_key := f_letter_key, a_in_order := He.fAd K d_in_order.at_, d_in_order := f_in_order, a_Signature_init := He.fAd K d_Signature_init.at_, d_Signature_init := f_Signature_init, a_Signature_add_sort := He.fAd K d_Signature_add_sort.at_, d_Signature_add_sort := f_Signature_add_sort, a_Signature_add_sign := He.fAd K d_Signature_add_sign.at_, d_Signature_add_sign := f_Signature_add_sign, a_Signature_arguments := He.fAd K d_Signature_arguments.at_, d_Signature_arguments := f_Signature_arguments, a_Signature_result := He.fAd K d_Signature_result.at_, d_Signature_result := f_Signature_result, a_Signature_sort_of_word := He.fAd K d_Signature_sort_of_word.at_, d_Signature_sort_of_word := f_Signature_sort_of_word, a_joined := He.fAd K d_joined.at_, d_joined := f_joined, a_Terms_init := He.fAd K d_Terms_init.at_, d_Terms_init := f_Terms_init, a_Terms_put := He.fAd K d_Terms_put.at_, d_Terms_put := f_Terms_put, a_Terms_letter := He.fAd K d_Terms_letter.at_, d_Terms_letter := f_Terms_letter, a_Terms_make := He.fAd K d_Terms_make.at_, d_Terms_make := f_Terms_make, a_Terms_size_of := He.fAd K d_Terms_size_of.at_, d_Terms_size_of := f_Terms_size_of, a_Terms_letters_of := He.fAd K d_Terms_letters_of.at_, d_Terms_letters_of := f_Terms_letters_of, a_Terms_first_letters_of := He.fAd K d_Terms_first_letters_of.at_, d_Terms_first_letters_of := f_Terms_first_letters_of, a_Terms_put_in := He.fAd K d_Terms_put_in.at_, d_Terms_put_in := f_Terms_put_in, a_Terms_touched := He.fAd K d_Terms_touched.at_, d_Terms_touched := f_Terms_touched, a_Terms_write := He.fAd K d_Terms_write.at_, d_Terms_write := f_Terms_write, a_Terms_shared := He.fAd K d_Terms_shared.at_, d_Terms_shared := f_Terms_shared, a_Terms_from_shared := He.fAd K d_Terms_from_shared.at_, d_Terms_from_shared := f_Terms_from_shared, a_Terms_of_row := He.fAd K d_Terms_of_row.at_, d_Terms_of_row := f_Terms_of_row, a_law_draws := He.fAd K d_law_draws.at_, d_law_draws := f_law_draws, a_law_take := He.fAd K d_law_take.at_, d_law_take := f_law_take, a_law_is_number := He.fAd K d_law_is_number.at_, d_law_is_number := f_law_is_number, a_law_digits := He.fAd K d_law_digits.at_, d_law_digits := f_law_digits, a_law_made := He.fAd K d_law_made.at_, d_law_made := f_law_made, a_law_put := He.fAd K d_law_put.at_, d_law_put := f_law_put, a_law_sizes := He.fAd K d_law_sizes.at_, d_law_sizes := f_law_sizes, a_law_small := He.fAd K d_law_small.at_, d_law_small := f_law_small, a_law_built := He.fAd K d_law_built.at_, d_law_built := f_law_built, a_law_tells := He.fAd K d_law_tells.at_, d_law_tells := f_law_tells, a_law_refuses := He.fAd K d_law_refuses.at_, d_law_refuses := f_law_refuses, a_law_spoils := He.fAd K d_law_spoils.at_, d_law_spoils := f_law_spoils, a_law := He.fAd K d_law.at_, d_law := f_law, c_Signature := He.ga K "Signature", c_Terms := He.ga K "Terms" }
  have TF : Fns K mg D := {
    len := He.free_ok X G (c.fact 0 rfl),
    int := He.free_ok X G (c.fact 1 rfl),
    list' := He.free_ok X G (c.fact 2 rfl),
    tuple := He.free_ok X G (c.fact 3 rfl),
    sorted := He.free_ok X G (c.fact 4 rfl),
    reversed := He.free_ok X G (c.fact 5 rfl),
    enumerate := He.free_ok X G (c.fact 6 rfl),
    range := He.free_ok X G (c.fact 7 rfl),
    abs := He.free_ok X G (c.fact 8 rfl),
    sum := He.free_ok X G (c.fact 9 rfl),
    isinstance := He.free_ok X G (c.fact 10 rfl),
    any' := He.free_ok X G (c.fact 11 rfl),
    bool := He.free_ok X G (c.fact 12 rfl),
    F_is_name := F_is_name,
    b_is_name := FunD.bindsN (show Fn K "is_name" "is_name" s_is_name [] _ _ from F_is_name) (ps := ["text"]) fun _ _ _ _ _ _ us hl => match us, hl with | [_], _ => rfl,
    g_is_name := He.glo_ok X G (c.fact 14 rfl),
    F_is_letter := F_is_letter,
    b_is_letter := binds_full (show Fn K "is_letter" "is_letter" s_is_letter [.int 9] _ _ from F_is_letter) (ps := ["text", "digits"]) 2 fun _ _ _ _ _ _ _ us its hu hi => match us, hu, its, hi with | [_, _], _, [_], _ => ⟨_, rfl, rfl⟩,
    g_is_letter := He.glo_ok X G (c.fact 15 rfl),
    F_letter_key := F_letter_key,
    b_letter_key := FunD.bindsN (show Fn K "letter_key" "letter_key" s_letter_key [] _ _ from F_letter_key) (ps := ["letter"]) fun _ _ _ _ _ _ us hl => match us, hl with | [_], _ => rfl,
    g_letter_key := He.glo_ok X G (c.fact 16 rfl),
    F_in_order := F_in_order,
    b_in_order := FunD.bindsN (show Fn K "in_order" "in_order" s_in_order [] _ _ from F_in_order) (ps := ["letters"]) fun _ _ _ _ _ _ us hl => match us, hl with | [_], _ => rfl,
    g_in_order := He.glo_ok X G (c.fact 17 rfl),
    F_Signature_init := F_Signature_init,
    b_Signature_init := FunD.bindsN (show Fn K "__init__" "Signature.__init__" s_Signature_init [] _ _ from F_Signature_init) (ps := ["self", "sorts", "signs"]) fun _ _ _ _ _ _ us hl => match us, hl with | [_, _, _], _ => rfl,
    m_Signature_init := He.mkr_ok (c.fact 18 rfl),
    F_Signature_add_sort := F_Signature_add_sort,
    b_Signature_add_sort := FunD.bindsN (show Fn K "_add_sort" "Signature._add_sort" s_Signature_add_sort [] _ _ from F_Signature_add_sort) (ps := ["self", "name", "capital"]) fun _ _ _ _ _ _ us hl => match us, hl with | [_, _, _], _ => rfl,
    m_Signature_add_sort := He.meth_ok (c.fact 19 rfl),
    F_Signature_add_sign := F_Signature_add_sign,
    b_Signature_add_sign := FunD.bindsN (show Fn K "_add_sign" "Signature._add_sign" s_Signature_add_sign [] _ _ from F_Signature_add_sign) (ps := ["self", "name", "arguments", "result"]) fun _ _ _ _ _ _ us hl => match us, hl with | [_, _, _, _], _ => rfl,
    m_Signature_add_sign := He.meth_ok (c.fact 20 rfl),
    F_Signature_arguments := F_Signature_arguments,
    b_Signature_arguments := FunD.bindsN (show Fn K "arguments" "Signature.arguments" s_Signature_arguments [] _ _ from F_Signature_arguments) (ps := ["self", "sign"]) fun _ _ _ _ _ _ us hl => match us, hl with | [_, _], _ => rfl,
    m_Signature_arguments := He.meth_ok (c.fact 21 rfl),
    F_Signature_result := F_Signature_result,
    b_Signature_result := FunD.bindsN (show Fn K "result" "Signature.result" s_Signature_result [] _ _ from F_Signature_result) (ps := ["self", "sign"]) fun _ _ _ _ _ _ us hl => match us, hl with | [_, _], _ => rfl,
    m_Signature_result := He.meth_ok (c.fact 22 rfl),
    F_Signature_sort_of_word := F_Signature_sort_of_word,
    b_Signature_sort_of_word := binds_full (show Fn K "sort_of_word" "Signature.sort_of_word" s_Signature_sort_of_word [.int 9] _ _ from F_Signature_sort_of_word) (ps := ["self", "word", "digits"]) 3 fun _ _ _ _ _ _ _ us its hu hi => match us, hu, its, hi with | [_, _, _], _, [_], _ => ⟨_, rfl, rfl⟩,
    m_Signature_sort_of_word := He.meth_ok (c.fact 23 rfl),
    F_joined := F_joined,
    b_joined := FunD.bindsN (show Fn K "joined" "joined" s_joined [] _ _ from F_joined) (ps := ["first", "second"]) fun _ _ _ _ _ _ us hl => match us, hl with | [_, _], _ => rfl,
    g_joined := He.glo_ok X G (c.fact 24 rfl),
    F_Terms_init := F_Terms_init,
    b_Terms_init := FunD.bindsN (show Fn K "__init__" "Terms.__init__" s_Terms_init [] _ _ from F_Terms_init) (ps := ["self", "signature"]) fun _ _ _ _ _ _ us hl => match us, hl with | [_, _], _ => rfl,
    m_Terms_init := He.mkr_ok (c.fact 25 rfl),
    F_Terms_put := F_Terms_put,
    b_Terms_put := FunD.bindsN (show Fn K "_put" "Terms._put" s_Terms_put [] _ _ from F_Terms_put) (ps := ["self", "word", "parts", "kind"]) fun _ _ _ _ _ _ us hl => match us, hl with | [_, _, _, _], _ => rfl,
    m_Terms_put := He.meth_ok (c.fact 26 rfl),
    F_Terms_letter := F_Terms_letter,
    b_Terms_letter := FunD.bindsN (show Fn K "letter" "Terms.letter" s_Terms_letter [] _ _ from F_Terms_letter) (ps := ["self", "text"]) fun _ _ _ _ _ _ us hl => match us, hl with | [_, _], _ => rfl,
    m_Terms_letter := He.meth_ok (c.fact 27 rfl),
    F_Terms_make := F_Terms_make,
    b_Terms_make := FunD.bindsN (show Fn K "make" "Terms.make" s_Terms_make [] _ _ from F_Terms_make) (ps := ["self", "sign", "parts"]) fun _ _ _ _ _ _ us hl => match us, hl with | [_, _, _], _ => rfl,
    m_Terms_make := He.meth_ok (c.fact 28 rfl),
    F_Terms_size_of := F_Terms_size_of,
    b_Terms_size_of := FunD.bindsN (show Fn K "size_of" "Terms.size_of" s_Terms_size_of [] _ _ from F_Terms_size_of) (ps := ["self", "term"]) fun _ _ _ _ _ _ us hl => match us, hl with | [_, _], _ => rfl,
    m_Terms_size_of := He.meth_ok (c.fact 29 rfl),
    F_Terms_letters_of := F_Terms_letters_of,
    b_Terms_letters_of := FunD.bindsN (show Fn K "letters_of" "Terms.letters_of" s_Terms_letters_of [] _ _ from F_Terms_letters_of) (ps := ["self", "term"]) fun _ _ _ _ _ _ us hl => match us, hl with | [_, _], _ => rfl,
    m_Terms_letters_of := He.meth_ok (c.fact 30 rfl),
    F_Terms_first_letters_of := F_Terms_first_letters_of,
    b_Terms_first_letters_of := FunD.bindsN (show Fn K "first_letters_of" "Terms.first_letters_of" s_Terms_first_letters_of [] _ _ from F_Terms_first_letters_of) (ps := ["self", "term"]) fun _ _ _ _ _ _ us hl => match us, hl with | [_, _], _ => rfl,
    m_Terms_first_letters_of := He.meth_ok (c.fact 31 rfl),
    F_Terms_put_in := F_Terms_put_in,
    b_Terms_put_in := FunD.bindsN (show Fn K "put_in" "Terms.put_in" s_Terms_put_in [] _ _ from F_Terms_put_in) (ps := ["self", "term", "filling"]) fun _ _ _ _ _ _ us hl => match us, hl with | [_, _, _], _ => rfl,
    m_Terms_put_in := He.meth_ok (c.fact 32 rfl),
    F_Terms_touched := F_Terms_touched,
    b_Terms_touched := FunD.bindsN (show Fn K "_touched" "Terms._touched" s_Terms_touched [] _ _ from F_Terms_touched) (ps := ["self", "term", "filling"]) fun _ _ _ _ _ _ us hl => match us, hl with | [_, _, _], _ => rfl,
    m_Terms_touched := He.meth_ok (c.fact 33 rfl),
    F_Terms_write := F_Terms_write,
    b_Terms_write := FunD.bindsN (show Fn K "write" "Terms.write" s_Terms_write [] _ _ from F_Terms_write) (ps := ["self", "term"]) fun _ _ _ _ _ _ us hl => match us, hl with | [_, _], _ => rfl,
    m_Terms_write := He.meth_ok (c.fact 34 rfl),
    F_Terms_shared := F_Terms_shared,
    b_Terms_shared := FunD.bindsN (show Fn K "shared" "Terms.shared" s_Terms_shared [] _ _ from F_Terms_shared) (ps := ["self", "term"]) fun _ _ _ _ _ _ us hl => match us, hl with | [_, _], _ => rfl,
    m_Terms_shared := He.meth_ok (c.fact 35 rfl),
    F_Terms_from_shared := F_Terms_from_shared,
    b_Terms_from_shared := FunD.bindsN (show Fn K "from_shared" "Terms.from_shared" s_Terms_from_shared [] _ _ from F_Terms_from_shared) (ps := ["self", "rows"]) fun _ _ _ _ _ _ us hl => match us, hl with | [_, _], _ => rfl,
    m_Terms_from_shared := He.meth_ok (c.fact 36 rfl),
    F_Terms_of_row := F_Terms_of_row,
    b_Terms_of_row := FunD.bindsN (show Fn K "_of_row" "Terms._of_row" s_Terms_of_row [] _ _ from F_Terms_of_row) (ps := ["self", "row", "numbers"]) fun _ _ _ _ _ _ us hl => match us, hl with | [_, _, _], _ => rfl,
    m_Terms_of_row := He.meth_ok (c.fact 37 rfl),
    F_law_draws := F_law_draws,
    b_law_draws := FunD.bindsN (show Fn K "_law_draws" "_law_draws" s_law_draws [] _ _ from F_law_draws) (ps := ["script", "first", "cells"]) fun _ _ _ _ _ _ us hl => match us, hl with | [_, _, _], _ => rfl,
    g_law_draws := He.glo_ok X G (c.fact 38 rfl),
    F_law_take := F_law_take,
    b_law_take := FunD.bindsN (show Fn K "_law_take" "_law_take" s_law_take [] _ _ from F_law_take) (ps := ["draws", "many"]) fun _ _ _ _ _ _ us hl => match us, hl with | [_, _], _ => rfl,
    g_law_take := He.glo_ok X G (c.fact 39 rfl),
    F_law_is_number := F_law_is_number,
    b_law_is_number := FunD.bindsN (show Fn K "_law_is_number" "_law_is_number" s_law_is_number [] _ _ from F_law_is_number) (ps := ["told"]) fun _ _ _ _ _ _ us hl => match us, hl with | [_], _ => rfl,
    g_law_is_number := He.glo_ok X G (c.fact 40 rfl),
    F_law_digits := F_law_digits,
    b_law_digits := FunD.bindsN (show Fn K "_law_digits" "_law_digits" s_law_digits [] _ _ from F_law_digits) (ps := ["draws"]) fun _ _ _ _ _ _ us hl => match us, hl with | [_], _ => rfl,
    g_law_digits := He.glo_ok X G (c.fact 41 rfl),
    F_law_made := F_law_made,
    b_law_made := FunD.bindsN (show Fn K "_law_made" "_law_made" s_law_made [] _ _ from F_law_made) (ps := ["rows", "word", "places"]) fun _ _ _ _ _ _ us hl => match us, hl with | [_, _, _], _ => rfl,
    g_law_made := He.glo_ok X G (c.fact 42 rfl),
    F_law_put := F_law_put,
    b_law_put := FunD.bindsN (show Fn K "_law_put" "_law_put" s_law_put [] _ _ from F_law_put) (ps := ["rows", "inner"]) fun _ _ _ _ _ _ us hl => match us, hl with | [_, _], _ => rfl,
    g_law_put := He.glo_ok X G (c.fact 43 rfl),
    F_law_sizes := F_law_sizes,
    b_law_sizes := FunD.bindsN (show Fn K "_law_sizes" "_law_sizes" s_law_sizes [] _ _ from F_law_sizes) (ps := ["rows"]) fun _ _ _ _ _ _ us hl => match us, hl with | [_], _ => rfl,
    g_law_sizes := He.glo_ok X G (c.fact 44 rfl),
    F_law_small := F_law_small,
    b_law_small := FunD.bindsN (show Fn K "_law_small" "_law_small" s_law_small [] _ _ from F_law_small) (ps := ["draws", "letter", "one", "many", "arity"]) fun _ _ _ _ _ _ us hl => match us, hl with | [_, _, _, _, _], _ => rfl,
    g_law_small := He.glo_ok X G (c.fact 45 rfl),
    F_law_built := F_law_built,
    b_law_built := FunD.bindsN (show Fn K "_law_built" "_law_built" s_law_built [] _ _ from F_law_built) (ps := ["terms", "rows"]) fun _ _ _ _ _ _ us hl => match us, hl with | [_, _], _ => rfl,
    g_law_built := He.glo_ok X G (c.fact 46 rfl),
    F_law_tells := F_law_tells,
    b_law_tells := FunD.bindsN (show Fn K "_law_tells" "_law_tells" s_law_tells [] _ _ from F_law_tells) (ps := ["terms", "number", "rows", "letter"]) fun _ _ _ _ _ _ us hl => match us, hl with | [_, _, _, _], _ => rfl,
    g_law_tells := He.glo_ok X G (c.fact 47 rfl),
    F_law_refuses := F_law_refuses,
    b_law_refuses := FunD.bindsN (show Fn K "_law_refuses" "_law_refuses" s_law_refuses [] _ _ from F_law_refuses) (ps := ["terms", "rows", "spoilt", "due"]) fun _ _ _ _ _ _ us hl => match us, hl with | [_, _, _, _], _ => rfl,
    g_law_refuses := He.glo_ok X G (c.fact 48 rfl),
    F_law_spoils := F_law_spoils,
    b_law_spoils := FunD.bindsN (show Fn K "_law_spoils" "_law_spoils" s_law_spoils [] _ _ from F_law_spoils) (ps := ["draws", "terms", "rows", "one", "many", "arity"]) fun _ _ _ _ _ _ us hl => match us, hl with | [_, _, _, _, _, _], _ => rfl,
    g_law_spoils := He.glo_ok X G (c.fact 49 rfl),
    F_law := F_law,
    b_law := FunD.bindsN (show Fn K "law" "law" s_law [] _ _ from F_law) (ps := ["script"]) fun _ _ _ _ _ _ us hl => match us, hl with | [_], _ => rfl,
    g_law := He.glo_ok X G (c.fact 50 rfl),
    g_Signature := He.glo_ok X G (c.fact 51 rfl),
    cl_Signature := He.cls_ok (c.fact 52 rfl),
    n_Signature__capitals := He.noat_ok (c.fact 53 rfl),
    n_Signature__sorts := He.noat_ok (c.fact 54 rfl),
    n_Signature__arguments := He.noat_ok (c.fact 55 rfl),
    n_Signature__results := He.noat_ok (c.fact 56 rfl),
    n_Signature_sorts := He.noat_ok (c.fact 57 rfl),
    n_Signature_signs := He.noat_ok (c.fact 58 rfl),
    n_Signature_said := He.noat_ok (c.fact 59 rfl),
    g_Terms := He.glo_ok X G (c.fact 60 rfl),
    cl_Terms := He.cls_ok (c.fact 61 rfl),
    n_Terms_signature := He.noat_ok (c.fact 62 rfl),
    n_Terms__numbers := He.noat_ok (c.fact 63 rfl),
    n_Terms__texts := He.noat_ok (c.fact 64 rfl),
    n_Terms__words := He.noat_ok (c.fact 65 rfl),
    n_Terms__parts := He.noat_ok (c.fact 66 rfl),
    n_Terms__kinds := He.noat_ok (c.fact 67 rfl),
    n_Terms__sizes := He.noat_ok (c.fact 68 rfl),
    n_Terms__letters := He.noat_ok (c.fact 69 rfl) }
  have gl : Glb mg := ⟨He.free_ok X G (c.fact 0 rfl), He.str_ok X G (c.fact 70 rfl), He.str_ok X G (c.fact 71 rfl), He.str_ok X G (c.fact 72 rfl), He.free_ok X G (c.fact 1 rfl), He.free_ok X G (c.fact 2 rfl), He.free_ok X G (c.fact 3 rfl), He.free_ok X G (c.fact 4 rfl)⟩
  obtain ⟨st1, rest1, ar1, t1⟩ := textB
  obtain ⟨st2, rest2, ar2, t2⟩ := textT
  obtain ⟨e1, o1⟩ := c.err 0 (d := dB) rfl
  obtain ⟨e2, o2⟩ := c.err 1 (d := dT) rfl
  have gS : mg "super" = none := He.free_ok X G (c.fact 13 rfl)
  obtain ⟨x1, y1⟩ := HeX.ErrD.errTxt X G e1 o1 gS t1
  obtain ⟨x2, y2⟩ := HeX.ErrD.errTxt X G e2 o2 gS t2
  have T : Txt K PP mg D (He.ga K "BadRows") (He.ga K "TooLarge") (HeX.fI K "BadRows") (HeX.fI K "TooLarge") := { TF with G := gl, mw := He.int_ok X G (c.fact 73 rfl), rows := x1, large := x2 }
  have TE : TxtE K mg (He.ga K "BadRows") (He.ga K "TooLarge") (He.ga K "RuleError") := { gR := He.glo_ok X G (c.fact 74 rfl), xB := y1, nB := x1.F.no "place" (List.mem_singleton.mpr rfl), mB := He.exm_ok (c.fact 75 rfl), xT := y2, nT := x2.F.no "size" (List.mem_singleton.mpr rfl), mT := He.exm_ok (c.fact 76 rfl) }
  have e := hfa.symm.trans T.g_law
  cases e
  have b := FunD.bindsA (ps := ["script"]) F_law fun _ _ _ _ _ _ us hl => match us, hl with | [_], _ => rfl
  exact ⟨f_law, fun s v => b s [v] rfl, fun base _ _ => ok_law T TE⟩
end R87
open PySem PySem.W PySem.Calls PyProof.Rows
set_option maxRecDepth 100000 in
set_option maxHeartbeats 0 in
theorem PySem.Challenge.cw_rulesonrules_k87_great_terms_shared_holds : PySem.Challenge.rw_rulesonrules_k87_great_terms_shared.Holds := by
  w_on; o_law
  refine HandSHeadRun.head_any (r := R87.R) (q := R87.qv) (H := R87.hk) (ob := R87.ob) (M := 6000) (loose := R87.names) (d := HandSHeadRun.topDef R87.R.prog 39) (kwd := []) R87.ob_eq
    (by kernel_rfl) (fun s => by kernel_rfl) R87.run (by kernel_rfl) (by kernel_rfl) (by kernel_rfl) (by rfl) (by first | assumption | decide +kernel) (by decide +kernel) ⟨rfl, rfl, rfl, rfl, rfl, by decide +kernel⟩ ?hw ?hc
  case hw => w_witness2
  case hc =>
    refine L2.walk_ofE (l := PySem.Challenge.rw_rulesonrules_k87_great_terms_shared) (n := 63) (k := 7) (x := "script") (CX := L2.CX0) rfl (by decide) (by kernel_rfl) ⟨rfl, by decide, by decide⟩ ?F (fun _ _ _ _ z => z)
    intro w mg fa h Y G hmg0
    obtain ⟨K, KX, c⟩ := Y
    have hmg : mg ("law" : PySem.Str) = some (.ref fa) := by
      have e : (HandSHeadRun.topDef R87.R.prog 39).name = ("law" : PySem.Str) := by kernel_rfl
      rw [← e]
      exact hmg0
    obtain ⟨fd, hb, hF⟩ := R87.facts (w := w) KX G hmg c
    exact ⟨K, fd, R87.spLaw K, KX, hb, fun H a ns hl _ hS => ⟨a, ns, rfl, hS, fun _ => rfl⟩, hF⟩
