import PyProof.Rows.All
import Wide.All
import OpenK.AllK
import Wide.FinOn
import HandS.ForMost
import HandS.ForSpec
import HandS.ExcSuper
import KE.KExcSuper
import KE.KExcIs
import HandS.MakeKwOnly
import HandS.WordsExc
import HandS.Walk
import HandS.IsInst
import HandS.Deep
import HandS.OwnEq
import HandS.RaiseMore
import PyProof.ReprRoads
import PyProof.ReprLen
import HandS.Dict
import KE.SortData
import KE.DataMinMax
import KE.DataEq
import KE.GoesEnum
import KE.GoesMore
import HandS.DictTup
import KE.SortKeyed
import HandS.Style
import HandS.TupAny
import PyProof.Rows.ReprOcc
import HandS.DictComp
import HandS.Strs
import HandS.SetFor
import KE.KRevSl
import PyProof.ReprText
import HandS.TupMul
import KE.KDictSum
import HandS.SortInts
import HandS.WordsDict
import HandS.Wide
import PyProof.Rows.Walk
import PySem.Challenge.RW_heapworks_k43_rules_and_regions
set_option Elab.async false
set_option linter.all false
set_option maxRecDepth 100000
set_option maxHeartbeats 4000000
/-! ErrX: the program's own errors: class D(ValueError) with __init__(self, value): super().__init__('heapworks'); self.value = value, and classes below it. -/
namespace PySem
namespace ErrX
open PySem.W PySem.Calls PyProof.Rows PySem.HandSPX
/-! ### the text of __init__ -/
def iA (p1 p2 : Pos) : Arguments := { posonlyargs := [], args := [{ arg := "self", annotation := none, pos := p1 }, { arg := "value", annotation := none, pos := p2 }], vararg := none, kwonlyargs := [], kw_defaults := [], kwarg := none, defaults := [] }
def iB (a1 a2 a3 a4 a5 a6 q1 q2 q3 q4 : Pos) (j : Nat) : List Stmt :=
  [.Expr (.Call (.Attribute (.Call (.Name "super" a1) [] [] a2) "__init__" a3) [.Constant (.str "heapworks") j a4] [] a5) a6, .Assign [.Attribute (.Name "self" q1) "value" q2] (.Name "value" q3) q4]
def iS : Scope := { kind := .function, names := [(PySem.Str.ofString "self", .local), (PySem.Str.ofString "value", .local), (PySem.Str.ofString "__class__", .free), (PySem.Str.ofString "super", .globalImplicit)], isGenerator := false, isCoroutine := false, more := [] }
/-- what the written part says of an error's class at C, whose base D has the __init__ at fI -/
structure ErrTxt (prog : Program) (K : Frag) (C D fI : Addr) : Prop where
  cls : ∃ nm q N bs bm sn sub ab col dd k0 k1 k2 k3 k5, K.lookup C = some (excClassObj nm q C N bs bm true sn sub ab col dd k0 k1 k2 k3 k5 "ValueError.__new__") ∧ refsVE bm = true
  sa : findIn K (.ref C) "__setattr__" = some (some (.builtin "object.__setattr__"))
  ga : findIn K (.ref C) "__getattribute__" = some (some (.builtin "BaseException.__getattribute__"))
  gg : findIn K (.ref C) "__getattr__" = some none
  noV : findIn K (.ref C) "value" = some none
  iC : findIn K (.ref C) "__init__" = some (some (.ref fI))
  tC : typeIn K (.ref fI) = some (.type "function")
  kC : keepIn K (.ref C) = true
  exC : subIn K (.ref C) (.type "BaseException") = some true
  veC : subIn K (.ref C) (.type "ValueError") = some true
  tyC : typeIn K (.ref C) = some (.type "type")
  hdC : hasDictIn K C = true
  te : exmOne K (.ref C) (.ref D) = some true
  inD : mroIn K C (.ref D) = some true
  sup : ks_superIn K C D "__init__" = some (some (.builtin "ValueError.__init__"))
  opq : nsIn K cStatics "thirdparty.any" = some none
  noS : nsIn K mainGlobals "super" = some none
  top : (prog.main.scope.names.lookup ("super" : Str)).isSome = false
  dc : ∃ cdD, clsIn K D = some cdD
  fn : ∃ (oc : Value) (od : Option Addr) (doc pm : Value) (an : Option Addr) (cda cc : Addr) (ct : Value) (osl : Array (Option Value)) (p1 p2 a1 a2 a3 a4 a5 a6 q1 q2 q3 q4 : Pos) (j : Nat),
    K.lookup fI = some ⟨oc, od, .func (ksFn "__init__" "HeapError.__init__" (iA p1 p2) (iB a1 a2 a3 a4 a5 a6 q1 q2 q3 q4 j) iS .none .none doc pm an (.ref cda) ct cc), osl⟩ ∧ codeIn K (.ref cda) "HeapError.__init__" = true ∧ (a3.endLine == a5.line) = true ∧
    (∃ (ccl : Value) (cdd : Option Addr) (vs : Array Value) (ccs : Array (Option Value)) (file : Str) (tf : Tok), K.lookup cda = some ⟨ccl, cdd, .fields vs, ccs⟩ ∧ vs[2]? = some (.str file tf) ∧ ((prog.main.file : Str) == file) = true) ∧
    ∃ (cl : Value) (cld : Option Addr) (csl : Array (Option Value)), K.lookup cc = some ⟨cl, cld, .cell (some (.ref D)), csl⟩
section
variable {prog : Program} {w : World} {A : Around} {E : Value → Shared → Prop} {h : Heap} {g : Array GenState} {d : Drawn} {t : Nat} {os : OsState}
/-- ValueError.__init__, bound to e, called: its args are laid anew -/
theorem call_ve {nm q : Str} {C N : Addr} {bs bm : List Value} {hdct : Bool} {sn : List Str} {sub : List Value} {ab : Bool} {col : Option Bool} {dd : Option Addr} {k0 k1 k2 k3 k5 : Option Value} {u e t0 : Addr} {rest : List Value} {Q : Value → Shared → Prop}
    (hC : h.get? C = some (excClassObj nm q C N bs bm hdct sn sub ab col dd k0 k1 k2 k3 k5 "ValueError.__new__")) (he : h.get? e = some (excO C t0)) (hu : h.get? u = some (kxs_mw "ValueError.__init__" e)) (hrest : rest.length ≤ sizeLine)
    (hq : ∀ h' t1, (∀ b o, b ≠ e → h.get? b = some o → h'.get? b = some o) → h'.get? e = some (excO C t1) → Q .none ⟨h', g, d, t, os⟩) :
    wpAny (model prog w) A (call (.ref u) rest) Q E ⟨h, g, d, t, os⟩ := by
  refine wpAny_call (codeAny_of_tree (show wpAny _ A.in1 (callAny (.ref u) ⟨rest, []⟩) _ _ _ from ?_))
  simp only [callAny]
  refine wpAny_bind (wpAny_load hu ?_)
  simp only [kxs_mw, show (Value.type "method-wrapper" == Value.type "method" || Value.type "method-wrapper" == Value.type "builtin_function_or_method" || Value.type "method-wrapper" == Value.type "method-wrapper") = true from by decide, if_true]
  refine KFB.if_so (by decide) (wpAny_bind (ESX.check_bound F.excBase_ValueError hC he rfl (wpAny_bind (wpAny_pure (wpAny_pure ⟨Code.quiet_builtin _ (by decide +kernel), codeAny_builtin F.excBase_ValueError.initEntry ?_⟩)))))
  rw [Around.under_plainId F.excBase_ValueError.init.plain _]
  wp_walk
  refine hq _ h.objs.size (fun b o hb ho => (Heap.get?_update_other _ _ (Ne.symm hb)).trans (Heap.get?_push_of_some _ ho)) ?_
  rw [Heap.get?_update_self _ (Heap.get?_push_of_some _ he) rfl]
  rfl
end
/-- what __init__ leaves of a fresh exception at x -/
structure ErrEnd (h h' : Heap) (x C dx : Addr) (v : Value) : Prop where
  keep : ∀ b o, b ≠ x → h.get? b = some o → h'.get? b = some o
  obj : ∃ t1 : Addr, h'.get? x = some { cls := .ref C, dict := some dx, data := .fields #[.ref t1, .none, .none, .none, .bool false, .none] }
  dbig : h.objs.size ≤ dx
  dne : dx ≠ x
  ns : h'.Ns1 dx (fun y => if y = "value" then some v else none)
/-- the names of the module, and the built-in ones -/
structure Around0 (h : Heap) (mg : Str → Option Value) : Prop where
  glob : h.Ns mainGlobals mg
  blt : ∃ mb, h.Ns builtinsNs mb ∧ mb "super" = some (.type "super")
  noS : mg "super" = none
section
variable {prog : Program} {w : World} {A : Around} {E : Value → Shared → Prop} {R : Result → Shared → Prop} {s : Shared} {K : Frag} {mg : Str → Option Value} {C D fI : Addr}
theorem err_init (T : ErrTxt prog K C D fI) {x t0 : Addr} {v : Value} (X : K.In s.heap) (G : Around0 s.heap mg) (hlim : s.heap.NoLimit) (hx : s.heap.get? x = some (excO C t0)) (hnx : K.lookup x = none) (hroom : A.depth < recursionLimit)
    (hq : ∀ h' tk dx, ErrEnd s.heap h' x C dx v → R (.ok (.ret .none)) { s with heap := h', toks := tk }) :
    codeAny (model prog w) A (.call (.ref fI) ⟨[.ref x, v], []⟩) R s := by
  obtain ⟨oc, od, doc, pm, an, cda, cc, ct, osl, p1, p2, a1, a2, a3, a4, a5, a6, q1, q2, q3, q4, j, ho, hcd, hln, ⟨ccl, cdd, vs, ccs, file, tf, hcda, hvs, hfile⟩, cl, cld, csl, hcc⟩ := T.fn
  obtain ⟨nm, q, N, bs, bm, sn, sub, ab, col, dd, k0, k1, k2, k3, k5, hC, hbm⟩ := T.cls
  obtain ⟨cdD, hD⟩ := T.dc
  have hcl : clsIn K C = some { name := nm, bases := bs, mro := .ref C :: bm, ns := N, qualname := q, hasDict := true, slotNames := sn, subclasses := sub, abstract := ab, collection := col, hasDel := false } := by unfold clsIn; rw [hC] <;> rfl
  refine ks_codeAny_call_defAt (binds := [("self", .ref x), ("value", v)]) hroom (X _ _ ho) rfl hlim (codeRec_of X hcd) rfl (BindsTo.of_eq (by first | rfl | with_unfolding_all rfl)) (show ∀ x ∈ iS.names, x.2 ≠ .cell by decide) (by intro y hy; simp at hy; rcases hy with rfl | rfl <;> rfl) (fun h₀ hns hk => ?_)
  have X₀ : K.In h₀ := X.keeps hk
  have hx₀ := hk _ _ hx
  obtain ⟨g, gl, dr, tk, os⟩ := s
  have hD0 : ∃ oD, h₀.get? D = some oD ∧ oD.data = .cls cdD := by
    unfold clsIn at hD
    split at hD
    · rename_i c d cd' sl hoD
      cases hD
      exact ⟨_, X₀ _ _ hoD, rfl⟩
    · cases hD
  obtain ⟨oD, hD1, hD2⟩ := hD0
  obtain ⟨mb, hb1, hb2⟩ := G.blt
  show wpAt _ _ _ (execs (_ :: _) _) _ _ _
  refine ks_wpAt_execs_cons ?_
  refine ks_wpAt_Expr_any ?_
  refine ks_wpAt_MethodCall (pl := pure false) ?_ (he := ?h2)
  case h2 =>
    rw [arm_eval_Call]
    unfold methodCall methodCallPos calleeOf
    rw [hln]
    simp only [show ∀ l, methodCallForm 1 (backTo a5 (starEach [Expr.Constant (Const.str "heapworks") j a4] l)) (backToKw a5 (keywordEach [] l)) = true from fun l => rfl, show ([Expr.Constant (Const.str "heapworks") j a4].length + ([] : List Keyword).length) = 1 from rfl, if_true, Bool.or_true, pure_bind]
    rfl
  refine ks_wpAt_super_base (by rfl) (by rfl) (by decide) (by rfl) (X₀ _ _ ho) rfl (by rfl) (by rfl) (X₀ _ _ hcda) rfl hvs hfile T.top ?_
  have hnx0 : x ≠ C := by
    rintro rfl
    rw [hnx] at hC
    cases hC
  have hb3 : (h₀.Ns builtinsNs mb) := hb1.keeps hk
  refine ks_loadName_global (by rfl) (by rfl) (loadGlobal_builtin (G.glob.keeps hk) G.noS hb3 hb2 ⟨rfl, ?_⟩)
  refine wpAny_loadName_free (by rfl) (by rfl) (by rfl) ⟨_, X₀ _ _ hcc, rfl⟩ ?_
  refine wpAny_loadName_local (by rfl) (by rfl) hns (show _ = some (Value.ref x) from rfl) ?_
  refine ks_wpAny_isType_cls hD1 hD2 ⟨rfl, ?_⟩
  refine ks_wpAny_call_super hD1 hD2 hx₀ rfl (fun c e => by cases e) (looks_mroIn X₀ T.inD) (fun h₁ hso k₁ => ?_)
  have X₁ : K.In h₁ := X₀.keeps k₁
  have hx₁ := k₁ _ _ hx₀
  have hsup := T.sup
  unfold ks_superIn at hsup
  rw [hcl] at hsup
  have I₁ : InstAt h₁ x (excO C t0) C none := ⟨hx₁, rfl, rfl, trivial⟩
  have hI : Looks (model prog w) h₁ (isInstance (.ref x) (.type "ValueError")) true := I₁.type.andThen (looks_subIn X₁ T.veC)
  refine kxs_getMethod kxs_ValueError hso (looks_opaque X₁ T.opq) (l₀ := .ref C :: bm) ?_ rfl X₁ hsup hI hnx0 (by decide) ?_
  · exact fun A Q E s k q => wpAny_bind ((looks_clsIn X₁ hcl) A _ E s k (wpAny_pure q))
  have hu : (h₁.push (kxs_mw "ValueError.__init__" x)).get? h₁.objs.size = some (kxs_mw "ValueError.__init__" x) := Heap.get?_push_at rfl rfl
  refine kxs_callWith (i := "ValueError.__init__") (x := x) (by rfl) (evalArgs_plain ?_)
  wp_walk
  have push : ∀ {b o}, h₁.get? b = some o → (h₁.push (kxs_mw "ValueError.__init__" x)).get? b = some o := fun e => Heap.get?_push_of_some _ e
  refine ⟨hu, call_ve (push (X₁ _ _ hC)) (push hx₁) hu (by rw [sizeLine_eq]; exact (by decide : 1 ≤ 16777216)) fun h₂ t1 k₂ hx₂ => ?_⟩
  have hxL : g.objs.size ≠ x := Nat.ne_of_gt (Heap.lt_size hx)
  have hxK : ∀ b o, K.lookup b = some o → b ≠ x := fun b o e z => by rw [z, hnx] at e; cases e
  have X₂ : K.In h₂ := fun b o e => k₂ b o (hxK b o e) (push (X₁ b o e))
  have all : ∀ b o, b ≠ x → g.get? b = some o → h₂.get? b = some o := fun b o hb e => k₂ b o hb (push (k₁ b o (hk b o e)))
  have hns₂ := hns.at (fun o q => k₂ g.objs.size o hxL (push (k₁ _ o q)))
  refine wpAt_of_wpAny ?_
  refine wpAny_execs_cons (plainObj_wpAny_Assign_Attribute ?_)
  refine ESX.ldL (v := v) hns₂ (by first | rfl | with_unfolding_all rfl) (ESX.ldL (v := .ref x) hns₂ (by first | rfl | with_unfolding_all rfl) ?_)
  refine set_plain X₂ (ox := excO C t1) (od := none) ⟨hx₂, rfl, rfl, trivial⟩ T.sa (exc_osa X₂ hx₂ hcl (show refsVE (.ref C :: bm) = true from hbm) rfl T.noV (fun h₃ tk₃ dx k₃ dn dne hx₃ hn₃ => ?_))
  have z : g.objs.size < h₂.objs.size := hns₂.lt
  exact wpAny_execs_nil (hq h₃ tk₃ dx ⟨fun b o hb e => k₃ b o hb (all b o hb e), ⟨t1, hx₃⟩, Nat.le_of_lt (Nat.lt_of_lt_of_le z dn), dne, hn₃⟩)
theorem one_size (v : Value) : [v].length ≤ sizeLine := by
  rw [sizeLine_eq]
  exact (by decide : 1 ≤ 16777216)
/-- an error made -/
structure ErrMade (h h' : Heap) (e C d : Addr) (v : Value) : Prop where
  keep : ∀ b o, h.get? b = some o → h'.get? b = some o
  new : h.objs.size ≤ e
  obj : ∃ oe vs, h'.get? e = some oe ∧ oe.cls = .ref C ∧ oe.dict = some d ∧ oe.data = .fields vs ∧ vs[1]? = some .none
  dbig : h.objs.size ≤ d
  dne : d ≠ e
  ns : h'.Ns1 d (fun y => if y = "value" then some v else none)
theorem err_made (T : ErrTxt prog K C D fI) {v : Value} (X : K.In s.heap) (G : Around0 s.heap mg) (hlim : s.heap.NoLimit) (hroom : A.depth + 1 < recursionLimit)
    (hq : ∀ h' tk e d, ErrMade s.heap h' e C d v → R (.ok (.ret (.ref e))) { s with heap := h', toks := tk }) :
    codeAny (model prog w) A (.call (.ref C) ⟨[v], []⟩) R s := by
  obtain ⟨nm, q, N, bs, bm, sn, sub, ab, col, dd, k0, k1, k2, k3, k5, hC, hbm⟩ := T.cls
  obtain ⟨hp, g, dr, tk, os⟩ := s
  have k : ∀ b o, hp.get? b = some o → ((hp.push (kdv_tup [v])).push (excO C hp.objs.size)).get? b = some o := fun b o e => Heap.get?_push_of_some _ (Heap.get?_push_of_some _ e)
  have hget : ((hp.push (kdv_tup [v])).push (excO C hp.objs.size)).get? (hp.objs.size + 1) = some (excO C hp.objs.size) := by heap_get
  have hnx : K.lookup (hp.objs.size + 1) = none := by
    cases e : K.lookup (hp.objs.size + 1) with
    | none => rfl
    | some o =>
      have z : hp.get? (hp.objs.size + 1) = some o := X _ _ e
      exact absurd (Nat.lt_of_succ_lt (Heap.lt_size z)) (Nat.lt_irrefl _)
  obtain ⟨mb, g1, g2⟩ := G.blt
  have G' : Around0 ((hp.push (kdv_tup [v])).push (excO C hp.objs.size)) mg := ⟨G.glob.keeps k, ⟨mb, g1.keeps k, g2⟩, G.noS⟩
  refine call_own F.excBase_ValueError (fun X => refsVE_contains X bm hbm) (X _ _ hC) (looks_findIn X T.iC) (fun self => bind_fn X self T.tC) (one_size v) ?_
  refine err_init (s := ⟨(hp.push (kdv_tup [v])).push (excO C hp.objs.size), g, dr, tk, os⟩) T (X.keeps k) G' (hlim.keeps k) hget hnx ?_ fun h' tk' dx ⟨k', ⟨t1, hx⟩, dn, dne, hns⟩ => ?_
  · show A.depth + 1 < recursionLimit
    exact hroom
  · have old : ∀ b o, hp.get? b = some o → h'.get? b = some o := fun b o e => k' b o (Nat.ne_of_lt (Nat.lt_succ_of_lt (Heap.lt_size e))) (k b o e)
    have z : hp.objs.size + 1 + 1 ≤ dx := by
      first
        | (simpa only [Heap.size_push] using dn)
        | exact dn
        | (have q := dn; rw [Heap.size_push, Heap.size_push] at q; exact q)
    exact ⟨rfl, hq h' tk' (hp.objs.size + 1) dx ⟨old, Nat.le_succ _, ⟨_, _, hx, rfl, rfl, rfl, rfl⟩, Nat.le_trans (Nat.le_trans (Nat.le_succ _) (Nat.le_succ _)) z, dne, hns⟩⟩
end
end ErrX
end PySem
namespace L2
open PySem PySem.Spec PyProof.Rows
theorem relO_val {v : V} {v' : Value} (r : RelV v v') (f : Str) : RelO (List.lookup f [(("value" : Str), v)]) (if f = "value" then some v' else none) := by
  by_cases hw : f = "value"
  · subst hw
    rw [if_pos rfl]
    have q : List.lookup ("value" : Str) [(("value" : Str), v)] = some v := by simp [List.lookup]
    rw [q]
    exact r
  · rw [if_neg hw]
    have qw : (f == ("value" : Str)) = false := by simpa using hw
    have q2 : List.lookup f [(("value" : Str), v)] = none := by simp [List.lookup, qw]
    rw [q2]
    trivial
section
variable {X : Cx} {C D fI : Addr}
/-- Err(e) -/
def tMkErr (C : Addr) (ta : TA) : L2.St → Hp → XK → Prop := fun σ H Q => ta σ H fun vs H1 => ∃ v, vs = [v] ∧ ∀ d, H1 d = none → Q (.ref C) (some d) (upd H1 d (.xd [(("value" : Str), v)]))
theorem pmk_err {x : Str} {a : Expr} {ta : TA} {p pos : Pos} {k : Nat} (T : PySem.ErrX.ErrTxt X.prog X.K C D fI) (gC : X.mg x = some (.ref C)) (noS : X.mg "super" = none) (hr : Room k X.A) (ha : PA X [a] ta) (hg : Gl X x := by rfl) (hdb : (x == ("__debug__" : Str)) = false := by decide)
    (he : starEach (a :: []) X.env = (false, eval a X.env) :: starEach [] X.env := by rfl) (hpl : (backTo pos (starEach [] X.env)).any (·.1) = false := by rfl) :
    PMk X (.Call (.Name x p) [a] [] pos) (tMkErr C ta) := by
  intro pins s σ H Q I h
  refine wpAny_Call_Name_kw (ld_glob I hg gC ?_ hdb)
  refine PySem.W.callWith_K (h₀ := X.base) I.ok.mod.kin T.kC (thn (ha.run pos pins s σ H _ I h) fun us s1 hh => ?_) he hpl
  obtain ⟨vs, H1, I1, r1, v, ev, q1⟩ := hh
  subst ev
  refine ⟨I1.kIn, ?_⟩
  cases r1 with
  | cons rv rn =>
    rename_i v' us'
    cases rn
    show wpAny _ _ (call (.ref C) [v']) _ _ _
    have hlim := I1.nolimit
    have G : PySem.ErrX.Around0 s1.heap X.mg := by
      obtain ⟨mb, h1, h2⟩ := I1.mod.blt
      exact ⟨I1.mod.glob.keeps I1.bk, ⟨mb, h1.keeps I1.bk, (h2 "super" (by decide)).trans (by decide +kernel)⟩, noS⟩
    obtain ⟨hp, g, dr, tk, os⟩ := s1
    refine wpAny_call (PySem.ErrX.err_made T I1.kIn G hlim (by have := hr.dp; omega) fun h' tk' e d M => ?_)
    show MkP X pins σ Q (.ref e) ⟨h', g, dr, tk', os⟩
    obtain ⟨oe, fv, hoe, hc, hd, hdat, h1⟩ := M.obj
    have hns := M.ns
    obtain ⟨G', g1, g2⟩ := restrict h' fun b => decide (b ≠ e)
    have gk : ∀ b, b ≠ e → G'.get? b = h'.get? b := fun b hb => g1 b (decide_eq_true hb)
    have ge : G'.get? e = none := g2 e (by simp)
    have old : ∀ b o, hp.get? b = some o → G'.get? b = some o := fun b o q => (gk b (Nat.ne_of_lt (Nat.lt_of_lt_of_le (Heap.lt_size q) M.new))).trans (M.keep b o q)
    have ob : ObjOk X.prog X.w (upd H1 d (.xd [(("value" : Str), v)])) G' d (.xd [(("value" : Str), v)]) :=
      ⟨_, hns.at (fun o q => (gk d M.dne).trans q), fun f => relO_val rv f⟩
    have J : Inv X pins σ (upd H1 d (.xd [(("value" : Str), v)])) ⟨G', g, dr, tk', os⟩ := I1.laid (t' := tk') old M.dbig ob
    refine ⟨e, oe, fv, ⟨G', g, dr, tk', os⟩, _, .ref C, some d, rfl, J, fun b o q => ?_, ge, hoe, ⟨hc, hd⟩, hdat, h1, ?_, rfl, I1.bare, raises_own T.exC T.tyC, q1 d (I1.hok.fresh M.dbig)⟩
    · by_cases hb : b = e
      · have q' : G'.get? b = some o := q
        rw [hb, ge] at q'; cases q'
      · exact (gk b hb).symm.trans q
    · rw [upd_ne (Ne.symm M.dne)]
      exact I1.hok.fresh M.new
/-- raise Err(e) -/
def tRaiseErr (C : Addr) (W : L2.WX) (ta : TA) : TS := fun _ σ H => tMkErr C ta σ H fun cls d H' => W cls d σ H'
theorem ps_raiseErr {x : Str} {a : Expr} {ta : TA} {W : L2.WX} {p pos pos2 : Pos} {k : Nat} (hc : X.calm = true) (T : PySem.ErrX.ErrTxt X.prog X.K C D fI) (gC : X.mg x = some (.ref C)) (noS : X.mg "super" = none) (hr : Room k X.A) (tk : Takes X W) (ha : PA X [a] ta) (hg : Gl X x := by rfl) (hdb : (x == ("__debug__" : Str)) = false := by decide)
    (he : starEach (a :: []) X.env = (false, eval a X.env) :: starEach [] X.env := by rfl) (hpl : (backTo pos (starEach [] X.env)).any (·.1) = false := by rfl) :
    PS X (.Raise (some (.Call (.Name x p) [a] [] pos)) none pos2) (tRaiseErr C W ta) := ps_raise hc tk (pmk_err T gC noS hr ha hg hdb he hpl)
/-- what the class C must say, so that its errors are asked rightly -/
structure ErrG (K : PySem.W.Frag) (C : Addr) : Prop where
  ga : PySem.W.findIn K (.ref C) "__getattribute__" = some (some (.builtin "BaseException.__getattribute__"))
  gg : PySem.W.findIn K (.ref C) "__getattr__" = some none
  exC : PySem.W.subIn K (.ref C) (.type "BaseException") = some true
  hdC : PySem.W.hasDictIn K C = true
  noV : PySem.W.findIn K (.ref C) "value" = some none
  kl : PySem.W.findIn K (.ref C) "__class__" = some (some (.builtin "object.__class__"))
  kn : PySem.W.specialIn K (.builtin "object.__class__") "__get__" = some (some (.builtin "getset_descriptor.__get__"))
  kt : PySem.W.takesIn K (.builtin "object.__class__") = some true
  km : PySem.W.mroIn K C (.type "object") = some true
/-- error.value, error the exception that the suite holds (at a; its class cls, its dict d) -/
def tErrVal (K : PySem.W.Frag) (a : Addr) (cls : Value) (d : Option Addr) (te : TE) : TE := fun σ H Q => te σ H fun x H1 => x = .ref a ∧ ∃ (C dd : Addr) (v : V), cls = .ref C ∧ ErrG K C ∧ d = some dd ∧ H1 dd = some (.xd [(("value" : Str), v)]) ∧ Q v H1
theorem inst_err {pins : List (Addr × Obj)} {σ : L2.St} {H1 : Hp} {s1 : Shared} {a dd : Addr} {oe : Obj} {pn : List (Addr × Obj)} {v : V} (I1 : Inv (X.suite a ((a, oe) :: pn)) pins σ H1 s1) (hz : Zc (.ref C) (some dd) oe) (hf : ∃ vs, oe.data = .fields vs) (ea : H1 dd = some (.xd [(("value" : Str), v)])) :
    ∃ od u, PySem.W.InstAt s1.heap a oe C (some od) ∧ PySem.W.lookIn "value" od = some (some u) ∧ RelV v u := by
  obtain ⟨ha, _⟩ := I1.pin (a, oe) (List.mem_append_left _ List.mem_cons_self)
  obtain ⟨vs, hd⟩ := hf
  have hx : ObjOk X.prog X.w H1 s1.heap dd (.xd [(("value" : Str), v)]) := I1.hok dd _ ea
  obtain ⟨mA, hns, hr⟩ := hx
  obtain ⟨od, ho, hl⟩ := lookIn_ns hns
  have l : List.lookup ("value" : Str) [(("value" : Str), v)] = some v := by simp [List.lookup]
  obtain ⟨u, hu, ru⟩ := RelO.some_of (v := v) (o := mA "value") (by rw [← l]; exact hr "value")
  exact ⟨od, u, ⟨ha, hz.1, by unfold PySem.W.notCls; rw [hd] <;> rfl, by rw [hz.2]; exact ho⟩, by rw [hl, hu], ru⟩
theorem pe_errVal {a : Addr} {oe : Obj} {cls : Value} {d : Option Addr} {pn : List (Addr × Obj)} {e : Expr} {te : TE} {pos : Pos} (hz : Zc cls d oe) (hf : ∃ vs, oe.data = .fields vs) (he : PE (X.suite a ((a, oe) :: pn)) e te)
    (hb : attributeBase e "value" X.env (eval e X.env) = eval e X.env := by rfl) :
    PE (X.suite a ((a, oe) :: pn)) (.Attribute e "value" pos) (tErrVal X.K a cls d te) := by
  refine ⟨fun pins s σ H Q I h => ?_⟩
  refine attr_of hb (thn (he.run pins s σ H _ I h) fun u s1 hh => ?_)
  obtain ⟨x, H1, I1, rx, ex, C, dd, v, ec, T, ed, ea, q⟩ := hh
  subst ex
  obtain rfl : u = Value.ref a := rx
  subst ec
  subst ed
  obtain ⟨od, u, J, hl, ru⟩ := inst_err I1 hz hf ea
  exact HandSPX.exc_get I1.kIn J T.ga T.gg T.exC (PySem.W.findObj_own T.hdC T.noV rfl hl) (handed_of ru) ⟨v, H1, I1.tok _, ru, q⟩
/-- isinstance(error, c) -/
def rIsErr (K : PySem.W.Frag) (a : Addr) (cls : Value) (d : Option Addr) : List V → Hp → VK → Prop := fun xs H Q => ∃ (C dd : Addr) (v c : V) (cv : Value) (b : Bool), cls = .ref C ∧ ErrG K C ∧ d = some dd ∧ H dd = some (.xd [(("value" : Str), v)]) ∧ xs = [.ref a, c] ∧ (∀ u, RelV c u → u = cv) ∧ PySem.W.kitOne K (.ref C) cv = some b ∧ Q (.bl b) H
theorem call_isErr {a : Addr} {oe : Obj} {cls : Value} {d : Option Addr} {pn : List (Addr × Obj)} (hz : Zc cls d oe) (hf : ∃ vs, oe.data = .fields vs) : CallR (X.suite a ((a, oe) :: pn)) (.builtin "isinstance") (rIsErr X.K a cls d) := by
  intro pins s σ H xs us Q I r h
  obtain ⟨C, dd, v, c, cv, b, rfl, T, rfl, ea, rfl, hcv, e, q⟩ := h
  cases r with
  | cons rx rr =>
    cases rr with
    | cons rt rr =>
      cases rr
      cases rx
      have ec := hcv _ rt
      subst ec
      obtain ⟨od, u, J, _, _⟩ := inst_err I hz hf ea
      have hcl : (PySem.W.clsIn X.K C).isSome = true := by
        have hd := T.hdC
        unfold PySem.W.hasDictIn at hd
        cases hc : PySem.W.clsIn X.K C with
        | none => rw [hc] at hd; cases hd
        | some cd => rfl
      exact PySem.W.kia_one (PySem.W.kitx_exc hcl T.ga T.gg T.exC T.kl T.kn T.kt T.km) I.kIn J e (fun z => nomatch z) fun tk => ⟨.bl b, H, I.kept (t' := tk) fun _ _ z => z, rfl, q⟩
end
end L2
/-! Kept: a caught exception that is kept behind its suite: try, error.value, isinstance. -/
namespace L2
open PySem PySem.Spec PyProof.Rows
/-- an exception that is kept: its object is known -/
def ExK (cls : Value) (d : Option Addr) (a : Addr) : HO := .ext fun h => ∃ (o : Obj) (fs : Array Value), h.get? a = some o ∧ Zc cls d o ∧ o.data = .fields fs
theorem exK_ok {P : Program} {w : World} {H : Hp} {h : Heap} {a : Addr} {cls : Value} {d : Option Addr} {o : Obj} {fs : Array Value} (e : h.get? a = some o) (z : Zc cls d o) (q : o.data = .fields fs) : ObjOk P w H h a (ExK cls d a) :=
  ⟨⟨o, fs, e, z, q⟩, ⟨o, e⟩, fun _ _ ⟨o1, f1, e1, r⟩ k => ⟨o1, f1, k _ e1, r⟩⟩
section
variable {X : Cx} {pins : List (Addr × Obj)} {σ : L2.St} {H : Hp} {s : Shared}
/-- a pinned exception is known from here on -/
theorem Inv.keepE {a : Addr} {o : Obj} {fs : Array Value} {cls : Value} {d : Option Addr} (I : Inv X ((a, o) :: pins) σ H s) (z : Zc cls d o) (q : o.data = .fields fs) (h0 : X.s_0.heap.get? a = none) (hp : ∀ p ∈ X.pn ++ pins, p.1 ≠ a) :
    Inv X pins σ (upd H a (ExK cls d a)) s := by
  obtain ⟨ha, na, nl, nf, nc⟩ := I.pin (a, o) (List.mem_append_right _ List.mem_cons_self)
  have other : ∀ {b u}, H b = some u → b ≠ a := fun {b u} e y => by
    rw [y, show H a = none from na] at e
    cases e
  have kh : ∀ {b u}, H b = some u → upd H a (ExK cls d a) b = some u := fun {b u} e => (upd_ne (other e)).trans e
  refine { I with
    base := { I.base with
      free := fun b u e n hx => (upd_ne fun y => by rw [y, h0] at e; cases e).trans (I.base.free b u e n hx)
      tups := fun b xs e => kh (I.base.tups b xs e)
      frzs := fun b u y e => kh (I.base.frzs b u y e)
      tbls := fun b ps e => (I.base.tbls b ps e).imp fun m e2 => kh e2 }
    free := (upd_ne (Ne.symm nl)).trans I.free
    freeC := fun x c e => (upd_ne fun y => ?_).trans (I.freeC x c e)
    pin := fun p hm => ?_
    hok := fun b u e => ?_ }
  · obtain ⟨v, oc, e1, e2⟩ := I.cell x c e
    rw [y, ha] at e1
    cases e1
    exact nc v e2
  · obtain ⟨e1, e2, e3⟩ := I.pin p (by
      rcases List.mem_append.mp hm with y | y
      · exact List.mem_append_left _ y
      · exact List.mem_append_right _ (List.mem_cons_of_mem _ y))
    exact ⟨e1, (upd_ne (hp p hm)).trans e2, e3⟩
  · by_cases hb : b = a
    · subst hb
      rw [upd_same] at e
      cases e
      exact exK_ok ha z q
    · rw [upd_ne hb] at e
      exact (I.hok b u e).stay (fun _ _ _ y => y) (fun c y => kh y) fun c xs y => kh y
/-- out of a suite, its exception still pinned -/
theorem Inv.behind {a : Addr} {o : Obj} {more : List (Addr × Obj)} (I : Inv (X.suite a ((a, o) :: (X.pn ++ pins))) more σ H s) (ok : X.Ok) : Inv X ((a, o) :: pins) σ H s :=
  { ok := ok, os := I.os, bare := I.bare, base := I.base, loc := I.loc, cell := I.cell, free := I.free, freeC := I.freeC, hok := I.hok, len := I.len,
    pin := fun p hm => I.pin p (List.mem_append_left _ (by
      rcases List.mem_append.mp hm with y | y
      · exact List.mem_cons_of_mem _ (List.mem_append_left _ y)
      · rcases List.mem_cons.mp y with y | y
        · rw [y]; exact List.mem_cons_self
        · exact List.mem_cons_of_mem _ (List.mem_append_right _ y))) }
end
/-- what the clause wishes of an exception of the body, which is kept behind the suite -/
def wKeep (K : PySem.W.Frag) (c : Value) (i : Nat) (ts : Addr → Value → Option Addr → TS) (D : Ends) : L2.WX := fun cls d σ H => PySem.W.exmOne K cls c = some true ∧ ∀ a, H a = none →
  ts a cls d { nx := fun σ1 H1 => H1 a = none → D.nx (σ1.set i none) (upd H1 a (ExK cls d a)), rt := D.rt, bk := fun σ1 H1 => D.bk (σ1.set i none) H1, ct := fun σ1 H1 => D.ct (σ1.set i none) H1 } (σ.set i (some (.ref a))) H
section
variable {X : Cx} {x n : Str} {c : Value} {i : Nat} {body rest : List Stmt} {b0 : Stmt} {p1 p2 p3 : Pos} {tb : L2.WX → TS} {ts : Addr → Value → Option Addr → TS}
theorem ps_try_keep (hst : X.stack = X.env :: X.outer) (hfm : X.env.frame = some X.env.locals) (nd : X.N.Nodup) (hix : X.N[i]? = some n) (hkd : X.env.kindOf n = some .local) (nm : Names X x c) (hex : X.ex = [])
    (hbody : ∀ (W : L2.WX) (pn : List (Addr × Obj)) (xe : Value → Shared → Prop), Takes (X.tr pn xe) W → PassesOwn (model X.prog X.w) X.A X.env xe → PSs (X.tr pn xe) body (tb W))
    (hsuite : ∀ (a : Addr) (o : Obj) (cls : Value) (d : Option Addr) (pn : List (Addr × Obj)), Zc cls d o → (∃ fs, o.data = .fields fs) → PSs (X.suite a ((a, o) :: pn)) (b0 :: rest) (ts a cls d)) :
    PS X (.Try body [.ExceptHandler (some (.Name x p1)) (some n) (b0 :: rest) p2] [] [] p3) (fun D σ H => tb (wKeep X.K c i ts D) D σ H) := by
  constructor
  intro pins s σ H D I htb
  have ok := I.ok
  have frs' : X.A.frames = some (X.env :: X.outer) := ok.frames.trans (by rw [hst])
  have caught : Takes (X.tr (X.pn ++ pins) fun e s1 => wpAny (model X.prog X.w) X.A (noteFrame e X.env) (fun _ s2 => wpAny (model X.prog X.w) X.A (setFlight e none) (fun _ s3 =>
      wpAny (model X.prog X.w) X.A (handleBy e X.env [.ExceptHandler (some (.Name x p1)) (some n) (b0 :: rest) p2]) (SP X pins D) X.xe s3) X.xe s2) X.xe s1) (wKeep X.K c i ts D) := by
    rintro u t ⟨a, B, sI, pins2, τ, G, cls, d, rfl, Jt, hB, hup, sky, na, hos, hbare, hm, hk⟩
    have J : Inv X pins τ G sI := Jt.ofTry ok
    have sky2 : Sky B (X.env :: X.outer) a (Zc cls d) X.env.locals t.heap := hst ▸ sky
    apply Sky.land Zc.steady frs' hfm sky2
    intro h1 fl1 up1
    have J1 : Inv X pins τ G { t with heap := h1 } := J.landed hB fl1.1 (hup.trans up1) hos hbare
    -- it is no frame, and nothing old
    have noFr : ∀ {h : Heap} {o : Obj} {fs : Array Value}, h.FunFrames B (X.env :: X.outer) → h.get? a = some o → o.data = .fields fs → a ∉ frs (X.env :: X.outer) := fun {h o fs} ff e q hmem => by
      obtain ⟨_, o2, e2, q2⟩ := ff.mem hmem
      rw [e] at e2
      cases e2
      exact q2 fs q
    obtain ⟨o1, fs1, e1, z1, q1⟩ := fl1.there
    have nfr := noFr fl1.2.2.1 e1 q1
    have nI : sI.heap.get? a = none := by
      cases e : sI.heap.get? a with
      | none => rfl
      | some o => exact absurd (hB a o e (by rw [hst]; exact nfr)) (by rw [fl1.2.1]; exact fun y => nomatch y)
    have n0 : X.s_0.heap.get? a = none := by
      cases e : X.s_0.heap.get? a with
      | none => rfl
      | some o =>
        obtain ⟨o2, e2⟩ := J.base.there a o e (by rw [hex]; exact fun y => nomatch y)
        rw [nI] at e2
        cases e2
    have np : ∀ p ∈ X.pn ++ pins, p.1 ≠ a := fun p hp y => by
      have e2 := (J.pin p hp).1
      rw [y, nI] at e2
      cases e2
    have nl : a ≠ X.env.locals := fun y => nfr (List.mem_filterMap.mpr ⟨X.env, List.mem_cons_self, by rw [hfm, y]⟩)
    have nf : a ∉ X.fs := fun hmem => by
      obtain ⟨e, he, q⟩ := List.mem_filterMap.mp hmem
      exact nfr (List.mem_filterMap.mpr ⟨e, List.mem_cons_of_mem _ he, q⟩)
    refine wpAny_handleBy_cons (codeAny_handlers_test ?_) fun y => nomatch y
    have look := PySem.W.exm_one (M := model X.prog X.w) J1.kIn (show PySem.W.Looks (model X.prog X.w) h1 (typeOf (.ref a)) cls from fun A2 Q2 E2 s2 k2 q2 => wpAny_typeOf_ref (k2 _ _ e1) (by rw [z1.1]; exact q2)) hm
    have S1 := J1.suite e1 q1 na nl nf
    have named : ∀ {Q2 E2}, Q2 c { t with heap := h1 } → wpAny (model X.prog X.w) (X.A.mark (some (.ref a))) (eval (.Name x p1) X.env) Q2 E2 { t with heap := h1 } := fun {Q2 E2} hq => by
      rcases nm with ⟨hg, hdb, y | ⟨y, hv, hne⟩⟩
      · exact ld_glob S1 hg y hq hdb
      · exact ld_blt S1 hg y hv hq hne hdb
    refine named (look.here (codeAny_handlers_suite_as ?_))
    apply HandSPX.lands_againZ fl1
    intro h2 fl2 up2
    have J2 : Inv X pins τ G { t with heap := h2 } := J.landed hB fl2.1 ((hup.trans up1).trans up2) hos hbare
    obtain ⟨o2, fs2, e2, z2, q2⟩ := fl2.there
    refine store_ok (X := X.suite a ((a, o2) :: (X.pn ++ pins))) (v := .ref a) (J2.suite e2 q2 na nl nf) nd hix (.inl hkd) rfl (fun s5 S5 => ?_) (.inr hkd)
    have runs := (hsuite a o2 cls d (X.pn ++ pins) z2 ⟨fs2, q2⟩).run [] s5 _ G _ S5 (hk a na)
    have gone : ∀ {τ2 : L2.St} {G2 : Hp} {Q2 : Shared → Prop} {s6 : Shared}, Inv (X.suite a ((a, o2) :: (X.pn ++ pins))) [] τ2 G2 s6 → (∀ s7, Inv X ((a, o2) :: pins) (τ2.set i none) G2 s7 → Q2 s7) →
        wpAny (model X.prog X.w) X.A (do bindName X.env n .none; unbindBehindTheSuite X.env n p2) (fun _ s7 => Q2 s7) X.xe s6 := fun {τ2 G2 Q2 s6} S6 hq => gone_ok (S6.behind ok) nd hix hkd hq
    have less : ∀ {τ2 : L2.St} {G2 : Hp} {s7 : Shared}, Inv X ((a, o2) :: pins) τ2 G2 s7 → Inv X pins τ2 G2 s7 := fun {τ2 G2 s7} J7 => { J7 with
      pin := fun p hp => J7.pin p ((List.mem_append.mp hp).elim (fun y => List.mem_append_left _ y) fun y => List.mem_append_right _ (List.mem_cons_of_mem _ y)) }
    refine wpAny_mono runs (fun f s6 hs => ?_) fun _ _ y => y.elim
    cases f with
    | next =>
      obtain ⟨τ2, G2, S6, hq⟩ := hs
      have na2 : G2 a = none := (S6.pin (a, o2) (List.mem_append_left _ List.mem_cons_self)).2.1
      exact gone S6 fun s7 J7 => ⟨_, _, J7.keepE z2 q2 n0 np, hq na2⟩
    | brk =>
      obtain ⟨τ2, G2, S6, hq⟩ := hs
      exact gone S6 fun s7 J7 => ⟨_, _, less J7, hq⟩
    | cont =>
      obtain ⟨τ2, G2, S6, hq⟩ := hs
      exact gone S6 fun s7 J7 => ⟨_, _, less J7, hq⟩
    | ret v =>
      obtain ⟨v2, τ2, G2, S6, hr, hq⟩ := hs
      exact gone S6 fun s7 J7 => ⟨_, _, _, less J7, hr, hq⟩
  refine wpAny_Try_except (wpAny_mono ((hbody _ _ _ caught PassesOwn.looking).run [] s σ H D (I.toTry _) htb) (fun f t hsp => ?_) fun e t h => h)
  cases f with
  | next =>
    obtain ⟨τ, G, J, q⟩ := hsp
    exact wpAny_execs_nil ⟨τ, G, J.ofTry ok, q⟩
  | brk =>
    obtain ⟨τ, G, J, q⟩ := hsp
    exact ⟨τ, G, J.ofTry ok, q⟩
  | cont =>
    obtain ⟨τ, G, J, q⟩ := hsp
    exact ⟨τ, G, J.ofTry ok, q⟩
  | ret u =>
    obtain ⟨v, τ, G, J, r, q⟩ := hsp
    exact ⟨v, τ, G, J.ofTry ok, r, q⟩
end
end L2
namespace L2
open PySem PySem.Spec PyProof.Rows
section
variable {X : Cx}
theorem inst_kept {pins : List (Addr × Obj)} {σ : L2.St} {H1 : Hp} {s1 : Shared} {C a dd : Addr} {v : V} (I1 : Inv X pins σ H1 s1) (eo : H1 a = some (ExK (.ref C) (some dd) a)) (ea : H1 dd = some (.xd [(("value" : Str), v)])) :
    ∃ oe od u, PySem.W.InstAt s1.heap a oe C (some od) ∧ PySem.W.lookIn "value" od = some (some u) ∧ RelV v u := by
  obtain ⟨⟨oe, vs, ha, hz, hd⟩, _⟩ := (show ObjOk X.prog X.w H1 s1.heap a (ExK (.ref C) (some dd) a) from I1.hok a _ eo)
  obtain ⟨mA, hns, hr⟩ := (show ObjOk X.prog X.w H1 s1.heap dd (.xd [(("value" : Str), v)]) from I1.hok dd _ ea)
  obtain ⟨od, ho, hl⟩ := lookIn_ns hns
  obtain ⟨u, hu, ru⟩ := RelO.some_of (v := v) (o := mA "value") (by rw [← show List.lookup ("value" : Str) [(("value" : Str), v)] = some v from by simp [List.lookup]]; exact hr "value")
  exact ⟨oe, od, u, ⟨ha, hz.1, by unfold PySem.W.notCls; rw [hd] <;> rfl, by rw [hz.2]; exact ho⟩, by rw [hl, hu], ru⟩
/-- error.value of a kept exception -/
def tKeptVal (K : PySem.W.Frag) (te : TE) : TE := fun σ H Q => te σ H fun x H1 => ∃ (a C dd : Addr) (v : V), x = .ref a ∧ H1 a = some (ExK (.ref C) (some dd) a) ∧ ErrG K C ∧ H1 dd = some (.xd [(("value" : Str), v)]) ∧ Q v H1
theorem pe_keptVal {e : Expr} {te : TE} {pos : Pos} (he : PE X e te) (hb : attributeBase e "value" X.env (eval e X.env) = eval e X.env := by rfl) : PE X (.Attribute e "value" pos) (tKeptVal X.K te) := by
  constructor
  intro pins s σ H Q I h
  apply attr_of hb
  refine thn (he.run pins s σ H _ I h) ?_
  rintro u s1 ⟨x, H1, I1, rx, a, C, dd, v, ex, eo, T, ea, q⟩
  subst ex
  obtain rfl : u = Value.ref a := rx
  obtain ⟨oe, od, u, J, hl, ru⟩ := inst_kept I1 eo ea
  exact HandSPX.exc_get I1.kIn J T.ga T.gg T.exC (PySem.W.findObj_own T.hdC T.noV rfl hl) (handed_of ru) ⟨v, H1, I1.tok _, ru, q⟩
/-- isinstance(error, c) of a kept exception -/
def rIsKept (K : PySem.W.Frag) : List V → Hp → VK → Prop := fun xs H Q => ∃ (a C dd : Addr) (v c : V) (cv : Value) (b : Bool), xs = [.ref a, c] ∧ H a = some (ExK (.ref C) (some dd) a) ∧ ErrG K C ∧ H dd = some (.xd [(("value" : Str), v)]) ∧ (∀ u, RelV c u → u = cv) ∧ PySem.W.kitOne K (.ref C) cv = some b ∧ Q (.bl b) H
theorem call_isKept : CallR X (.builtin "isinstance") (rIsKept X.K) := by
  intro pins s σ H xs us Q I r h
  obtain ⟨a, C, dd, v, c, cv, b, rfl, eo, T, ea, hcv, e, q⟩ := h
  cases r with
  | cons rx rr =>
    cases rr with
    | cons rt rr =>
      cases rr
      cases rx
      have ec := hcv _ rt
      subst ec
      obtain ⟨oe, od, u, J, _, _⟩ := inst_kept I eo ea
      have hcl : (PySem.W.clsIn X.K C).isSome = true := by
        have hd := T.hdC
        unfold PySem.W.hasDictIn at hd
        cases hc : PySem.W.clsIn X.K C with
        | none => rw [hc] at hd; cases hd
        | some cd => rfl
      exact PySem.W.kia_one (PySem.W.kitx_exc hcl T.ga T.gg T.exC T.kl T.kn T.kt T.km) I.kIn J e (fun z => nomatch z) fun tk => ⟨.bl b, H, I.kept (t' := tk) fun _ _ z => z, rfl, q⟩
theorem call_or {f : Value} {r1 r2 : List V → Hp → VK → Prop} (h1 : CallR X f r1) (h2 : CallR X f r2) : CallR X f (fun xs H Q => r1 xs H Q ∨ r2 xs H Q) := fun pins s σ H xs us Q I r h => h.elim (h1 pins s σ H xs us Q I r) (h2 pins s σ H xs us Q I r)
end
end L2
/-! Hz1: values as trees that are owned, or data that stays; what a tree says of the heap; changing trees. -/
namespace Hz
open PySem L2

/-! ### heaps that hold more -/
def Sub (H H' : Hp) : Prop := ∀ a o, H a = some o → H' a = some o
theorem Sub.refl (H : Hp) : Sub H H := fun _ _ h => h
theorem Sub.trans {H H1 H2 : Hp} (a : Sub H H1) (b : Sub H1 H2) : Sub H H2 := fun x o h => b x o (a x o h)
theorem Sub.new {H : Hp} {p : Addr} {o : HO} (h : H p = none) : Sub H (upd H p o) := fun a u e => by
  rw [upd_ne (ne_of_none e h)]
  exact e
theorem Sub.mut {H H' : Hp} {p : Addr} {o : HO} (e : Sub H H') (h : H p = none) : Sub H (upd H' p o) := fun a u ha => by
  rw [upd_ne (ne_of_none ha h)]
  exact e a u ha
theorem Sub.both {H H' : Hp} {p : Addr} {o : HO} (e : Sub H H') : Sub (upd H p o) (upd H' p o) := fun a u ha => by
  by_cases h : a = p
  · subst h
    rw [upd_same] at ha ⊢
    exact ha
  · rw [upd_ne h] at ha ⊢
    exact e a u ha
theorem rd_sub {H H' : Hp} {a : Addr} {u : HO} (e : Sub H H') (h : Rd H a u) : Rd H' a u := h.elim (fun h => .inl (e a _ h)) fun ⟨o, h⟩ => .inr ⟨o, e a _ h⟩
theorem sql_sub {K : PySem.W.Frag} {H H' : Hp} {a : Addr} {xs : List V} (e : Sub H H') (h : SqL K H a xs) : SqL K H' a xs := h.elim (fun h => .inl (rd_sub e h)) .inr
theorem sqt_sub {K : PySem.W.Frag} {H H' : Hp} {a : Addr} {xs : List V} (e : Sub H H') (h : SqT K H a xs) : SqT K H' a xs := h.elim (fun h => .inl (rd_sub e h)) .inr
mutual
theorem dp_sub {K : PySem.W.Frag} {H H' : Hp} (e : Sub H H') : ∀ (d : PyData) (v : V), Dp K H v d → Dp K H' v d
  | .none, _, h => by cases h; exact .non
  | .bool b, _, h => by cases h; exact .bl b
  | .int i, _, h => by cases h; exact .int i
  | .str x, _, h => by cases h; exact .str x
  | .list ds, _, h => by
    cases h with
    | lst hs ha => exact .lst (sql_sub e hs) (dpa_sub e ds _ ha)
  | .tuple ds, _, h => by
    cases h with
    | tup hs ha => exact .tup (sqt_sub e hs) (dpa_sub e ds _ ha)
  | .dict _, _, h => by cases h
theorem dpa_sub {K : PySem.W.Frag} {H H' : Hp} (e : Sub H H') : ∀ (ds : List PyData) (vs : List V), DpAll K H vs ds → DpAll K H' vs ds
  | [], _, h => by cases h; exact .nil
  | d :: ds, _, h => by
    cases h with
    | cons h1 h2 => exact .cons (dp_sub e d _ h1) (dpa_sub e ds _ h2)
end

/-! ### trees -/
inductive Stp where
  | ix (n : Nat) | fd (f : Str)
  deriving DecidableEq
/-- what a variable holds: data that nobody changes; a value as it is; a well (its content has an invariant alone); a list, tuple, dict, instance that is owned; a name's own tree; a borrowed one -/
inductive T where
  | dat (d : PyData)
  | cst (v : V)
  | well
  | lst (ts : List T)
  | tup (ts : List T)
  | dic (ks : List Key) (ts : List T)
  | ins (C : Addr) (ns : List Str) (ts : List T)
  | lz (j : Nat)
  | bor (j : Nat) (p : List Stp) (v : V) (t : T)
  | dcl (d : Addr) (o : Obj) (xs : List (Key × V)) (kvs : List (Key × PyData))
  | exc (a d C : Addr) (e : PyData)
  | exk (a d C : Addr) (e : PyData)
inductive PD (K : PySem.W.Frag) (F : Hp) : List (Key × V) → List (Key × PyData) → Prop
  | nil : PD K F [] []
  | cons {k : Key} {v : V} {d : PyData} {xs : List (Key × V)} {ys : List (Key × PyData)} : Dp K F v d → PD K F xs ys → PD K F ((k, v) :: xs) ((k, d) :: ys)
theorem PD.by {K : PySem.W.Frag} {F F' : Hp} (e : ∀ (d : PyData) (v : V), Dp K F v d → Dp K F' v d) : ∀ {xs : List (Key × V)} {ys : List (Key × PyData)}, PD K F xs ys → PD K F' xs ys
  | _, _, .nil => .nil
  | _, _, .cons h1 h2 => .cons (e _ _ h1) (PD.by e h2)

mutual
inductive Rep (K : PySem.W.Frag) (F : Hp) (W : List Addr) (H : Hp) : V → T → List Addr → Prop
  | dat {v : V} {d : PyData} : Dp K F v d → Rep K F W H v (.dat d) []
  | cst {v : V} : Rep K F W H v (.cst v) []
  | well {a : Addr} : a ∈ W → Rep K F W H (.ref a) .well []
  | lst {a : Addr} {vs : List V} {ts : List T} {fp fps : List Addr} : H a = some (.lst vs) → RepA K F W H vs ts fps → fp.Perm (a :: fps) → Rep K F W H (.ref a) (.lst ts) fp
  | tup {a : Addr} {vs : List V} {ts : List T} {fp fps : List Addr} : H a = some (.tup vs) → RepA K F W H vs ts fps → fp.Perm (a :: fps) → Rep K F W H (.ref a) (.tup ts) fp
  | dic {a : Addr} {ks : List Key} {vs : List V} {ts : List T} {fp fps : List Addr} : H a = some (.dK (ks.zip vs)) → ks.length = vs.length → RepA K F W H vs ts fps → fp.Perm (a :: fps) → Rep K F W H (.ref a) (.dic ks ts) fp
  | dcl {d : Addr} {o : Obj} {xs : List (Key × V)} {kvs : List (Key × PyData)} {fp : List Addr} : H d = some (.frz o (.dK xs)) → PD K F xs kvs → fp.Perm [d] → Rep K F W H (.ref d) (.dcl d o xs kvs) fp
  | exc {a d C : Addr} {v : V} {e : PyData} : F d = some (.xd [(("value" : Str), v)]) → Dp K F v e → Rep K F W H (.ref a) (.exc a d C e) []
  | exk {a d C : Addr} {v : V} {e : PyData} : F d = some (.xd [(("value" : Str), v)]) → Dp K F v e → F a = some (ExK (.ref C) (some d) a) → Rep K F W H (.ref a) (.exk a d C e) []
  | ins {a C dx : Addr} {ns : List Str} {vs : List V} {ts : List T} {fp fps : List Addr} : H a = some (.ins C dx (ns.zip vs)) → ns.length = vs.length → RepA K F W H vs ts fps → fp.Perm (a :: fps) → Rep K F W H (.ref a) (.ins C ns ts) fp
inductive RepA (K : PySem.W.Frag) (F : Hp) (W : List Addr) (H : Hp) : List V → List T → List Addr → Prop
  | nil : RepA K F W H [] [] []
  | cons {v : V} {vs : List V} {t : T} {ts : List T} {fp f1 f2 : List Addr} : Rep K F W H v t f1 → RepA K F W H vs ts f2 → fp.Perm (f1 ++ f2) → RepA K F W H (v :: vs) (t :: ts) fp
end

section
variable {K : PySem.W.Frag} {F F' : Hp} {W W' : List Addr} {H H' : Hp}
theorem Rep.perm {v : V} {t : T} {f g : List Addr} (h : Rep K F W H v t f) (p : f.Perm g) : Rep K F W H v t g := by
  cases h with
  | dat h => rw [List.perm_nil.mp p.symm]; exact .dat h
  | cst => rw [List.perm_nil.mp p.symm]; exact .cst
  | well h => rw [List.perm_nil.mp p.symm]; exact .well h
  | lst h1 h2 q => exact .lst h1 h2 (p.symm.trans q)
  | tup h1 h2 q => exact .tup h1 h2 (p.symm.trans q)
  | dic h1 h0 h2 q => exact .dic h1 h0 h2 (p.symm.trans q)
  | dcl h1 h2 q => exact .dcl h1 h2 (p.symm.trans q)
  | exc h1 h2 => rw [List.perm_nil.mp p.symm]; exact .exc h1 h2
  | exk h1 h2 h3 => rw [List.perm_nil.mp p.symm]; exact .exk h1 h2 h3
  | ins h1 h0 h2 q => exact .ins h1 h0 h2 (p.symm.trans q)

mutual
theorem rep_keep (eF : Sub F F') (eW : ∀ w ∈ W, w ∈ W') : ∀ (t : T) (v : V) (fp : List Addr), Rep K F W H v t fp → (∀ a ∈ fp, H' a = H a) → Rep K F' W' H' v t fp
  | .dat d, v, fp, h, k => by cases h with | dat h => exact .dat (dp_sub eF _ _ h)
  | .cst u, v, fp, h, k => by cases h; exact .cst
  | .well, v, fp, h, k => by cases h with | well h => exact .well (eW _ h)
  | .lst ts, v, fp, h, k => by
    cases h with
    | lst h1 h2 p => exact .lst ((k _ (p.mem_iff.mpr List.mem_cons_self)).trans h1) (repA_keep eF eW ts _ _ h2 fun a ha => k a (p.mem_iff.mpr (List.mem_cons_of_mem _ ha))) p
  | .tup ts, v, fp, h, k => by
    cases h with
    | tup h1 h2 p => exact .tup ((k _ (p.mem_iff.mpr List.mem_cons_self)).trans h1) (repA_keep eF eW ts _ _ h2 fun a ha => k a (p.mem_iff.mpr (List.mem_cons_of_mem _ ha))) p
  | .dic ks ts, v, fp, h, k => by
    cases h with
    | dic h1 h0 h2 p => exact .dic ((k _ (p.mem_iff.mpr List.mem_cons_self)).trans h1) h0 (repA_keep eF eW ts _ _ h2 fun a ha => k a (p.mem_iff.mpr (List.mem_cons_of_mem _ ha))) p
  | .ins C ns ts, v, fp, h, k => by
    cases h with
    | ins h1 h0 h2 p => exact .ins ((k _ (p.mem_iff.mpr List.mem_cons_self)).trans h1) h0 (repA_keep eF eW ts _ _ h2 fun a ha => k a (p.mem_iff.mpr (List.mem_cons_of_mem _ ha))) p
  | .dcl d o xs kvs, v, fp, h, k => by cases h with | dcl h1 h2 p => exact .dcl ((k _ (p.mem_iff.mpr List.mem_cons_self)).trans h1) (h2.by fun _ _ => dp_sub eF _ _) p
  | .exc a d C e, v, fp, h, k => by cases h with | exc h1 h2 => exact .exc (eF _ _ h1) (dp_sub eF _ _ h2)
  | .exk a d C e, v, fp, h, k => by cases h with | exk h1 h2 h3 => exact .exk (eF _ _ h1) (dp_sub eF _ _ h2) (eF _ _ h3)
  | .lz j, v, fp, h, k => by cases h
  | .bor j p u t, v, fp, h, k => by cases h
theorem repA_keep (eF : Sub F F') (eW : ∀ w ∈ W, w ∈ W') : ∀ (ts : List T) (vs : List V) (fp : List Addr), RepA K F W H vs ts fp → (∀ a ∈ fp, H' a = H a) → RepA K F' W' H' vs ts fp
  | [], vs, fp, h, k => by cases h; exact .nil
  | t :: ts, vs, fp, h, k => by
    cases h with
    | cons h1 h2 p => exact .cons (rep_keep eF eW t _ _ h1 fun a ha => k a (p.mem_iff.mpr (List.mem_append_left _ ha))) (repA_keep eF eW ts _ _ h2 fun a ha => k a (p.mem_iff.mpr (List.mem_append_right _ ha))) p
end
mutual
/-- what is owned stands in the heap -/
theorem rep_in : ∀ (t : T) (v : V) (fp : List Addr), Rep K F W H v t fp → ∀ a ∈ fp, H a ≠ none
  | .dat d, v, fp, h, a, ha => by cases h; cases ha
  | .cst u, v, fp, h, a, ha => by cases h; cases ha
  | .well, v, fp, h, a, ha => by cases h; cases ha
  | .lst ts, v, fp, h, a, ha => by
    cases h with
    | lst h1 h2 p =>
      rcases List.mem_cons.mp (p.mem_iff.mp ha) with rfl | ha
      · rw [h1]; exact Option.some_ne_none _
      · exact repA_in ts _ _ h2 a ha
  | .tup ts, v, fp, h, a, ha => by
    cases h with
    | tup h1 h2 p =>
      rcases List.mem_cons.mp (p.mem_iff.mp ha) with rfl | ha
      · rw [h1]; exact Option.some_ne_none _
      · exact repA_in ts _ _ h2 a ha
  | .dic ks ts, v, fp, h, a, ha => by
    cases h with
    | dic h1 h0 h2 p =>
      rcases List.mem_cons.mp (p.mem_iff.mp ha) with rfl | ha
      · rw [h1]; exact Option.some_ne_none _
      · exact repA_in ts _ _ h2 a ha
  | .ins C ns ts, v, fp, h, a, ha => by
    cases h with
    | ins h1 h0 h2 p =>
      rcases List.mem_cons.mp (p.mem_iff.mp ha) with rfl | ha
      · rw [h1]; exact Option.some_ne_none _
      · exact repA_in ts _ _ h2 a ha
  | .exc a' d C e, v, fp, h, a, ha => by
    cases h; cases ha
  | .exk a' d C e, v, fp, h, a, ha => by
    cases h; cases ha
  | .dcl d o xs kvs, v, fp, h, a, ha => by
    cases h with
    | dcl h1 h2 p =>
      rw [List.mem_singleton.mp (p.mem_iff.mp ha), h1]
      exact Option.some_ne_none _
  | .lz j, v, fp, h, a, ha => by cases h
  | .bor j p u t, v, fp, h, a, ha => by cases h
theorem repA_in : ∀ (ts : List T) (vs : List V) (fp : List Addr), RepA K F W H vs ts fp → ∀ a ∈ fp, H a ≠ none
  | [], vs, fp, h, a, ha => by cases h; cases ha
  | t :: ts, vs, fp, h, a, ha => by
    cases h with
    | cons h1 h2 p =>
      rcases List.mem_append.mp (p.mem_iff.mp ha) with ha | ha
      · exact rep_in t _ _ h1 a ha
      · exact repA_in ts _ _ h2 a ha
end
end

/-! ### rows of such -/
section
variable {α β : Type}
inductive Lst (P : α → β → List Addr → Prop) : List α → List β → List Addr → Prop
  | nil : Lst P [] [] []
  | cons {x : α} {y : β} {xs : List α} {ys : List β} {fp f1 f2 : List Addr} : P x y f1 → Lst P xs ys f2 → fp.Perm (f1 ++ f2) → Lst P (x :: xs) (y :: ys) fp
variable {P P' : α → β → List Addr → Prop}
theorem Lst.perm {xs : List α} {ys : List β} {f g : List Addr} (h : Lst P xs ys f) (p : f.Perm g) : Lst P xs ys g := by
  cases h with
  | nil => rw [List.perm_nil.mp p.symm]; exact .nil
  | cons h1 h2 q => exact .cons h1 h2 (p.symm.trans q)
theorem Lst.len : ∀ {xs : List α} {ys : List β} {f : List Addr}, Lst P xs ys f → xs.length = ys.length
  | _, _, _, .nil => rfl
  | _, _, _, .cons _ h _ => by rw [List.length_cons, List.length_cons, h.len]
theorem Lst.one {x : α} {y : β} {f : List Addr} (h : P x y f) : Lst P [x] [y] f := .cons h .nil (by rw [List.append_nil])
theorem Lst.app : ∀ {xs : List α} {ys : List β} {f : List Addr} {xs' : List α} {ys' : List β} {f' : List Addr}, Lst P xs ys f → Lst P xs' ys' f' → Lst P (xs ++ xs') (ys ++ ys') (f ++ f')
  | _, _, _, _, _, _, .nil, h => h
  | _, _, _, _, _, f', .cons h1 h2 p, h => .cons h1 (Lst.app h2 h) (by rw [← List.append_assoc]; exact p.append_right f')
theorem Lst.cut : ∀ {xs : List α} {ys : List β} {xs' : List α} {ys' : List β} {f : List Addr}, Lst P (xs ++ xs') (ys ++ ys') f → xs.length = ys.length → ∃ f1 f2, f.Perm (f1 ++ f2) ∧ Lst P xs ys f1 ∧ Lst P xs' ys' f2
  | [], [], _, _, f, h, _ => ⟨[], f, .refl _, .nil, h⟩
  | [], _ :: _, _, _, f, h, e => by cases e
  | _ :: _, [], _, _, f, h, e => by cases e
  | x :: xs, y :: ys, _, _, f, .cons h1 h2 p, e => by
    obtain ⟨g1, g2, q, i1, i2⟩ := Lst.cut h2 (Nat.succ.inj e)
    exact ⟨_ ++ g1, g2, p.trans (by rw [List.append_assoc]; exact q.append_left _), .cons h1 i1 (.refl _), i2⟩
theorem Lst.mono {f₀ : List Addr} : ∀ {xs : List α} {ys : List β} {f : List Addr}, Lst P xs ys f → (∀ a ∈ f, a ∈ f₀) → (∀ x y g, P x y g → (∀ a ∈ g, a ∈ f₀) → P' x y g) → Lst P' xs ys f
  | _, _, _, .nil, _, _ => .nil
  | _, _, _, .cons h1 h2 p, hs, hm => .cons (hm _ _ _ h1 fun a ha => hs a (p.mem_iff.mpr (List.mem_append_left _ ha))) (Lst.mono h2 (fun a ha => hs a (p.mem_iff.mpr (List.mem_append_right _ ha))) hm) p
/-- one of a row -/
theorem Lst.focus : ∀ {xs : List α} {ys : List β} {f : List Addr} {i : Nat} {y : β}, Lst P xs ys f → ys[i]? = some y →
    ∃ x f1 f2, xs[i]? = some x ∧ P x y f1 ∧ f.Perm (f1 ++ f2) ∧ ∀ (P' : α → β → List Addr → Prop) (x' : α) (y' : β) (g : List Addr), (∀ x y g, P x y g → (∀ a ∈ g, a ∈ f2) → P' x y g) → P' x' y' g → Lst P' (xs.set i x') (ys.set i y') (g ++ f2)
  | _, _, _, _, _, .nil, h => by cases h
  | _, _, _, 0, y, .cons (f1 := f1) (f2 := f2) h1 h2 p, h => by
    cases h
    exact ⟨_, f1, f2, rfl, h1, p, fun P' x' y' g hm hp => .cons hp (h2.mono (fun _ ha => ha) hm) (.refl _)⟩
  | _, _, _, i + 1, y, .cons (x := x) (y := z) (f1 := f1) (f2 := f2) h1 h2 p, h => by
    obtain ⟨x1, g1, g2, e1, e2, e3, e4⟩ := Lst.focus (i := i) h2 h
    refine ⟨x1, g1, f1 ++ g2, e1, e2, p.trans ?_, fun P' x' y' g hm hp => ?_⟩
    · refine (e3.append_left f1).trans ?_
      rw [← List.append_assoc, ← List.append_assoc]
      exact List.perm_append_comm.append_right g2
    · refine .cons (hm _ _ _ h1 fun a ha => List.mem_append_left _ ha) (e4 P' x' y' g (fun x y g' hp' hs => hm x y g' hp' fun a ha => List.mem_append_right _ (hs a ha)) hp) ?_
      rw [← List.append_assoc, ← List.append_assoc]
      exact List.perm_append_comm.append_right g2
end
section
variable {K : PySem.W.Frag} {F F' : Hp} {W W' : List Addr} {H H' : Hp}
theorem repA_iff : ∀ {ts : List T} {vs : List V} {f : List Addr}, RepA K F W H vs ts f ↔ Lst (Rep K F W H) vs ts f
  | [], vs, f => ⟨fun h => by cases h; exact .nil, fun h => by cases h; exact .nil⟩
  | t :: ts, vs, f => ⟨fun h => by cases h with | cons h1 h2 p => exact .cons h1 (repA_iff.mp h2) p, fun h => by cases h with | cons h1 h2 p => exact .cons h1 (repA_iff.mpr h2) p⟩

/-! ### places in trees -/
def fpos : List Str → Str → Option Nat
  | [], _ => none
  | n :: r, f => if n = f then some 0 else (fpos r f).map (· + 1)
def T.child : T → Stp → Option T
  | .lst ts, .ix n => ts[n]?
  | .tup ts, .ix n => ts[n]?
  | .ins _ ns ts, .fd f => (fpos ns f).bind fun i => ts[i]?
  | _, _ => none
def T.putc : T → Stp → T → T
  | .lst ts, .ix n, s => .lst (ts.set n s)
  | .tup ts, .ix n, s => .tup (ts.set n s)
  | .ins C ns ts, .fd f, s => .ins C ns (match fpos ns f with | some i => ts.set i s | none => ts)
  | t, _, _ => t
def T.get : T → List Stp → Option T
  | t, [] => some t
  | t, s :: p => (t.child s).bind fun c => c.get p
def T.put : T → List Stp → T → T
  | _, [], u => u
  | t, s :: p, u => match t.child s with | some c => t.putc s (c.put p u) | none => t

theorem lookup_zip : ∀ {ns : List Str} {vs : List V} {f : Str}, ns.length = vs.length → (ns.zip vs).lookup f = (fpos ns f).bind fun i => vs[i]?
  | [], vs, f, h => rfl
  | n :: ns, [], f, h => by cases h
  | n :: ns, v :: vs, f, h => by
    have ih := lookup_zip (ns := ns) (vs := vs) (f := f) (Nat.succ.inj h)
    show List.lookup f ((n, v) :: ns.zip vs) = (if n = f then some 0 else (fpos ns f).map (· + 1)).bind fun i => (v :: vs)[i]?
    by_cases e : n = f
    · have hb : (f == n) = true := beq_iff_eq.mpr e.symm
      simp only [List.lookup, hb, if_pos e]
      rfl
    · have hb : (f == n) = false := beq_eq_false_iff_ne.mpr (fun z => e z.symm)
      simp only [List.lookup, hb, if_neg e]
      rw [ih]
      cases fpos ns f with
      | none => rfl
      | some i => rfl
/-- the value u stands at st of the value v -/
def AtH (H : Hp) (v : V) (st : Stp) (u : V) : Prop := match st with
  | .ix n => ∃ a us, v = .ref a ∧ (H a = some (.lst us) ∨ H a = some (.tup us)) ∧ us[n]? = some u
  | .fd f => ∃ a C dx fs, v = .ref a ∧ H a = some (.ins C dx fs) ∧ fs.lookup f = some u

theorem rep_child {t c : T} {s : Stp} {v : V} {fp : List Addr} (h : Rep K F W H v t fp) (hc : t.child s = some c) :
    ∃ u f1 f2, fp.Perm (f1 ++ f2) ∧ Rep K F W H u c f1 ∧ AtH H v s u ∧ ∀ (F' : Hp) (W' : List Addr) (H' : Hp) (c' : T) (g : List Addr), Sub F F' → (∀ w ∈ W, w ∈ W') → (∀ a ∈ f2, H' a = H a) → Rep K F' W' H' u c' g → Rep K F' W' H' v (t.putc s c') (g ++ f2) := by
  have key : ∀ {a : Addr} {vs : List V} {ts : List T} {fps : List Addr} {i : Nat}, RepA K F W H vs ts fps → fp.Perm (a :: fps) → ts[i]? = some c →
      ∃ u f1 f2, fp.Perm (f1 ++ a :: f2) ∧ vs[i]? = some u ∧ Rep K F W H u c f1 ∧ ∀ (F' : Hp) (W' : List Addr) (H' : Hp) (c' : T) (g : List Addr), Sub F F' → (∀ w ∈ W, w ∈ W') → (∀ a ∈ f2, H' a = H a) → Rep K F' W' H' u c' g → RepA K F' W' H' vs (ts.set i c') (g ++ f2) := by
    intro a vs ts fps i h2 p hi
    obtain ⟨u, f1, f2, e1, e2, e3, e4⟩ := (repA_iff.mp h2).focus hi
    refine ⟨u, f1, f2, p.trans ((e3.cons a).trans List.perm_middle.symm), e1, e2, fun F' W' H' c' g eF eW hk hr => ?_⟩
    have q := e4 (Rep K F' W' H') u c' g (fun x y g' hp hs => rep_keep eF eW y x g' hp fun a ha => hk a (hs a ha)) hr
    have es : vs.set i u = vs := by
      obtain ⟨hi1, hi2⟩ := List.getElem?_eq_some_iff.mp e1
      rw [← hi2]
      exact List.set_getElem_self hi1
    rw [es] at q
    exact repA_iff.mpr q
  cases h with
  | dat h => cases s <;> cases hc
  | cst => cases s <;> cases hc
  | well h => cases s <;> cases hc
  | dic h1 h0 h2 p => cases s <;> cases hc
  | dcl h1 h2 p => cases s <;> cases hc
  | exc h1 h2 => cases s <;> cases hc
  | exk h1 h2 h3 => cases s <;> cases hc
  | lst h1 h2 p =>
    cases s with
    | fd f => cases hc
    | ix n =>
      obtain ⟨u, f1, f2, p1, e0, e2, e3⟩ := key h2 p hc
      refine ⟨u, f1, _ :: f2, p1, e2, ⟨_, _, rfl, .inl h1, e0⟩, fun F' W' H' c' g eF eW hk hr => ?_⟩
      exact .lst ((hk _ List.mem_cons_self).trans h1) (e3 F' W' H' c' g eF eW (fun a ha => hk a (List.mem_cons_of_mem _ ha)) hr) List.perm_middle
  | tup h1 h2 p =>
    cases s with
    | fd f => cases hc
    | ix n =>
      obtain ⟨u, f1, f2, p1, e0, e2, e3⟩ := key h2 p hc
      refine ⟨u, f1, _ :: f2, p1, e2, ⟨_, _, rfl, .inr h1, e0⟩, fun F' W' H' c' g eF eW hk hr => ?_⟩
      exact .tup ((hk _ List.mem_cons_self).trans h1) (e3 F' W' H' c' g eF eW (fun a ha => hk a (List.mem_cons_of_mem _ ha)) hr) List.perm_middle
  | ins h1 h0 h2 p =>
    cases s with
    | ix n => cases hc
    | fd f =>
      rename_i C dx ns vs ts fps
      have hc' : ((fpos ns f).bind fun i => ts[i]?) = some c := hc
      cases hf : fpos ns f with
      | none => rw [hf] at hc'; cases hc'
      | some i =>
        rw [hf] at hc'
        obtain ⟨u, f1, f2, p1, e0, e2, e3⟩ := key h2 p hc'
        refine ⟨u, f1, _ :: f2, p1, e2, ⟨_, _, _, _, rfl, h1, by rw [lookup_zip h0, hf]; exact e0⟩, fun F' W' H' c' g eF eW hk hr => ?_⟩
        have q := e3 F' W' H' c' g eF eW (fun a ha => hk a (List.mem_cons_of_mem _ ha)) hr
        show Rep K F' W' H' _ (.ins C ns (match fpos ns f with | some i => ts.set i c' | none => ts)) _
        rw [hf]
        exact .ins ((hk _ List.mem_cons_self).trans h1) h0 q List.perm_middle
theorem rep_focus : ∀ (p : List Stp) {t s : T} {v : V} {fp : List Addr}, Rep K F W H v t fp → t.get p = some s →
    ∃ u f1 f2, fp.Perm (f1 ++ f2) ∧ Rep K F W H u s f1 ∧ ∀ (F' : Hp) (W' : List Addr) (H' : Hp) (s' : T) (g : List Addr), Sub F F' → (∀ w ∈ W, w ∈ W') → (∀ a ∈ f2, H' a = H a) → Rep K F' W' H' u s' g → Rep K F' W' H' v (t.put p s') (g ++ f2)
  | [], t, s, v, fp, h, e => by
    cases e
    exact ⟨v, fp, [], by rw [List.append_nil], h, fun F' W' H' s' g _ _ _ hr => by rw [List.append_nil]; exact hr⟩
  | x :: p, t, s, v, fp, h, e => by
    have e' : ((t.child x).bind fun c => c.get p) = some s := e
    cases hc : t.child x with
    | none => rw [hc] at e'; cases e'
    | some c =>
      rw [hc] at e'
      obtain ⟨u, f1, f2, p1, hu, _, hk⟩ := rep_child h hc
      obtain ⟨w, g1, g2, q1, hw, hk2⟩ := rep_focus p hu e'
      refine ⟨w, g1, g2 ++ f2, p1.trans (by rw [← List.append_assoc]; exact q1.append_right f2), hw, fun F' W' H' s' g eF eW hh hr => ?_⟩
      have r := hk F' W' H' _ _ eF eW (fun a ha => hh a (List.mem_append_right _ ha)) (hk2 F' W' H' s' g eF eW (fun a ha => hh a (List.mem_append_left _ ha)) hr)
      show Rep K F' W' H' v (match t.child x with | some c => t.putc x (c.put p s') | none => t) _
      rw [hc, ← List.append_assoc]
      exact r
end

/-! ### steps: what changes, what stays -/
structure Wf (I : HO → Prop) (F : Hp) (W : List Addr) (H : Hp) (fp : List Addr) : Prop where
  sub : Sub F H
  own : ∀ a ∈ fp, F a = none ∧ a ∉ W ∧ H a ≠ none
  wel : ∀ w ∈ W, F w = none ∧ ∃ o, H w = some o ∧ I o
structure Step (I : HO → Prop) (F : Hp) (W : List Addr) (H : Hp) (fp : List Addr) (F' : Hp) (W' : List Addr) (H' : Hp) (fp' : List Addr) : Prop where
  wf : Wf I F' W' H' fp'
  subF : Sub F F'
  subW : ∀ w ∈ W, w ∈ W'
  keep : ∀ a o, H a = some o → a ∉ fp → a ∉ W → H' a = some o
  there : ∀ a, H a ≠ none → H' a ≠ none
  newO : ∀ a ∈ fp', a ∈ fp ∨ H a = none
  newF : ∀ a, F' a ≠ none → F a ≠ none ∨ a ∈ fp ∨ H a = none
  newW : ∀ w ∈ W', w ∈ W ∨ w ∈ fp ∨ H w = none
section
variable {I : HO → Prop} {F F1 F2 : Hp} {W W1 W2 : List Addr} {H H1 H2 : Hp} {fp f1 f2 fr : List Addr}
theorem Wf.less (w : Wf I F W H fp) (h : ∀ a ∈ f1, a ∈ fp) : Wf I F W H f1 := ⟨w.sub, fun a ha => w.own a (h a ha), w.wel⟩
theorem Step.refl (w : Wf I F W H fp) : Step I F W H fp F W H fp :=
  ⟨w, .refl _, fun _ h => h, fun _ _ h _ _ => h, fun _ h => h, fun _ h => .inl h, fun _ h => .inl h, fun _ h => .inl h⟩
theorem Step.less (s : Step I F W H fp F1 W1 H1 f1) (h : ∀ a ∈ f2, a ∈ f1) : Step I F W H fp F1 W1 H1 f2 :=
  ⟨s.wf.less h, s.subF, s.subW, s.keep, s.there, fun a ha => s.newO a (h a ha), s.newF, s.newW⟩
theorem Step.trans (a : Step I F W H fp F1 W1 H1 f1) (b : Step I F1 W1 H1 f1 F2 W2 H2 f2) : Step I F W H fp F2 W2 H2 f2 := by
  refine ⟨b.wf, a.subF.trans b.subF, fun w h => b.subW w (a.subW w h), fun x o h n1 n2 => ?_, fun x h => b.there x (a.there x h), fun x h => ?_, fun x h => ?_, fun x h => ?_⟩
  · have hn : H x ≠ none := by rw [h]; exact Option.some_ne_none _
    refine b.keep x o (a.keep x o h n1 n2) (fun z => ?_) fun z => ?_
    · rcases a.newO x z with q | q
      · exact n1 q
      · exact hn q
    · rcases a.newW x z with q | q | q
      · exact n2 q
      · exact n1 q
      · exact hn q
  · rcases b.newO x h with q | q
    · exact a.newO x q
    · refine .inr ?_
      cases e : H x with
      | none => rfl
      | some o => exact absurd q (a.there x (by rw [e]; exact Option.some_ne_none _))
  · rcases b.newF x h with q | q | q
    · exact a.newF x q
    · rcases a.newO x q with z | z
      · exact .inr (.inl z)
      · exact .inr (.inr z)
    · refine .inr (.inr ?_)
      cases e : H x with
      | none => rfl
      | some o => exact absurd q (a.there x (by rw [e]; exact Option.some_ne_none _))
  · rcases b.newW x h with q | q | q
    · exact a.newW x q
    · rcases a.newO x q with z | z
      · exact .inr (.inl z)
      · exact .inr (.inr z)
    · refine .inr (.inr ?_)
      cases e : H x with
      | none => rfl
      | some o => exact absurd q (a.there x (by rw [e]; exact Option.some_ne_none _))
/-- beside what is not touched -/
theorem Step.frame (s : Step I F W H f1 F1 W1 H1 f2) (w : Wf I F W H (f1 ++ fr)) (nd : (f1 ++ fr).Nodup) (nd2 : f2.Nodup) : Step I F W H (f1 ++ fr) F1 W1 H1 (f2 ++ fr) ∧ (f2 ++ fr).Nodup ∧ ∀ a ∈ fr, H1 a = H a := by
  obtain ⟨n1, n2, n3⟩ := List.nodup_append.mp nd
  have nf : ∀ a ∈ fr, a ∉ f1 := fun a ha h => n3 a h a ha rfl
  have hin : ∀ a ∈ fr, F a = none ∧ a ∉ W ∧ H a ≠ none := fun a ha => w.own a (List.mem_append_right _ ha)
  have hk : ∀ a ∈ fr, H1 a = H a := fun a ha => by
    cases e : H a with
    | none => exact absurd e (hin a ha).2.2
    | some o => exact s.keep a o e (nf a ha) (hin a ha).2.1
  refine ⟨⟨⟨s.wf.sub, fun a ha => ?_, s.wf.wel⟩, s.subF, s.subW, fun a o h n _ => s.keep a o h (fun z => n (List.mem_append_left _ z)) ‹_›, s.there, fun a ha => ?_, fun a ha => ?_, fun a ha => ?_⟩, ?_, hk⟩
  · rcases List.mem_append.mp ha with ha | ha
    · exact s.wf.own a ha
    · obtain ⟨g1, g2, g3⟩ := hin a ha
      refine ⟨?_, fun z => ?_, s.there a g3⟩
      · cases e : F1 a with
        | none => rfl
        | some o =>
          rcases s.newF a (by rw [e]; exact Option.some_ne_none _) with q | q | q
          · exact absurd g1 q
          · exact absurd q (nf a ha)
          · exact absurd q g3
      · rcases s.newW a z with q | q | q
        · exact g2 q
        · exact nf a ha q
        · exact g3 q
  · rcases List.mem_append.mp ha with ha | ha
    · rcases s.newO a ha with q | q
      · exact .inl (List.mem_append_left _ q)
      · exact .inr q
    · exact .inl (List.mem_append_right _ ha)
  · rcases s.newF a ha with q | q | q
    · exact .inl q
    · exact .inr (.inl (List.mem_append_left _ q))
    · exact .inr (.inr q)
  · rcases s.newW a ha with q | q | q
    · exact .inl q
    · exact .inr (.inl (List.mem_append_left _ q))
    · exact .inr (.inr q)
  · refine List.nodup_append.mpr ⟨nd2, n2, fun a ha b hb e => ?_⟩
    subst e
    rcases s.newO a ha with q | q
    · exact nf a hb q
    · exact (hin a hb).2.2 q
theorem Step.perm (s : Step I F W H f1 F1 W1 H1 f2) {g1 g2 : List Addr} (p : f1.Perm g1) (q : f2.Perm g2) : Step I F W H g1 F1 W1 H1 g2 :=
  ⟨s.wf.less fun a ha => q.mem_iff.mpr ha, s.subF, s.subW, fun a o h n => s.keep a o h fun z => n (p.mem_iff.mp z), s.there, fun a ha => (s.newO a (q.mem_iff.mpr ha)).imp p.mem_iff.mp id,
    fun a ha => (s.newF a ha).imp id (Or.imp p.mem_iff.mp id), fun a ha => (s.newW a ha).imp id (Or.imp p.mem_iff.mp id)⟩
end
end Hz
/-! Hz2: the state of a body by its trees: slots and values at hand; the moves on it. -/
namespace Hz
open PySem L2
abbrev Rho := List (Option T)
inductive RepS (K : PySem.W.Frag) (F : Hp) (W : List Addr) (H : Hp) : Option V → Option T → List Addr → Prop
  | non {x : Option V} : RepS K F W H x none []
  | som {v : V} {t : T} {f : List Addr} : Rep K F W H v t f → RepS K F W H (some v) (some t) f
inductive RepT (K : PySem.W.Frag) (F : Hp) (W : List Addr) (H : Hp) (σ : L2.St) : V → T → List Addr → Prop
  | of {v : V} {t : T} {f : List Addr} : Rep K F W H v t f → RepT K F W H σ v t f
  | lz {j : Nat} {v : V} : σ[j]? = some (some v) → RepT K F W H σ v (.lz j) []
  | bor {j : Nat} {p : List Stp} {v : V} {t : T} {f : List Addr} : Rep K F W H v t f → RepT K F W H σ v (.bor j p v t) f
/-- no name, nothing borrowed -/
def T.real : T → Bool
  | .lz _ => false
  | .bor _ _ _ _ => false
  | _ => true
def T.noLz : T → Bool
  | .lz _ => false
  | _ => true
section
variable {K : PySem.W.Frag} {F F' : Hp} {W W' : List Addr} {H H' : Hp} {σ σ' : L2.St}
theorem RepT.real {v : V} {t : T} {f : List Addr} (h : RepT K F W H σ v t f) (ht : t.real = true) : Rep K F W H v t f := by
  cases h with
  | of h => exact h
  | lz h => cases ht
  | bor h => cases ht
theorem RepT.sig {v : V} {t : T} {f : List Addr} (h : RepT K F W H σ v t f) (ht : t.noLz = true) : RepT K F W H σ' v t f := by
  cases h with
  | of h => exact .of h
  | lz h => cases ht
  | bor h => exact .bor h
theorem RepT.keep {v : V} {t : T} {f : List Addr} (h : RepT K F W H σ v t f) (eF : Sub F F') (eW : ∀ w ∈ W, w ∈ W') (hk : ∀ a ∈ f, H' a = H a) : RepT K F' W' H' σ v t f := by
  cases h with
  | of h => exact .of (rep_keep eF eW _ _ _ h hk)
  | lz h => exact .lz h
  | bor h => exact .bor (rep_keep eF eW _ _ _ h hk)
theorem RepS.keep {v : Option V} {t : Option T} {f : List Addr} (h : RepS K F W H v t f) (eF : Sub F F') (eW : ∀ w ∈ W, w ∈ W') (hk : ∀ a ∈ f, H' a = H a) : RepS K F' W' H' v t f := by
  cases h with
  | non => exact .non
  | som h => exact .som (rep_keep eF eW _ _ _ h hk)
end

structure Ct where
  H0 : Hp
  F0 : Hp
  W0 : List Addr
  fp0 : List Addr
  σ0 : L2.St
/-- what holds of wells; the slots that keep their values -/
structure Sg where
  inv : HO → Prop
  prot : List Nat

structure R (K : PySem.W.Frag) (I : Sg) (c : Ct) (ρ : Rho) (tm : List T) (σ : L2.St) (vs : List V) (F : Hp) (W : List Addr) (H : Hp) : Prop where
  ex : ∃ f1 f2, Lst (RepT K F W H σ) vs tm f1 ∧ Lst (RepS K F W H) σ ρ f2 ∧ (f1 ++ f2).Nodup ∧ Step I.inv c.F0 c.W0 c.H0 c.fp0 F W H (f1 ++ f2)
  pr : ∀ i ∈ I.prot, σ[i]? = c.σ0[i]?

section
variable {K : PySem.W.Frag} {I : Sg} {c : Ct} {ρ : Rho} {t : T} {tm ts : List T} {σ : L2.St} {v : V} {vs us : List V} {F : Hp} {W : List Addr} {H : Hp}

theorem nodup_of_perm {f g : List Addr} (p : f.Perm g) (h : f.Nodup) : g.Nodup := p.nodup_iff.mp h

theorem R.wf (h : R K I c ρ tm σ vs F W H) : Wf I.inv F W H [] := by
  obtain ⟨f1, f2, _, _, _, s⟩ := h.ex
  exact s.wf.less fun a ha => nomatch ha
theorem R.sub (h : R K I c ρ tm σ vs F W H) : Sub F H := h.wf.sub

/-- THE STEP: the values on top are used up, others come; slots and the rest stand -/
theorem R.loc (h : R K I c ρ (ts ++ tm) σ (us ++ vs) F W H) (hl : us.length = ts.length) :
    ∃ fA, Lst (RepT K F W H σ) us ts fA ∧ fA.Nodup ∧ Wf I.inv F W H fA ∧ ∀ {us' : List V} {ts' : List T} {fB : List Addr} {F' : Hp} {W' : List Addr} {H' : Hp},
      Step I.inv F W H fA F' W' H' fB → fB.Nodup → Lst (RepT K F' W' H' σ) us' ts' fB → R K I c ρ (ts' ++ tm) σ (us' ++ vs) F' W' H' := by
  obtain ⟨f1, f2, h1, h2, nd, s⟩ := h.ex
  obtain ⟨fA, fr, p, hA, hr⟩ := h1.cut hl
  have q : (f1 ++ f2).Perm (fA ++ (fr ++ f2)) := by
    rw [← List.append_assoc]
    exact p.append_right f2
  have s' := s.perm (.refl _) q
  have nd' := nodup_of_perm q nd
  refine ⟨fA, hA, (List.nodup_append.mp nd').1, s'.wf.less fun a ha => List.mem_append_left _ ha, fun {us' ts' fB F' W' H'} st ndB hB => ⟨?_, h.pr⟩⟩
  obtain ⟨st1, nd1, hk⟩ := st.frame s'.wf nd' ndB
  refine ⟨fB ++ fr, f2, hB.app (hr.mono (f₀ := fr) (fun _ z => z) fun x y g hp hs => hp.keep st.subF st.subW fun a ha => hk a (List.mem_append_left _ (hs a ha))), ?_, ?_, ?_⟩
  · exact h2.mono (f₀ := f2) (fun _ z => z) fun x y g hp hs => hp.keep st.subF st.subW fun a ha => hk a (List.mem_append_right _ (hs a ha))
  · rw [List.append_assoc]; exact nd1
  · rw [List.append_assoc]; exact s'.trans st1
theorem R.drop (h : R K I c ρ (t :: tm) σ (v :: vs) F W H) : R K I c ρ tm σ vs F W H := by
  obtain ⟨fA, hA, nd, wf, k⟩ := h.loc (ts := [t]) (us := [v]) rfl
  exact k (us' := []) (ts' := []) (fB := []) (Step.refl wf |>.less fun a ha => nomatch ha) .nil .nil
theorem R.dat {d : PyData} (h : R K I c ρ tm σ vs F W H) (hd : Dp K F v d) : R K I c ρ (.dat d :: tm) σ (v :: vs) F W H := by
  obtain ⟨fA, hA, nd, wf, k⟩ := R.loc (ts := []) (us := []) h rfl
  cases hA
  exact k (us' := [v]) (ts' := [.dat d]) (fB := []) (Step.refl wf) .nil (.one (.of (.dat hd)))
theorem R.cst (h : R K I c ρ tm σ vs F W H) : R K I c ρ (.cst v :: tm) σ (v :: vs) F W H := by
  obtain ⟨fA, hA, nd, wf, k⟩ := R.loc (ts := []) (us := []) h rfl
  cases hA
  exact k (us' := [v]) (ts' := [.cst v]) (fB := []) (Step.refl wf) .nil (.one (.of .cst))
theorem R.well {a : Addr} (h : R K I c ρ tm σ vs F W H) (ha : a ∈ W) : R K I c ρ (.well :: tm) σ (.ref a :: vs) F W H := by
  obtain ⟨fA, hA, nd, wf, k⟩ := R.loc (ts := []) (us := []) h rfl
  cases hA
  exact k (us' := [.ref a]) (ts' := [.well]) (fB := []) (Step.refl wf) .nil (.one (.of (.well ha)))
theorem R.lz {j : Nat} (h : R K I c ρ tm σ vs F W H) (ha : σ[j]? = some (some v)) : R K I c ρ (.lz j :: tm) σ (v :: vs) F W H := by
  obtain ⟨fA, hA, nd, wf, k⟩ := R.loc (ts := []) (us := []) h rfl
  cases hA
  exact k (us' := [v]) (ts' := [.lz j]) (fB := []) (Step.refl wf) .nil (.one (.lz ha))
/-- the value on top as data -/
theorem R.topDat {d : PyData} (h : R K I c ρ (.dat d :: tm) σ (v :: vs) F W H) : Dp K F v d := by
  obtain ⟨fA, hA, _⟩ := h.loc (ts := [.dat d]) (us := [v]) rfl
  cases hA with
  | cons h1 _ _ =>
    cases h1.real rfl with
    | dat h => exact h
theorem R.topCst {u : V} (h : R K I c ρ (.cst u :: tm) σ (v :: vs) F W H) : v = u := by
  obtain ⟨fA, hA, _⟩ := h.loc (ts := [.cst u]) (us := [v]) rfl
  cases hA with
  | cons h1 _ _ =>
    cases h1.real rfl
    rfl
theorem R.topWell (h : R K I c ρ (.well :: tm) σ (v :: vs) F W H) : ∃ a, v = .ref a ∧ a ∈ W := by
  obtain ⟨fA, hA, _⟩ := h.loc (ts := [.well]) (us := [v]) rfl
  cases hA with
  | cons h1 _ _ =>
    cases h1.real rfl with
    | well hw => exact ⟨_, rfl, hw⟩
/-- the values at hand in another order -/
theorem R.mid (h : R K I c ρ (ts ++ t :: tm) σ (us ++ v :: vs) F W H) (hl : us.length = ts.length) : R K I c ρ (t :: (ts ++ tm)) σ (v :: (us ++ vs)) F W H := by
  obtain ⟨f1, f2, h1, h2, nd, s⟩ := h.ex
  obtain ⟨g1, g2, p, i1, i2⟩ := h1.cut hl
  cases i2 with
  | cons j1 j2 q =>
    rename_i e1 e2
    have hp : f1.Perm (e1 ++ (g1 ++ e2)) := by
      refine p.trans ((q.append_left g1).trans ?_)
      rw [← List.append_assoc, ← List.append_assoc]
      exact List.perm_append_comm.append_right e2
    exact ⟨⟨f1, f2, (Lst.cons j1 (i1.app j2) (.refl _)).perm hp.symm, h2, nd, s⟩, h.pr⟩
theorem R.unmid (h : R K I c ρ (t :: (ts ++ tm)) σ (v :: (us ++ vs)) F W H) (hl : us.length = ts.length) : R K I c ρ (ts ++ t :: tm) σ (us ++ v :: vs) F W H := by
  obtain ⟨f1, f2, h1, h2, nd, s⟩ := h.ex
  cases h1 with
  | cons j1 j2 q =>
    rename_i e1 e2
    obtain ⟨g1, g2, p, i1, i2⟩ := j2.cut hl
    refine ⟨⟨f1, f2, (i1.app (Lst.cons j1 i2 (.refl _))).perm ?_, h2, nd, s⟩, h.pr⟩
    refine List.Perm.symm (q.trans ((p.append_left e1).trans ?_))
    rw [← List.append_assoc, ← List.append_assoc]
    exact List.perm_append_comm.append_right g2
theorem R.slot {j : Nat} {s : T} (h : R K I c ρ tm σ vs F W H) (hj : ρ[j]? = some (some s)) : ∃ u f, σ[j]? = some (some u) ∧ Rep K F W H u s f ∧ Wf I.inv F W H f := by
  obtain ⟨f1, f2, h1, h2, nd, st⟩ := h.ex
  obtain ⟨x, g1, g2, e1, e2, p, _⟩ := h2.focus hj
  cases e2 with
  | som e2 => exact ⟨_, g1, e1, e2, st.wf.less fun a ha => List.mem_append_right _ (p.mem_iff.mpr (List.mem_append_left _ ha))⟩
/-- a part of a slot's tree is taken out; its place keeps the value -/
theorem R.take {j : Nat} {p : List Stp} {t s : T} (h : R K I c ρ tm σ vs F W H) (hj : ρ[j]? = some (some t)) (hp : t.get p = some s) :
    ∃ u, R K I c (ρ.set j (some (t.put p (.cst u)))) (s :: tm) σ (u :: vs) F W H ∧ (p = [] → σ[j]? = some (some u)) := by
  obtain ⟨f1, f2, h1, h2, nd, st⟩ := h.ex
  obtain ⟨x, g1, g2, e1, e2, q, k⟩ := h2.focus hj
  cases e2 with
  | som e2 =>
    rename_i v0
    obtain ⟨u, d1, d2, q2, hu, k2⟩ := rep_focus p e2 hp
    have r := k2 F W H (.cst u) [] (.refl _) (fun _ z => z) (fun _ _ => rfl) .cst
    have es : σ.set j (some v0) = σ := by
      obtain ⟨hi1, hi2⟩ := List.getElem?_eq_some_iff.mp e1
      rw [← hi2]
      exact List.set_getElem_self hi1
    have r2 := k (RepS K F W H) (some v0) (some (t.put p (.cst u))) ([] ++ d2) (fun x y g hp hs => hp) (.som r)
    rw [es] at r2
    have pm : (f1 ++ f2).Perm ((d1 ++ f1) ++ (([] ++ d2) ++ g2)) := by
      refine ((q.append_left f1).trans ((q2.append_right g2).append_left f1)).trans ?_
      rw [List.nil_append, List.append_assoc, ← List.append_assoc, ← List.append_assoc (d1 ++ f1)]
      rw [List.append_assoc f1 d1, ← List.append_assoc f1 d1, List.append_assoc (d1 ++ f1)]
      exact List.perm_append_comm.append_right (d2 ++ g2)
    refine ⟨u, ⟨⟨d1 ++ f1, ([] ++ d2) ++ g2, .cons (.of hu) h1 (.refl _), r2, nodup_of_perm pm nd, st.perm (.refl _) pm⟩, h.pr⟩, fun e => ?_⟩
    subst e
    cases hp
    have r' := k2 F W H (.cst v0) [] (.refl _) (fun _ z => z) (fun _ _ => rfl)
    have : u = v0 := by
      have w := k2 F W H (.cst u) [] (.refl _) (fun _ z => z) (fun _ _ => rfl) .cst
      cases w with
      | cst => rfl
    rw [this]
    exact e1
/-- .. and put back -/
theorem R.put {j : Nat} {p : List Stp} {t s : T} {u : V} (h : R K I c ρ (s :: tm) σ (u :: vs) F W H) (hs : s.real = true) (hj : ρ[j]? = some (some t)) (hp : t.get p = some (.cst u)) :
    R K I c (ρ.set j (some (t.put p s))) tm σ vs F W H := by
  obtain ⟨f1, f2, h1, h2, nd, st⟩ := h.ex
  cases h1 with
  | cons j1 j2 q0 =>
    rename_i a1 a2
    obtain ⟨x, g1, g2, e1, e2, q, k⟩ := h2.focus hj
    cases e2 with
    | som e2 =>
      rename_i v0
      obtain ⟨u', d1, d2, q2, hu, k2⟩ := rep_focus p e2 hp
      cases hu
      have r := k2 F W H s a1 (.refl _) (fun _ z => z) (fun _ _ => rfl) (j1.real hs)
      have es : σ.set j (some v0) = σ := by
        obtain ⟨hi1, hi2⟩ := List.getElem?_eq_some_iff.mp e1
        rw [← hi2]
        exact List.set_getElem_self hi1
      have r2 := k (RepS K F W H) (some v0) (some (t.put p s)) (a1 ++ d2) (fun x y g hp hs => hp) (.som r)
      rw [es] at r2
      have pm : (f1 ++ f2).Perm (a2 ++ ((a1 ++ d2) ++ g2)) := by
        refine ((q0.append_right f2).trans ((q.trans (q2.append_right g2)).append_left (a1 ++ a2))).trans ?_
        rw [List.nil_append, List.append_assoc a1 d2, ← List.append_assoc a2 a1]
        exact List.perm_append_comm.append_right (d2 ++ g2)
      exact ⟨⟨a2, (a1 ++ d2) ++ g2, j2, r2, nodup_of_perm pm nd, st.perm (.refl _) pm⟩, h.pr⟩
/-- a slot gets the value on top -/
theorem R.set {i : Nat} (h : R K I c ρ (t :: tm) σ (v :: vs) F W H) (ht : t.real = true) (hz : ∀ x ∈ tm, x.noLz = true) (hi : i ∉ I.prot) : R K I c (ρ.set i (some t)) tm (σ.set i (some v)) vs F W H := by
  obtain ⟨f1, f2, h1, h2, nd, st⟩ := h.ex
  have pr' : ∀ k ∈ I.prot, (σ.set i (some v))[k]? = c.σ0[k]? := fun k hk => by
    rw [List.getElem?_set_ne (fun e => hi (by rw [e]; exact hk))]
    exact h.pr k hk
  have sig : ∀ {xs : List V} {ys : List T} {f : List Addr}, Lst (RepT K F W H σ) xs ys f → (∀ x ∈ ys, x.noLz = true) → Lst (RepT K F W H (σ.set i (some v))) xs ys f := by
    intro xs ys f hh
    induction hh with
    | nil => intro _; exact .nil
    | cons k1 _ q ih => intro hn; exact .cons (k1.sig (hn _ List.mem_cons_self)) (ih fun x hx => hn x (List.mem_cons_of_mem _ hx)) q
  cases h1 with
  | cons j1 j2 q0 =>
    rename_i a1 a2
    cases hρ : ρ[i]? with
    | none =>
      have hl := h2.len
      have hi' : ρ.length ≤ i := List.getElem?_eq_none_iff.mp hρ
      rw [List.set_eq_of_length_le hi', List.set_eq_of_length_le (by omega)]
      exact h.drop
    | some y =>
      obtain ⟨x, g1, g2, e1, e2, q, k⟩ := h2.focus hρ
      have r2 := k (RepS K F W H) (some v) (some t) a1 (fun x y g hp hs => hp) (.som (j1.real ht))
      have pm : (a2 ++ (a1 ++ g2)).Perm (a1 ++ (a2 ++ g2)) := by
        rw [← List.append_assoc, ← List.append_assoc]
        exact List.perm_append_comm.append_right g2
      have pq : (f1 ++ f2).Perm (a1 ++ (a2 ++ (g1 ++ g2))) := by
        refine ((q0.append_right f2).trans (q.append_left (a1 ++ a2))).trans ?_
        rw [List.append_assoc]
      have nd' := nodup_of_perm pq nd
      have sl : List.Sublist (a1 ++ (a2 ++ g2)) (a1 ++ (a2 ++ (g1 ++ g2))) := (((List.sublist_append_right g1 g2).append_left a2).append_left a1)
      refine ⟨⟨a2, a1 ++ g2, sig j2 hz, r2, nodup_of_perm pm.symm (nd'.sublist sl), (st.perm (.refl _) pq).less fun a ha => sl.subset (pm.mem_iff.mp ha)⟩, pr'⟩
/-- a slot is forgotten -/
theorem R.forget {i : Nat} (h : R K I c ρ tm σ vs F W H) : R K I c (ρ.set i none) tm σ vs F W H := by
  obtain ⟨f1, f2, h1, h2, nd, st⟩ := h.ex
  cases hρ : ρ[i]? with
  | none => rw [List.set_eq_of_length_le (List.getElem?_eq_none_iff.mp hρ)]; exact h
  | some y =>
    obtain ⟨x, g1, g2, e1, e2, q, k⟩ := h2.focus hρ
    have r2 := k (RepS K F W H) x none [] (fun x y g hp hs => hp) .non
    have es : σ.set i x = σ := by
      obtain ⟨hi1, hi2⟩ := List.getElem?_eq_some_iff.mp e1
      rw [← hi2]
      exact List.set_getElem_self hi1
    rw [es] at r2
    have sl : List.Sublist (f1 ++ ([] ++ g2)) (f1 ++ (g1 ++ g2)) := (List.sublist_append_right g1 g2).append_left f1
    have pm := q.append_left f1
    exact ⟨⟨f1, _, h1, r2, (nodup_of_perm pm nd).sublist sl, (st.perm (.refl _) pm).less fun a ha => sl.subset ha⟩, h.pr⟩
end
end Hz
/-! Hz3: what an expression does, by trees: names, constants, operators, displays, parts. -/
namespace Hz
open PySem L2
/-- an invariant is to be given -/
inductive Inv1 {α : Type} (p : α → Prop) : Prop
  | mk (w : α) (h : p w) : Inv1 p
/-- a place to stop at -/
inductive Stop (p : Prop) : Prop
  | mk (h : p) : Stop p
abbrev WX := Addr → T → Rho → Prop
abbrev WE := Rho → WX → (T → Rho → Prop) → Prop
abbrev WT := Rho → WX → (Bool → Rho → Prop) → Prop
abbrev WA := Rho → WX → (List T → Rho → Prop) → Prop

/-! ### a value at hand, looked at, opened, closed -/
def T.peek : T → Rho → Option T
  | .lz j, ρ => (ρ[j]?).join
  | .bor _ _ _ s, _ => some s
  | t, _ => some t
def putAt (ρ : Rho) (j : Nat) (p : List Stp) (v : V) (s : T) : Rho :=
  match (ρ[j]?).join with
  | some t => match t.get p with
    | some (.cst u) => if u = v then ρ.set j (some (t.put p s)) else ρ
    | _ => ρ
  | none => ρ
def T.drop : T → Rho → Rho
  | .bor j p v s, ρ => putAt ρ j p v s
  | _, ρ => ρ
def T.opn : T → Rho → Option (T × Rho)
  | .lz j, ρ => (ρ[j]?).join.map fun s => (s, ρ.set j none)
  | .bor _ _ _ s, ρ => some (s, ρ)
  | t, ρ => some (t, ρ)
/-- a value goes back where it came from: its tree is s now -/
def T.cls : T → T → Rho → Rho
  | .lz j, s, ρ => ρ.set j (some s)
  | .bor j p v _, s, ρ => putAt ρ j p v s
  | _, _, ρ => ρ
/-- where a value at hand came from -/
def Orig (σ : L2.St) (t : T) (v : V) : Prop :=
  match t with
  | .lz j => σ[j]? = some (some v)
  | .bor _ _ u _ => u = v
  | _ => True
mutual
def T.py : T → Option PyData
  | .dat d => some d
  | .lst ts => (T.pys ts).map .list
  | .tup ts => (T.pys ts).map .tuple
  | _ => none
def T.pys : List T → Option (List PyData)
  | [] => some []
  | t :: ts => match t.py, T.pys ts with
    | some d, some ds => some (d :: ds)
    | _, _ => none
end
section
variable {K : PySem.W.Frag} {F F' : Hp} {W W' : List Addr} {H H' : Hp}
theorem rep_real {t : T} {v : V} {f : List Addr} (h : Rep K F W H v t f) : t.real = true := by
  cases h <;> rfl
mutual
/-- an owned tree as data, in any heap that has it -/
theorem rep_py (eF : Sub F F') : ∀ (t : T) (v : V) (fp : List Addr) (d : PyData), Rep K F W H v t fp → (∀ a ∈ fp, ∀ o, H a = some o → F' a = some o) → t.py = some d → Dp K F' v d
  | .dat d, v, fp, e, h, k, hp => by
    cases hp
    cases h with
    | dat h => exact dp_sub eF _ _ h
  | .cst u, v, fp, e, h, k, hp => by cases hp
  | .well, v, fp, e, h, k, hp => by cases hp
  | .lst ts, v, fp, e, h, k, hp => by
    have hp' : (T.pys ts).map PyData.list = some e := hp
    cases hq : T.pys ts with
    | none => rw [hq] at hp'; cases hp'
    | some ds =>
      rw [hq] at hp'
      cases hp'
      cases h with
      | lst h1 h2 p => exact .lst (.inl (.inl (k _ (p.mem_iff.mpr List.mem_cons_self) _ h1))) (repA_py eF ts _ _ ds h2 (fun a ha => k a (p.mem_iff.mpr (List.mem_cons_of_mem _ ha))) hq)
  | .tup ts, v, fp, e, h, k, hp => by
    have hp' : (T.pys ts).map PyData.tuple = some e := hp
    cases hq : T.pys ts with
    | none => rw [hq] at hp'; cases hp'
    | some ds =>
      rw [hq] at hp'
      cases hp'
      cases h with
      | tup h1 h2 p => exact .tup (.inl (.inl (k _ (p.mem_iff.mpr List.mem_cons_self) _ h1))) (repA_py eF ts _ _ ds h2 (fun a ha => k a (p.mem_iff.mpr (List.mem_cons_of_mem _ ha))) hq)
  | .dic ks ts, v, fp, e, h, k, hp => by cases hp
  | .dcl d o xs kvs, v, fp, e, h, k, hp => by cases hp
  | .exc a d C x, v, fp, e, h, k, hp => by cases hp
  | .exk a d C x, v, fp, e, h, k, hp => by cases hp
  | .ins C ns ts, v, fp, e, h, k, hp => by cases hp
  | .lz j, v, fp, e, h, k, hp => by cases hp
  | .bor j p u t, v, fp, e, h, k, hp => by cases hp
theorem repA_py (eF : Sub F F') : ∀ (ts : List T) (vs : List V) (fp : List Addr) (ds : List PyData), RepA K F W H vs ts fp → (∀ a ∈ fp, ∀ o, H a = some o → F' a = some o) → T.pys ts = some ds → DpAll K F' vs ds
  | [], vs, fp, ds, h, k, hp => by
    cases hp
    cases h
    exact .nil
  | t :: ts, vs, fp, ds, h, k, hp => by
    have hp' : (match t.py, T.pys ts with | some d, some ds => some (d :: ds) | _, _ => none) = some ds := hp
    cases h with
    | cons h1 h2 p =>
      cases e1 : t.py with
      | none => rw [e1] at hp'; cases hp'
      | some d =>
        cases e2 : T.pys ts with
        | none => rw [e1, e2] at hp'; cases hp'
        | some dr =>
          rw [e1, e2] at hp'
          cases hp'
          exact .cons (rep_py eF t _ _ d h1 (fun a ha => k a (p.mem_iff.mpr (List.mem_append_left _ ha))) e1) (repA_py eF ts _ _ dr h2 (fun a ha => k a (p.mem_iff.mpr (List.mem_append_right _ ha))) e2)
end
end
/-- a heap to which the objects at fp are added -/
def joinF (F H : Hp) (fp : List Addr) : Hp := fun a => if a ∈ fp then H a else F a
section
variable {K : PySem.W.Frag} {I : Sg} {c : Ct} {ρ ρ' : Rho} {t s : T} {tm ts : List T} {σ : L2.St} {v : V} {vs us : List V} {F : Hp} {W : List Addr} {H : Hp} {fp : List Addr}
theorem joinF_sub {I : HO → Prop} (w : Wf I F W H fp) : Sub F (joinF F H fp) := fun a o e => by
  unfold joinF
  by_cases h : a ∈ fp
  · rw [(w.own a h).1] at e
    cases e
  · rw [if_neg h]; exact e
theorem joinF_in {a : Addr} (h : a ∈ fp) : joinF F H fp a = H a := by unfold joinF; rw [if_pos h]
/-- what was owned is data from now on -/
theorem Step.join {I : HO → Prop} (w : Wf I F W H fp) : Step I F W H fp (joinF F H fp) W H [] := by
  refine ⟨⟨fun a o e => ?_, fun a ha => (nomatch ha), fun x hx => ⟨?_, (w.wel x hx).2⟩⟩, joinF_sub w, fun _ h => h, fun _ _ h _ _ => h, fun _ h => h, fun a ha => (nomatch ha), fun a ha => ?_, fun _ h => .inl h⟩
  · unfold joinF at e
    by_cases h : a ∈ fp
    · rw [if_pos h] at e; exact e
    · rw [if_neg h] at e; exact w.sub a o e
  · unfold joinF
    by_cases h : x ∈ fp
    · exact absurd hx (w.own x h).2.1
    · rw [if_neg h]; exact (w.wel x hx).1
  · by_cases h : a ∈ fp
    · exact .inr (.inl h)
    · unfold joinF at ha
      rw [if_neg h] at ha
      exact .inl ha
theorem R.freeze {d : PyData} (h : R K I c ρ (t :: tm) σ (v :: vs) F W H) (ht : t.py = some d) : ∃ F', Sub F F' ∧ R K I c ρ (.dat d :: tm) σ (v :: vs) F' W H := by
  obtain ⟨fA, hA, nd, wf, k⟩ := h.loc (ts := [t]) (us := [v]) rfl
  have hr : t.real = true := by cases t <;> first | rfl | cases ht
  cases hA with
  | cons h1 h2 p =>
    cases h2
    rw [List.append_nil] at p
    have h1' := (h1.real hr).perm p.symm
    exact ⟨joinF F H fA, joinF_sub wf, k (us' := [v]) (ts' := [.dat d]) (fB := []) (Step.join wf) .nil (.one (.of (.dat (rep_py (joinF_sub wf) t v fA d h1' (fun a ha o e => by rw [joinF_in ha]; exact e) ht))))⟩
theorem R.orig (h : R K I c ρ (t :: tm) σ (v :: vs) F W H) : Orig σ t v := by
  obtain ⟨fA, hA, _⟩ := h.loc (ts := [t]) (us := [v]) rfl
  cases hA with
  | cons h1 _ _ =>
    cases h1 with
    | of h =>
      have := rep_real h
      cases t <;> first | trivial | cases this
    | lz hh => exact hh
    | bor hh => exact rfl
theorem R.peek (h : R K I c ρ (t :: tm) σ (v :: vs) F W H) (hp : t.peek ρ = some s) : ∃ f, Rep K F W H v s f ∧ Wf I.inv F W H f := by
  obtain ⟨fA, hA, nd, wf, k⟩ := h.loc (ts := [t]) (us := [v]) rfl
  cases hA with
  | cons h1 h2 p =>
    cases h2
    rw [List.append_nil] at p
    cases h1 with
    | of h1 =>
      have hr := rep_real h1
      have e : t.peek ρ = some t := by cases t <;> first | rfl | cases hr
      rw [e] at hp
      cases hp
      exact ⟨_, h1.perm p.symm, wf⟩
    | lz h1 =>
      rename_i j
      have e : (ρ[j]?).join = some s := hp
      have e' : ρ[j]? = some (some s) := by
        cases q : ρ[j]? with
        | none => rw [q] at e; cases e
        | some x => rw [q] at e; cases x with
          | none => cases e
          | some x => cases e; rfl
      obtain ⟨u, f, e1, e2, e3⟩ := h.slot e'
      rw [h1] at e1
      cases e1
      exact ⟨f, e2, e3⟩
    | bor h1 =>
      cases hp
      exact ⟨_, h1.perm p.symm, wf⟩
theorem R.unbor {j : Nat} {p : List Stp} {u : V} (h : R K I c ρ (.bor j p u s :: tm) σ (v :: vs) F W H) : R K I c ρ (s :: tm) σ (v :: vs) F W H := by
  obtain ⟨fA, hA, nd, wf, k⟩ := h.loc (ts := [.bor j p u s]) (us := [v]) rfl
  cases hA with
  | cons h1 h2 q =>
    cases h2
    cases h1 with
    | of h1 => cases h1
    | bor h1 => exact k (us' := [v]) (ts' := [s]) (Step.refl wf) nd (.cons (.of h1) .nil q)
theorem R.rebor {j : Nat} {p : List Stp} (h : R K I c ρ (s :: tm) σ (v :: vs) F W H) (hs : s.real = true) : R K I c ρ (.bor j p v s :: tm) σ (v :: vs) F W H := by
  obtain ⟨fA, hA, nd, wf, k⟩ := h.loc (ts := [s]) (us := [v]) rfl
  cases hA with
  | cons h1 h2 q =>
    cases h2
    exact k (us' := [v]) (ts' := [.bor j p v s]) (Step.refl wf) nd (.cons (.bor (h1.real hs)) .nil q)
theorem R.putAt {j : Nat} {p : List Stp} (h : R K I c ρ (s :: tm) σ (v :: vs) F W H) (hs : s.real = true) : R K I c (putAt ρ j p v s) tm σ vs F W H := by
  unfold Hz.putAt
  cases q : (ρ[j]?).join with
  | none => exact h.drop
  | some t =>
    have e' : ρ[j]? = some (some t) := by
      cases q2 : ρ[j]? with
      | none => rw [q2] at q; cases q
      | some x => rw [q2] at q; cases x with
        | none => cases q
        | some x => cases q; rfl
    show R K I c (match t.get p with | some (.cst u) => if u = v then ρ.set j (some (t.put p s)) else ρ | _ => ρ) tm σ vs F W H
    cases hg : t.get p with
    | none => exact h.drop
    | some x =>
      cases x with
      | cst u =>
        show R K I c (if u = v then ρ.set j (some (t.put p s)) else ρ) tm σ vs F W H
        by_cases hu : u = v
        · rw [if_pos hu]
          exact h.put hs e' (by rw [hg, hu])
        · rw [if_neg hu]
          exact h.drop
      | _ => exact h.drop
theorem R.dropT (h : R K I c ρ (t :: tm) σ (v :: vs) F W H) : R K I c (t.drop ρ) tm σ vs F W H := by
  cases t with
  | bor j p u s =>
    have e : u = v := h.orig
    subst e
    obtain ⟨f, hr, _⟩ := h.peek (s := s) rfl
    exact h.unbor.putAt (rep_real hr)
  | _ => exact h.drop
/-- a slot gets a tree of the value that it has -/
theorem R.fill {j : Nat} (h : R K I c ρ (t :: tm) σ (v :: vs) F W H) (ht : t.real = true) (hj : σ[j]? = some (some v)) : R K I c (ρ.set j (some t)) tm σ vs F W H := by
  obtain ⟨f1, f2, h1, h2, nd, st⟩ := h.ex
  cases h1 with
  | cons j1 j2 q0 =>
    rename_i a1 a2
    cases hρ : ρ[j]? with
    | none => rw [List.set_eq_of_length_le (List.getElem?_eq_none_iff.mp hρ)]; exact h.drop
    | some y =>
      obtain ⟨x, g1, g2, e1, e2, q, k⟩ := h2.focus hρ
      have r2 := k (RepS K F W H) (some v) (some t) a1 (fun x y g hp hs => hp) (.som (j1.real ht))
      have es : σ.set j (some v) = σ := by
        obtain ⟨hi1, hi2⟩ := List.getElem?_eq_some_iff.mp hj
        rw [← hi2]
        exact List.set_getElem_self hi1
      rw [es] at r2
      have pm : (a2 ++ (a1 ++ g2)).Perm (a1 ++ (a2 ++ g2)) := by
        rw [← List.append_assoc, ← List.append_assoc]
        exact List.perm_append_comm.append_right g2
      have pq : (f1 ++ f2).Perm (a1 ++ (a2 ++ (g1 ++ g2))) := by
        refine ((q0.append_right f2).trans (q.append_left (a1 ++ a2))).trans ?_
        rw [List.append_assoc]
      have nd' := nodup_of_perm pq nd
      have sl : List.Sublist (a1 ++ (a2 ++ g2)) (a1 ++ (a2 ++ (g1 ++ g2))) := (((List.sublist_append_right g1 g2).append_left a2).append_left a1)
      exact ⟨⟨a2, a1 ++ g2, j2, r2, nodup_of_perm pm.symm (nd'.sublist sl), (st.perm (.refl _) pq).less fun a ha => sl.subset (pm.mem_iff.mp ha)⟩, h.pr⟩
theorem join_some {α : Type} {x : Option (Option α)} {a : α} (h : x.join = some a) : x = some (some a) := by
  cases x with
  | none => cases h
  | some x => cases x with
    | none => cases h
    | some x => cases h; rfl
theorem R.opn (h : R K I c ρ (t :: tm) σ (v :: vs) F W H) (ho : t.opn ρ = some (s, ρ')) : R K I c ρ' (s :: tm) σ (v :: vs) F W H ∧ s.real = true := by
  obtain ⟨f0, hr0, _⟩ := h.peek (s := s) (by
    cases t with
    | lz j =>
      have ho' : (ρ[j]?).join.map (fun s => (s, ρ.set j none)) = some (s, ρ') := ho
      cases q : (ρ[j]?).join with
      | none => rw [q] at ho'; cases ho'
      | some x => rw [q] at ho'; cases ho'; exact q
    | _ => cases ho; rfl)
  refine ⟨?_, rep_real hr0⟩
  cases t with
  | lz j =>
    have ho' : (ρ[j]?).join.map (fun s => (s, ρ.set j none)) = some (s, ρ') := ho
    cases q : (ρ[j]?).join with
    | none => rw [q] at ho'; cases ho'
    | some x =>
      rw [q] at ho'
      cases ho'
      obtain ⟨u, k, hu⟩ := h.drop.take (join_some q) (p := []) rfl
      have e1 : σ[j]? = some (some v) := h.orig
      have e2 := hu rfl
      rw [e1] at e2
      cases e2
      have k2 := k.forget (i := j)
      rw [List.set_set] at k2
      exact k2
  | bor j p u x =>
    cases ho
    exact h.unbor
  | _ => cases ho; exact h
theorem R.clsT (h : R K I c ρ (s :: tm) σ (v :: vs) F W H) (hs : s.real = true) (ho : Orig σ t v) : R K I c (t.cls s ρ) tm σ vs F W H := by
  cases t with
  | lz j => exact h.fill hs ho
  | bor j p u x =>
    have e : u = v := ho
    subst e
    exact h.putAt hs
  | _ => exact h.drop
end

/-! ### the judgement -/
/-- exceptions by the slots where they come -/
abbrev XS := L2.St → XK
def XOk (K : PySem.W.Frag) (I : Sg) (c : Ct) (E : XS) (Qx : WX) : Prop :=
  ∀ C t ρ σ v d F W H, R K I c ρ [t] σ [v] F W H → t.real = true → F d = some (.xd [("value", v)]) → Qx C t ρ → E σ (.ref C) (some d) H
def EvW (K : PySem.W.Frag) (I : Sg) (E : XS) (te : TE) (we : WE) : Prop :=
  ∀ c ρ tm σ vs F W H, R K I c ρ tm σ vs F W H → ∀ Qx Qv, XOk K I c E Qx → we ρ Qx Qv →
    ∀ Q : VK, (∀ t ρ' v F' W' H', R K I c ρ' (t :: tm) σ (v :: vs) F' W' H' → Qv t ρ' → Q v H') → te σ H Q
def EvT (K : PySem.W.Frag) (I : Sg) (E : XS) (tt : TT) (wt : WT) : Prop :=
  ∀ c ρ tm σ vs F W H, R K I c ρ tm σ vs F W H → ∀ Qx Qv, XOk K I c E Qx → wt ρ Qx Qv →
    ∀ Q : Bool → Hp → Prop, (∀ b ρ' F' W' H', R K I c ρ' tm σ vs F' W' H' → Qv b ρ' → Q b H') → tt σ H Q
def EvA (K : PySem.W.Frag) (I : Sg) (E : XS) (ta : TA) (wa : WA) : Prop :=
  ∀ c ρ tm σ vs F W H, R K I c ρ tm σ vs F W H → ∀ Qx Qv, XOk K I c E Qx → wa ρ Qx Qv →
    ∀ Q : List V → Hp → Prop, (∀ ts us ρ' F' W' H', R K I c ρ' (ts ++ tm) σ (us ++ vs) F' W' H' → us.length = ts.length → Qv ts ρ' → Q us H') → ta σ H Q

/-! ### combinators by trees -/
abbrev tI (i : Int) : T := .dat (.int i)
abbrev tBo (b : Bool) : T := .dat (.bool b)
abbrev tN : T := .dat .none
def wC (d : PyData) : WE := fun ρ _ Q => Q (.dat d) ρ
def wCst (v : V) : WE := fun ρ _ Q => Q (.cst v) ρ
def wVar (i : Nat) : WE := fun ρ _ Q => match ρ[i]? with
  | some (some (.dat d)) => Q (.dat d) ρ
  | some (some (.cst v)) => Q (.cst v) ρ
  | some (some .well) => Q .well ρ
  | some (some _) => Q (.lz i) ρ
  | _ => False
/-- an owned value is moved out -/
def wMv (we : WE) : WE := fun ρ Qx Q => we ρ Qx fun t ρ1 => ∃ s ρ2, t.opn ρ1 = some (s, ρ2) ∧ Q s ρ2
/-- .. and is data from now on -/
def wFz (we : WE) : WE := fun ρ Qx Q => we ρ Qx fun t ρ1 => ∃ s ρ2 d, t.opn ρ1 = some (s, ρ2) ∧ s.py = some d ∧ Q (.dat d) ρ2
def wII (C : Int → Int → Prop) (g : Int → Int → PyData) (a b : WE) : WE := fun ρ Qx Q => a ρ Qx fun ta ρ1 => b ρ1 Qx fun tb ρ2 => ∃ i j, ta = tI i ∧ tb = tI j ∧ C i j ∧ Q (.dat (g i j)) ρ2
def wII0 (g : Int → Int → PyData) (a b : WE) : WE := fun ρ Qx Q => a ρ Qx fun ta ρ1 => b ρ1 Qx fun tb ρ2 => ∃ i j, ta = tI i ∧ tb = tI j ∧ Q (.dat (g i j)) ρ2
def wU (g : Int → PyData) (a : WE) : WE := fun ρ Qx Q => a ρ Qx fun ta ρ1 => ∃ i, ta = tI i ∧ Q (.dat (g i)) ρ1
def T.isNon : T → Bool
  | .dat .none => true
  | .cst v => decide (v = .non)
  | _ => false
def wIsN (neg : Bool) (a : WE) : WE := fun ρ Qx Q => a ρ Qx fun ta ρ1 => ∃ s, ta.peek ρ1 = some s ∧ Q (tBo (if neg then !s.isNon else s.isNon)) (ta.drop ρ1)
def wAnd (a b : WE) : WE := fun ρ Qx Q => a ρ Qx fun ta ρ1 => ∃ k, ta = tBo k ∧ if k = true then b ρ1 Qx Q else Q (tBo false) ρ1
def wOr (a b : WE) : WE := fun ρ Qx Q => a ρ Qx fun ta ρ1 => ∃ k, ta = tBo k ∧ if k = true then Q (tBo true) ρ1 else b ρ1 Qx Q
def wNot (a : WE) : WE := fun ρ Qx Q => a ρ Qx fun ta ρ1 => ∃ k, ta = tBo k ∧ Q (tBo (!k)) ρ1
def wIf (c : WT) (a b : WE) : WE := fun ρ Qx Q => c ρ Qx fun k ρ1 => if k = true then a ρ1 Qx Q else b ρ1 Qx Q
def bT (a : WE) : WT := fun ρ Qx Q => a ρ Qx fun ta ρ1 => ∃ k, ta = tBo k ∧ Q k ρ1
def bAnd (a b : WT) : WT := fun ρ Qx Q => a ρ Qx fun k ρ1 => if k = true then b ρ1 Qx Q else Q false ρ1
def bOr (a b : WT) : WT := fun ρ Qx Q => a ρ Qx fun k ρ1 => if k = true then Q true ρ1 else b ρ1 Qx Q
def bNot (a : WT) : WT := fun ρ Qx Q => a ρ Qx fun k ρ1 => Q (!k) ρ1
def wEq (neg : Bool) (a b : WE) : WE := fun ρ Qx Q => a ρ Qx fun ta ρ1 => b ρ1 Qx fun tb ρ2 => ∃ s1 s2 d1 d2, ta.peek ρ2 = some s1 ∧ tb.peek ρ2 = some s2 ∧ s1.py = some d1 ∧ s2.py = some d2 ∧
  SeqAt.shaped d1 = true ∧ SeqAt.shaped d2 = true ∧ Q (tBo (if neg then !PyData.eqv d1 d2 else PyData.eqv d1 d2)) (ta.drop (tb.drop ρ2))
def aNil : WA := fun ρ _ Q => Q [] ρ
def aCons (a : WE) (r : WA) : WA := fun ρ Qx Q => a ρ Qx fun t ρ1 => r ρ1 Qx fun ts ρ2 => Q (t :: ts) ρ2
def wTup (as : WA) : WE := fun ρ Qx Q => as ρ Qx fun ts ρ1 => ∃ ds, T.pys ts = some ds ∧ ds.length ≤ 1000000 ∧ Q (.dat (.tuple ds)) ρ1
def wTupO (as : WA) : WE := fun ρ Qx Q => as ρ Qx fun ts ρ1 => ts.all T.real = true ∧ ts.length ≤ 1000000 ∧ Q (.tup ts) ρ1
def wLst (as : WA) : WE := fun ρ Qx Q => as ρ Qx fun ts ρ1 => ts.all T.real = true ∧ ts.length ≤ 1000000 ∧ Q (.lst ts) ρ1

section
variable {K : PySem.W.Frag} {I : Sg} {E : XS} {te ta tb tc : TE} {we wa wb : WE} {tt tu : TT} {wt wu : WT} {tl : TA} {wl : WA}
theorem ev_c {v : V} {d : PyData} (h : ∀ F, Dp K F v d) : EvW K I E (tC v) (wC d) := fun c ρ tm σ vs F W H r Qx Qv hx hw Q k => k _ _ _ _ _ _ (r.dat (h F)) hw
theorem ev_int {i : Int} : EvW K I E (tC (.int i)) (wC (.int i)) := ev_c fun _ => .int i
theorem ev_bl {b : Bool} : EvW K I E (tC (.bl b)) (wC (.bool b)) := ev_c fun _ => .bl b
theorem ev_str {x : Str} : EvW K I E (tC (.str x)) (wC (.str x)) := ev_c fun _ => .str x
theorem ev_non : EvW K I E (tC .non) (wC .none) := ev_c fun _ => .non
theorem ev_cst {v : V} : EvW K I E (tC v) (wCst v) := fun c ρ tm σ vs F W H r Qx Qv hx hw Q k => k _ _ _ _ _ _ r.cst hw
theorem ev_var {i : Nat} : EvW K I E (tVar i) (wVar i) := fun c ρ tm σ vs F W H r Qx Qv hx hw Q k => by
  unfold wVar at hw
  cases hρ : ρ[i]? with
  | none => rw [hρ] at hw; exact hw.elim
  | some o =>
    cases o with
    | none => rw [hρ] at hw; exact hw.elim
    | some t =>
      obtain ⟨u, f, e1, e2, _⟩ := r.slot hρ
      rw [hρ] at hw
      refine ⟨u, e1, ?_⟩
      cases t with
      | dat d =>
        cases e2 with
        | dat e2 => exact k _ _ _ _ _ _ (r.dat e2) hw
      | cst v =>
        cases e2
        exact k _ _ _ _ _ _ r.cst hw
      | well =>
        cases e2 with
        | well e2 => exact k _ _ _ _ _ _ (r.well e2) hw
      | _ => exact k _ _ _ _ _ _ (r.lz e1) hw
theorem ev_mv (h : EvW K I E te we) : EvW K I E te (wMv we) := fun c ρ tm σ vs F W H r Qx Qv hx hw Q k =>
  h c ρ tm σ vs F W H r Qx _ hx hw Q fun t ρ' v F' W' H' r' ⟨s, ρ2, ho, q⟩ => k _ _ _ _ _ _ (r'.opn ho).1 q
theorem ev_fz (h : EvW K I E te we) : EvW K I E te (wFz we) := fun c ρ tm σ vs F W H r Qx Qv hx hw Q k =>
  h c ρ tm σ vs F W H r Qx _ hx hw Q fun t ρ' v F' W' H' r' ⟨s, ρ2, d, ho, hp, q⟩ => by
    obtain ⟨F2, _, r2⟩ := (r'.opn ho).1.freeze hp
    exact k _ _ _ _ _ _ r2 q
theorem ev_II {C : Int → Int → Prop} {f : Int → Int → V} {g : Int → Int → PyData} (hf : ∀ i j F, Dp K F (f i j) (g i j)) (ha : EvW K I E ta wa) (hb : EvW K I E tb wb) : EvW K I E (tOp (rI C f) ta tb) (wII C g wa wb) :=
  fun c ρ tm σ vs F W H r Qx Qv hx hw Q k => ha c ρ tm σ vs F W H r Qx _ hx hw _ fun t ρ' v F' W' H' r' hw' => hb c ρ' (t :: tm) σ (v :: vs) F' W' H' r' Qx _ hx hw' _ fun t2 ρ2 v2 F2 W2 H2 r2 ⟨i, j, e1, e2, hc, q⟩ => by
    subst e1; subst e2
    have d2 := r2.topDat
    have d1 := r2.drop.topDat
    cases d1
    cases d2
    exact ⟨i, j, rfl, rfl, hc, k _ _ _ _ _ _ (r2.drop.drop.dat (hf i j F2)) q⟩
theorem ev_II0 {f : Int → Int → V} {g : Int → Int → PyData} (hf : ∀ i j F, Dp K F (f i j) (g i j)) (ha : EvW K I E ta wa) (hb : EvW K I E tb wb) : EvW K I E (tOp (rI0 f) ta tb) (wII0 g wa wb) :=
  fun c ρ tm σ vs F W H r Qx Qv hx hw Q k => ha c ρ tm σ vs F W H r Qx _ hx hw _ fun t ρ' v F' W' H' r' hw' => hb c ρ' (t :: tm) σ (v :: vs) F' W' H' r' Qx _ hx hw' _ fun t2 ρ2 v2 F2 W2 H2 r2 ⟨i, j, e1, e2, q⟩ => by
    subst e1; subst e2
    have d2 := r2.topDat
    have d1 := r2.drop.topDat
    cases d1
    cases d2
    exact ⟨i, j, rfl, rfl, k _ _ _ _ _ _ (r2.drop.drop.dat (hf i j F2)) q⟩
theorem ev_U {f : Int → V} {g : Int → PyData} (hf : ∀ i F, Dp K F (f i) (g i)) (ha : EvW K I E ta wa) : EvW K I E (tUn (rU f) ta) (wU g wa) :=
  fun c ρ tm σ vs F W H r Qx Qv hx hw Q k => ha c ρ tm σ vs F W H r Qx _ hx hw _ fun t ρ' v F' W' H' r' ⟨i, e, q⟩ => by
    subst e
    have d := r'.topDat
    cases d
    exact ⟨i, rfl, k _ _ _ _ _ _ (r'.drop.dat (hf i F')) q⟩
theorem isN_of {F W H} {v : V} {s : T} {f : List Addr} (hr : Rep K F W H v s f) : decide (v = .non) = s.isNon := by
  cases hr with
  | dat h => cases h <;> rfl
  | cst => rfl
  | _ => rfl
theorem ev_isN (ha : EvW K I E ta wa) : EvW K I E (tIsN ta) (wIsN false wa) :=
  fun c ρ tm σ vs F W H r Qx Qv hx hw Q k => ha c ρ tm σ vs F W H r Qx _ hx hw _ fun t ρ' v F' W' H' r' ⟨s, e, q⟩ => by
    obtain ⟨f, hr, _⟩ := r'.peek e
    show Q (.bl (decide (v = .non))) H'
    rw [isN_of hr]
    exact k _ _ _ _ _ _ (r'.dropT.dat (.bl s.isNon)) q
theorem ev_notN (ha : EvW K I E ta wa) : EvW K I E (tNotN ta) (wIsN true wa) :=
  fun c ρ tm σ vs F W H r Qx Qv hx hw Q k => ha c ρ tm σ vs F W H r Qx _ hx hw _ fun t ρ' v F' W' H' r' ⟨s, e, q⟩ => by
    obtain ⟨f, hr, _⟩ := r'.peek e
    show Q (.bl (!decide (v = .non))) H'
    rw [isN_of hr]
    exact k _ _ _ _ _ _ (r'.dropT.dat (.bl (!s.isNon))) q
theorem ev_and (ha : EvW K I E ta wa) (hb : EvW K I E tb wb) : EvW K I E (tAndV ta tb) (wAnd wa wb) :=
  fun c ρ tm σ vs F W H r Qx Qv hx hw Q k => ha c ρ tm σ vs F W H r Qx _ hx hw _ fun t ρ' v F' W' H' r' ⟨b, e, q⟩ => by
    subst e
    have d := r'.topDat
    cases d
    refine ⟨b, rfl, ?_⟩
    cases b with
    | true => exact hb c ρ' tm σ vs F' W' H' r'.drop Qx Qv hx q Q k
    | false => exact k _ _ _ _ _ _ (r'.drop.dat (.bl false)) q
theorem ev_or (ha : EvW K I E ta wa) (hb : EvW K I E tb wb) : EvW K I E (tOrV ta tb) (wOr wa wb) :=
  fun c ρ tm σ vs F W H r Qx Qv hx hw Q k => ha c ρ tm σ vs F W H r Qx _ hx hw _ fun t ρ' v F' W' H' r' ⟨b, e, q⟩ => by
    subst e
    have d := r'.topDat
    cases d
    refine ⟨b, rfl, ?_⟩
    cases b with
    | false => exact hb c ρ' tm σ vs F' W' H' r'.drop Qx Qv hx q Q k
    | true => exact k _ _ _ _ _ _ (r'.drop.dat (.bl true)) q
theorem ev_not (ha : EvW K I E ta wa) : EvW K I E (tNotV ta) (wNot wa) :=
  fun c ρ tm σ vs F W H r Qx Qv hx hw Q k => ha c ρ tm σ vs F W H r Qx _ hx hw _ fun t ρ' v F' W' H' r' ⟨b, e, q⟩ => by
    subst e
    have d := r'.topDat
    cases d
    exact ⟨b, rfl, k _ _ _ _ _ _ (r'.drop.dat (.bl (!b))) q⟩
theorem ev_if (hc : EvT K I E tt wt) (ha : EvW K I E ta wa) (hb : EvW K I E tb wb) : EvW K I E (tIf tt ta tb) (wIf wt wa wb) :=
  fun c ρ tm σ vs F W H r Qx Qv hx hw Q k => hc c ρ tm σ vs F W H r Qx _ hx hw _ fun b ρ' F' W' H' r' q => by
    cases b with
    | true => exact ha c ρ' tm σ vs F' W' H' r' Qx Qv hx q Q k
    | false => exact hb c ρ' tm σ vs F' W' H' r' Qx Qv hx q Q k
theorem et_B (ha : EvW K I E ta wa) : EvT K I E (tB ta) (bT wa) :=
  fun c ρ tm σ vs F W H r Qx Qv hx hw Q k => ha c ρ tm σ vs F W H r Qx _ hx hw _ fun t ρ' v F' W' H' r' ⟨b, e, q⟩ => by
    subst e
    have d := r'.topDat
    cases d
    exact ⟨b, rfl, k _ _ _ _ _ r'.drop q⟩
theorem et_test (ha : EvW K I E ta wa) : EvT K I E (tTest ta) (bT wa) :=
  fun c ρ tm σ vs F W H r Qx Qv hx hw Q k => ha c ρ tm σ vs F W H r Qx _ hx hw _ fun t ρ' v F' W' H' r' ⟨b, e, q⟩ => by
    subst e
    have d := r'.topDat
    cases d
    exact ⟨b, rfl, k _ _ _ _ _ r'.drop q⟩
theorem et_and (ha : EvT K I E tt wt) (hb : EvT K I E tu wu) : EvT K I E (tAnd tt tu) (bAnd wt wu) :=
  fun c ρ tm σ vs F W H r Qx Qv hx hw Q k => ha c ρ tm σ vs F W H r Qx _ hx hw _ fun b ρ' F' W' H' r' q => by
    cases b with
    | true => exact hb c ρ' tm σ vs F' W' H' r' Qx Qv hx q Q k
    | false => exact k _ _ _ _ _ r' q
theorem et_or (ha : EvT K I E tt wt) (hb : EvT K I E tu wu) : EvT K I E (tOr tt tu) (bOr wt wu) :=
  fun c ρ tm σ vs F W H r Qx Qv hx hw Q k => ha c ρ tm σ vs F W H r Qx _ hx hw _ fun b ρ' F' W' H' r' q => by
    cases b with
    | false => exact hb c ρ' tm σ vs F' W' H' r' Qx Qv hx q Q k
    | true => exact k _ _ _ _ _ r' q
theorem et_not (ha : EvT K I E tt wt) : EvT K I E (tNot tt) (bNot wt) :=
  fun c ρ tm σ vs F W H r Qx Qv hx hw Q k => ha c ρ tm σ vs F W H r Qx _ hx hw _ fun b ρ' F' W' H' r' q => k _ _ _ _ _ r' q
theorem dp_of {F W H} {v : V} {s : T} {f : List Addr} {d : PyData} (hr : Rep K F W H v s f) (hs : Sub F H) (hp : s.py = some d) : Dp K H v d := rep_py hs s v f d hr (fun a _ o e => e) hp
theorem ev_eq (ha : EvW K I E ta wa) (hb : EvW K I E tb wb) : EvW K I E (tOp (rEqD K) ta tb) (wEq false wa wb) :=
  fun c ρ tm σ vs F W H r Qx Qv hx hw Q k => ha c ρ tm σ vs F W H r Qx _ hx hw _ fun t ρ' v F' W' H' r' hw' => hb c ρ' (t :: tm) σ (v :: vs) F' W' H' r' Qx _ hx hw' _ fun t2 ρ2 v2 F2 W2 H2 r2 ⟨s1, s2, d1, d2, e1, e2, p1, p2, z1, z2, q⟩ => by
    obtain ⟨f2, h2, _⟩ := r2.peek e2
    obtain ⟨f1, h1, _⟩ := r2.drop.peek e1
    exact ⟨d1, d2, dp_of h1 r2.sub p1, dp_of h2 r2.sub p2, z1, z2, k _ _ _ _ _ _ (r2.dropT.dropT.dat (.bl _)) q⟩
theorem ev_ne (ha : EvW K I E ta wa) (hb : EvW K I E tb wb) : EvW K I E (tOp (rNeD K) ta tb) (wEq true wa wb) :=
  fun c ρ tm σ vs F W H r Qx Qv hx hw Q k => ha c ρ tm σ vs F W H r Qx _ hx hw _ fun t ρ' v F' W' H' r' hw' => hb c ρ' (t :: tm) σ (v :: vs) F' W' H' r' Qx _ hx hw' _ fun t2 ρ2 v2 F2 W2 H2 r2 ⟨s1, s2, d1, d2, e1, e2, p1, p2, z1, z2, q⟩ => by
    obtain ⟨f2, h2, _⟩ := r2.peek e2
    obtain ⟨f1, h1, _⟩ := r2.drop.peek e1
    exact ⟨d1, d2, dp_of h1 r2.sub p1, dp_of h2 r2.sub p2, z1, z2, k _ _ _ _ _ _ (r2.dropT.dropT.dat (.bl _)) q⟩
theorem ea_nil : EvA K I E tNil aNil := fun c ρ tm σ vs F W H r Qx Qv hx hw Q k => k [] [] _ _ _ _ r rfl hw
theorem ea_cons (ha : EvW K I E ta wa) (hl : EvA K I E tl wl) : EvA K I E (tCons ta tl) (aCons wa wl) :=
  fun c ρ tm σ vs F W H r Qx Qv hx hw Q k => ha c ρ tm σ vs F W H r Qx _ hx hw _ fun t ρ' v F' W' H' r' hw' => hl c ρ' (t :: tm) σ (v :: vs) F' W' H' r' Qx _ hx hw' _ fun ts us ρ2 F2 W2 H2 r2 e q =>
    k (t :: ts) (v :: us) _ _ _ _ (r2.mid e) (by rw [List.length_cons, List.length_cons, e]) q
theorem lst_real {F W H} {σ : L2.St} : ∀ {us : List V} {ts : List T} {f : List Addr}, Lst (RepT K F W H σ) us ts f → ts.all T.real = true → RepA K F W H us ts f
  | _, _, _, .nil, _ => .nil
  | _, _, _, .cons h1 h2 p, h => by
    rw [List.all_cons, Bool.and_eq_true] at h
    exact .cons (h1.real h.1) (lst_real h2 h.2) p
theorem pys_real : ∀ {ts : List T} {ds : List PyData}, T.pys ts = some ds → ts.all T.real = true ∧ ts.length = ds.length
  | [], ds, h => by cases h; exact ⟨rfl, rfl⟩
  | t :: ts, ds, h => by
    have h' : (match t.py, T.pys ts with | some d, some ds => some (d :: ds) | _, _ => none) = some ds := h
    cases e1 : t.py with
    | none => rw [e1] at h'; cases h'
    | some d =>
      cases e2 : T.pys ts with
      | none => rw [e1, e2] at h'; cases h'
      | some dr =>
        rw [e1, e2] at h'
        cases h'
        obtain ⟨q1, q2⟩ := pys_real e2
        have hr : t.real = true := by cases t <;> first | rfl | cases e1
        exact ⟨by rw [List.all_cons, hr, q1]; rfl, by rw [List.length_cons, List.length_cons, q2]⟩
theorem line_of {n : Nat} (h : n ≤ 1000000) : n ≤ sizeLine := Nat.le_trans h (by rw [sizeLine_eq]; decide)
/-- a new object beside: what was used up is owned by it, or is data from now on -/
theorem Step.alloc {I : HO → Prop} {F : Hp} {W : List Addr} {H : Hp} {fp : List Addr} {p : Addr} {o : HO} (w : Wf I F W H fp) (hp : H p = none) : Step I F W H fp F W (upd H p o) (p :: fp) := by
  have hF : F p = none := by
    cases e : F p with
    | none => rfl
    | some x => rw [w.sub p x e] at hp; cases hp
  have np : ∀ a, H a ≠ none → a ≠ p := fun a ha e => ha (by rw [e]; exact hp)
  have hW : ∀ x ∈ W, x ≠ p := fun x hx => np x (by obtain ⟨_, o, e, _⟩ := w.wel x hx; rw [e]; exact Option.some_ne_none _)
  refine ⟨⟨w.sub.trans (.new hp), fun a ha => ?_, fun x hx => ⟨(w.wel x hx).1, ?_⟩⟩, .refl _, fun _ h => h, fun a q h _ _ => ?_, fun a h => ?_, fun a ha => ?_, fun _ h => .inl h, fun _ h => .inl h⟩
  · rcases List.mem_cons.mp ha with rfl | ha
    · exact ⟨hF, fun z => hW _ z rfl, by rw [upd_same]; exact Option.some_ne_none _⟩
    · obtain ⟨g1, g2, g3⟩ := w.own a ha
      exact ⟨g1, g2, by rw [upd_ne (np a g3)]; exact g3⟩
  · obtain ⟨_, o, e, hi⟩ := w.wel x hx
    exact ⟨o, by rw [upd_ne (hW x hx)]; exact e, hi⟩
  · rw [upd_ne (np a (by rw [h]; exact Option.some_ne_none _))]
    exact h
  · by_cases e : a = p
    · rw [e, upd_same]; exact Option.some_ne_none _
    · rw [upd_ne e]; exact h
  · rcases List.mem_cons.mp ha with rfl | ha
    · exact .inr hp
    · exact .inl ha
theorem R.newLst {c : Ct} {ρ : Rho} {ts tm : List T} {σ : L2.St} {us vs : List V} {F : Hp} {W : List Addr} {H : Hp} {p : Addr} (h : R K I c ρ (ts ++ tm) σ (us ++ vs) F W H) (hl : us.length = ts.length) (hr : ts.all T.real = true) (hp : H p = none) :
    R K I c ρ (.lst ts :: tm) σ (.ref p :: vs) F W (upd H p (.lst us)) := by
  obtain ⟨fA, hA, nd, wf, k⟩ := h.loc hl
  have st := Step.alloc (o := .lst us) wf hp
  have hpf : p ∉ fA := fun z => (wf.own p z).2.2 hp
  refine k (us' := [.ref p]) (ts' := [.lst ts]) st (List.nodup_cons.mpr ⟨hpf, nd⟩) (.one (.of (.lst upd_same ?_ (.refl _))))
  exact repA_keep (.refl _) (fun _ z => z) _ _ _ (lst_real hA hr) fun a ha => upd_ne fun e => hpf (e ▸ ha)
theorem R.newTup {c : Ct} {ρ : Rho} {ts tm : List T} {σ : L2.St} {us vs : List V} {F : Hp} {W : List Addr} {H : Hp} {p : Addr} (h : R K I c ρ (ts ++ tm) σ (us ++ vs) F W H) (hl : us.length = ts.length) (hr : ts.all T.real = true) (hp : H p = none) :
    R K I c ρ (.tup ts :: tm) σ (.ref p :: vs) F W (upd H p (.tup us)) := by
  obtain ⟨fA, hA, nd, wf, k⟩ := h.loc hl
  have st := Step.alloc (o := .tup us) wf hp
  have hpf : p ∉ fA := fun z => (wf.own p z).2.2 hp
  refine k (us' := [.ref p]) (ts' := [.tup ts]) st (List.nodup_cons.mpr ⟨hpf, nd⟩) (.one (.of (.tup upd_same ?_ (.refl _))))
  exact repA_keep (.refl _) (fun _ z => z) _ _ _ (lst_real hA hr) fun a ha => upd_ne fun e => hpf (e ▸ ha)
theorem ev_lst (hl : EvA K I E tl wl) : EvW K I E (tLst tl) (wLst wl) :=
  fun c ρ tm σ vs F W H r Qx Qv hx hw Q k => hl c ρ tm σ vs F W H r Qx _ hx hw _ fun ts us ρ2 F2 W2 H2 r2 e ⟨q1, q2, q3⟩ =>
    ⟨line_of (by rw [e]; exact q2), fun p hp => k _ _ _ _ _ _ (r2.newLst e q1 hp) q3⟩
theorem ev_tupO (hl : EvA K I E tl wl) : EvW K I E (tTup tl) (wTupO wl) :=
  fun c ρ tm σ vs F W H r Qx Qv hx hw Q k => hl c ρ tm σ vs F W H r Qx _ hx hw _ fun ts us ρ2 F2 W2 H2 r2 e ⟨q1, q2, q3⟩ =>
    ⟨line_of (by rw [e]; exact q2), fun p hp => k _ _ _ _ _ _ (r2.newTup e q1 hp) q3⟩
theorem ev_tup (hl : EvA K I E tl wl) : EvW K I E (tTup tl) (wTup wl) :=
  fun c ρ tm σ vs F W H r Qx Qv hx hw Q k => hl c ρ tm σ vs F W H r Qx _ hx hw _ fun ts us ρ2 F2 W2 H2 r2 e ⟨ds, q1, q2, q3⟩ => by
    obtain ⟨z1, z2⟩ := pys_real q1
    refine ⟨line_of (by rw [e, z2]; exact q2), fun p hp => ?_⟩
    obtain ⟨F3, _, r3⟩ := (r2.newTup e z1 hp).freeze (d := .tuple ds) (by show (T.pys ts).map PyData.tuple = _; rw [q1]; rfl)
    exact k _ _ _ _ _ _ r3 q3
end
end Hz
/-! Hz4: parts of what is at hand, sequences, fields; built-in calls; lists that are new. -/
namespace Hz
open PySem L2
def T.copy : T → Bool
  | .dat _ => true
  | .cst _ => true
  | .well => true
  | _ => false
/-- the items of a sequence; whether it is a list -/
def T.items : T → Option (List T)
  | .lst ts => some ts
  | .tup ts => some ts
  | .dat (.list ds) => some (ds.map .dat)
  | .dat (.tuple ds) => some (ds.map .dat)
  | _ => none
def T.isL : T → Bool
  | .lst _ => true
  | .dat (.list _) => true
  | _ => false
section
variable {K : PySem.W.Frag} {F F' : Hp} {W W' : List Addr} {H H' : Hp}
theorem rep_copy {v : V} {t : T} {f : List Addr} (h : Rep K F W H v t f) (ht : t.copy = true) (eF : Sub F F') (eW : ∀ w ∈ W, w ∈ W') : Rep K F' W' H' v t [] := by
  cases h with
  | dat h => exact .dat (dp_sub eF _ _ h)
  | cst => exact .cst
  | well h => exact .well (eW _ h)
  | _ => cases ht
theorem repA_copy (eF : Sub F F') (eW : ∀ w ∈ W, w ∈ W') : ∀ {ts : List T} {vs : List V} {f : List Addr}, RepA K F W H vs ts f → ts.all T.copy = true → RepA K F' W' H' vs ts []
  | [], vs, f, h, _ => by cases h; exact .nil
  | t :: ts, vs, f, h, hc => by
    rw [List.all_cons, Bool.and_eq_true] at hc
    cases h with
    | cons h1 h2 p => exact .cons (rep_copy h1 hc.1 eF eW) (repA_copy eF eW h2 hc.2) (.refl _)
theorem repA_dats : ∀ {ds : List PyData} {vs : List V}, DpAll K F vs ds → RepA K F W H vs (ds.map .dat) []
  | [], vs, h => by cases h; exact .nil
  | d :: ds, vs, h => by
    cases h with
    | cons h1 h2 => exact .cons (.dat h1) (repA_dats h2) (.refl _)
theorem repA_len : ∀ {ts : List T} {vs : List V} {f : List Addr}, RepA K F W H vs ts f → vs.length = ts.length := fun h => (repA_iff.mp h).len
/-- what a sequence's items say of the heap -/
theorem rep_seq {v : V} {s : T} {f : List Addr} {ts : List T} (h : Rep K F W H v s f) (hs : Sub F H) (hi : s.items = some ts) :
    ∃ a us g, v = .ref a ∧ RepA K F W H us ts g ∧ (∀ x ∈ g, x ∈ f) ∧ (s.isL = true → SqL K H a us) ∧ (s.isL = false → SqT K H a us) ∧ (s.copy = false → ∀ us', H a = some (.lst us') ∨ H a = some (.tup us') → us' = us) := by
  cases h with
  | dat h =>
    cases h with
    | lst h1 h2 =>
      cases hi
      exact ⟨_, _, [], rfl, repA_dats h2, fun _ z => (nomatch z), fun _ => sql_sub hs h1, fun z => (nomatch z), fun z => (nomatch z)⟩
    | tup h1 h2 =>
      cases hi
      exact ⟨_, _, [], rfl, repA_dats h2, fun _ z => (nomatch z), fun z => (nomatch z), fun _ => sqt_sub hs h1, fun z => (nomatch z)⟩
    | _ => cases hi
  | lst h1 h2 p =>
    cases hi
    exact ⟨_, _, _, rfl, h2, fun x z => p.mem_iff.mpr (List.mem_cons_of_mem _ z), fun _ => SqL.of h1, fun z => (nomatch z), fun _ us' ho => by
      rw [h1] at ho
      rcases ho with z | z <;> cases z
      rfl⟩
  | tup h1 h2 p =>
    cases hi
    exact ⟨_, _, _, rfl, h2, fun x z => p.mem_iff.mpr (List.mem_cons_of_mem _ z), fun z => (nomatch z), fun _ => SqT.of h1, fun _ us' ho => by
      rw [h1] at ho
      rcases ho with z | z <;> cases z
      rfl⟩
  | _ => cases hi
theorem repA_at : ∀ {ts : List T} {us : List V} {g : List Addr} {n : Nat} {c : T}, RepA K F W H us ts g → ts[n]? = some c → ∃ u f, us[n]? = some u ∧ Rep K F W H u c f := fun h hn => by
  obtain ⟨x, f1, f2, e1, e2, _, _⟩ := (repA_iff.mp h).focus hn
  exact ⟨x, f1, e1, e2⟩
end

/-! ### a part of what is at hand -/
/-- the part c at st of the value t is handed out -/
def give (t : T) (st : Stp) (c : T) (ρ : Rho) (Q : T → Rho → Prop) : Prop :=
  if c.copy = true then Q c (t.drop ρ) else match t with
    | .lz j => ∀ v, Q (.bor j [st] v c) (match (ρ[j]?).join with | some s => ρ.set j (some (s.putc st (.cst v))) | none => ρ)
    | .bor j p u s => ∀ v, Q (.bor j (p ++ [st]) v c) (putAt ρ j p u (s.putc st (.cst v)))
    | _ => Q c ρ
section
variable {K : PySem.W.Frag} {I : Sg} {c : Ct} {ρ ρ' : Rho} {t s k : T} {tm ts : List T} {σ : L2.St} {v u x : V} {vs us : List V} {F : Hp} {W : List Addr} {H : Hp} {st : Stp}
theorem R.dup (h : R K I c ρ tm σ vs F W H) {f : List Addr} (hr : Rep K F W H u k f) (hk : k.copy = true) : R K I c ρ (k :: tm) σ (u :: vs) F W H := by
  obtain ⟨fA, hA, nd, wf, q⟩ := R.loc (ts := []) (us := []) h rfl
  cases hA
  exact q (us' := [u]) (ts' := [k]) (fB := []) (Step.refl wf) .nil (.one (.of (rep_copy hr hk (.refl _) fun _ z => z)))
theorem putc_real : ∀ {t : T} {st : Stp} {c : T}, t.real = true → (t.putc st c).real = true
  | .dat _, st, c, _ => by cases st <;> rfl
  | .cst _, st, c, _ => by cases st <;> rfl
  | .well, st, c, _ => by cases st <;> rfl
  | .lst _, st, c, _ => by cases st <;> rfl
  | .tup _, st, c, _ => by cases st <;> rfl
  | .dic _ _, st, c, _ => by cases st <;> rfl
  | .dcl _ _ _ _, st, c, _ => by cases st <;> rfl
  | .exc _ _ _ _, st, c, _ => by cases st <;> rfl
  | .exk _ _ _ _, st, c, _ => by cases st <;> rfl
  | .ins _ _ _, st, c, _ => by cases st <;> rfl
  | .lz _, st, c, h => by cases h
  | .bor _ _ _ _, st, c, h => by cases h
theorem R.part (h : R K I c ρ (s :: tm) σ (x :: vs) F W H) (hs : s.real = true) (hc : s.child st = some k) :
    ∃ u, AtH H x st u ∧ R K I c ρ (k :: s.putc st (.cst u) :: tm) σ (u :: x :: vs) F W H := by
  obtain ⟨fA, hA, nd, wf, q⟩ := h.loc (ts := [s]) (us := [x]) rfl
  cases hA with
  | cons h1 h2 p =>
    cases h2
    obtain ⟨u, f1, f2, p1, hu, ha, hk⟩ := rep_child (h1.real hs) hc
    have r := hk F W H (.cst u) [] (.refl _) (fun _ z => z) (fun _ _ => rfl) .cst
    rw [List.append_nil] at p
    have pm := p.trans p1
    refine ⟨u, ha, q (us' := [u, x]) (ts' := [k, s.putc st (.cst u)]) (fB := f1 ++ ([] ++ f2)) ((Step.refl wf).perm (.refl _) pm) (nodup_of_perm pm nd) ?_⟩
    exact .cons (.of hu) (.one (.of r)) (.refl _)
theorem R.give {Q : T → Rho → Prop} (h : R K I c ρ (t :: tm) σ (x :: vs) F W H) (hp : t.peek ρ = some s) (hc : s.child st = some k) (hq : give t st k ρ Q) :
    ∃ u t' ρ', AtH H x st u ∧ R K I c ρ' (t' :: tm) σ (u :: vs) F W H ∧ Q t' ρ' := by
  unfold Hz.give at hq
  obtain ⟨f, hr, _⟩ := h.peek hp
  obtain ⟨u0, g1, g2, _, hu0, ha0, _⟩ := rep_child hr hc
  by_cases hk : k.copy = true
  · rw [if_pos hk] at hq
    exact ⟨u0, k, _, ha0, (h.dropT).dup hu0 hk, hq⟩
  · rw [if_neg hk] at hq
    have hs := rep_real hr
    have hkr := rep_real hu0
    cases t with
    | lz j =>
      have hj' : (ρ[j]?).join = some s := hp
      obtain ⟨r1, _⟩ := h.opn (s := s) (ρ' := ρ.set j none) (by show ((ρ[j]?).join.map fun s => (s, ρ.set j none)) = _; rw [hj']; rfl)
      obtain ⟨u, ha, r2⟩ := r1.part hs hc
      have r3 := (R.mid (ts := [k]) (us := [u]) r2 rfl).fill (putc_real hs) h.orig
      rw [List.set_set] at r3
      have q := hq u
      rw [hj'] at q
      exact ⟨u, _, _, ha, r3.rebor (j := j) (p := [st]) hkr, q⟩
    | bor j p w s' =>
      cases hp
      have e : w = x := h.orig
      subst e
      obtain ⟨u, ha, r2⟩ := h.unbor.part hs hc
      have r3 := (R.mid (ts := [k]) (us := [u]) r2 rfl).putAt (j := j) (p := p) (putc_real hs)
      exact ⟨u, _, _, ha, r3.rebor (j := j) (p := p ++ [st]) hkr, hq u⟩
    | _ =>
      cases hp
      obtain ⟨u, ha, r2⟩ := h.part hs hc
      exact ⟨u, _, _, ha, (R.mid (ts := [k]) (us := [u]) r2 rfl).drop, hq⟩
end
end Hz
/-! Hz5: operations by what they ask of trees; sequences, fields, calls of built-ins, lists that change. -/
namespace Hz
open PySem L2
abbrev S1 := T → Rho → (T → Rho → Prop) → Prop
abbrev S2 := T → T → Rho → (T → Rho → Prop) → Prop
def Op1 (K : PySem.W.Frag) (I : Sg) (r : V → Hp → VK → Prop) (sp : S1) : Prop :=
  ∀ c ρ t tm σ v vs F W H, R K I c ρ (t :: tm) σ (v :: vs) F W H → ∀ Qv, sp t ρ Qv → ∀ Q : VK, (∀ t' ρ' v' F' W' H', R K I c ρ' (t' :: tm) σ (v' :: vs) F' W' H' → Qv t' ρ' → Q v' H') → r v H Q
/-- the second value on top -/
def Op2 (K : PySem.W.Frag) (I : Sg) (r : V → V → Hp → VK → Prop) (sp : S2) : Prop :=
  ∀ c ρ t u tm σ v w vs F W H, R K I c ρ (u :: t :: tm) σ (w :: v :: vs) F W H → ∀ Qv, sp t u ρ Qv → ∀ Q : VK, (∀ t' ρ' v' F' W' H', R K I c ρ' (t' :: tm) σ (v' :: vs) F' W' H' → Qv t' ρ' → Q v' H') → r v w H Q
def w1 (sp : S1) (a : WE) : WE := fun ρ Qx Q => a ρ Qx fun t ρ1 => sp t ρ1 Q
def w2 (sp : S2) (a b : WE) : WE := fun ρ Qx Q => a ρ Qx fun t ρ1 => b ρ1 Qx fun u ρ2 => sp t u ρ2 Q
/-- a method of a list -/
def lstAt (t : T) (ρ : Rho) : Prop := ∃ s ts, t.peek ρ = some s ∧ s.isL = true ∧ s.items = some ts
def wM0 (sp : S1) (a : WE) : WE := fun ρ Qx Q => a ρ Qx fun t ρ1 => lstAt t ρ1 ∧ sp t ρ1 Q
def wM1 (sp : S2) (a b : WE) : WE := fun ρ Qx Q => a ρ Qx fun t ρ1 => lstAt t ρ1 ∧ b ρ1 Qx fun u ρ2 => sp t u ρ2 Q
section
variable {K : PySem.W.Frag} {I : Sg} {E : XS} {te ta tb : TE} {wa wb : WE}
theorem ev_op2 {r : R2} {sp : S2} (h : Op2 K I r sp) (ha : EvW K I E ta wa) (hb : EvW K I E tb wb) : EvW K I E (tOp r ta tb) (w2 sp wa wb) :=
  fun c ρ tm σ vs F W H r Qx Qv hx hw Q k => ha c ρ tm σ vs F W H r Qx _ hx hw _ fun t ρ' v F' W' H' r' hw' => hb c ρ' (t :: tm) σ (v :: vs) F' W' H' r' Qx _ hx hw' _ fun t2 ρ2 v2 F2 W2 H2 r2 q =>
    h c ρ2 t t2 tm σ v v2 vs F2 W2 H2 r2 Qv q Q k
theorem ev_un1 {r : V → Hp → VK → Prop} {sp : S1} (h : Op1 K I r sp) (ha : EvW K I E ta wa) : EvW K I E (tUn r ta) (w1 sp wa) :=
  fun c ρ tm σ vs F W H r Qx Qv hx hw Q k => ha c ρ tm σ vs F W H r Qx _ hx hw _ fun t ρ' v F' W' H' r' q => h c ρ' t tm σ v vs F' W' H' r' Qv q Q k
theorem ev_call1 {r : List V → Hp → VK → Prop} {sp : S1} (h : Op1 K I (fun v => r [v]) sp) (ha : EvW K I E ta wa) : EvW K I E (tCB r (tCons ta tNil)) (w1 sp wa) :=
  fun c ρ tm σ vs F W H r Qx Qv hx hw Q k => ha c ρ tm σ vs F W H r Qx _ hx hw _ fun t ρ' v F' W' H' r' q => h c ρ' t tm σ v vs F' W' H' r' Qv q Q k
theorem ev_call2 {r : List V → Hp → VK → Prop} {sp : S2} (h : Op2 K I (fun v w => r [v, w]) sp) (ha : EvW K I E ta wa) (hb : EvW K I E tb wb) : EvW K I E (tCB r (tCons ta (tCons tb tNil))) (w2 sp wa wb) :=
  fun c ρ tm σ vs F W H r Qx Qv hx hw Q k => ha c ρ tm σ vs F W H r Qx _ hx hw _ fun t ρ' v F' W' H' r' hw' => hb c ρ' (t :: tm) σ (v :: vs) F' W' H' r' Qx _ hx hw' _ fun t2 ρ2 v2 F2 W2 H2 r2 q =>
    h c ρ2 t t2 tm σ v v2 vs F2 W2 H2 r2 Qv q Q k
theorem tyV_lst {c : Ct} {ρ : Rho} {t : T} {tm : List T} {σ : L2.St} {v : V} {vs : List V} {F : Hp} {W : List Addr} {H : Hp} (r : R K I c ρ (t :: tm) σ (v :: vs) F W H) (h : lstAt t ρ) : tyV K "list" v H := by
  obtain ⟨s, ts, h1, h2, h3⟩ := h
  obtain ⟨f, hr, _⟩ := r.peek h1
  obtain ⟨a, us, g, rfl, _, _, h4, _, _⟩ := rep_seq hr r.sub h3
  exact .inl ⟨rfl, us, h4 h2⟩
theorem ev_mt0 {r : V → List V → Hp → VK → Prop} {sp : S1} (h : Op1 K I (fun v => r v []) sp) (ha : EvW K I E ta wa) : EvW K I E (tBM0 K "list" r ta) (wM0 sp wa) :=
  fun c ρ tm σ vs F W H r Qx Qv hx hw Q k => ha c ρ tm σ vs F W H r Qx _ hx hw _ fun t ρ' v F' W' H' r' q => ⟨tyV_lst r' q.1, h c ρ' t tm σ v vs F' W' H' r' Qv q.2 Q k⟩
theorem ev_mt1 {r : V → List V → Hp → VK → Prop} {sp : S2} (h : Op2 K I (fun v w => r v [w]) sp) (ha : EvW K I E ta wa) (hb : EvW K I E tb wb) : EvW K I E (tBM K "list" r ta (tCons tb tNil)) (wM1 sp wa wb) :=
  fun c ρ tm σ vs F W H r Qx Qv hx hw Q k => ha c ρ tm σ vs F W H r Qx _ hx hw _ fun t ρ' v F' W' H' r' q => ⟨tyV_lst r' q.1, hb c ρ' (t :: tm) σ (v :: vs) F' W' H' r' Qx _ hx q.2 _ fun t2 ρ2 v2 F2 W2 H2 r2 q =>
    h c ρ2 t t2 tm σ v v2 vs F2 W2 H2 r2 Qv q Q k⟩
end

/-! ### items, fields -/
def sIx : S2 := fun t u ρ Q => ∃ i s ts n k, u = tI i ∧ t.peek ρ = some s ∧ s.items = some ts ∧ ixN ts.length i = some n ∧ ts[n]? = some k ∧ give t (.ix n) k ρ Q
def sFl (C : Addr) (f : Str) : S1 := fun t ρ Q => ∃ ns ts k, t.peek ρ = some (.ins C ns ts) ∧ (T.ins C ns ts).child (.fd f) = some k ∧ give t (.fd f) k ρ Q
def wFld (C : Addr) (f : Str) (a : WE) : WE := w1 (sFl C f) a
/-- the values as they are (ints, bools ..): f gives the answer -/
def sD1 (f : PyData → Option PyData) : S1 := fun t ρ Q => ∃ d e, t = .dat d ∧ f d = some e ∧ Q (.dat e) ρ
def T.len : T → Option Nat
  | .dat (.str z) => if z.length ≤ 1000000 then some z.length else none
  | t => t.items.map List.length
def sLen : S1 := fun t ρ Q => ∃ s n, t.peek ρ = some s ∧ s.len = some n ∧ Q (tI n) (t.drop ρ)
/-- a new list of the items, whose parts may be shared -/
def sList : S1 := fun t ρ Q => ∃ s ts, t.peek ρ = some s ∧ s.items = some ts ∧ ts.all T.copy = true ∧ Q (.lst ts) (t.drop ρ)
def sTuple : S1 := fun t ρ Q => ∃ s ts ds, t.peek ρ = some s ∧ (s.isL || s.copy) = true ∧ s.items = some ts ∧ ts.all T.copy = true ∧ T.pys ts = some ds ∧ Q (.dat (.tuple ds)) (t.drop ρ)
def cutT (xs : List T) (lo hi : Option Int) : List T := (xs.drop (HT.sIx xs.length 0 lo)).take (HT.sIx xs.length xs.length hi - HT.sIx xs.length 0 lo)
def sCat : S2 := fun t u ρ Q => ∃ ts us, t.peek ρ = some (.lst ts) ∧ u.peek ρ = some (.lst us) ∧ ts.all T.copy = true ∧ us.all T.copy = true ∧ ts.length + us.length ≤ 1000000 ∧ Q (.lst (ts ++ us)) (t.drop (u.drop ρ))
section
variable {K : PySem.W.Frag} {I : Sg}
theorem ixN_at {n : Nat} {α : Type} {xs : List α} {i : Int} {m : Nat} {u : α} (hl : xs.length = n) (hi : ixN n i = some m) (hu : xs[m]? = some u) : atI xs i = some u := by
  unfold atI
  rw [hl, hi]
  exact hu
theorem op_ix : Op2 K I (rIx K) sIx := fun c ρ t u tm σ v w vs F W H r Qv ⟨i, s, ts, n, k, e, hp, hi, hn, hk, q⟩ Q kk => by
  subst e
  have hw := r.topDat
  cases hw
  have r1 := r.drop
  obtain ⟨f, hr, _⟩ := r1.peek hp
  obtain ⟨a, us, g, rfl, hA, _, hL, hT, hU⟩ := rep_seq hr r1.sub hi
  have hlen := repA_len hA
  have fin : ∀ {u' : V} {t' : T} {ρ' : Rho}, us[n]? = some u' → R K I c ρ' (t' :: tm) σ (u' :: vs) F W H → Qv t' ρ' → rIx K (.ref a) (.int i) H Q := fun {u' t' ρ'} h1 h2 h3 => by
    have hat := ixN_at hlen hn h1
    cases hs : s.isL with
    | true => exact .inl ⟨a, us, i, u', rfl, rfl, hL hs, hat, kk _ _ _ _ _ _ h2 h3⟩
    | false => exact .inr (.inl ⟨a, us, i, u', rfl, rfl, hT hs, hat, kk _ _ _ _ _ _ h2 h3⟩)
  have byDat : ∀ d, s = .dat d → rIx K (.ref a) (.int i) H Q := fun d hd => by
    obtain ⟨u', f', h1, h2⟩ := repA_at hA hk
    have hkc : k.copy = true := by
      subst hd
      have hmem := List.mem_of_getElem? hk
      cases d <;> first | (cases hi; done) | (cases hi; obtain ⟨x, _, rfl⟩ := List.mem_map.mp hmem; rfl)
    unfold Hz.give at q
    rw [if_pos hkc] at q
    exact fin h1 ((r1.dropT).dup h2 hkc) q
  have byTree : s.child (.ix n) = some k → s.copy = false → rIx K (.ref a) (.int i) H Q := fun hc hs => by
    obtain ⟨u', t', ρ', ⟨a', us', e', ho, hu'⟩, h2, h3⟩ := r1.give hp hc q
    cases e'
    have e := hU hs us' ho
    subst e
    exact fin hu' h2 h3
  cases s with
  | dat d => exact byDat d rfl
  | lst xs => cases hi; exact byTree hk rfl
  | tup xs => cases hi; exact byTree hk rfl
  | _ => cases hi
theorem op_fld {C : Addr} {f : Str} (hC : Cls K C) (hf : NoAttr K C f) : Op1 K I (fun x H Q => ∃ a C dx fs v, x = .ref a ∧ H a = some (.ins C dx fs) ∧ Cls K C ∧ NoAttr K C f ∧ fs.lookup f = some v ∧ Q v H) (sFl C f) :=
  fun c ρ t tm σ v vs F W H r Qv ⟨ns, ts, k, hp, hk, q⟩ Q kk => by
  obtain ⟨u', t', ρ', ⟨a, C', dx, fs, e, ho, hl⟩, h2, h3⟩ := r.give hp hk q
  obtain ⟨g, hr, _⟩ := r.peek hp
  subst e
  cases hr with
  | ins h1 h0 hA p =>
    rw [h1] at ho
    cases ho
    exact ⟨a, C, _, _, u', rfl, h1, hC, hf, hl, kk _ _ _ _ _ _ h2 h3⟩
theorem ev_fld {E : XS} {ta : TE} {wa : WE} {C : Addr} {f : Str} (hC : Cls K C) (hf : NoAttr K C f) (ha : EvW K I E ta wa) : EvW K I E (tFld K ta f) (wFld C f wa) := ev_un1 (op_fld hC hf) ha
theorem op_len : Op1 K I (fun v H Q => ∃ x n, [v] = [x] ∧ LenV K x H n ∧ Q (.int n) H) sLen := fun c ρ t tm σ v vs F W H r Qv ⟨s, n, hp, hn, q⟩ Q kk => by
  refine ⟨v, n, rfl, ?_, kk _ _ _ _ _ _ (r.dropT.dat (.int _)) q⟩
  obtain ⟨f, hr, _⟩ := r.peek hp
  have seq : ∀ ts, s.items = some ts → ts.length = n → LenV K v H n := fun ts hi hl => by
    obtain ⟨a, us, g, rfl, hA, _, hL, hT, _⟩ := rep_seq hr r.sub hi
    have e := repA_len hA
    cases hs : s.isL with
    | true => exact .inl ⟨us, hL hs, by omega⟩
    | false => exact .inr ⟨us, hT hs, by omega⟩
  have viaMap : s.items.map List.length = some n → LenV K v H n := fun h => by
    cases e : s.items with
    | none => rw [e] at h; cases h
    | some ts => rw [e] at h; cases h; exact seq ts e rfl
  cases s with
  | dat d =>
    cases d with
    | str z =>
      have hn' : (if z.length ≤ 1000000 then some z.length else none) = some n := hn
      by_cases hz : z.length ≤ 1000000
      · rw [if_pos hz] at hn'
        cases hn'
        cases hr with
        | dat h => cases h; exact ⟨line_of hz, rfl⟩
      · rw [if_neg hz] at hn'; cases hn'
    | _ => exact viaMap hn
  | _ => exact viaMap hn
theorem R.newLstC {c : Ct} {ρ : Rho} {ts tm : List T} {σ : L2.St} {us vs : List V} {F : Hp} {W : List Addr} {H : Hp} {p : Addr} (h : R K I c ρ tm σ vs F W H) (hA : RepA K F W H us ts []) (hp : H p = none) :
    R K I c ρ (.lst ts :: tm) σ (.ref p :: vs) F W (upd H p (.lst us)) := by
  obtain ⟨fA, h0, nd, wf, k⟩ := R.loc (ts := []) (us := []) h rfl
  cases h0
  refine k (us' := [.ref p]) (ts' := [.lst ts]) (Step.alloc (o := .lst us) wf hp) (List.nodup_cons.mpr ⟨fun z => (nomatch z), .nil⟩) (.one (.of (.lst upd_same ?_ (.refl _))))
  exact repA_keep (.refl _) (fun _ z => z) _ _ _ hA fun a ha => (nomatch ha)
theorem R.newTupC {c : Ct} {ρ : Rho} {ts tm : List T} {σ : L2.St} {us vs : List V} {F : Hp} {W : List Addr} {H : Hp} {p : Addr} (h : R K I c ρ tm σ vs F W H) (hA : RepA K F W H us ts []) (hp : H p = none) :
    R K I c ρ (.tup ts :: tm) σ (.ref p :: vs) F W (upd H p (.tup us)) := by
  obtain ⟨fA, h0, nd, wf, k⟩ := R.loc (ts := []) (us := []) h rfl
  cases h0
  refine k (us' := [.ref p]) (ts' := [.tup ts]) (Step.alloc (o := .tup us) wf hp) (List.nodup_cons.mpr ⟨fun z => (nomatch z), .nil⟩) (.one (.of (.tup upd_same ?_ (.refl _))))
  exact repA_keep (.refl _) (fun _ z => z) _ _ _ hA fun a ha => (nomatch ha)
theorem op_list : Op1 K I (fun v H Q => ∃ p ys, [v] = [.ref p] ∧ (SqL K H p ys ∨ SqT K H p ys) ∧ ∀ l, H l = none → Q (.ref l) (upd H l (.lst ys))) sList := fun c ρ t tm σ v vs F W H r Qv ⟨s, ts, hp, hi, hc, q⟩ Q kk => by
  obtain ⟨f, hr, _⟩ := r.peek hp
  obtain ⟨a, us, g, rfl, hA, _, hL, hT, _⟩ := rep_seq hr r.sub hi
  refine ⟨a, us, rfl, ?_, fun l hl => kk _ _ _ _ _ _ (r.dropT.newLstC (repA_copy (.refl _) (fun _ z => z) hA hc) hl) q⟩
  cases hs : s.isL with
  | true => exact .inl (hL hs)
  | false => exact .inr (hT hs)
theorem op_tuple : Op1 K I (fun v H Q => ∃ p ys, [v] = [.ref p] ∧ ((SqL K H p ys ∧ ∀ l, H l = none → Q (.ref l) (upd H l (.tup ys))) ∨ (SqT K H p ys ∧ Q (.ref p) H))) sTuple := fun c ρ t tm σ v vs F W H r Qv ⟨s, ts, ds, hp, hz, hi, hc, hd, q⟩ Q kk => by
  obtain ⟨f, hr, _⟩ := r.peek hp
  obtain ⟨a, us, g, rfl, hA, _, hL, hT, _⟩ := rep_seq hr r.sub hi
  refine ⟨a, us, rfl, ?_⟩
  have hA' := repA_copy (F' := F) (W' := W) (H' := H) (.refl _) (fun _ z => z) hA hc
  cases hs : s.isL with
  | true =>
    refine .inl ⟨hL hs, fun l hl => ?_⟩
    obtain ⟨F3, _, r3⟩ := (r.dropT.newTupC hA' hl).freeze (d := .tuple ds) (by show (T.pys ts).map PyData.tuple = _; rw [hd]; rfl)
    exact kk _ _ _ _ _ _ r3 q
  | false =>
    refine .inr ⟨hT hs, ?_⟩
    have hD : DpAll K F us ds := repA_py (.refl F) ts us [] ds hA' (fun a ha => (nomatch ha)) hd
    cases s with
    | dat d =>
      cases hr with
      | dat hh =>
        have hd' : d = .tuple ds := by
          cases d <;> first | (cases hi; done) | (cases hs; done) | skip
          cases hi
          have : ∀ (xs : List PyData), T.pys (xs.map T.dat) = some xs := by
            intro xs
            induction xs with
            | nil => rfl
            | cons x xs ih =>
              show (match T.py (T.dat x), T.pys (xs.map T.dat) with | some d, some ds => some (d :: ds) | _, _ => none) = _
              rw [ih]; rfl
          rw [this] at hd
          cases hd
          rfl
        subst hd'
        exact kk _ _ _ _ _ _ (r.dropT.dat hh) q
    | tup xs => cases hz
    | lst xs => cases hs
    | _ => cases hi
end
end Hz
/-! Hz6: lists that change, lists joined and cut, small built-ins. -/
namespace Hz
open PySem L2
theorem Step.upd {I : HO → Prop} {F : Hp} {W : List Addr} {H : Hp} {fp : List Addr} {a : Addr} {o : HO} (w : Wf I F W H fp) (ha : a ∈ fp) : Step I F W H fp F W (L2.upd H a o) fp := by
  obtain ⟨g1, g2, g3⟩ := w.own a ha
  refine ⟨⟨w.sub.mut g1, fun b hb => ?_, fun x hx => ⟨(w.wel x hx).1, ?_⟩⟩, .refl _, fun _ h => h, fun b q h n1 n2 => ?_, fun b h => ?_, fun b hb => .inl hb, fun _ h => .inl h, fun _ h => .inl h⟩
  · obtain ⟨h1, h2, h3⟩ := w.own b hb
    refine ⟨h1, h2, ?_⟩
    by_cases e : b = a
    · rw [e, upd_same]; exact Option.some_ne_none _
    · rw [upd_ne e]; exact h3
  · obtain ⟨_, o', e, hi⟩ := w.wel x hx
    exact ⟨o', by rw [upd_ne (show x ≠ a from fun z => g2 (z ▸ hx))]; exact e, hi⟩
  · rw [upd_ne (show b ≠ a from fun z => n1 (z ▸ ha))]; exact h
  · by_cases e : b = a
    · rw [e, upd_same]; exact Option.some_ne_none _
    · rw [upd_ne e]; exact h
theorem repT_reps {K : PySem.W.Frag} {F : Hp} {W : List Addr} {H : Hp} {σ : L2.St} : ∀ {us : List V} {ts : List T} {f : List Addr}, Lst (Rep K F W H) us ts f → Lst (RepT K F W H σ) us ts f
  | _, _, _, .nil => .nil
  | _, _, _, .cons h1 h2 p => .cons (.of h1) (repT_reps h2) p
section
variable {K : PySem.W.Frag} {I : Sg} {c : Ct} {ρ : Rho} {ts cs tm : List T} {σ : L2.St} {x : V} {ws vs : List V} {F : Hp} {W : List Addr} {H : Hp}
/-- an owned list on top is changed: its new items and what is handed out come from its items and from the values under it -/
theorem R.modLst (h : R K I c ρ (.lst ts :: (cs ++ tm)) σ (x :: (ws ++ vs)) F W H) (hl : ws.length = cs.length) (hr : cs.all T.real = true) :
    ∃ a us, x = .ref a ∧ H a = some (.lst us) ∧ us.length = ts.length ∧ ∀ {us' rv : List V} {ts' rs : List T},
      (∀ (P : V → T → List Addr → Prop) (f g : List Addr), Lst P us ts f → Lst P ws cs g → ∃ h k l, Lst P us' ts' h ∧ Lst P rv rs k ∧ (f ++ g).Perm (h ++ k ++ l)) →
      R K I c ρ (rs ++ .lst ts' :: tm) σ (rv ++ x :: vs) F W (upd H a (.lst us')) := by
  obtain ⟨fA, hA, nd, wf, k⟩ := R.loc (ts := .lst ts :: cs) (us := x :: ws) h (by rw [List.length_cons, List.length_cons, hl])
  cases hA with
  | cons h1 h2 p =>
    rename_i f1 f2
    have h1' := h1.real rfl
    cases h1' with
    | lst e1 e2 p1 =>
      rename_i a us fps
      refine ⟨a, us, rfl, e1, repA_len e2, fun {us' rv ts' rs} hm => ?_⟩
      obtain ⟨hh, kk, ll, m1, m2, m3⟩ := hm (Rep K F W H) fps f2 (repA_iff.mp e2) (repA_iff.mp (lst_real h2 hr))
      have pA : fA.Perm (a :: (hh ++ kk ++ ll)) := p.trans ((p1.append_right f2).trans (m3.cons a))
      have nd' := nodup_of_perm pA nd
      have na : a ∉ hh ++ kk ++ ll := (List.nodup_cons.mp nd').1
      have st := (Step.upd (o := .lst us') wf (pA.mem_iff.mpr List.mem_cons_self)).less (f2 := kk ++ (a :: hh)) fun b hb => by
        refine pA.mem_iff.mpr ?_
        rcases List.mem_append.mp hb with hb | hb
        · exact List.mem_cons_of_mem _ (List.mem_append_left _ (List.mem_append_right _ hb))
        · rcases List.mem_cons.mp hb with hb | hb
          · rw [hb]; exact List.mem_cons_self
          · exact List.mem_cons_of_mem _ (List.mem_append_left _ (List.mem_append_left _ hb))
      have kp : ∀ {xs : List V} {ys : List T} {f : List Addr}, Lst (Rep K F W H) xs ys f → (∀ b ∈ f, b ∈ hh ++ kk ++ ll) → Lst (Rep K F W (upd H a (.lst us'))) xs ys f := fun h hb => h.mono (f₀ := _) hb fun x y g hp hs => rep_keep (.refl _) (fun _ z => z) _ _ _ hp fun b hb => upd_ne fun e => na (e ▸ hs b hb)
      have nd2 : (kk ++ (a :: hh)).Nodup := by
        have q : (a :: (hh ++ kk)).Nodup := nd'.sublist ((List.sublist_append_left (hh ++ kk) ll).cons_cons a)
        refine nodup_of_perm ?_ q
        exact ((List.perm_append_comm (l₁ := hh) (l₂ := kk)).cons a).trans List.perm_middle.symm
      have m1' := kp m1 fun b hb => List.mem_append_left _ (List.mem_append_left _ hb)
      have m2' := kp m2 fun b hb => List.mem_append_left _ (List.mem_append_right _ hb)
      have res := k (us' := rv ++ [.ref a]) (ts' := rs ++ [.lst ts']) (fB := kk ++ (a :: hh)) st nd2 ((repT_reps m2').app (.one (.of (.lst upd_same (repA_iff.mpr m1') (.refl _)))))
      rw [List.append_assoc, List.append_assoc] at res
      exact res
end

/-- xs.append(y) -/
def sApp : S2 := fun t u ρ Q => ∃ ts ρ1, t.opn ρ = some (.lst ts, ρ1) ∧ u.real = true ∧ ts.length < 1000000 ∧ Q tN (t.cls (.lst (ts ++ [u])) ρ1)
/-- xs.pop() -/
def sPop : S1 := fun t ρ Q => ∃ ts ρ1 k, t.opn ρ = some (.lst ts, ρ1) ∧ ts[ts.length - 1]? = some k ∧ Q k (t.cls (.lst ts.dropLast) ρ1)
/-- xs.pop(i), 0 ≤ i -/
def sPopAt : S2 := fun t u ρ Q => ∃ ts ρ1 n k, u = tI n ∧ t.opn ρ = some (.lst ts, ρ1) ∧ 0 ≤ n ∧ ts[n.toNat]? = some k ∧ ts.length ≤ 1000000 ∧ Q k (t.cls (.lst (ts.eraseIdx n.toNat)) ρ1)
section
variable {K : PySem.W.Frag} {I : Sg}
theorem op_app : Op2 K I (fun v w => rAppend v [w]) sApp := fun c ρ t u tm σ v w vs F W H r Qv ⟨ts, ρ1, ho, hu, hz, q⟩ Q kk => by
  have r1 := R.mid (ts := [u]) (us := [w]) r rfl
  have hor := r1.orig
  obtain ⟨r2, _⟩ := r1.opn ho
  obtain ⟨a, us, e, hH, hl, hm⟩ := R.modLst (cs := [u]) (ws := [w]) r2 rfl (by rw [List.all_cons, hu]; rfl)
  subst e
  have r3 := hm (us' := us ++ [w]) (rv := []) (ts' := ts ++ [u]) (rs := []) fun P f g h1 h2 => ⟨f ++ g, [], [], h1.app h2, .nil, by rw [List.append_nil, List.append_nil]⟩
  have r4 := R.clsT (t := t) r3 rfl hor
  exact ⟨a, us, w, rfl, rfl, hH, Nat.lt_of_lt_of_le (by omega) (line_of (n := 1000000) (Nat.le_refl _)), kk _ _ _ _ _ _ (r4.dat .non) q⟩
theorem lst_init {α β : Type} {P : α → β → List Addr → Prop} {xs : List α} {ys : List β} {f : List Addr} {n : Nat} {y : β} (h : Lst P xs ys f) (hy : ys[n]? = some y) :
    ∃ x h1 h2, xs[n]? = some x ∧ P x y h1 ∧ Lst P (xs.eraseIdx n) (ys.eraseIdx n) h2 ∧ f.Perm (h2 ++ h1) := by
  induction h generalizing n with
  | nil => cases hy
  | cons h1 h2 p ih =>
    rename_i x y' xs ys fp f1 f2
    cases n with
    | zero =>
      cases hy
      exact ⟨x, f1, f2, rfl, h1, h2, p.trans List.perm_append_comm⟩
    | succ n =>
      obtain ⟨z, g1, g2, e1, e2, e3, e4⟩ := ih hy
      exact ⟨z, g1, f1 ++ g2, e1, e2, .cons h1 e3 (.refl _), p.trans (by rw [List.append_assoc]; exact e4.append_left f1)⟩
theorem dropLast_erase {α : Type} : ∀ {xs : List α}, xs.dropLast = xs.eraseIdx (xs.length - 1)
  | [] => rfl
  | [x] => rfl
  | x :: y :: xs => by
    have ih := dropLast_erase (xs := y :: xs)
    show x :: (y :: xs).dropLast = x :: (y :: xs).eraseIdx ((y :: xs).length - 1)
    rw [ih]
theorem op_pop : Op1 K I (fun v => rPop v []) sPop := fun c ρ t tm σ v vs F W H r Qv ⟨ts, ρ1, k, ho, hk, q⟩ Q kk => by
  have hor := r.orig
  obtain ⟨r2, _⟩ := r.opn ho
  obtain ⟨a, us, e, hH, hl, hm⟩ := R.modLst (cs := []) (ws := []) r2 rfl rfl
  subst e
  obtain ⟨w, hw⟩ : ∃ w, us[us.length - 1]? = some w := by
    have : ts.length - 1 < ts.length := (List.getElem?_eq_some_iff.mp hk).1
    exact ⟨_, List.getElem?_eq_getElem (by omega)⟩
  have r3 := hm (us' := us.dropLast) (rv := [w]) (ts' := ts.dropLast) (rs := [k]) fun P f g h1 h2 => by
    cases h2
    obtain ⟨x, g1, g2, e1, e2, e3, e4⟩ := lst_init h1 hk
    rw [← hl, hw] at e1
    cases e1
    refine ⟨g2, g1, [], ?_, .one e2, by rw [List.append_nil, List.append_nil]; exact e4⟩
    rw [dropLast_erase, dropLast_erase, hl]
    exact e3
  have r4 := R.mid (ts := [k]) (us := [w]) r3 rfl
  have r5 := R.clsT (t := t) r4 rfl hor
  exact ⟨a, us, w, rfl, rfl, hH, hw, kk _ _ _ _ _ _ r5 q⟩
theorem op_popAt : Op2 K I (fun v w => rPopAt v [w]) sPopAt := fun c ρ t u tm σ v w vs F W H r Qv ⟨ts, ρ1, n, k, hu, ho, h0, hk, hz, q⟩ Q kk => by
  subst hu
  have hw := r.topDat
  cases hw
  have r1 := r.drop
  have hor := r1.orig
  obtain ⟨r2, _⟩ := r1.opn ho
  obtain ⟨a, us, e, hH, hl, hm⟩ := R.modLst (cs := []) (ws := []) r2 rfl rfl
  subst e
  have hlt : n.toNat < ts.length := (List.getElem?_eq_some_iff.mp hk).1
  obtain ⟨w, hw⟩ : ∃ w, us[n.toNat]? = some w := ⟨_, List.getElem?_eq_getElem (by omega)⟩
  have r3 := hm (us' := us.eraseIdx n.toNat) (rv := [w]) (ts' := ts.eraseIdx n.toNat) (rs := [k]) fun P f g h1 h2 => by
    cases h2
    obtain ⟨x, g1, g2, e1, e2, e3, e4⟩ := lst_init h1 hk
    rw [hw] at e1
    cases e1
    exact ⟨g2, g1, [], e3, .one e2, by rw [List.append_nil, List.append_nil]; exact e4⟩
  have r4 := R.mid (ts := [k]) (us := [w]) r3 rfl
  have r5 := R.clsT (t := t) r4 rfl hor
  exact ⟨a, us, n, n.toNat, w, rfl, rfl, hH, by omega, by omega, seqIndex_of h0 (by omega), hw, kk _ _ _ _ _ _ r5 q⟩
theorem op_cat : Op2 K I rCat sCat := fun c ρ t u tm σ v w vs F W H r Qv ⟨ts, us, hp, hq, hc1, hc2, hz, q⟩ Q kk => by
  obtain ⟨g, hr2, _⟩ := r.peek hq
  obtain ⟨f, hr1, _⟩ := r.drop.peek hp
  cases hr1 with
  | lst a1 a2 p1 =>
    cases hr2 with
    | lst b1 b2 p2 =>
      rename_i a xs fps b ys gps
      have e1 := repA_len a2
      have e2 := repA_len b2
      refine ⟨a, b, xs, ys, rfl, rfl, a1, b1, line_of (by omega), fun p hp => kk _ _ _ _ _ _ (r.dropT.dropT.newLstC ?_ hp) q⟩
      have k1 := repA_iff.mp (repA_copy (F' := F) (W' := W) (H' := H) (.refl _) (fun _ z => z) a2 hc1)
      have k2 := repA_iff.mp (repA_copy (F' := F) (W' := W) (H' := H) (.refl _) (fun _ z => z) b2 hc2)
      exact repA_iff.mpr (k1.app k2)
/-- slices -/
def oNone : Rho → WX → (Option Int → Rho → Prop) → Prop := fun ρ _ Q => Q none ρ
def oSome (a : WE) : Rho → WX → (Option Int → Rho → Prop) → Prop := fun ρ Qx Q => a ρ Qx fun t ρ1 => ∃ i, t = tI i ∧ Q (some i) ρ1
def EvO (K : PySem.W.Frag) (I : Sg) (E : XS) (to : TO) (wo : Rho → WX → (Option Int → Rho → Prop) → Prop) : Prop :=
  ∀ c ρ tm σ vs F W H, R K I c ρ tm σ vs F W H → ∀ Qx Qv, XOk K I c E Qx → wo ρ Qx Qv →
    ∀ Q : Option Int → Hp → Prop, (∀ o ρ' F' W' H', R K I c ρ' tm σ vs F' W' H' → Qv o ρ' → Q o H') → to σ H Q
variable {E : XS} {te ta : TE} {we wa : WE} {tl th : TO} {wl wh : Rho → WX → (Option Int → Rho → Prop) → Prop}
theorem eo_none : EvO K I E tNoPart oNone := fun c ρ tm σ vs F W H r Qx Qv hx hw Q k => k _ _ _ _ _ r hw
theorem eo_some (ha : EvW K I E ta wa) : EvO K I E (tPart ta) (oSome wa) := fun c ρ tm σ vs F W H r Qx Qv hx hw Q k =>
  ha c ρ tm σ vs F W H r Qx _ hx hw _ fun t ρ' v F' W' H' r' ⟨i, e, q⟩ => by
    subst e
    have d := r'.topDat
    cases d
    exact ⟨i, rfl, k _ _ _ _ _ r'.drop q⟩
/-- xs[lo:hi] of a list -/
def wSl (a : WE) (lo hi : Rho → WX → (Option Int → Rho → Prop) → Prop) : WE := fun ρ Qx Q => a ρ Qx fun t ρ1 => lo ρ1 Qx fun l ρ2 => hi ρ2 Qx fun h ρ3 =>
  ∃ s ts, t.peek ρ3 = some s ∧ s.isL = true ∧ s.items = some ts ∧ ts.all T.copy = true ∧ Q (.lst (cutT ts l h)) (t.drop ρ3)
theorem lst_drop {α β : Type} {P : α → β → List Addr → Prop} : ∀ {xs : List α} {ys : List β} (n : Nat), Lst P xs ys [] → Lst P (xs.drop n) (ys.drop n) []
  | _, _, 0, h => h
  | _, _, n + 1, .nil => .nil
  | _, _, n + 1, .cons (f1 := f1) (f2 := f2) h1 h2 p => by
    have e := List.perm_nil.mp p.symm
    rw [List.append_eq_nil_iff] at e
    obtain ⟨e1, e2⟩ := e
    subst e2
    exact lst_drop n h2
theorem lst_take {α β : Type} {P : α → β → List Addr → Prop} : ∀ {xs : List α} {ys : List β} (n : Nat), Lst P xs ys [] → Lst P (xs.take n) (ys.take n) []
  | _, _, 0, h => .nil
  | _, _, n + 1, .nil => .nil
  | _, _, n + 1, .cons (f1 := f1) (f2 := f2) h1 h2 p => by
    have e := List.perm_nil.mp p.symm
    rw [List.append_eq_nil_iff] at e
    obtain ⟨e1, e2⟩ := e
    subst e1
    subst e2
    exact .cons h1 (lst_take n h2) (.refl _)
theorem ev_sl (ha : EvW K I E ta wa) (hl : EvO K I E tl wl) (hh : EvO K I E th wh) : EvW K I E (tSl (rSlL K) ta tl th) (wSl wa wl wh) := fun c ρ tm σ vs F W H r Qx Qv hx hw Q k =>
  ha c ρ tm σ vs F W H r Qx _ hx hw _ fun t ρ' v F' W' H' r' q1 => hl c ρ' (t :: tm) σ (v :: vs) F' W' H' r' Qx _ hx q1 _ fun lo ρ2 F2 W2 H2 r2 q2 => hh c ρ2 (t :: tm) σ (v :: vs) F2 W2 H2 r2 Qx _ hx q2 _
    fun hi ρ3 F3 W3 H3 r3 ⟨s, ts, hp, hL0, hi', hc, q⟩ => by
  obtain ⟨f, hr, _⟩ := r3.peek hp
  obtain ⟨a, us, g, rfl, hA, _, hL, _, _⟩ := rep_seq hr r3.sub hi'
  refine ⟨a, us, rfl, hL hL0, fun p hpn => k _ _ _ _ _ _ (r3.dropT.newLstC ?_ hpn) q⟩
  have k1 := repA_iff.mp (repA_copy (F' := F3) (W' := W3) (H' := H3) (.refl _) (fun _ z => z) hA hc)
  have e := k1.len
  show RepA K F3 W3 H3 (cutV us lo hi) (cutT ts lo hi) []
  unfold cutV cutT
  rw [e]
  exact repA_iff.mpr (lst_take _ (lst_drop _ k1))
/-- small built-ins on ints -/
theorem op_abs : Op1 K I (fun v H Q => ∃ i, [v] = [.int i] ∧ Q (.int (if i < 0 then -i else i)) H) (fun t ρ Q => ∃ i, t = tI i ∧ Q (tI (if i < 0 then -i else i)) ρ) := fun c ρ t tm σ v vs F W H r Qv ⟨i, e, q⟩ Q kk => by
  subst e
  have d := r.topDat
  cases d
  exact ⟨i, rfl, kk _ _ _ _ _ _ (r.drop.dat (.int _)) q⟩
def sInt : S1 := fun t ρ Q => (∃ i, t = tI i ∧ Q (tI i) ρ) ∨ ∃ b, t = tBo b ∧ Q (tI (if b then 1 else 0)) ρ
theorem op_int : Op1 K I (fun v H Q => (∃ i, [v] = [.int i] ∧ Q (.int i) H) ∨ ∃ k, [v] = [.bl k] ∧ Q (.int (if k then 1 else 0)) H) sInt := fun c ρ t tm σ v vs F W H r Qv hh Q kk => by
  rcases hh with ⟨i, e, q⟩ | ⟨b, e, q⟩
  · subst e
    have d := r.topDat
    cases d
    exact .inl ⟨i, rfl, kk _ _ _ _ _ _ (r.drop.dat (.int _)) q⟩
  · subst e
    have d := r.topDat
    cases d
    exact .inr ⟨b, rfl, kk _ _ _ _ _ _ (r.drop.dat (.int _)) q⟩
def sII (g : Int → Int → PyData) : S2 := fun t u ρ Q => ∃ i j, t = tI i ∧ u = tI j ∧ Q (.dat (g i j)) ρ
theorem op_max2 : Op2 K I (fun v w H Q => ∃ i j, [v, w] = [.int i, .int j] ∧ Q (.int (if j > i then j else i)) H) (sII fun i j => .int (if j > i then j else i)) := fun c ρ t u tm σ v w vs F W H r Qv ⟨i, j, e1, e2, q⟩ Q kk => by
  subst e1; subst e2
  have d := r.topDat
  have d' := r.drop.topDat
  cases d
  cases d'
  exact ⟨i, j, rfl, kk _ _ _ _ _ _ (r.drop.drop.dat (.int _)) q⟩
theorem op_min2 : Op2 K I (fun v w H Q => ∃ i j, [v, w] = [.int i, .int j] ∧ Q (.int (if j < i then j else i)) H) (sII fun i j => .int (if j < i then j else i)) := fun c ρ t u tm σ v w vs F W H r Qv ⟨i, j, e1, e2, q⟩ Q kk => by
  subst e1; subst e2
  have d := r.topDat
  have d' := r.drop.topDat
  cases d
  cases d'
  exact ⟨i, j, rfl, kk _ _ _ _ _ _ (r.drop.drop.dat (.int _)) q⟩
end
end Hz
/-! Hz7: statements by trees. -/
namespace Hz
open PySem L2
structure WO where
  nx : Rho → Prop
  rt : T → Rho → Prop
  bk : Rho → Prop
  ct : Rho → Prop
abbrev WS := WO → WX → Rho → Prop
abbrev WG := T → Rho → WX → (Rho → Prop) → Prop
abbrev WGs := List T → Rho → WX → (Rho → Prop) → Prop
structure DOk (K : PySem.W.Frag) (I : Sg) (c : Ct) (tm : List T) (vs : List V) (O : WO) (D : Ends) : Prop where
  nx : ∀ ρ σ F W H, R K I c ρ tm σ vs F W H → O.nx ρ → D.nx σ H
  rt : ∀ t ρ σ v F W H, R K I c ρ (t :: tm) σ (v :: vs) F W H → t.real = true → O.rt t ρ → D.rt v H
  bk : ∀ ρ σ F W H, R K I c ρ tm σ vs F W H → O.bk ρ → D.bk σ H
  ct : ∀ ρ σ F W H, R K I c ρ tm σ vs F W H → O.ct ρ → D.ct σ H
def SvW (K : PySem.W.Frag) (I : Sg) (E : XS) (ts : TS) (ws : WS) : Prop :=
  ∀ c ρ tm σ vs F W H, R K I c ρ tm σ vs F W H → (∀ x ∈ tm, x.noLz = true) → ∀ O Qx D, XOk K I c E Qx → DOk K I c tm vs O D → ws O Qx ρ → ts D σ H
/-- the slots but those at as are as they were -/
def SameBut (σ σ' : L2.St) (as : List Nat) : Prop := σ'.length = σ.length ∧ ∀ i, i ∉ as → σ'[i]? = σ[i]?
theorem SameBut.refl (σ : L2.St) (as : List Nat) : SameBut σ σ as := ⟨rfl, fun _ _ => rfl⟩
theorem SameBut.trans {σ σ1 σ2 : L2.St} {as bs : List Nat} (h : SameBut σ σ1 as) (k : SameBut σ1 σ2 bs) : SameBut σ σ2 (as ++ bs) :=
  ⟨k.1.trans h.1, fun i hi => (k.2 i fun z => hi (List.mem_append_right _ z)).trans (h.2 i fun z => hi (List.mem_append_left _ z))⟩
def GvW (K : PySem.W.Frag) (I : Sg) (E : XS) (as : List Nat) (g : TG) (wg : WG) : Prop :=
  ∀ c ρ t tm σ v vs F W H, R K I c ρ (t :: tm) σ (v :: vs) F W H → t.real = true → (∀ x ∈ tm, x.noLz = true) → ∀ Qx (Qg : Rho → Prop) (D : L2.St → Hp → Prop), XOk K I c E Qx →
    (∀ ρ σ' F W H, R K I c ρ tm σ' vs F W H → SameBut σ σ' as → Qg ρ → D σ' H) → wg t ρ Qx Qg → g v σ H D
def GsW (K : PySem.W.Frag) (I : Sg) (E : XS) (as : List Nat) (g : TGs) (wg : WGs) : Prop :=
  ∀ c ρ ts tm σ us vs F W H, R K I c ρ (ts ++ tm) σ (us ++ vs) F W H → us.length = ts.length → ts.all T.real = true → (∀ x ∈ tm, x.noLz = true) → ∀ Qx (Qg : Rho → Prop) (D : L2.St → Hp → Prop), XOk K I c E Qx →
    (∀ ρ σ' F W H, R K I c ρ tm σ' vs F W H → SameBut σ σ' as → Qg ρ → D σ' H) → wg ts ρ Qx Qg → g us σ H D
theorem real_noLz {t : T} (h : t.real = true) : t.noLz = true := by cases t <;> first | rfl | cases h

/-! ### targets -/
def gN (i : Nat) : WG := fun t ρ _ Q => Q (ρ.set i (some t))
def gNl : WGs := fun ts ρ _ Q => ts = [] ∧ Q ρ
def gCn (g : WG) (gs : WGs) : WGs := fun ts ρ Qx Q => ∃ t r, ts = t :: r ∧ g t ρ Qx fun ρ1 => gs r ρ1 Qx Q
def T.titems : T → Option (List T)
  | .tup ts => some ts
  | .dat (.tuple ds) => some (ds.map .dat)
  | _ => none
def gTp (n : Nat) (gs : WGs) : WG := fun t ρ Qx Q => ∃ ts, t.titems = some ts ∧ ts.length = n ∧ gs ts ρ Qx Q
/-- o[i] = v -/
def gIx (a b : WE) : WG := fun t ρ Qx Q => a ρ Qx fun ta ρ1 => b ρ1 Qx fun tb ρ2 => ∃ i n ts ρ3, tb = tI i ∧ ta.opn ρ2 = some (.lst ts, ρ3) ∧ ixN ts.length i = some n ∧ Q (ta.cls (.lst (ts.set n t)) ρ3)
section
variable {K : PySem.W.Frag} {I : Sg} {E : XS}
theorem g_name {i : Nat} (hi : i ∉ I.prot) : GvW K I E [i] (gName i) (gN i) := fun c ρ t tm σ v vs F W H r ht hz Qx Qg D hx k q => k _ _ _ _ _ (r.set ht hz hi) ⟨List.length_set, fun j hj => List.getElem?_set_ne (fun e => hj (by rw [e]; exact List.mem_cons_self))⟩ q
theorem g_nil : GsW K I E [] gNil gNl := fun c ρ ts tm σ us vs F W H r hl hr hz Qx Qg D hx k ⟨e, q⟩ => by
  subst e
  have e : us = [] := List.eq_nil_of_length_eq_zero hl
  subst e
  exact ⟨rfl, k _ _ _ _ _ r (SameBut.refl _ _) q⟩
theorem g_cons {as bs : List Nat} {g : TG} {gs : TGs} {wg : WG} {wgs : WGs} (h1 : GvW K I E as g wg) (h2 : GsW K I E bs gs wgs) : GsW K I E (as ++ bs) (gCons g gs) (gCn wg wgs) := fun c ρ ts tm σ us vs F W H r hl hr hz Qx Qg D hx k ⟨t, tr, e, q⟩ => by
  subst e
  cases us with
  | nil => cases hl
  | cons u ur =>
    rw [List.all_cons, Bool.and_eq_true] at hr
    refine ⟨u, ur, rfl, h1 c ρ t (tr ++ tm) σ u (ur ++ vs) F W H r hr.1 ?_ Qx _ _ hx (fun ρ' σ' F' W' H' r' sb q' => h2 c ρ' tr tm σ' ur vs F' W' H' r' (Nat.succ.inj hl) hr.2 hz Qx Qg D hx (fun ρ2 σ2 F2 W2 H2 r2 sb2 q2 => k ρ2 σ2 F2 W2 H2 r2 (sb.trans sb2) q2) q') q⟩
    intro x hx
    rcases List.mem_append.mp hx with hx | hx
    · exact real_noLz (List.all_eq_true.mp hr.2 x hx)
    · exact hz x hx
/-- a tuple parted into its items -/
theorem R.untup {c : Ct} {ρ : Rho} {t : T} {tm ts : List T} {σ : L2.St} {v : V} {vs : List V} {F : Hp} {W : List Addr} {H : Hp} (h : R K I c ρ (t :: tm) σ (v :: vs) F W H) (hi : t.titems = some ts) :
    ∃ a us, v = .ref a ∧ SqT K H a us ∧ us.length = ts.length ∧ ts.all T.real = true ∧ R K I c ρ (ts ++ tm) σ (us ++ vs) F W H := by
  obtain ⟨fA, hA, nd, wf, k⟩ := h.loc (ts := [t]) (us := [v]) rfl
  have fin : ∀ {us : List V} {g : List Addr}, RepA K F W H us ts g → ts.all T.real = true := fun {us g} hh => by
    have := repA_iff.mp hh
    clear hh hi h
    induction this with
    | nil => rfl
    | cons h1 _ _ ih => rw [List.all_cons, rep_real h1, ih]; rfl
  cases hA with
  | cons h1 h2 p =>
    cases h2
    cases t with
    | tup xs =>
      cases hi
      cases h1.real rfl with
      | tup e1 e2 p1 =>
        rename_i fps
        have p' := p
        rw [List.append_nil] at p'
        have pm := p'.trans p1
        refine ⟨_, _, rfl, SqT.of e1, repA_len e2, fin e2, k (us' := _) (ts' := _) (fB := fps) ((Step.refl wf).less fun b hb => pm.mem_iff.mpr (List.mem_cons_of_mem _ hb)) ((nodup_of_perm pm nd).sublist (List.sublist_cons_self _ _)) (repT_reps (repA_iff.mp e2))⟩
    | dat d =>
      cases d with
      | tuple ds =>
        cases hi
        cases h1.real rfl with
        | dat hd =>
          cases hd with
          | tup e1 e2 =>
            have e3 := repA_dats (W := W) (H := H) e2
            exact ⟨_, _, rfl, sqt_sub h.sub e1, repA_len e3, fin e3, k (us' := _) (ts' := _) (fB := []) ((Step.refl wf).less fun b hb => (nomatch hb)) .nil (repT_reps (repA_iff.mp e3))⟩
      | _ => cases hi
    | _ => cases hi
theorem g_tup {as : List Nat} {gs : TGs} {wgs : WGs} {n : Nat} (h : GsW K I E as gs wgs) : GvW K I E as (gTup K n gs) (gTp n wgs) := fun c ρ t tm σ v vs F W H r ht hz Qx Qg D hx k ⟨ts, hi, hn, q⟩ => by
  obtain ⟨a, us, rfl, hs, hl, hr, r2⟩ := r.untup hi
  exact ⟨a, us, rfl, hs, by omega, h c ρ ts tm σ us vs F W H r2 hl hr hz Qx Qg D hx k q⟩
theorem g_sub {ta tb : TE} {wa wb : WE} (ha : EvW K I E ta wa) (hb : EvW K I E tb wb) : GvW K I E [] (gSub ta tb rSetL) (gIx wa wb) := fun c ρ t tm σ v vs F W H r ht hz Qx Qg D hx k hw =>
  ha c ρ (t :: tm) σ (v :: vs) F W H r Qx _ hx hw _ fun tA ρ1 x F1 W1 H1 r1 q1 => hb c ρ1 (tA :: t :: tm) σ (x :: v :: vs) F1 W1 H1 r1 Qx _ hx q1 _ fun tB ρ2 y F2 W2 H2 r2 ⟨i, n, ts, ρ3, e, ho, hn, q⟩ => by
  subst e
  have hy := r2.topDat
  cases hy
  have r3 := r2.drop
  have hor := r3.orig
  obtain ⟨r4, _⟩ := r3.opn ho
  obtain ⟨a, us, rfl, hH, hl, hm⟩ := R.modLst (cs := [t]) (ws := [v]) r4 rfl (by rw [List.all_cons, ht]; rfl)
  have hlt : n < ts.length := by
    obtain ⟨_, z, _⟩ := ixN_seq hn
    exact z
  have r5 := hm (us' := us.set n v) (rv := []) (ts' := ts.set n t) (rs := []) fun P f g h1 h2 => by
    obtain ⟨x, f1, f2, e1, e2, e3, e4⟩ := h1.focus (i := n) (List.getElem?_eq_getElem hlt)
    cases h2 with
    | cons j1 j2 pj =>
      cases j2
      have e5 := e4 P v t _ (fun _ _ _ hp _ => hp) j1
      refine ⟨_, [], f1, e5, .nil, ?_⟩
      rw [List.append_nil] at pj
      rw [List.append_nil]
      refine ((e3.append_right g).trans (pj.append_left (f1 ++ f2))).trans ?_
      rw [List.append_assoc]
      refine List.perm_append_comm.trans ?_
      exact List.perm_append_comm.append_right f1
  exact ⟨a, us, i, n, rfl, rfl, hH, by rw [hl]; exact hn, k _ _ _ _ _ (R.clsT (t := tA) r5 rfl hor) (SameBut.refl _ _) q⟩
end

/-! ### statements -/
def sNx : WS := fun O _ ρ => O.nx ρ
def sSq (a b : WS) : WS := fun O Qx ρ => a { O with nx := b O Qx } Qx ρ
def sBk : WS := fun O _ ρ => O.bk ρ
def sCt : WS := fun O _ ρ => O.ct ρ
def sDr (we : WE) : WS := fun O Qx ρ => we ρ Qx fun t ρ1 => O.nx (t.drop ρ1)
def sRt (we : WE) : WS := fun O Qx ρ => we ρ Qx fun t ρ1 => ∃ s ρ2, t.opn ρ1 = some (s, ρ2) ∧ O.rt s ρ2
def sRn : WS := fun O _ ρ => O.rt tN ρ
def sIf (c : WT) (a b : WS) : WS := fun O Qx ρ => c ρ Qx fun k ρ1 => if k = true then a O Qx ρ1 else b O Qx ρ1
def sAs (we : WE) (g : WG) : WS := fun O Qx ρ => we ρ Qx fun t ρ1 => ∃ s ρ2, t.opn ρ1 = some (s, ρ2) ∧ g s ρ2 Qx O.nx
def sPar (i j : Nat) (as : WA) : WS := fun O Qx ρ => as ρ Qx fun ts ρ1 => ∃ t u, ts = [t, u] ∧ t.real = true ∧ u.real = true ∧ O.nx ((ρ1.set i (some t)).set j (some u))
def sAugI (i : Nat) (f : Int → Int → Int) (we : WE) : WS := fun O Qx ρ => ∃ a, ρ[i]? = some (some (tI a)) ∧ we ρ Qx fun t ρ1 => ∃ b, t = tI b ∧ O.nx (ρ1.set i (some (tI (f a b))))
/-- a field of an owned instance gets a value -/
def putFT (f : Str) (t : T) (ns : List Str) (ts : List T) : List Str × List T := match fpos ns f with
  | some i => (ns, ts.set i t)
  | none => (ns ++ [f], ts ++ [t])
def sFd (C : Addr) (f : Str) (wv wo : WE) : WS := fun O Qx ρ => (wMv wv) ρ Qx fun t ρ1 => t.real = true ∧ wo ρ1 Qx fun u ρ2 => ∃ ns ts ρ3, u.opn ρ2 = some (.ins C ns ts, ρ3) ∧ ns.length < 100 ∧ O.nx (u.cls (.ins C (putFT f t ns ts).1 (putFT f t ns ts).2) ρ3)
/-- o.f op= v on ints -/
def sFdAug (C : Addr) (f : Str) (g : Int → Int → Int) (wo wv : WE) : WS := fun O Qx ρ => wo ρ Qx fun u ρ1 => ∃ ns ts a, u.peek ρ1 = some (.ins C ns ts) ∧ (T.ins C ns ts).child (.fd f) = some (tI a) ∧ wv ρ1 Qx fun t ρ2 => ∃ b ns' ts' ρ3, t = tI b ∧
  u.opn ρ2 = some (.ins C ns' ts', ρ3) ∧ ns'.length < 100 ∧ O.nx (u.cls (.ins C (putFT f (tI (g a b)) ns' ts').1 (putFT f (tI (g a b)) ns' ts').2) ρ3)
def sWh (c : WT) (b : WS) : WS := fun O Qx ρ => Inv1 fun Iv : Nat → Rho → Prop => (∃ m, Iv m ρ) ∧ ∀ m ρ1, Iv m ρ1 → c ρ1 Qx fun k ρ2 => if k = true then
  b { O with nx := fun ρ3 => Inv1 fun m' : Nat => m' < m ∧ Iv m' ρ3, ct := fun ρ3 => Inv1 fun m' : Nat => m' < m ∧ Iv m' ρ3, bk := O.nx } Qx ρ2 else O.nx ρ2
def sStop (w : WS) : WS := fun O Qx ρ => Stop (w O Qx ρ)
section
variable {K : PySem.W.Frag} {I : Sg} {E : XS} {te ta tb : TE} {we wa wb : WE} {tt : TT} {wt : WT} {s1 s2 : TS} {u1 u2 : WS}
theorem sv_stop (h : SvW K I E s1 u1) : SvW K I E s1 (sStop u1) := fun c ρ tm σ vs F W H r hz O Qx D hx d ⟨q⟩ => h c ρ tm σ vs F W H r hz O Qx D hx d q
theorem DOk.wnx {c : Ct} {tm : List T} {vs : List V} {O : WO} {D : Ends} (d : DOk K I c tm vs O D) {n : Rho → Prop} {N : L2.St → Hp → Prop} (h : ∀ ρ σ F W H, R K I c ρ tm σ vs F W H → n ρ → N σ H) : DOk K I c tm vs { O with nx := n } { D with nx := N } := ⟨h, d.rt, d.bk, d.ct⟩
theorem sv_next : SvW K I E tNext sNx := fun c ρ tm σ vs F W H r hz O Qx D hx d q => d.nx _ _ _ _ _ r q
theorem sv_seq (h1 : SvW K I E s1 u1) (h2 : SvW K I E s2 u2) : SvW K I E (tSeq s1 s2) (sSq u1 u2) := fun c ρ tm σ vs F W H r hz O Qx D hx d q =>
  h1 c ρ tm σ vs F W H r hz _ Qx _ hx (d.wnx fun ρ' σ' F' W' H' r' q' => h2 c ρ' tm σ' vs F' W' H' r' hz O Qx D hx d q') q
theorem sv_brk : SvW K I E tBreak sBk := fun c ρ tm σ vs F W H r hz O Qx D hx d q => d.bk _ _ _ _ _ r q
theorem sv_cont : SvW K I E tCont sCt := fun c ρ tm σ vs F W H r hz O Qx D hx d q => d.ct _ _ _ _ _ r q
theorem sv_drop (h : EvW K I E te we) : SvW K I E (tDrop te) (sDr we) := fun c ρ tm σ vs F W H r hz O Qx D hx d q =>
  h c ρ tm σ vs F W H r Qx _ hx q _ fun t ρ' v F' W' H' r' q' => d.nx _ _ _ _ _ r'.dropT q'
theorem sv_ret (h : EvW K I E te we) : SvW K I E (tRet te) (sRt we) := fun c ρ tm σ vs F W H r hz O Qx D hx d q =>
  h c ρ tm σ vs F W H r Qx _ hx q _ fun t ρ' v F' W' H' r' ⟨s, ρ2, ho, q'⟩ => d.rt _ _ _ _ _ _ _ (r'.opn ho).1 (r'.opn ho).2 q'
theorem sv_retN : SvW K I E tRetN sRn := fun c ρ tm σ vs F W H r hz O Qx D hx d q => d.rt _ _ _ _ _ _ _ (r.dat .non) rfl q
theorem sv_if (hc : EvT K I E tt wt) (h1 : SvW K I E s1 u1) (h2 : SvW K I E s2 u2) : SvW K I E (tIfS tt s1 s2) (sIf wt u1 u2) := fun c ρ tm σ vs F W H r hz O Qx D hx d q =>
  hc c ρ tm σ vs F W H r Qx _ hx q _ fun b ρ' F' W' H' r' q' => by
    cases b with
    | true => exact h1 c ρ' tm σ vs F' W' H' r' hz O Qx D hx d q'
    | false => exact h2 c ρ' tm σ vs F' W' H' r' hz O Qx D hx d q'
theorem sv_asg {as : List Nat} {g : TG} {wg : WG} (h : EvW K I E te we) (hg : GvW K I E as g wg) : SvW K I E (tAsg te g) (sAs we wg) := fun c ρ tm σ vs F W H r hz O Qx D hx d q =>
  h c ρ tm σ vs F W H r Qx _ hx q _ fun t ρ' v F' W' H' r' ⟨s, ρ2, ho, q'⟩ => hg c ρ2 s tm σ v vs F' W' H' (r'.opn ho).1 (r'.opn ho).2 hz Qx _ _ hx (fun ρ3 σ3 F3 W3 H3 r3 _ q3 => d.nx _ _ _ _ _ r3 q3) q'
theorem sv_par {i j : Nat} {tl : TA} {wl : WA} (hi : i ∉ I.prot) (hj : j ∉ I.prot) (h : EvA K I E tl wl) : SvW K I E (tPar i j tl) (sPar i j wl) := fun c ρ tm σ vs F W H r hz O Qx D hx d q =>
  h c ρ tm σ vs F W H r Qx _ hx q _ fun ts us ρ' F' W' H' r' hl ⟨t, u, e, h1, h2, q'⟩ => by
    subst e
    match us, hl with
    | [v, w], _ =>
      refine ⟨v, w, rfl, d.nx _ _ _ _ _ ((R.set (tm := u :: tm) r' h1 (fun x hx => ?_) hi).set h2 hz hj) q'⟩
      rcases List.mem_cons.mp hx with rfl | hx
      · exact real_noLz h2
      · exact hz x hx
theorem sv_augI {i : Nat} {f : Int → Int → Int} (hi : i ∉ I.prot) (h : EvW K I E te we) : SvW K I E (tAug i te (ipI f)) (sAugI i f we) := fun c ρ tm σ vs F W H r hz O Qx D hx d ⟨a, e, q⟩ => by
  obtain ⟨u, g, e1, e2, _⟩ := r.slot e
  cases e2 with
  | dat e2 =>
    cases e2
    refine ⟨_, e1, h c ρ tm σ vs F W H r Qx _ hx q _ fun t ρ' v F' W' H' r' ⟨b, e3, q'⟩ => ?_⟩
    subst e3
    have dv := r'.topDat
    cases dv
    exact ⟨a, b, rfl, rfl, d.nx _ _ _ _ _ ((r'.drop.dat (.int (f a b))).set rfl hz hi) q'⟩
theorem putF_zip : ∀ {ns : List Str} {vs : List V} {f : Str} {y : V}, ns.length = vs.length → putF f y (ns.zip vs) = match fpos ns f with | some i => ns.zip (vs.set i y) | none => (ns ++ [f]).zip (vs ++ [y])
  | [], [], f, y, _ => rfl
  | [], _ :: _, f, y, h => by cases h
  | _ :: _, [], f, y, h => by cases h
  | n :: ns, v :: vs, f, y, h => by
    have ih := putF_zip (ns := ns) (vs := vs) (f := f) (y := y) (Nat.succ.inj h)
    show (if n = f then (n, y) :: ns.zip vs else (n, v) :: putF f y (ns.zip vs)) = match (if n = f then some 0 else (fpos ns f).map (· + 1)) with | some i => (n :: ns).zip ((v :: vs).set i y) | none => (n :: ns ++ [f]).zip (v :: vs ++ [y])
    by_cases e : n = f
    · rw [if_pos e, if_pos e]; rfl
    · rw [if_neg e, if_neg e, ih]
      cases fpos ns f with
      | none => rfl
      | some i => rfl
/-- an owned instance on top, the value under it: the field is stored -/
theorem R.putFld {c : Ct} {ρ : Rho} {t : T} {tm : List T} {σ : L2.St} {x w : V} {vs : List V} {F : Hp} {W : List Addr} {H : Hp} {C : Addr} {ns : List Str} {ts : List T} {f : Str} (h : R K I c ρ (.ins C ns ts :: t :: tm) σ (x :: w :: vs) F W H) (ht : t.real = true) :
    ∃ a dx us, x = .ref a ∧ H a = some (.ins C dx (ns.zip us)) ∧ ns.length = us.length ∧ R K I c ρ (.ins C (putFT f t ns ts).1 (putFT f t ns ts).2 :: tm) σ (x :: vs) F W (upd H a (.ins C dx (putF f w (ns.zip us)))) := by
  obtain ⟨fA, hA, nd, wf, k⟩ := R.loc (ts := [.ins C ns ts, t]) (us := [x, w]) h rfl
  cases hA with
  | cons h1 h2 p =>
    rename_i f1 f2
    cases h2 with
    | cons j1 j2 pj =>
      cases j2
      rename_i g1
      cases h1.real rfl with
      | ins e1 e0 e2 p1 =>
        rename_i a dx us fps
        rw [List.append_nil] at pj
        have pA : fA.Perm (a :: (fps ++ g1)) := p.trans ((p1.append_right f2).trans ((pj.append_left (a :: fps))))
        have nd' := nodup_of_perm pA nd
        have na : a ∉ fps ++ g1 := (List.nodup_cons.mp nd').1
        refine ⟨a, dx, us, rfl, e1, e0, ?_⟩
        have kp1 := repA_keep (K := K) (F := F) (F' := F) (W := W) (W' := W) (H := H) (H' := upd H a (.ins C dx (putF f w (ns.zip us)))) (.refl _) (fun _ z => z) ts us fps e2 fun b hb => upd_ne fun e => na (List.mem_append_left _ (e ▸ hb))
        have kp2 := rep_keep (K := K) (F := F) (F' := F) (W := W) (W' := W) (H := H) (H' := upd H a (.ins C dx (putF f w (ns.zip us)))) (.refl _) (fun _ z => z) t w g1 (j1.real ht) fun b hb => upd_ne fun e => na (List.mem_append_right _ (e ▸ hb))
        have fin : ∀ {ns' : List Str} {us' : List V} {ts' : List T} {g : List Addr}, putF f w (ns.zip us) = ns'.zip us' → ns'.length = us'.length → RepA K F W (upd H a (.ins C dx (putF f w (ns.zip us)))) us' ts' g → (∀ b ∈ g, b ∈ fps ++ g1) → g.Nodup →
            R K I c ρ (.ins C ns' ts' :: tm) σ (.ref a :: vs) F W (upd H a (.ins C dx (putF f w (ns.zip us)))) := fun {ns' us' ts' g} q1 q2 q3 q4 q5 => by
          refine k (us' := [.ref a]) (ts' := [.ins C ns' ts']) (fB := a :: g) ((Step.upd wf (pA.mem_iff.mpr List.mem_cons_self)).less fun b hb => pA.mem_iff.mpr ?_) (List.nodup_cons.mpr ⟨fun z => na (q4 a z), q5⟩) (.one (.of (.ins (by rw [upd_same, q1]) q2 q3 (.refl _))))
          rcases List.mem_cons.mp hb with rfl | hb
          · exact List.mem_cons_self
          · exact List.mem_cons_of_mem _ (q4 b hb)
        have hz := putF_zip (ns := ns) (vs := us) (f := f) (y := w) e0
        have nds : (fps ++ g1).Nodup := (List.nodup_cons.mp nd').2
        unfold putFT
        cases hf : fpos ns f with
        | none =>
          rw [hf] at hz
          exact fin hz (by rw [List.length_append, List.length_append, e0]; rfl) (repA_iff.mpr ((repA_iff.mp kp1).app (.one kp2))) (fun _ z => z) nds
        | some i =>
          rw [hf] at hz
          have hlen := repA_len e2
          by_cases hi : i < ts.length
          · obtain ⟨y, d1, d2, q1, q2, q3, q4⟩ := (repA_iff.mp kp1).focus (i := i) (List.getElem?_eq_getElem hi)
            have q5 := q4 (Rep K F W (upd H a (.ins C dx (putF f w (ns.zip us))))) w t g1 (fun _ _ _ hp _ => hp) kp2
            have pm : (fps ++ g1).Perm (d1 ++ (g1 ++ d2)) := by
              refine (q3.append_right g1).trans ?_
              rw [List.append_assoc]
              exact List.perm_append_comm.append_left d1
            have nd3 := nodup_of_perm pm nds
            refine fin hz (by rw [List.length_set]; exact e0) (repA_iff.mpr q5) (fun b hb => pm.mem_iff.mpr (List.mem_append_right _ hb)) (nd3.sublist (List.sublist_append_right _ _))
          · exfalso
            have bound : ∀ (ns : List Str) (i : Nat), fpos ns f = some i → i < ns.length := by
              intro ns
              induction ns with
              | nil => intro i h; cases h
              | cons n ns ih =>
                intro i h
                have h' : (if n = f then some 0 else (fpos ns f).map (· + 1)) = some i := h
                by_cases e : n = f
                · rw [if_pos e] at h'; cases h'; exact Nat.succ_pos _
                · rw [if_neg e] at h'
                  cases q : fpos ns f with
                  | none => rw [q] at h'; cases h'
                  | some j => rw [q] at h'; cases h'; exact Nat.succ_lt_succ (ih j q)
            have := bound ns i hf
            omega
theorem sv_fld {C : Addr} {f : Str} {tv to : TE} {wv wo : WE} (hC : Cls K C) (hf : NoAttr K C f) (hv : EvW K I E tv wv) (ho : EvW K I E to wo) : SvW K I E (sFld K to tv f) (sFd C f wv wo) := fun c ρ tm σ vs F W H r hz O Qx D hx d q =>
  ev_mv hv c ρ tm σ vs F W H r Qx _ hx q _ fun t ρ1 w F1 W1 H1 r1 ⟨ht, q1⟩ => ho c ρ1 (t :: tm) σ (w :: vs) F1 W1 H1 r1 Qx _ hx q1 _ fun u ρ2 x F2 W2 H2 r2 ⟨ns, ts, ρ3, hop, hn, q2⟩ => by
    obtain ⟨r3, _⟩ := r2.opn hop
    obtain ⟨a, dx, us, rfl, hH, hl, r4⟩ := R.putFld (f := f) r3 ht
    exact ⟨a, C, dx, _, rfl, hH, hC, hf, by rw [List.length_zip]; omega, d.nx _ _ _ _ _ (R.clsT (t := u) r4 rfl r2.orig) q2⟩
theorem sv_fldaug {C : Addr} {f : Str} {tv to : TE} {wv wo : WE} {g : Int → Int → Int} {rd : V → V → Hp → VK → Prop} (hrd : ∀ i j H Q, Q (.int (g i j)) H → rd (.int i) (.int j) H Q) (hC : Cls K C) (hf : NoAttr K C f) (ho : EvW K I E to wo) (hv : EvW K I E tv wv) :
    SvW K I E (sFldAug K to tv rd f) (sFdAug C f g wo wv) := fun c ρ tm σ vs F W H r hz O Qx D hx d q =>
  ho c ρ tm σ vs F W H r Qx _ hx q _ fun u ρ1 x F1 W1 H1 r1 ⟨ns, ts, a, hp, hc, q1⟩ => by
    obtain ⟨ff, hr, _⟩ := r1.peek hp
    obtain ⟨v0, _, _, _, hv0, ⟨a0, C0, dx0, fs0, e0, ho0, hl0⟩, _⟩ := rep_child hr hc
    have hC0 : C0 = C := by
      cases hr with
      | ins z1 _ _ _ => cases e0; rw [z1] at ho0; cases ho0; rfl
    subst hC0
    cases hv0 with
    | dat hv0 =>
      cases hv0
      refine ⟨a0, C0, dx0, fs0, _, e0, ho0, hC, hf, hl0, hv c ρ1 (u :: tm) σ (x :: vs) F1 W1 H1 r1 Qx _ hx q1 _ fun t ρ2 w F2 W2 H2 r2 ⟨b, ns', ts', ρ3, et, hop, hn, q2⟩ => ?_⟩
      subst et
      have dw := r2.topDat
      cases dw
      refine hrd _ _ _ _ ?_
      have r3 := (r2.drop).dat (v := .int (g a b)) (d := .int (g a b)) (.int _)
      have r4 := R.mid (ts := [tI (g a b)]) (us := [.int (g a b)]) r3 rfl
      obtain ⟨r5, _⟩ := r4.opn hop
      obtain ⟨a1, dx, us, e1, hH, hl, r6⟩ := R.putFld (f := f) r5 rfl
      rw [e0] at e1
      cases e1
      exact ⟨dx, _, hH, by rw [List.length_zip]; omega, d.nx _ _ _ _ _ (R.clsT (t := u) r6 rfl r4.orig) q2⟩
theorem sv_while (hc : EvT K I E tt wt) (hb : SvW K I E s1 u1) : SvW K I E (tWhile tt s1) (sWh wt u1) := fun c ρ tm σ vs F W H r hz O Qx D hx d ⟨Iv, ⟨m0, i0⟩, hi⟩ => by
  refine ⟨fun m σ H => ∃ ρ F W, R K I c ρ tm σ vs F W H ∧ Iv m ρ, ⟨m0, ρ, F, W, r, i0⟩, ?_⟩
  rintro m σ1 H1 ⟨ρ1, F1, W1, r1, i1⟩
  refine hc c ρ1 tm σ1 vs F1 W1 H1 r1 Qx _ hx (hi m ρ1 i1) _ fun b ρ2 F2 W2 H2 r2 q2 => ?_
  cases b with
  | true =>
    refine ⟨fun σ H => ∃ m', m' < m ∧ ∃ ρ F W, R K I c ρ tm σ vs F W H ∧ Iv m' ρ, fun σ' H' h => h, ?_⟩
    refine hb c ρ2 tm σ1 vs F2 W2 H2 r2 hz { O with nx := fun ρ3 => Inv1 fun m' : Nat => m' < m ∧ Iv m' ρ3, ct := fun ρ3 => Inv1 fun m' : Nat => m' < m ∧ Iv m' ρ3, bk := O.nx } Qx _ hx ⟨?_, d.rt, ?_, ?_⟩ q2
    · exact fun ρ σ F W H r ⟨m', l, i⟩ => ⟨m', l, ρ, F, W, r, i⟩
    · exact fun ρ σ F W H r q => d.nx _ _ _ _ _ r q
    · exact fun ρ σ F W H r ⟨m', l, i⟩ => ⟨m', l, ρ, F, W, r, i⟩
  | false => exact d.nx _ _ _ _ _ r2 q2
end
end Hz
/-! Hz8: what a def promises by trees; calls by position and by name, methods, new instances. -/
namespace Hz
open PySem L2 PyProof.Rows
/-- W args (value, the parameters' trees) (exception class, its value, the parameters' trees) -/
abbrev SpT := List T → (T → Rho → Prop) → (Addr → T → Rho → Prop) → Prop
def spT (K : PySem.W.Frag) (inv : HO → Prop) (W : SpT) : Sp := fun vs H Q E => ∃ ts fp F Wl post ep, Lst (Rep K F Wl H) vs ts fp ∧ fp.Nodup ∧ Wf inv F Wl H fp ∧ W ts post ep ∧
  (∀ t us v fp' F' W' H', Lst (RepS K F' W' H') (some v :: vs.map some) (some t :: us) fp' → fp'.Nodup → Step inv F Wl H fp F' W' H' fp' → post t us → Q v H') ∧
  (∀ C t us v d fp' F' W' H', Lst (RepS K F' W' H') (some v :: vs.map some) (some t :: us) fp' → fp'.Nodup → Step inv F Wl H fp F' W' H' fp' → F' d = some (.xd [("value", v)]) → ep C t us → E (.ref C) (some d) H')
/-- a promise of a def that may look what is being shown (repr): nothing is -/
structure FnG (P : Program) (w : World) (K : PySem.W.Frag) (mg : Str → Option Value) (base : Heap) (CX : CXT) (k : Nat) (f : Addr) (fd : FuncData) (ps : List Str) (sp : Sp) : Prop where
  len : ∀ vs H Q E, sp vs H Q E → vs.length = ps.length
  run : ∀ (A : Around) (outer : List PySem.Env) (s : Shared) (H : Hp) (args : Args) (us : List Value) (vs : List V) (Q : VK) (E : XK), Room k A → A.guards = some [] → Env0 P w K mg base A outer s H →
    BindsTo s fd args (ps.zip us) → Vals vs us → sp vs H Q E → codeAny (model P w) A (.call (.ref f) args) (CR CX outer P w H s Q E) s
section
variable {P : Program} {w : World} {K : PySem.W.Frag} {mg : Str → Option Value} {base : Heap} {CX : CXT} {k j : Nat} {f : Addr} {fd : FuncData} {ps : List Str} {sp : Sp}
theorem FnG.of (F : FnOk P w K mg base CX k f fd ps sp) : FnG P w K mg base CX k f fd ps sp := ⟨F.len, fun A o s H a us vs Q E hr _ => F.run A o s H a us vs Q E hr⟩
theorem FnG.up (F : FnG P w K mg base CX j f fd ps sp) (h : j ≤ k) : FnG P w K mg base CX k f fd ps sp := ⟨F.len, fun A o s H a us vs Q E hr => F.run A o s H a us vs Q E (hr.mono h)⟩
end

/-! ### rules of calls -/
theorem rref (a : Addr) : RelV (.ref a) (.ref a) := rfl
section
variable {X : Cx} {CX : CXT} {k : Nat} {f C : Addr} {fd : FuncData} {ps ks : List Str} {sp : Sp} {E0 : XK} {E : XS} {x m : Str} {p pos apos : Pos} {e o : Expr} {es : List Expr} {kws : List Keyword} {ta : TE} {t tk : TA}
/-- what a call's result says -/
theorem ends_call {pins : List (Addr × Obj)} {σ : L2.St} {H : Hp} {s : Shared} {Q : VK} (hx : PassesAt CX X σ E0) (I : Inv X pins σ H s) {r : Result} {s' : Shared} (hq : CR CX X.stack X.prog X.w H s Q E0 r s') :
    match r with | .ok (.ret u) => EP X pins σ Q u s' | .ok _ => False | .error e => X.xe e s' := by
  cases r with
  | error e => exact hx pins H s e s' I hq
  | ok fl => cases fl <;> first | exact I.after hq | exact hq
theorem runG {pins : List (Addr × Obj)} {σ : L2.St} {H : Hp} {s : Shared} {Q : VK} {us vals : List Value} {kw : List (Str × Value)} {vs : List V} (F : FnG X.prog X.w X.K X.mg X.base CX k f fd ps sp) (hr : Room k X.A) (hg : X.A.guards = some []) (hx : PassesAt CX X σ E0)
    (I : Inv X pins σ H s) (hb : BindsTo s fd ⟨us, kw⟩ (ps.zip vals)) (r : Vals vs vals) (h : sp vs H Q E0) : wpAny (model X.prog X.w) X.A (call (.ref f) us kw) (EP X pins σ Q) X.xe s := by
  refine wpAny_call (codeAny_mono (F.run X.A X.stack s H ⟨us, kw⟩ vals vs Q E0 hr hg I.env0 hb r h) fun res s' hq => ?_)
  have z := ends_call hx I hq
  cases res with
  | error e => exact z
  | ok fl => cases fl <;> exact z
theorem makeG {pins : List (Addr × Obj)} {σ : L2.St} {H : Hp} {s : Shared} {Q : VK} {us vals : List Value} {kw : List (Str × Value)} {vs : List V} (M : Mk X.K C f) (F : FnG X.prog X.w X.K X.mg X.base CX k f fd ps sp) (hr : Room (k + 1) X.A) (hg : X.A.guards = some []) (hx : PassesAt CX X σ E0)
    (I : Inv X pins σ H s) (hb : ∀ (s2 : Shared) (n : Addr), X.K.In s2.heap → BindsTo s2 fd ⟨.ref n :: us, kw⟩ (ps.zip (.ref n :: vals))) (r : Vals vs vals)
    (h : ∀ x dx, H x = none → H dx = none → dx ≠ x → sp (.ref x :: vs) (upd (upd H dx (.own x)) x (.ins C dx [])) (fun v H2 => v = .non ∧ Q (.ref x) H2) E0) :
    wpAny (model X.prog X.w) X.A (call (.ref C) us kw) (EP X pins σ Q) X.xe s := by
  have ne : s.heap.objs.size ≠ s.heap.objs.size + 1 := Nat.ne_of_lt (Nat.lt_succ_self _)
  have hsp := h (s.heap.objs.size + 1) s.heap.objs.size (I.hok.fresh (Nat.le_succ _)) (I.hok.fresh (Nat.le_refl _)) ne
  have J := Inv.made (C := C) I
  have ev := J.env0.make C us kw
  have gu : (X.A.under (.builtin "type.__call__" ⟨.ref C :: us, kw⟩)).guards = some [] := by
    first
      | exact hg
      | (show pushGuards _ X.A.guards = some []; rw [hg]; first | rfl | simp [Code.guards, Code.isGuard, guardIds, pushGuards])
  refine wpAny_call (make_map (f := f) I.kIn M.makes M.init (beq_iff_eq.mp M.fn) (codeAny_mono (F.run _ X.stack _ _ ⟨.ref (s.heap.objs.size + 1) :: us, kw⟩ (.ref (s.heap.objs.size + 1) :: vals) _ _ E0
    (hr.make C us kw) gu ev (hb _ _ J.kIn) (.cons (rref _) r) hsp) fun res s' hq => ?_))
  have z := ends_call hx J hq
  cases res with
  | error e => exact z
  | ok fl =>
    cases fl with
    | ret u =>
      obtain ⟨v, H', I3, rv, ⟨ev, q3⟩⟩ := z
      subst ev
      exact ⟨rv, ⟨.ref (s.heap.objs.size + 1), H', I3, rfl, q3⟩⟩
    | _ => exact z.elim
/-- how a call binds: us by position, ws by the names ks, make the values vals -/
def BindG (K : PySem.W.Frag) (fd : FuncData) (ps : List Str) (n : Nat) (ks : List Str) (mk : {α : Type} → List α → List α → List α) : Prop :=
  (∀ (s : Shared) (us ws : List Value), K.In s.heap → us.length = n → ws.length = ks.length → BindsTo s fd ⟨us, ks.zip ws⟩ (ps.zip (mk us ws))) ∧
  ∀ {vs zs : List V} {us ws : List Value}, Vals vs us → Vals zs ws → Vals (mk vs zs) (mk us ws)
/-- f(..): n by position, names ks -/
def tCallG (n m : Nat) (mk : {α : Type} → List α → List α → List α) (sp : Sp) (E : XS) (t tk : TA) : TE := fun σ H Q => t σ H fun vs H1 => tk σ H1 fun zs H2 => vs.length = n ∧ zs.length = m ∧ sp (mk vs zs) H2 Q (E σ)
theorem pg_callK (F : FnG X.prog X.w X.K X.mg X.base CX k f fd ps sp) (hr : Room k X.A) (hgd : X.A.guards = some []) (hg : Gl X x) (hm : X.mg x = some (.ref f)) (hk : PySem.W.keepIn X.K (.ref f) = true) {n : Nat} {mk : {α : Type} → List α → List α → List α} (hb : BindG X.K fd ps n ks mk) (hx : ∀ σ, PassesAt CX X σ (E σ))
    (ha : PA X (e :: es) t) (hkw : PK X kws tk) (hall : (backToKw pos (keywordEach kws X.env)).all (·.1.isSome) = true := by rfl) (hks : (backToKw pos (keywordEach kws X.env)).filterMap (·.1) = ks := by rfl)
    (hdb : (x == ("__debug__" : Str)) = false := by decide) (he : starEach (e :: es) X.env = (false, eval e X.env) :: starEach es X.env := by rfl)
    (hpl : ((backTo pos (starEach (e :: es) X.env)).any (·.1) || (backToKw pos (keywordEach kws X.env)).any (·.1.isNone)) = false := by rfl) : PE X (.Call (.Name x p) (e :: es) kws pos) (tCallG n ks.length mk sp E t tk) :=
  ⟨fun pins s σ H Q I h => wpAny_Call_Name_kw (ld_glob I hg hm (PySem.W.callWith_KW (h₀ := X.base) I.ok.mod.kin hk hall (thn (ha.run pos pins s σ H _ I h) fun us s1 ⟨vs, H1, I1, r, q⟩ =>
    thn (hkw.run pos pins s1 σ H1 _ I1 q) fun ws s2 ⟨zs, H2, I2, rz, l1, l2, q2⟩ => ⟨I2.kIn, by
      rw [hks]
      exact runG F hr hgd (hx σ) I2 (hb.1 s2 us ws I2.kIn (by rw [← r.length, l1]) (by rw [← rz.length, l2])) (hb.2 r rz) q2⟩) hpl he) hdb)⟩
theorem pg_callK0 (F : FnG X.prog X.w X.K X.mg X.base CX k f fd ps sp) (hr : Room k X.A) (hgd : X.A.guards = some []) (hg : Gl X x) (hm : X.mg x = some (.ref f)) (hk : PySem.W.keepIn X.K (.ref f) = true) {mk : {α : Type} → List α → List α → List α} (hb : BindG X.K fd ps 0 ks mk) (hx : ∀ σ, PassesAt CX X σ (E σ))
    (hkw : PK X kws tk) (hall : (backToKw pos (keywordEach kws X.env)).all (·.1.isSome) = true := by rfl) (hks : (backToKw pos (keywordEach kws X.env)).filterMap (·.1) = ks := by rfl)
    (hdb : (x == ("__debug__" : Str)) = false := by decide) (hpl : ((backTo pos (starEach [] X.env)).any (·.1) || (backToKw pos (keywordEach kws X.env)).any (·.1.isNone)) = false := by rfl) : PE X (.Call (.Name x p) [] kws pos) (tCallG 0 ks.length mk sp E tNil tk) :=
  ⟨fun pins s σ H Q I h => wpAny_Call_Name_kw (ld_glob I hg hm (PySem.W.callWith_KW0 (h₀ := X.base) I.ok.mod.kin hk hall (
    thn (hkw.run pos pins s σ H _ I h) fun ws s2 ⟨zs, H2, I2, rz, l1, l2, q2⟩ => ⟨I2.kIn, by
      rw [hks]
      exact runG (us := []) F hr hgd (hx σ) I2 (hb.1 s2 [] ws I2.kIn rfl (by rw [← rz.length, l2])) (hb.2 .nil rz) q2⟩) hpl) hdb)⟩
theorem pg_call (F : FnG X.prog X.w X.K X.mg X.base CX k f fd ps sp) (hr : Room k X.A) (hgd : X.A.guards = some []) (hg : Gl X x) (hm : X.mg x = some (.ref f)) (hk : PySem.W.keepIn X.K (.ref f) = true) {n : Nat} (hb : BindG X.K fd ps n [] (fun us _ => us)) (hx : ∀ σ, PassesAt CX X σ (E σ))
    (ha : PA X (e :: es) t) (hdb : (x == ("__debug__" : Str)) = false := by decide) (he : starEach (e :: es) X.env = (false, eval e X.env) :: starEach es X.env := by rfl) (hpl : (backTo pos (starEach es X.env)).any (·.1) = false := by rfl) :
    PE X (.Call (.Name x p) (e :: es) [] pos) (tCallG n 0 (fun us _ => us) sp E t tNil) :=
  ⟨fun pins s σ H Q I h => wpAny_Call_Name_kw (ld_glob I hg hm (PySem.W.callWith_K (h₀ := X.base) I.ok.mod.kin hk (thn (ha.run pos pins s σ H _ I h) fun us s1 ⟨vs, H1, I1, r, l1, _, q⟩ =>
    ⟨I1.kIn, runG F hr hgd (hx σ) I1 (hb.1 s1 us [] I1.kIn (by rw [← r.length, l1]) rfl) r q⟩) he hpl) hdb)⟩
theorem pg_call0 (F : FnG X.prog X.w X.K X.mg X.base CX k f fd ps sp) (hr : Room k X.A) (hgd : X.A.guards = some []) (hg : Gl X x) (hm : X.mg x = some (.ref f)) (hk : PySem.W.keepIn X.K (.ref f) = true) (hb : BindG X.K fd ps 0 [] (fun us _ => us)) (hx : ∀ σ, PassesAt CX X σ (E σ))
    (hdb : (x == ("__debug__" : Str)) = false := by decide) : PE X (.Call (.Name x p) [] [] pos) (tCallG 0 0 (fun us _ => us) sp E tNil tNil) :=
  ⟨fun pins s σ H Q I h => wpAny_Call_Name_kw (ld_glob I hg hm (PySem.W.callWith_K0 I.kIn hk (runG (us := []) F hr hgd (hx σ) I (hb.1 s [] [] I.kIn rfl rfl) .nil h.2.2)) hdb)⟩
/-- o.m(..) -/
def tMethG (C : Addr) (m : Str) (n q : Nat) (mk : {α : Type} → List α → List α → List α) (sp : Sp) (E : XS) (ta : TE) (t tk : TA) : TE := fun σ H Q => ta σ H fun x H1 => ∃ a dx fs, x = .ref a ∧ H1 a = some (.ins C dx fs) ∧ fs.lookup m = none ∧
  t σ H1 fun vs H2 => tk σ H2 fun zs H3 => vs.length = n ∧ zs.length = q ∧ sp (x :: mk vs zs) H3 Q (E σ)
/-- how a method's call binds -/
def BindM (K : PySem.W.Frag) (fd : FuncData) (ps : List Str) (n : Nat) (ks : List Str) (mk : {α : Type} → List α → List α → List α) : Prop :=
  (∀ (s : Shared) (x : Value) (us ws : List Value), K.In s.heap → us.length = n → ws.length = ks.length → BindsTo s fd ⟨x :: us, ks.zip ws⟩ (ps.zip (x :: mk us ws))) ∧
  ∀ {vs zs : List V} {us ws : List Value}, Vals vs us → Vals zs ws → Vals (mk vs zs) (mk us ws)
theorem pg_meth {pl : Sem Bool} (he : PE X o ta) (c : Cls X.K C) (hm : Meth X.K C m f) (F : FnG X.prog X.w X.K X.mg X.base CX k f fd ps sp) (hr : Room k X.A) (hgd : X.A.guards = some []) {n : Nat} (hb : BindM X.K fd ps n [] (fun us _ => us)) (hx : ∀ σ, PassesAt CX X σ (E σ)) (ha : PA X (e :: es) t)
    (hst : starEach (e :: es) X.env = (false, eval e X.env) :: starEach es X.env := by rfl) (hpl : (backTo pos (starEach es X.env)).any (·.1) = false := by rfl)
    (ht : eval (.Call (.Attribute o m apos) (e :: es) [] pos) X.env = (do
      let ov ← eval o X.env
      standAt apos.atName
      let (f, first) ← holding [ov] (getMethod ov m pl)
      callWith pos f first (backTo pos (starEach (e :: es) X.env)) (backToKw pos (keywordEach [] X.env))) := by rfl) :
    PE X (.Call (.Attribute o m apos) (e :: es) [] pos) (tMethG C m n 0 (fun us _ => us) sp E ta t tNil) :=
  ⟨fun pins s σ H Q I h => PySem.W.methodCall_KW (pl := pl) (thn (he.run pins s σ H _ I h) fun u s1 ⟨x, H1, I1, rx, a, dx, fs, ex, ea, l, q⟩ => by
    subst ex
    obtain rfl : u = Value.ref a := rx
    refine getmeth_ok I1 ea c hm l (PySem.W.callWith_K (first := [.ref a]) (h₀ := X.base) I.ok.mod.kin hm.kp (thn (ha.run pos pins s1 σ H1 _ I1 q) fun us s2 ⟨vs, H2, I2, r, l1, _, q2⟩ => ⟨I2.kIn, ?_⟩) hst hpl)
    exact runG F hr hgd (hx σ) I2 (hb.1 s2 (.ref a) us [] I2.kIn (by rw [← r.length, l1]) rfl) (.cons (rref _) r) q2) ht⟩
theorem pg_meth0 {pl : Sem Bool} (he : PE X o ta) (c : Cls X.K C) (hm : Meth X.K C m f) (F : FnG X.prog X.w X.K X.mg X.base CX k f fd ps sp) (hr : Room k X.A) (hgd : X.A.guards = some []) (hb : BindM X.K fd ps 0 [] (fun us _ => us)) (hx : ∀ σ, PassesAt CX X σ (E σ))
    (ht : eval (.Call (.Attribute o m apos) [] [] pos) X.env = (do
      let ov ← eval o X.env
      standAt apos.atName
      let (f, first) ← holding [ov] (getMethod ov m pl)
      callWith pos f first (backTo pos (starEach [] X.env)) (backToKw pos (keywordEach [] X.env))) := by rfl) :
    PE X (.Call (.Attribute o m apos) [] [] pos) (tMethG C m 0 0 (fun us _ => us) sp E ta tNil tNil) :=
  ⟨fun pins s σ H Q I h => PySem.W.methodCall_KW (pl := pl) (thn (he.run pins s σ H _ I h) fun u s1 ⟨x, H1, I1, rx, a, dx, fs, ex, ea, l, q⟩ => by
    subst ex
    obtain rfl : u = Value.ref a := rx
    exact getmeth_ok I1 ea c hm l (PySem.W.callWith_K0 (first := [.ref a]) I1.kIn hm.kp (runG F hr hgd (hx σ) I1 (hb.1 s1 (.ref a) [] [] I1.kIn rfl rfl) (.cons (rref _) .nil) q.2.2))) ht⟩
theorem pg_methK0 {pl : Sem Bool} (he : PE X o ta) (c : Cls X.K C) (hm : Meth X.K C m f) (F : FnG X.prog X.w X.K X.mg X.base CX k f fd ps sp) (hr : Room k X.A) (hgd : X.A.guards = some []) {mk : {α : Type} → List α → List α → List α} (hb : BindM X.K fd ps 0 ks mk) (hx : ∀ σ, PassesAt CX X σ (E σ)) (hkw : PK X kws tk)
    (hall : (backToKw pos (keywordEach kws X.env)).all (·.1.isSome) = true := by rfl) (hks : (backToKw pos (keywordEach kws X.env)).filterMap (·.1) = ks := by rfl)
    (hpl : ((backTo pos (starEach [] X.env)).any (·.1) || (backToKw pos (keywordEach kws X.env)).any (·.1.isNone)) = false := by rfl)
    (ht : eval (.Call (.Attribute o m apos) [] kws pos) X.env = (do
      let ov ← eval o X.env
      standAt apos.atName
      let (f, first) ← holding [ov] (getMethod ov m pl)
      callWith pos f first (backTo pos (starEach [] X.env)) (backToKw pos (keywordEach kws X.env))) := by rfl) :
    PE X (.Call (.Attribute o m apos) [] kws pos) (tMethG C m 0 ks.length mk sp E ta tNil tk) :=
  ⟨fun pins s σ H Q I h => PySem.W.methodCall_KW (pl := pl) (thn (he.run pins s σ H _ I h) fun u s1 ⟨x, H1, I1, rx, a, dx, fs, ex, ea, l, q⟩ => by
    subst ex
    obtain rfl : u = Value.ref a := rx
    refine getmeth_ok I1 ea c hm l (PySem.W.callWith_KW0 (first := [.ref a]) (h₀ := X.base) I.ok.mod.kin hm.kp hall (thn (hkw.run pos pins s1 σ H1 _ I1 q) fun ws s2 ⟨zs, H2, I2, rz, l1, l2, q2⟩ => ⟨I2.kIn, ?_⟩) hpl)
    rw [hks]
    exact runG F hr hgd (hx σ) I2 (hb.1 s2 (.ref a) [] ws I2.kIn rfl (by rw [← rz.length, l2])) (.cons (rref _) (hb.2 .nil rz)) q2) ht⟩
/-- C(..) -/
def tMakeG (C : Addr) (n q : Nat) (mk : {α : Type} → List α → List α → List α) (sp : Sp) (E : XS) (t tk : TA) : TE := fun σ H Q => t σ H fun vs H1 => tk σ H1 fun zs H2 => vs.length = n ∧ zs.length = q ∧ ∀ x dx, H2 x = none → H2 dx = none → dx ≠ x →
  sp (.ref x :: mk vs zs) (upd (upd H2 dx (.own x)) x (.ins C dx [])) (fun v H3 => v = .non ∧ Q (.ref x) H3) (E σ)
theorem pg_make (M : Mk X.K C f) (F : FnG X.prog X.w X.K X.mg X.base CX k f fd ps sp) (hr : Room (k + 1) X.A) (hgd : X.A.guards = some []) (hg : Gl X x) (hm : X.mg x = some (.ref C)) {n : Nat} (hb : BindM X.K fd ps n [] (fun us _ => us)) (hx : ∀ σ, PassesAt CX X σ (E σ))
    (ha : PA X (e :: es) t) (hdb : (x == ("__debug__" : Str)) = false := by decide) (he : starEach (e :: es) X.env = (false, eval e X.env) :: starEach es X.env := by rfl) (hpl : (backTo pos (starEach es X.env)).any (·.1) = false := by rfl) :
    PE X (.Call (.Name x p) (e :: es) [] pos) (tMakeG C n 0 (fun us _ => us) sp E t tNil) :=
  ⟨fun pins s σ H Q I h => wpAny_Call_Name_kw (ld_glob I hg hm (PySem.W.callWith_K (h₀ := X.base) I.ok.mod.kin M.kp (thn (ha.run pos pins s σ H _ I h) fun us s1 ⟨vs, H1, I1, r, l1, _, q⟩ =>
    ⟨I1.kIn, makeG M F hr hgd (hx σ) I1 (fun s2 n K2 => hb.1 s2 (.ref n) us [] K2 (by rw [← r.length, l1]) rfl) r q⟩) he hpl) hdb)⟩
theorem pg_make0 (M : Mk X.K C f) (F : FnG X.prog X.w X.K X.mg X.base CX k f fd ps sp) (hr : Room (k + 1) X.A) (hgd : X.A.guards = some []) (hg : Gl X x) (hm : X.mg x = some (.ref C)) (hb : BindM X.K fd ps 0 [] (fun us _ => us)) (hx : ∀ σ, PassesAt CX X σ (E σ))
    (hdb : (x == ("__debug__" : Str)) = false := by decide) : PE X (.Call (.Name x p) [] [] pos) (tMakeG C 0 0 (fun us _ => us) sp E tNil tNil) :=
  ⟨fun pins s σ H Q I h => wpAny_Call_Name_kw (ld_glob I hg hm (PySem.W.callWith_K0 I.kIn M.kp (makeG (us := []) M F hr hgd (hx σ) I (fun s2 n K2 => hb.1 s2 (.ref n) [] [] K2 rfl rfl) .nil h.2.2)) hdb)⟩
theorem pg_makeK0 (M : Mk X.K C f) (F : FnG X.prog X.w X.K X.mg X.base CX k f fd ps sp) (hr : Room (k + 1) X.A) (hgd : X.A.guards = some []) (hg : Gl X x) (hm : X.mg x = some (.ref C)) {mk : {α : Type} → List α → List α → List α} (hb : BindM X.K fd ps 0 ks mk) (hx : ∀ σ, PassesAt CX X σ (E σ)) (hkw : PK X kws tk)
    (hall : (backToKw pos (keywordEach kws X.env)).all (·.1.isSome) = true := by rfl) (hks : (backToKw pos (keywordEach kws X.env)).filterMap (·.1) = ks := by rfl) (hdb : (x == ("__debug__" : Str)) = false := by decide)
    (hpl : ((backTo pos (starEach [] X.env)).any (·.1) || (backToKw pos (keywordEach kws X.env)).any (·.1.isNone)) = false := by rfl) :
    PE X (.Call (.Name x p) [] kws pos) (tMakeG C 0 ks.length mk sp E tNil tk) :=
  ⟨fun pins s σ H Q I h => wpAny_Call_Name_kw (ld_glob I hg hm (PySem.W.callWith_KW0 (h₀ := X.base) I.ok.mod.kin M.kp hall (
    thn (hkw.run pos pins s σ H _ I h) fun ws s2 ⟨zs, H2, I2, rz, l1, l2, q2⟩ => ⟨I2.kIn, by
      rw [hks]
      exact makeG (us := []) M F hr hgd (hx σ) I2 (fun s3 n K3 => hb.1 s3 (.ref n) [] ws K3 rfl (by rw [← rz.length, l2])) (hb.2 .nil rz) q2⟩) hpl) hdb)⟩
end
end Hz
/-! Hz9: calls by trees; a def's body keeps its promise. -/
namespace Hz
open PySem L2 PyProof.Rows
def opnAll : List T → Rho → Option (List T × Rho)
  | [], ρ => some ([], ρ)
  | t :: ts, ρ => (t.opn ρ).bind fun q => (opnAll ts q.2).map fun z => (q.1 :: z.1, z.2)
def clsAll : List T → Rho → Rho → Rho
  | t :: ts, some s :: us, ρ => clsAll ts us (t.cls s ρ)
  | _ :: ts, none :: us, ρ => clsAll ts us ρ
  | _, _, ρ => ρ
/-- what the parameters that keep their values are at the end -/
def mask (p : List Nat) : Nat → Nat → Rho → Rho
  | _, 0, _ => []
  | k, n + 1, x :: ρ => (if p.contains k then x else none) :: mask p (k + 1) n ρ
  | k, n + 1, [] => none :: mask p (k + 1) n []
def startT (N : Nat) (ts : List T) : Rho := ts.map some ++ List.replicate (N - ts.length) none
section
variable {K : PySem.W.Frag} {I : Sg} {c : Ct} {ρ ρ' : Rho} {t s : T} {tm ts ss : List T} {σ : L2.St} {v : V} {vs us : List V} {F : Hp} {W : List Addr} {H : Hp}
theorem R.opens : ∀ {ts ss : List T} {ρ ρ' : Rho} {us : List V} {tm : List T} {vs : List V}, R K I c ρ (ts ++ tm) σ (us ++ vs) F W H → us.length = ts.length → opnAll ts ρ = some (ss, ρ') →
    R K I c ρ' (ss ++ tm) σ (us ++ vs) F W H ∧ ss.length = ts.length ∧ ss.all T.real = true
  | [], ss, ρ, ρ', us, tm, vs, h, hl, ho => by
    cases ho
    exact ⟨h, rfl, rfl⟩
  | t :: ts, ss, ρ, ρ', [], tm, vs, h, hl, ho => by cases hl
  | t :: ts, ss, ρ, ρ', u :: us, tm, vs, h, hl, ho => by
    have ho' : ((t.opn ρ).bind fun q => (Hz.opnAll ts q.2).map fun z => (q.1 :: z.1, z.2)) = some (ss, ρ') := ho
    cases e1 : t.opn ρ with
    | none => rw [e1] at ho'; cases ho'
    | some q =>
      rw [e1] at ho'
      cases e2 : Hz.opnAll ts q.2 with
      | none =>
        have ho2 : ((Hz.opnAll ts q.2).map fun z => (q.1 :: z.1, z.2)) = some (ss, ρ') := ho'
        rw [e2] at ho2
        cases ho2
      | some z =>
        have ho2 : ((Hz.opnAll ts q.2).map fun z => (q.1 :: z.1, z.2)) = some (ss, ρ') := ho'
        rw [e2] at ho2
        cases ho2
        obtain ⟨r1, hr⟩ := R.opn (s := q.1) (ρ' := q.2) h e1
        obtain ⟨r2, hl2, hr2⟩ := R.opens (tm := q.1 :: tm) (vs := u :: vs) (R.unmid r1 (Nat.succ.inj hl)) (Nat.succ.inj hl) e2
        exact ⟨r2.mid (by rw [hl2]; exact Nat.succ.inj hl), by rw [List.length_cons, List.length_cons, hl2], by rw [List.all_cons, hr, hr2]; rfl⟩
def OrigAll (σ : L2.St) : List T → List V → Prop
  | t :: ts, v :: vs => Orig σ t v ∧ OrigAll σ ts vs
  | _, _ => True
theorem R.origAll : ∀ {ts tm : List T} {us vs : List V}, R K I c ρ (ts ++ tm) σ (us ++ vs) F W H → us.length = ts.length → OrigAll σ ts us
  | [], tm, us, vs, h, hl => by cases us <;> trivial
  | t :: ts, tm, [], vs, h, hl => trivial
  | t :: ts, tm, u :: us, vs, h, hl => ⟨R.orig h, R.origAll (R.drop h) (Nat.succ.inj hl)⟩
/-- what comes back for an argument -/
def backT : Rho → List V → List T
  | some s :: us, _ :: vs => s :: backT us vs
  | none :: us, v :: vs => .cst v :: backT us vs
  | _, _ => []
theorem back_lst {H' : Hp} : ∀ {us : List V} {os : Rho} {f : List Addr}, Lst (RepS K F W H') (us.map some) os f → Lst (Rep K F W H') us (backT os us) f
  | [], os, f, h => by cases h; exact .nil
  | u :: us, os, f, h => by
    cases h with
    | cons h1 h2 p =>
      cases h1 with
      | non => exact .cons .cst (back_lst h2) p
      | som h1 => exact .cons h1 (back_lst h2) p
theorem R.closes : ∀ {ts : List T} {us : List V} {os ρ : Rho}, R K I c ρ (backT os us ++ tm) σ (us ++ vs) F W H → OrigAll σ ts us → us.length = ts.length → os.length = us.length → (∀ s ∈ backT os us, s.real = true) → R K I c (clsAll ts os ρ) tm σ vs F W H
  | [], [], [], ρ, h, _, _, _, _ => h
  | [], [], _ :: _, ρ, h, _, _, e, _ => by cases e
  | [], _ :: _, _, ρ, h, _, e, _, _ => by cases e
  | _ :: _, [], _, ρ, h, _, e, _, _ => by cases e
  | t :: ts, u :: us, [], ρ, h, _, _, e, _ => by cases e
  | t :: ts, u :: us, some s :: os, ρ, h, ho, e1, e2, hr => R.closes (ts := ts) (us := us) (os := os) (R.clsT (t := t) h (hr s List.mem_cons_self) ho.1) ho.2 (Nat.succ.inj e1) (Nat.succ.inj e2) fun x hx => hr x (List.mem_cons_of_mem _ hx)
  | t :: ts, u :: us, none :: os, ρ, h, ho, e1, e2, hr => R.closes (ts := ts) (us := us) (os := os) (R.drop (t := .cst u) (v := u) h) ho.2 (Nat.succ.inj e1) (Nat.succ.inj e2) fun x hx => hr x (List.mem_cons_of_mem _ hx)
/-- the value on top alone -/
theorem R.only : ∀ {tm : List T} {vs : List V}, R K I c ρ (t :: tm) σ (v :: vs) F W H → R K I c ρ [t] σ [v] F W H := fun {tm vs} h => by
  obtain ⟨f1, f2, h1, h2, nd, st⟩ := h.ex
  cases h1 with
  | cons j1 j2 q =>
    rename_i a1 a2
    have pm : (f1 ++ f2).Perm ((a1 ++ f2) ++ a2) := by
      refine (q.append_right f2).trans ?_
      rw [List.append_assoc, List.append_assoc]
      exact List.perm_append_comm.append_left a1
    have nd' := nodup_of_perm pm nd
    exact ⟨⟨a1, f2, .one j1, h2, nd'.sublist (List.sublist_append_left _ _), (st.perm (.refl _) pm).less fun a ha => List.mem_append_left _ ha⟩, h.pr⟩

theorem back_real {F W H} : ∀ {us : List V} {os : List T} {f : List Addr}, Lst (Rep K F W H) us os f → ∀ s ∈ os, s.real = true
  | _, _, _, .nil, s, hs => by cases hs
  | _, _, _, .cons h1 h2 _, s, hs => by
    rcases List.mem_cons.mp hs with rfl | hs
    · exact rep_real h1
    · exact back_real h2 s hs
/-- THE CALL: what a callee does with what is at hand -/
theorem R.callG {Wf : SpT} {E : XK} {Q : VK} {post : T → Rho → Prop} {ep : Addr → T → Rho → Prop} (h : R K I c ρ (ts ++ tm) σ (us ++ vs) F W H) (hl : us.length = ts.length) (ho : opnAll ts ρ = some (ss, ρ')) (hW : Wf ss post ep)
    (k : ∀ t os v F' W' H', t.real = true → os.length = us.length → (∀ s ∈ backT os us, s.real = true) → R K I c ρ' (t :: (backT os us ++ tm)) σ (v :: (us ++ vs)) F' W' H' → post t os → Q v H')
    (kx : ∀ C t os v d F' W' H', t.real = true → os.length = us.length → (∀ s ∈ backT os us, s.real = true) → R K I c ρ' (t :: (backT os us ++ tm)) σ (v :: (us ++ vs)) F' W' H' → F' d = some (.xd [("value", v)]) → ep C t os → E (.ref C) (some d) H') : spT K I.inv Wf us H Q E := by
  obtain ⟨r1, hl1, hr1⟩ := R.opens h hl ho
  obtain ⟨fA, hA, nd, wf, q⟩ := r1.loc (by rw [hl1]; exact hl)
  have back : ∀ {t : T} {os : Rho} {v : V} {fp' : List Addr} {F' : Hp} {W' : List Addr} {H' : Hp}, Lst (RepS K F' W' H') (some v :: us.map some) (some t :: os) fp' → fp'.Nodup → Step I.inv F W H fA F' W' H' fp' →
      t.real = true ∧ os.length = us.length ∧ (∀ s ∈ backT os us, s.real = true) ∧ R K I c ρ' (t :: (backT os us ++ tm)) σ (v :: (us ++ vs)) F' W' H' := fun {t os v fp' F' W' H'} hL hn hs => by
    have hlen : os.length = us.length := by
      have := hL.len
      rw [List.length_cons, List.length_cons, List.length_map] at this
      omega
    cases hL with
    | cons j1 j2 p =>
      cases j1 with
      | som j1 =>
        have b := back_lst j2
        exact ⟨rep_real j1, hlen, back_real b, q (us' := v :: us) (ts' := t :: backT os us) (hs.perm (.refl _) p) (nodup_of_perm p hn) (.cons (.of j1) (repT_reps b) (.refl _))⟩
  refine ⟨ss, fA, F, W, post, ep, repA_iff.mp (lst_real hA hr1), nd, wf, hW, fun t os v fp' F' W' H' hL hn hs hp => ?_, fun C t os v d fp' F' W' H' hL hn hs hd hp => ?_⟩
  · obtain ⟨e0, e1, e2, r2⟩ := back hL hn hs
    exact k _ _ _ _ _ _ e0 e1 e2 r2 hp
  · obtain ⟨e0, e1, e2, r2⟩ := back hL hn hs
    exact kx _ _ _ _ _ _ _ _ e0 e1 e2 r2 hd hp
theorem back_len : ∀ {os : Rho} {us : List V}, os.length = us.length → (backT os us).length = us.length
  | [], [], _ => rfl
  | some s :: os, u :: us, h => by
    show (backT os us).length + 1 = us.length + 1
    rw [back_len (Nat.succ.inj h)]
  | none :: os, u :: us, h => by
    show (backT os us).length + 1 = us.length + 1
    rw [back_len (Nat.succ.inj h)]
  | [], _ :: _, h => by cases h
  | _ :: _, [], h => by cases h
theorem R.call {Wf : SpT} {E : XS} {Q : VK} {Qx : WX} {Qv : T → Rho → Prop} (h : R K I c ρ (ts ++ tm) σ (us ++ vs) F W H) (hl : us.length = ts.length) (hx : XOk K I c E Qx) (ho : opnAll ts ρ = some (ss, ρ'))
    (hW : Wf ss (fun t os => os.length = ts.length → Qv t (Hz.clsAll ts os ρ')) (fun C t os => os.length = ts.length → Qx C t (Hz.clsAll ts os ρ')))
    (k : ∀ t ρ' v F' W' H', R K I c ρ' (t :: tm) σ (v :: vs) F' W' H' → Qv t ρ' → Q v H') : spT K I.inv Wf us H Q (E σ) := by
  have hor := R.origAll h hl
  refine R.callG h hl ho hW (fun t os v F' W' H' e0 e1 e2 r2 hp => ?_) fun C t os v d F' W' H' e0 e1 e2 r2 hd hp => ?_
  · exact k _ _ _ _ _ _ (R.closes (R.unmid r2 (back_len e1).symm) hor hl e1 e2) (hp (by omega))
  · exact hx _ _ _ _ _ _ _ _ _ (R.closes (R.unmid r2 (back_len e1).symm) hor hl e1 e2).only e0 hd (hp (by omega))
end

/-! ### calls by trees -/
def wFn (Wf : SpT) (ts : List T) (ρ : Rho) (Qx : WX) (Q : T → Rho → Prop) : Prop :=
  ∃ ss ρ', opnAll ts ρ = some (ss, ρ') ∧ Wf ss (fun t os => os.length = ts.length → Q t (clsAll ts os ρ')) (fun C t os => os.length = ts.length → Qx C t (clsAll ts os ρ'))
def wCall (n m : Nat) (mk : {α : Type} → List α → List α → List α) (Wf : SpT) (a k : WA) : WE := fun ρ Qx Q => a ρ Qx fun ts ρ1 => k ρ1 Qx fun us ρ2 => ts.length = n ∧ us.length = m ∧ wFn Wf (mk ts us) ρ2 Qx Q
def wMeth (C : Addr) (m : Str) (n q : Nat) (mk : {α : Type} → List α → List α → List α) (Wf : SpT) (o : WE) (a k : WA) : WE := fun ρ Qx Q => o ρ Qx fun t ρ0 => (∃ ns xs, t.peek ρ0 = some (.ins C ns xs) ∧ fpos ns m = none) ∧
  a ρ0 Qx fun ts ρ1 => k ρ1 Qx fun us ρ2 => ts.length = n ∧ us.length = q ∧ wFn Wf (t :: mk ts us) ρ2 Qx Q
/-- what __init__ leaves: nothing is handed back, its instance stands -/
def madeT (ts us : List T) (mk : {α : Type} → List α → List α → List α) (ρ : Rho) (Q : T → Rho → Prop) : T → Rho → Prop := fun t os => match os with
  | some s :: or => or.length = (mk ts us).length → t = tN ∧ Q s (clsAll (mk ts us) or ρ)
  | _ => False
def madeX (ts us : List T) (mk : {α : Type} → List α → List α → List α) (ρ : Rho) (Qx : WX) : WX := fun C t os => match os with
  | _ :: or => or.length = (mk ts us).length → Qx C t (clsAll (mk ts us) or ρ)
  | _ => False
def wMake (C : Addr) (n q : Nat) (mk : {α : Type} → List α → List α → List α) (Wf : SpT) (a k : WA) : WE := fun ρ Qx Q => a ρ Qx fun ts ρ1 => k ρ1 Qx fun us ρ2 => ts.length = n ∧ us.length = q ∧
  ∃ ss ρ', opnAll (mk ts us) ρ2 = some (ss, ρ') ∧ Wf (.ins C [] [] :: ss) (madeT ts us mk ρ' Q) (madeX ts us mk ρ' Qx)
/-- values in another order: mk takes those by position and those by name -/
def MkOk (mk : {α : Type} → List α → List α → List α) (n m : Nat) : Prop :=
  ∀ (P : V → T → List Addr → Prop) {us zs : List V} {ts ks : List T} {f g : List Addr}, us.length = n → zs.length = m → Lst P us ts f → Lst P zs ks g → ∃ h, Lst P (mk us zs) (mk ts ks) h ∧ (f ++ g).Perm h
section
variable {K : PySem.W.Frag} {I : Sg} {E : XS} {ta tl tk : TA} {wa wk : WA} {to : TE} {wo : WE} {n m : Nat} {mk : {α : Type} → List α → List α → List α} {Wf : SpT}
theorem mk_pos : MkOk (fun us _ => us) n 0 := fun P us zs ts ks f g _ h h1 h2 => by
  have : zs = [] := List.eq_nil_of_length_eq_zero h
  subst this
  cases h2
  exact ⟨f, h1, by rw [List.append_nil]⟩
theorem mk_app : MkOk (fun us zs => us ++ zs) n m := fun P us zs ts ks f g _ _ h1 h2 => ⟨f ++ g, h1.app h2, .refl _⟩
theorem R.arr {c : Ct} {ρ : Rho} {ts ks tm : List T} {σ : L2.St} {us zs vs : List V} {F : Hp} {W : List Addr} {H : Hp} (hk : MkOk mk n m) (h : R K I c ρ (ks ++ (ts ++ tm)) σ (zs ++ (us ++ vs)) F W H) (l1 : us.length = ts.length) (l2 : zs.length = ks.length) (ln : us.length = n) (lm : zs.length = m) :
    R K I c ρ (mk ts ks ++ tm) σ (mk us zs ++ vs) F W H ∧ (mk us zs).length = (mk ts ks).length := by
  obtain ⟨f1, f2, h1, h2, nd, s⟩ := h.ex
  obtain ⟨g1, g2, p, i1, i2⟩ := h1.cut l2
  obtain ⟨g3, g4, p2, i3, i4⟩ := i2.cut l1
  obtain ⟨hh, i5, p3⟩ := hk _ ln lm i3 i1
  refine ⟨⟨⟨f1, f2, (i5.app i4).perm ?_, h2, nd, s⟩, h.pr⟩, i5.len⟩
  refine List.Perm.symm (p.trans ((p2.append_left g1).trans ?_))
  rw [← List.append_assoc]
  exact (List.perm_append_comm.trans p3).append_right g4
theorem ev_call (hk : MkOk mk n m) (ha : EvA K I E tl wa) (hkw : EvA K I E tk wk) : EvW K I E (tCallG n m mk (spT K I.inv Wf) E tl tk) (wCall n m mk Wf wa wk) := fun c ρ tm σ vs F W H r Qx Qv hx hw Q k =>
  ha c ρ tm σ vs F W H r Qx _ hx hw _ fun ts us ρ1 F1 W1 H1 r1 e1 q1 => hkw c ρ1 (ts ++ tm) σ (us ++ vs) F1 W1 H1 r1 Qx _ hx q1 _ fun ks zs ρ2 F2 W2 H2 r2 e2 ⟨l1, l2, ss, ρ3, ho, hW⟩ => by
    obtain ⟨r3, e3⟩ := R.arr hk r2 e1 e2 (by omega) (by omega)
    exact ⟨by omega, by omega, r3.call e3 hx ho hW k⟩
theorem ev_meth {C : Addr} {m' : Str} (hk : MkOk mk n m) (ho : EvW K I E to wo) (ha : EvA K I E tl wa) (hkw : EvA K I E tk wk) : EvW K I E (tMethG C m' n m mk (spT K I.inv Wf) E to tl tk) (wMeth C m' n m mk Wf wo wa wk) := fun c ρ tm σ vs F W H r Qx Qv hx hw Q k =>
  ho c ρ tm σ vs F W H r Qx _ hx hw _ fun t ρ0 x F0 W0 H0 r0 ⟨⟨ns, xs, hp, hn⟩, q0⟩ => by
    obtain ⟨f, hr, _⟩ := r0.peek hp
    cases hr with
    | ins h1 h0 hA p =>
      rename_i a dx us0 fps
      refine ⟨a, dx, _, rfl, h1, by rw [lookup_zip h0, hn]; rfl, ?_⟩
      refine ha c ρ0 (t :: tm) σ (.ref a :: vs) F0 W0 H0 r0 Qx _ hx q0 _ fun ts us ρ1 F1 W1 H1 r1 e1 q1 => hkw c ρ1 (ts ++ t :: tm) σ (us ++ .ref a :: vs) F1 W1 H1 r1 Qx _ hx q1 _ fun ks zs ρ2 F2 W2 H2 r2 e2 ⟨l1, l2, ss, ρ3, hop, hW⟩ => ?_
      obtain ⟨r3, e3⟩ := R.arr hk r2 e1 e2 (by omega) (by omega)
      exact ⟨by omega, by omega, R.call (ts := t :: mk ts ks) (us := .ref a :: mk us zs) (r3.mid e3) (by rw [List.length_cons, List.length_cons, e3]) hx hop hW k⟩
theorem Step.beside {inv : HO → Prop} {F : Hp} {W : List Addr} {H : Hp} {fp : List Addr} {p : Addr} {o : HO} (w : Hz.Wf inv F W H fp) (hp : H p = none) : Step inv F W H fp F W (L2.upd H p o) fp :=
  (Step.alloc (o := o) w hp).less fun a ha => List.mem_cons_of_mem _ ha
theorem ev_make {C : Addr} (hk : MkOk mk n m) (ha : EvA K I E tl wa) (hkw : EvA K I E tk wk) : EvW K I E (tMakeG C n m mk (spT K I.inv Wf) E tl tk) (wMake C n m mk Wf wa wk) := fun c ρ tm σ vs F W H r Qx Qv hx hw Q k =>
  ha c ρ tm σ vs F W H r Qx _ hx hw _ fun ts us ρ1 F1 W1 H1 r1 e1 q1 => hkw c ρ1 (ts ++ tm) σ (us ++ vs) F1 W1 H1 r1 Qx _ hx q1 _ fun ks zs ρ2 F2 W2 H2 r2 e2 ⟨l1, l2, ss, ρ3, ho, hW⟩ => by
    obtain ⟨r3, e3⟩ := R.arr hk r2 e1 e2 (by omega) (by omega)
    refine ⟨by omega, by omega, fun x dx hx0 hd0 hne => ?_⟩
    -- the new instance under the arguments
    obtain ⟨fN, hN, ndN, wfN, kN⟩ := R.loc (ts := []) (us := []) r3 rfl
    cases hN
    have s1 := Step.beside (o := .own x) wfN hd0
    have hx1 : upd H2 dx (.own x) x = none := by rw [upd_ne (fun e => hne e.symm)]; exact hx0
    have s2 := Step.alloc (o := .ins C dx []) s1.wf hx1
    have r4 := kN (us' := [.ref x]) (ts' := [.ins C [] []]) (s1.trans s2) (List.nodup_cons.mpr ⟨fun z => (nomatch z), .nil⟩) (.one (.of (.ins (ns := []) (vs := []) (by rw [upd_same]; rfl) rfl .nil (.refl _))))
    have r5 := r4
    refine R.callG (ts := .ins C [] [] :: mk ts ks) (us := .ref x :: mk us zs) (ss := .ins C [] [] :: ss) (ρ' := ρ3) r5 (by rw [List.length_cons, List.length_cons, e3]) (by
      show (((T.ins C [] []).opn ρ2).bind fun q => (Hz.opnAll (mk ts ks) q.2).map fun z => (q.1 :: z.1, z.2)) = _
      show (Hz.opnAll (mk ts ks) ρ2).map (fun z => (T.ins C [] [] :: z.1, z.2)) = _
      rw [ho]
      rfl) hW (fun t os v F' W' H' e0 e4 e5 r6 hp => ?_) fun D t os v d F' W' H' e0 e4 e5 r6 hd hp => ?_
    · match os, e4 with
      | some s :: or, e4 =>
        have e6 : or.length = (mk us zs).length := Nat.succ.inj e4
        obtain ⟨et, q⟩ := hp (by rw [e6, e3])
        subst et
        have dv := r6.topDat
        cases dv
        refine ⟨rfl, k _ _ _ _ _ _ (R.closes (R.unmid (ts := backT or (mk us zs)) (us := mk us zs) r6.drop (back_len e6).symm) (R.origAll r3 e3) e3 e6 fun y hy => e5 y (List.mem_cons_of_mem _ hy)) q⟩
      | none :: or, e4 => exact hp.elim
    · match os, e4 with
      | o :: or, e4 =>
        have e6 : or.length = (mk us zs).length := Nat.succ.inj e4
        have q := hp (by rw [e6, e3])
        have e7 : ∃ s, backT (o :: or) (.ref x :: mk us zs) = s :: backT or (mk us zs) := by cases o <;> exact ⟨_, rfl⟩
        obtain ⟨s, e7⟩ := e7
        rw [e7] at r6 e5
        have r7 := R.drop (R.mid (ts := [t]) (us := [v]) r6 rfl)
        exact hx _ _ _ _ _ _ _ _ _ (R.closes (R.unmid (ts := backT or (mk us zs)) (us := mk us zs) r7 (back_len e6).symm) (R.origAll r3 e3) e3 e6 fun y hy => e5 y (List.mem_cons_of_mem _ hy)).only e0 hd q
end
end Hz
/-! Hz10: a def's body keeps its promise by trees; the law's own call. -/
namespace Hz
open PySem L2 PyProof.Rows
section
variable {K : PySem.W.Frag} {F : Hp} {W : List Addr} {H : Hp}
theorem mask_lst {p : List Nat} : ∀ (n k : Nat) {σ : L2.St} {ρ : Rho} {f : List Addr} {vs : List V}, Lst (RepS K F W H) σ ρ f → vs.length = n → (∀ i, i < n → p.contains (k + i) = true → σ[i]? = (vs.map some)[i]?) →
    ∃ g l, Lst (RepS K F W H) (vs.map some) (mask p k n ρ) g ∧ f.Perm (g ++ l)
  | 0, k, σ, ρ, f, vs, h, hl, _ => by
    have e : vs = [] := List.eq_nil_of_length_eq_zero hl
    subst e
    exact ⟨[], f, .nil, .refl _⟩
  | n + 1, k, σ, ρ, f, [], h, hl, _ => by cases hl
  | n + 1, k, [], [], f, v :: vs, h, hl, hp => by
    cases h
    obtain ⟨g, l, h1, h2⟩ := mask_lst (p := p) n (k + 1) (σ := []) (ρ := []) (f := []) (vs := vs) .nil (Nat.succ.inj hl) (fun i hi hc => by
      have := hp (i + 1) (Nat.succ_lt_succ hi) (by rw [show k + (i + 1) = k + 1 + i by omega]; exact hc)
      simpa using this)
    exact ⟨g, l, .cons (f1 := []) .non h1 (.refl _), h2⟩
  | n + 1, k, [], _ :: _, f, v :: vs, h, hl, hp => by cases h
  | n + 1, k, _ :: _, [], f, v :: vs, h, hl, hp => by cases h
  | n + 1, k, y :: σ, x :: ρ, f, v :: vs, h, hl, hp => by
    cases h with
    | cons h1 h2 q =>
      rename_i f1 f2
      obtain ⟨g, l, h3, h4⟩ := mask_lst (p := p) n (k + 1) (vs := vs) h2 (Nat.succ.inj hl) (fun i hi hc => by
        have := hp (i + 1) (Nat.succ_lt_succ hi) (by rw [show k + (i + 1) = k + 1 + i by omega]; exact hc)
        simpa using this)
      show ∃ g l, Lst (RepS K F W H) (some v :: vs.map some) ((if p.contains k then x else none) :: mask p (k + 1) n ρ) g ∧ f.Perm (g ++ l)
      by_cases hc : p.contains k = true
      · have e := hp 0 (Nat.succ_pos _) hc
        have e' : y = some v := by simpa using e
        subst e'
        rw [if_pos hc]
        exact ⟨f1 ++ g, l, .cons h1 h3 (.refl _), q.trans ((h4.append_left f1).trans (by rw [List.append_assoc]))⟩
      · rw [if_neg hc]
        refine ⟨g, f1 ++ l, .cons (f1 := []) .non h3 (.refl _), q.trans ((h4.append_left f1).trans ?_)⟩
        rw [← List.append_assoc, ← List.append_assoc]
        exact List.perm_append_comm.append_right l
theorem start_lst : ∀ {N : List Str} {ts : List T} {vs : List V} {f : List Addr}, Lst (Rep K F W H) vs ts f → Lst (RepS K F W H) (L2.start N vs) (startT N.length ts) f := fun {N ts vs f} h => by
  have e := h.len
  have h1 : ∀ {vs : List V} {ts : List T} {f : List Addr}, Lst (Rep K F W H) vs ts f → Lst (RepS K F W H) (vs.map some) (ts.map some) f := by
    intro vs ts f h
    induction h with
    | nil => exact .nil
    | cons a _ q ih => exact .cons (.som a) ih q
  have h2 : ∀ n : Nat, Lst (RepS K F W H) (List.replicate n none) (List.replicate n none) [] := by
    intro n
    induction n with
    | zero => exact .nil
    | succ n ih => exact .cons (f1 := []) .non ih (.refl _)
  unfold L2.start startT
  rw [← e]
  have := (h1 h).app (h2 (N.length - vs.length))
  rwa [List.append_nil] at this
end
def outO (p : List Nat) (n : Nat) (post : T → Rho → Prop) : WO := ⟨fun ρ => post tN (mask p 0 n ρ), fun t ρ => post t (mask p 0 n ρ), fun _ => False, fun _ => False⟩
def outX (p : List Nat) (n : Nat) (ep : Addr → T → Rho → Prop) : WX := fun C t ρ => ep C t (mask p 0 n ρ)
/-- the body, run at its parameters' trees -/
theorem body_T {K : PySem.W.Frag} {inv : HO → Prop} {W : SpT} {prot : List Nat} {N : List Str} {n : Nat} {E : XK} {t : TS} {ws : WS} {vs : List V} {H : Hp} {Q : VK} (hs : SvW K ⟨inv, prot⟩ (fun _ => E) t ws) (hn : vs.length = n) (hN : n ≤ N.length)
    (hw : ∀ ts post ep, W ts post ep → ts.length = n → ws (outO prot n post) (outX prot n ep) (startT N.length ts)) (h : spT K inv W vs H Q E) : t { nx := fun _ H' => Q .non H', rt := Q } (L2.start N vs) H := by
  obtain ⟨ts, fp, F, Wl, post, ep, hL, nd, wf, hW, kk, kx⟩ := h
  have hl := hL.len
  have st : ∀ i, i < n → (L2.start N vs)[i]? = (vs.map some)[i]? := fun i hi => by
    unfold L2.start
    rw [List.getElem?_append_left (by rw [List.length_map]; omega)]
  have r : R K ⟨inv, prot⟩ ⟨H, F, Wl, fp, L2.start N vs⟩ (startT N.length ts) [] (L2.start N vs) [] F Wl H := ⟨⟨[], fp, .nil, start_lst hL, nd, Step.refl wf⟩, fun _ _ => rfl⟩
  have out : ∀ {t : T} {ρ : Rho} {σ : L2.St} {v : V} {F' : Hp} {W' : List Addr} {H' : Hp}, R K ⟨inv, prot⟩ ⟨H, F, Wl, fp, L2.start N vs⟩ ρ [t] σ [v] F' W' H' → t.real = true →
      ∃ fp', Lst (RepS K F' W' H') (some v :: vs.map some) (some t :: mask prot 0 n ρ) fp' ∧ fp'.Nodup ∧ Step inv F Wl H fp F' W' H' fp' := fun {t ρ σ v F' W' H'} r ht => by
    obtain ⟨f1, f2, h1, h2, nd, s⟩ := r.ex
    obtain ⟨g, l, h3, h4⟩ := mask_lst (p := prot) n 0 h2 hn (fun i hi hc => by
      rw [Nat.zero_add] at hc
      rw [r.pr i (List.contains_iff_mem.mp hc)]
      exact st i hi)
    cases h1 with
    | cons j1 j2 q =>
      cases j2
      rename_i a1
      rw [List.append_nil] at q
      have pm : (f1 ++ f2).Perm ((a1 ++ g) ++ l) := (q.append_right f2).trans ((h4.append_left a1).trans (by rw [List.append_assoc]))
      exact ⟨a1 ++ g, .cons (.som (j1.real ht)) h3 (.refl _), (nodup_of_perm pm nd).sublist (List.sublist_append_left _ _), (s.perm (.refl _) pm).less fun a ha => List.mem_append_left _ ha⟩
  refine hs _ _ [] _ [] F Wl H r (fun _ z => nomatch z) (outO prot n post) (outX prot n ep) _ ?_ ?_ (hw ts post ep hW (by omega))
  · intro C t ρ σ v d F' W' H' r ht hd hp
    obtain ⟨fp', h1, h2, h3⟩ := out r ht
    exact kx _ _ _ _ _ _ _ _ _ h1 h2 h3 hd hp
  · refine ⟨fun ρ σ F' W' H' r hp => ?_, fun t ρ σ v F' W' H' r ht hp => ?_, fun _ _ _ _ _ _ z => z, fun _ _ _ _ _ _ z => z⟩
    · obtain ⟨fp', h1, h2, h3⟩ := out (r.dat (v := .non) (d := .none) .non) rfl
      exact kk _ _ _ _ _ _ _ h1 h2 h3 hp
    · obtain ⟨fp', h1, h2, h3⟩ := out r ht
      exact kk _ _ _ _ _ _ _ h1 h2 h3 hp
end Hz
/-! Hz11: a def of the text and its promise (nothing is being shown around it); the law's call from outside. -/
namespace Hz
open PySem L2 PyProof.Rows
/-- from a def's body to its promise, where no repr is under way -/
theorem fnG_of {CX : CXT} {P : Program} {w : World} {K : PySem.W.Frag} {mg : Str → Option Value} {base : Heap} {k : Nat} {f : Addr} {x qual : Str} {st : Stmt} {fd : FuncData} {N ps : List Str} {sp : Sp} (F : Fun K x qual st f fd) (S : FnScope N ps (defScope st))
    (len : ∀ vs H Q E, sp vs H Q E → vs.length = ps.length)
    (hbody : ∀ (cdv : Value) (A : Around) (outer : List PySem.Env) (s : Shared) (H : Hp) (vs : List V) (Q : VK) (E : XK), Room k (A.deeper (envOfC qual (defScope st) s.heap.objs.size f cdv)) → A.guards = some [] → sp vs H Q E →
      ∃ t, PSs (cxOf CX P w K mg base N qual (defScope st) f cdv A outer s H E) (defBody st) t ∧ t { nx := fun _ H' => Q .non H', rt := Q } (L2.start N vs) H) : FnG P w K mg base CX (k + 1) f fd ps sp := by
  obtain ⟨oc, od, kV, doc, pm, an, cdv, ct, osl, rfl, lk, hcd⟩ := F.ex
  refine ⟨len, fun A outer s H args us vs Q E hr hgd e0 hb r hsp => ?_⟩
  have KX : K.In s.heap := PySem.W.Frag.In.keeps e0.mod.kin fun b o e => (e0.bs b o e).1
  have lim : s.heap.NoLimit := Heap.NoLimit.keeps e0.mod.nolimit fun b o e => (e0.bs b o e).1
  have kinds : ∀ y ∈ ps.zip us, (defScope st).names.lookup y.1 = some .local ∨ ((defScope st).names.lookup y.1 = some .cell ∧ ((cellsFrom (s.heap.objs.size + 1) (defScope st).names []).lookup y.1).isSome = true) := by
    rintro ⟨n, v⟩ hy
    exact (S.par n (List.of_mem_zip hy).1).elim .inl fun q => .inr ⟨q, PySem.W.cellsFrom_some _ _ _ (.inl q)⟩
  apply codeAny_call_function hr.depth (KX _ _ lk) rfl S.co S.gen rfl (PySem.W.codeRec_of KX hcd) (hb _ _ _ _ _)
  apply wpAny_newFunctionEnv_cells S.kind kinds
  intro env he s1 inCall
  subst he
  have room := hr.deeper (envOfC qual (defScope st) s.heap.objs.size f cdv)
  obtain ⟨t, ht, hq⟩ := hbody cdv A outer s H vs Q E room hgd hsp
  have J := inv_start (CX := CX) (w := w) (mg := mg) (base := base) (E := E) S hr.hd e0 (len _ _ _ _ hsp) r inCall
  refine ⟨lim.keeps inCall.toInCall.keep, codeAny_func (wpAny_mono (ht.run [] s1 (L2.start N vs) H _ J hq) (fun fl s' hs => ?_) fun _ _ z => z)⟩
  cases fl with
  | ret u =>
    obtain ⟨v, σ', H', J', rv, q⟩ := hs
    exact ⟨v, H', J'.os, J'.bare, J'.base, J'.hok, rv, q⟩
  | next =>
    obtain ⟨σ', H', J', q⟩ := hs
    exact ⟨.non, H', J'.os, J'.bare, J'.base, J'.hok, rfl, q⟩
  | brk => exact hs.elim fun _ z => z.elim fun _ z => False.elim z.2
  | cont => exact hs.elim fun _ z => z.elim fun _ z => False.elim z.2
/-- THE RULE for a def that lets no error out -/
theorem fn_T {P : Program} {w : World} {K : PySem.W.Frag} {mg : Str → Option Value} {base : Heap} {k : Nat} {f : Addr} {x qual : Str} {st : Stmt} {fd : FuncData} {N ps : List Str} {inv : HO → Prop} {W : SpT} (prot : List Nat) (F : Fun K x qual st f fd) (S : FnScope N ps (defScope st))
    (hlen : ∀ ts post ep, W ts post ep → ts.length = ps.length)
    (hbody : ∀ (cdv : Value) (A : Around) (outer : List PySem.Env) (s : Shared) (H : Hp) (E : XK), Room k (A.deeper (envOfC qual (defScope st) s.heap.objs.size f cdv)) → (A.deeper (envOfC qual (defScope st) s.heap.objs.size f cdv)).guards = some [] →
      ∃ t ws, PSs (cxOf CX0 P w K mg base N qual (defScope st) f cdv A outer s H E).nox (defBody st) t ∧ SvW K ⟨inv, prot⟩ (fun _ => E) t ws ∧
        ∀ ts post ep, W ts post ep → ts.length = ps.length → ws (outO prot ps.length post) (outX prot ps.length ep) (startT N.length ts)) : FnG P w K mg base CX0 (k + 1) f fd ps (spT K inv W) := by
  have len : ∀ vs H Q E, spT K inv W vs H Q E → vs.length = ps.length := fun vs H Q E h => by
    obtain ⟨ts, fp, F, Wl, post, ep, hL, _, _, hW, _⟩ := h
    rw [hL.len]
    exact hlen ts post ep hW
  refine fnG_of F S len fun cdv A outer s H vs Q E hr hg h => ?_
  obtain ⟨t, ws, h1, h2, h3⟩ := hbody cdv A outer s H E hr hg
  have hN : ps.length ≤ N.length := by
    have := congrArg List.length S.pre
    rw [List.length_take] at this
    omega
  exact ⟨t, h1.nox, body_T h2 (len _ _ _ _ h) hN h3 h⟩
/-- .. that may let one out -/
theorem fn_TX {P : Program} {w : World} {K : PySem.W.Frag} {mg : Str → Option Value} {base : Heap} {k : Nat} {f : Addr} {x qual : Str} {st : Stmt} {fd : FuncData} {N ps : List Str} {inv : HO → Prop} {W : SpT} (prot : List Nat) (F : Fun K x qual st f fd) (S : FnScope N ps (defScope st))
    (hlen : ∀ ts post ep, W ts post ep → ts.length = ps.length)
    (hbody : ∀ (cdv : Value) (A : Around) (outer : List PySem.Env) (s : Shared) (H : Hp) (E : XK), Room k (A.deeper (envOfC qual (defScope st) s.heap.objs.size f cdv)) → (A.deeper (envOfC qual (defScope st) s.heap.objs.size f cdv)).guards = some [] →
      ∃ t ws, PSs (cxOf (L2.CX P w) P w K mg base N qual (defScope st) f cdv A outer s H E) (defBody st) t ∧ SvW K ⟨inv, prot⟩ (fun _ => E) t ws ∧
        ∀ ts post ep, W ts post ep → ts.length = ps.length → ws (outO prot ps.length post) (outX prot ps.length ep) (startT N.length ts)) : FnG P w K mg base (L2.CX P w) (k + 1) f fd ps (spT K inv W) := by
  have len : ∀ vs H Q E, spT K inv W vs H Q E → vs.length = ps.length := fun vs H Q E h => by
    obtain ⟨ts, fp, F, Wl, post, ep, hL, _, _, hW, _⟩ := h
    rw [hL.len]
    exact hlen ts post ep hW
  refine fnG_of F S len fun cdv A outer s H vs Q E hr hg h => ?_
  obtain ⟨t, ws, h1, h2, h3⟩ := hbody cdv A outer s H E hr hg
  have hN : ps.length ≤ N.length := by
    have := congrArg List.length S.pre
    rw [List.length_take] at this
    omega
  exact ⟨t, h1, body_T h2 (len _ _ _ _ h) hN h3 h⟩

/-! ### the law's call -/
/-- what a law asks: True of every script of at most n ints -/
def lawW (n : Nat) : SpT := fun ts post _ => ∃ ns : List Int, ts = [.dat (.list (ns.map .int))] ∧ ns.length ≤ n ∧ post (tBo true) [none]
/-- the heap in which nothing but the script is known -/
def onlyH (K : PySem.W.Frag) (a : Addr) (vs : List Value) (ns : List Int) : Hp := fun b => if b = a ∧ (K.lookup a).isSome = false then some (.frz { cls := .type "list", data := .seq vs.toArray } (.lst (ns.map V.int))) else none
theorem onlyH_eq {K : PySem.W.Frag} {a b : Addr} {vs : List Value} {ns : List Int} {u : HO} (h : onlyH K a vs ns b = some u) : b = a ∧ K.lookup a = none ∧ u = .frz { cls := .type "list", data := .seq vs.toArray } (.lst (ns.map V.int)) := by
  unfold onlyH at h
  by_cases q : b = a ∧ (K.lookup a).isSome = false
  · rw [if_pos q] at h
    cases h
    refine ⟨q.1, ?_, rfl⟩
    cases e : K.lookup a with
    | none => rfl
    | some o => rw [e] at q; cases q.2
  · rw [if_neg q] at h
    cases h
theorem dp_ints {K : PySem.W.Frag} {F : Hp} : ∀ ns : List Int, DpAll K F (ns.map V.int) (ns.map .int)
  | [] => .nil
  | n :: ns => .cons (.int n) (dp_ints ns)
theorem lawG_call {P : Program} {w : World} {K : PySem.W.Frag} {mg mb : Str → Option Value} {k n : Nat} {fa a : Addr} {fd : FuncData} {x : Str} {inv : HO → Prop} {s₁ : Shared} {vs : List Value} {ns : List Int}
    (KX : K.In s₁.heap) (hns : s₁.heap.Ns mainGlobals mg) (hb : s₁.heap.Ns builtinsNs mb) (hbb : ∀ x : Str, x ≠ "__name__" → mb x = bootBuiltins x) (hlim : s₁.heap.NoLimit) (hg : s₁.gens = #[])
    (ha : s₁.heap.get? a = some { cls := .type "list", data := .seq vs.toArray }) (hi : IntsAre vs ns) (hl : ns.length ≤ n) (hn : n ≤ sizeLine) (hr : Room k callerA)
    (F : ∀ base : Heap, K.In base → base.Ns mainGlobals mg → FnG P w K mg base CX0 k fa fd [x] (spT K inv (lawW n))) (hbind : ∀ (s : Shared) (u : Value), BindsTo s fd ⟨[u], []⟩ [(x, u)]) :
    codeAny (model P w) callerA (.call (.ref fa) ⟨[.ref a], []⟩) (fun r s' => r = .ok (.ret (.bool true)) ∧ OldK s₁.heap s'.heap ∧ s'.os = s₁.os ∧ AllBare s'.gens) s₁ := by
  have rv := vals_ints hi
  have hlv := hi.length
  generalize hH : onlyH K a vs ns = H
  have at_ : ∀ {b : Addr} {u : HO}, H b = some u → b = a ∧ K.lookup a = none ∧ u = .frz { cls := .type "list", data := .seq vs.toArray } (.lst (ns.map V.int)) := fun h => onlyH_eq (by rw [hH]; exact h)
  have hok : HOk P w H s₁.heap := fun b u e => by
    obtain ⟨rfl, _, rfl⟩ := at_ e
    exact ⟨ha, by rw [List.length_map]; omega, vs, _, rv, ha⟩
  have keep : ∀ {b : Addr} {o : Obj}, s₁.heap.get? b = some o → H b = none → (hidT s₁.heap H).get? b = some o := fun e n => hidT_get e n
  have notKnown : ∀ {b : Addr} {o : Obj}, s₁.heap.get? b = some o → (b = a → K.lookup a = none → o.data = .seq vs.toArray 0 → False) → H b = none := fun {b o} e no => by
    cases q : H b with
    | none => rfl
    | some u =>
      obtain ⟨rfl, h2, _⟩ := at_ q
      refine (no rfl h2 ?_).elim
      rw [ha] at e
      cases e
      rfl
  have ns_ : ∀ {b : Addr} {m : Str → Option Value}, s₁.heap.Ns b m → (hidT s₁.heap H).Ns b m := fun {b m} ⟨o, es, ep, e, d, r⟩ => ⟨o, es, ep, keep e (notKnown e fun _ _ z => by rw [d] at z; cases z), d, r⟩
  have kin : K.In (hidT s₁.heap H) := fun b o e => keep (KX b o e) (notKnown (KX b o e) fun h1 h2 _ => by rw [h1, h2] at e; cases e)
  have hM : Mod K mg (hidT s₁.heap H) := ⟨kin, ns_ hns, ⟨mb, ns_ hb, hbb⟩, hlim.elim fun mc h => ⟨mc, ns_ h.1, h.2⟩⟩
  have env : Env0 P w K mg (hidT s₁.heap H) callerA [] s₁ H := ⟨rfl, hM, fun b o e => of_hidT e, Nat.le_of_eq (hidT_size _ _), trivial, fun b hb => (nomatch hb), hok, .of_eq hg⟩
  have sq : SqL K H a (ns.map V.int) := by
    cases q : K.lookup a with
    | none => exact .inl (.inr ⟨_, by rw [← hH]; unfold onlyH; rw [if_pos ⟨rfl, by rw [q]; rfl⟩]⟩)
    | some o =>
      have e := KX a o q
      rw [ha] at e
      cases e
      exact .inr ⟨_, vs.toArray, _, q, rfl, rfl, rfl, by rw [List.size_toArray, hlv]; omega, by simpa using rv⟩
  have hsp : spT K inv (lawW n) [.ref a] H (fun v _ => v = .bl true) (fun _ _ _ => False) := by
    refine ⟨[.dat (.list (ns.map .int))], [], H, [], fun t _ => t = tBo true, fun _ _ _ => False, .one (.dat (.lst sq (dp_ints ns))), .nil, ⟨.refl _, fun _ z => (nomatch z), fun _ z => (nomatch z)⟩, ⟨ns, rfl, hl, rfl⟩, fun t os v fp' F' W' H' hL _ _ hp => ?_, fun _ _ _ _ _ _ _ _ _ _ _ _ _ z => z⟩
    subst hp
    cases hL with
    | cons h1 _ _ =>
      cases h1 with
      | som h1 =>
        cases h1 with
        | dat h1 => cases h1; rfl
  refine codeAny_mono ((F _ kin (ns_ hns)).run callerA [] s₁ H ⟨[.ref a], []⟩ [.ref a] [.ref a] _ _ hr rfl env (hbind s₁ (.ref a)) (.cons (rref _) .nil) hsp) fun res s' h => ?_
  cases res with
  | error e => exact h.elim
  | ok fl =>
    cases fl with
    | ret u =>
      obtain ⟨v, H', os, bare, un, hok', r', q⟩ := h
      subst q
      cases r'
      refine ⟨rfl, OldK.of_keep fun b o e => ?_, os, bare⟩
      cases q : H b with
      | none => exact un.keep b o e q (fun z => (nomatch z)) (fun z => (nomatch z))
      | some u =>
        obtain ⟨rfl, _, rfl⟩ := at_ q
        obtain ⟨e2, _⟩ := hok' b _ (un.frzs b _ _ q)
        rw [ha] at e
        cases e
        exact e2
    | _ => exact False.elim h
/-- the goal that the head leaves, from the law's promise -/
theorem walkG {l : PySem.W.OpenLaw} {n k : Nat} {q : Program} {loose : List Str} {XP : (Str → Option Value) → Heap → Prop} {YP : World → Heap → Prop} {d : DefRec} {K : Params → PySem.W.Frag} {inv : HO → Prop} {x : Str}
    (hn : l.most = some n) (hn2 : n ≤ sizeLine) (hdf : d.params.defaults = []) (hr : Room k callerA) (hY : ∀ (w : World) (h : Heap), YP w h → (K w.params).In h)
    (F : ∀ (w : World) (mg : Str → Option Value) (fa : Addr) (h : Heap), (K w.params).In h → h.Ns mainGlobals mg → mg d.name = some (.ref fa) → ∃ fd : FuncData, (∀ (s : Shared) (u : Value), BindsTo s fd ⟨[u], []⟩ [(x, u)]) ∧
      ∀ base : Heap, (K w.params).In base → base.Ns mainGlobals mg → FnG l.prog w (K w.params) mg base CX0 k fa fd [x] (spT (K w.params) inv (lawW n))) : PySem.W.WalkO q loose XP YP l.row.toRowW d [] (fun f vs => PySem.call f vs) := by
  apply Att.attach_call hn hdf
  intro w s₀ s₁ mg mb fa o pm cd doc a vs ns G Y ho hd hcd hmg hobj hints hlen hg
  obtain ⟨fd, hb, hF⟩ := F w mg fa _ (hY w _ Y) G.T.g hmg
  exact lawG_call (hY w _ Y) G.T.g G.T.b G.T.builtins G.T.nolimit hg hobj hints hlen hn2 hr hF hb
end Hz
/-! Hz12: what is walked; for loops; list comprehensions. -/
namespace Hz
open PySem L2
/-- what is walked: values kept meanwhile, how many turns, what each gives -/
structure Src where
  tmp : List T
  n : Nat
  it : Nat → T
abbrev WI := Rho → WX → (Src → Rho → Prop) → Prop
def SrcOk (K : PySem.W.Frag) (I : Sg) (J : It) (xs : List V) (src : Src) : Prop :=
  ∀ c ρ tm σ vs F W H, R K I c ρ (src.tmp ++ tm) σ (xs ++ vs) F W H →
    (∀ i, i < src.n → J.go i H ∧ ∀ x H', J.yld i H x H' → ∃ F', R K I c ρ (src.it i :: (src.tmp ++ tm)) σ (x :: (xs ++ vs)) F' W H') ∧ J.stop src.n H
def EvI (K : PySem.W.Frag) (I : Sg) (E : XS) (wi : TI) (ww : WI) : Prop :=
  ∀ c ρ tm σ vs F W H, R K I c ρ tm σ vs F W H → ∀ Qx Qs, XOk K I c E Qx → ww ρ Qx Qs →
    ∀ Rr : It → Hp → Prop, (∀ J src xs ρ' F' W' H', R K I c ρ' (src.tmp ++ tm) σ (xs ++ vs) F' W' H' → xs.length = src.tmp.length → SrcOk K I J xs src → (∀ x ∈ src.tmp, x.noLz = true) → (∀ i, i < src.n → (src.it i).real = true) → Qs src ρ' → Rr J H') → wi σ H Rr
def dropsT : List T → Rho → Rho
  | [], ρ => ρ
  | t :: ts, ρ => dropsT ts (t.drop ρ)
section
variable {K : PySem.W.Frag} {I : Sg} {c : Ct} {ρ ρ' : Rho} {t s : T} {tm ts ss : List T} {σ : L2.St} {v : V} {vs us : List V} {F : Hp} {W : List Addr} {H : Hp}
theorem R.drops : ∀ {ts : List T} {us : List V} {ρ : Rho}, R K I c ρ (ts ++ tm) σ (us ++ vs) F W H → us.length = ts.length → R K I c (dropsT ts ρ) tm σ vs F W H
  | [], [], ρ, h, _ => h
  | [], _ :: _, ρ, h, e => by cases e
  | _ :: _, [], ρ, h, e => by cases e
  | t :: ts, u :: us, ρ, h, e => R.drops (ts := ts) (us := us) (R.dropT h) (Nat.succ.inj e)
end
/-- a walked value is no name any more -/
def settle (t : T) (ρ : Rho) (k : T → Rho → Prop) : Prop := match t with
  | .lz j => ∃ s, (ρ[j]?).join = some s ∧ ∀ u, k (.bor j [] u s) (ρ.set j (some (.cst u)))
  | t => k t ρ
theorem R.settle {K : PySem.W.Frag} {I : Sg} {c : Ct} {ρ : Rho} {t : T} {tm : List T} {σ : L2.St} {v : V} {vs : List V} {F : Hp} {W : List Addr} {H : Hp} {k : T → Rho → Prop} (h : R K I c ρ (t :: tm) σ (v :: vs) F W H) (hk : Hz.settle t ρ k) :
    ∃ t' ρ', R K I c ρ' (t' :: tm) σ (v :: vs) F W H ∧ t'.noLz = true ∧ k t' ρ' := by
  cases t with
  | lz j =>
    obtain ⟨s, hs, hk⟩ := hk
    obtain ⟨u, r, hu⟩ := h.drop.take (join_some hs) (p := []) rfl
    have e1 : σ[j]? = some (some v) := h.orig
    have e2 := hu rfl
    rw [e1] at e2
    cases e2
    obtain ⟨f, hr, _⟩ := h.peek hs
    exact ⟨_, _, r.rebor (j := j) (p := []) (rep_real hr), rfl, hk v⟩
  | _ => exact ⟨_, _, h, rfl, hk⟩
/-- sources -/
def iSeq (lst : Bool) (a : WE) : WI := fun ρ Qx Q => a ρ Qx fun t ρ1 => settle t ρ1 fun t' ρ2 => ∃ s ts, t'.peek ρ2 = some s ∧ s.isL = lst ∧ s.items = some ts ∧ ts.all T.copy = true ∧ Q ⟨[t'], ts.length, fun i => ts.getD i tN⟩ ρ2
def iR1 (a : WE) : WI := fun ρ Qx Q => a ρ Qx fun t ρ1 => ∃ n, t = tI n ∧ n ≤ 1000000 ∧ -1000000 ≤ n ∧ Q ⟨[], n.toNat, fun i => tI (0 + i)⟩ ρ1
def iR2 (a b : WE) : WI := fun ρ Qx Q => a ρ Qx fun t ρ1 => b ρ1 Qx fun u ρ2 => ∃ lo hi, t = tI lo ∧ u = tI hi ∧ (-1000000 ≤ lo ∧ lo ≤ 1000000) ∧ (-1000000 ≤ hi ∧ hi ≤ 1000000) ∧ Q ⟨[], (hi - lo).toNat, fun i => tI (lo + i)⟩ ρ2
def iEn (a : WE) : WI := fun ρ Qx Q => a ρ Qx fun t ρ1 => settle t ρ1 fun t' ρ2 => ∃ s ts ds, t'.peek ρ2 = some s ∧ s.isL = true ∧ s.items = some ts ∧ ts.all T.copy = true ∧ T.pys ts = some ds ∧ Q ⟨[t'], ts.length, fun i => .dat (.tuple [.int i, ds.getD i .none])⟩ ρ2
def iZp (a b : WE) : WI := fun ρ Qx Q => a ρ Qx fun ta ρ1 => b ρ1 Qx fun tb ρ2 => ∃ s1 s2 t1 t2 d1 d2, ta.noLz = true ∧ tb.noLz = true ∧ ta.peek ρ2 = some s1 ∧ tb.peek ρ2 = some s2 ∧ s1.isL = true ∧ s2.isL = true ∧ s1.items = some t1 ∧ s2.items = some t2 ∧ t1.all T.copy = true ∧ t2.all T.copy = true ∧ T.pys t1 = some d1 ∧ T.pys t2 = some d2 ∧
  Q ⟨[tb, ta], min t1.length t2.length, fun i => .dat (.tuple [d1.getD i .none, d2.getD i .none])⟩ ρ2
section
variable {K : PySem.W.Frag} {I : Sg} {E : XS} {ta tb tl : TE} {wa wb : WE}
theorem getD_of {α : Type} {xs : List α} {i : Nat} {x d : α} (h : xs[i]? = some x) : xs.getD i d = x := by rw [List.getD_eq_getElem?_getD, h]; rfl
theorem peek_noLz {t s : T} {ρ : Rho} (h : t.noLz = true) (hp : t.peek ρ = some s) (ρ' : Rho) : t.peek ρ' = some s := by cases t <;> first | exact hp | cases h
theorem copy_real {t : T} (h : t.copy = true) : t.real = true := by cases t <;> first | rfl | cases h
/-- what a sequence that is kept says at each turn -/
theorem seq_turn {c : Ct} {ρ : Rho} {t s : T} {tm ts : List T} {σ : L2.St} {v : V} {vs : List V} {F : Hp} {W : List Addr} {H : Hp} (h : R K I c ρ (t :: tm) σ (v :: vs) F W H) (hp : t.peek ρ = some s) (hi : s.items = some ts) (hc : ts.all T.copy = true) :
    ∃ a us, v = .ref a ∧ us.length = ts.length ∧ (s.isL = true → SqL K H a us) ∧ (s.isL = false → SqT K H a us) ∧ ∀ (i : Nat) (u : V), us[i]? = some u → ∀ k, ts[i]? = some k → Rep K F W H u k [] := by
  obtain ⟨f, hr, _⟩ := h.peek hp
  obtain ⟨a, us, g, rfl, hA, _, hL, hT, _⟩ := rep_seq hr h.sub hi
  refine ⟨a, us, rfl, repA_len hA, hL, hT, fun i u hu k hk => ?_⟩
  obtain ⟨u', f', e1, e2⟩ := repA_at (repA_copy (F' := F) (W' := W) (H' := H) (.refl _) (fun _ z => z) hA hc) hk
  rw [hu] at e1
  cases e1
  exact rep_copy e2 (List.all_eq_true.mp hc k (List.mem_of_getElem? hk)) (.refl _) fun _ z => z
theorem ei_list (ha : EvW K I E tl wa) : EvI K I E (iList K tl) (iSeq true wa) := fun c ρ tm σ vs F W H r Qx Qs hx hw Rr k =>
  ha c ρ tm σ vs F W H r Qx _ hx hw _ fun t ρ1 v F1 W1 H1 r1 q1 => by
    obtain ⟨t', ρ2, r2, hz, s, ts, hp, hL, hi, hc, q⟩ := r1.settle q1
    obtain ⟨a, us, rfl, hl, h1, _, _⟩ := seq_turn r2 hp hi hc
    refine ⟨a, rfl, ⟨us, h1 hL⟩, k (Itl K a) ⟨[t'], ts.length, fun i => ts.getD i tN⟩ [.ref a] ρ2 F1 W1 H1 r2 rfl ?_ ?_ ?_ q⟩
    · intro c ρ tm σ vs F W H r
      obtain ⟨a', us', e, hl', h1', _, hat⟩ := seq_turn (tm := tm) (vs := vs) r (peek_noLz hz hp ρ) hi hc
      cases e
      refine ⟨fun i hi' => ?_, us', h1' hL, Nat.le_of_eq hl'⟩
      have hlt : i < us'.length := Nat.lt_of_lt_of_eq hi' hl'.symm
      refine ⟨⟨us', us'[i], h1' hL, List.getElem?_eq_getElem hlt⟩, fun x H' y => ?_⟩
      obtain ⟨e1, e2⟩ := y
      subst e1
      have hx := e2 us' (h1' hL)
      have hk : ts[i]? = some (ts[i]'(hi')) := List.getElem?_eq_getElem hi'
      refine ⟨F, ?_⟩
      show R K I c ρ (ts.getD i tN :: ([t'] ++ tm)) σ (x :: ([.ref a] ++ vs)) F W H'
      rw [getD_of hk]
      exact R.dup r (hat i x hx _ hk) (List.all_eq_true.mp hc _ (List.mem_of_getElem? hk))
    · intro x hx
      cases List.mem_singleton.mp hx
      exact hz
    · intro i hi'
      have hk : ts[i]? = some (ts[i]'(hi')) := List.getElem?_eq_getElem hi'
      show (ts.getD i tN).real = true
      rw [getD_of hk]
      exact copy_real (List.all_eq_true.mp hc _ (List.mem_of_getElem? hk))
theorem ei_tup (ha : EvW K I E tl wa) : EvI K I E (iTup K tl) (iSeq false wa) := fun c ρ tm σ vs F W H r Qx Qs hx hw Rr k =>
  ha c ρ tm σ vs F W H r Qx _ hx hw _ fun t ρ1 v F1 W1 H1 r1 q1 => by
    obtain ⟨t', ρ2, r2, hz, s, ts, hp, hL, hi, hc, q⟩ := r1.settle q1
    obtain ⟨a, us, rfl, hl, _, h1, _⟩ := seq_turn r2 hp hi hc
    refine ⟨a, rfl, ⟨us, h1 hL⟩, k (Itt K a) ⟨[t'], ts.length, fun i => ts.getD i tN⟩ [.ref a] ρ2 F1 W1 H1 r2 rfl ?_ ?_ ?_ q⟩
    · intro c ρ tm σ vs F W H r
      obtain ⟨a', us', e, hl', _, h1', hat⟩ := seq_turn (tm := tm) (vs := vs) r (peek_noLz hz hp ρ) hi hc
      cases e
      refine ⟨fun i hi' => ?_, us', h1' hL, Nat.le_of_eq hl'⟩
      have hlt : i < us'.length := Nat.lt_of_lt_of_eq hi' hl'.symm
      refine ⟨⟨us', us'[i], h1' hL, List.getElem?_eq_getElem hlt⟩, fun x H' y => ?_⟩
      obtain ⟨e1, e2⟩ := y
      subst e1
      have hx := e2 us' (h1' hL)
      have hk : ts[i]? = some (ts[i]'(hi')) := List.getElem?_eq_getElem hi'
      refine ⟨F, ?_⟩
      show R K I c ρ (ts.getD i tN :: ([t'] ++ tm)) σ (x :: ([.ref a] ++ vs)) F W H'
      rw [getD_of hk]
      exact R.dup r (hat i x hx _ hk) (List.all_eq_true.mp hc _ (List.mem_of_getElem? hk))
    · intro x hx
      cases List.mem_singleton.mp hx
      exact hz
    · intro i hi'
      have hk : ts[i]? = some (ts[i]'(hi')) := List.getElem?_eq_getElem hi'
      show (ts.getD i tN).real = true
      rw [getD_of hk]
      exact copy_real (List.all_eq_true.mp hc _ (List.mem_of_getElem? hk))
theorem big62 : (1000000 : Int) < 2 ^ 62 := by decide
theorem ei_range1 (ha : EvW K I E ta wa) : EvI K I E (iRng1 (tCons ta tNil)) (iR1 wa) := fun c ρ tm σ vs F W H r Qx Qs hx hw Rr k =>
  ha c ρ tm σ vs F W H r Qx _ hx hw _ fun t ρ1 v F1 W1 H1 r1 ⟨n, e, h1, h2, q⟩ => by
    subst e
    have dv := r1.topDat
    cases dv
    have hb := big62
    refine ⟨n, rfl, by omega, by omega, k (Itr 0 n.toNat) ⟨[], n.toNat, fun i => tI (0 + i)⟩ [] ρ1 F1 W1 H1 r1.drop rfl ?_ (fun _ z => (nomatch z)) (fun _ _ => rfl) q⟩
    intro c ρ tm σ vs F W H r
    exact ⟨fun i hi => ⟨hi, fun x H' ⟨e1, e2⟩ => by
      subst e1; subst e2
      exact ⟨F, r.dat (.int _)⟩⟩, Nat.le_refl _⟩
theorem ei_range2 (ha : EvW K I E ta wa) (hb : EvW K I E tb wb) : EvI K I E (iRng2 (tCons ta (tCons tb tNil))) (iR2 wa wb) := fun c ρ tm σ vs F W H r Qx Qs hx hw Rr k =>
  ha c ρ tm σ vs F W H r Qx _ hx hw _ fun t ρ1 v F1 W1 H1 r1 q1 => hb c ρ1 (t :: tm) σ (v :: vs) F1 W1 H1 r1 Qx _ hx q1 _ fun u ρ2 w F2 W2 H2 r2 ⟨lo, hi, e1, e2, ⟨l1, l2⟩, ⟨l3, l4⟩, q⟩ => by
    subst e1; subst e2
    have d1 := r2.topDat
    have d2 := r2.drop.topDat
    cases d1
    cases d2
    have hb := big62
    refine ⟨lo, hi, rfl, ⟨by omega, by omega, by omega, by omega⟩, k (Itr lo (hi - lo).toNat) ⟨[], (hi - lo).toNat, fun i => tI (lo + i)⟩ [] ρ2 F2 W2 H2 r2.drop.drop rfl ?_ (fun _ z => (nomatch z)) (fun _ _ => rfl) q⟩
    intro c ρ tm σ vs F W H r
    exact ⟨fun i hi => ⟨hi, fun x H' ⟨e1, e2⟩ => by
      subst e1; subst e2
      exact ⟨F, r.dat (.int _)⟩⟩, Nat.le_refl _⟩
theorem pys_at : ∀ {ts : List T} {ds : List PyData} {i : Nat} {k : T}, T.pys ts = some ds → ts[i]? = some k → ∃ d, ds[i]? = some d ∧ k.py = some d
  | [], ds, i, k, h, hk => by cases hk
  | t :: ts, ds, i, k, h, hk => by
    have h' : (match t.py, T.pys ts with | some d, some ds => some (d :: ds) | _, _ => none) = some ds := h
    cases e1 : t.py with
    | none => rw [e1] at h'; cases h'
    | some d =>
      cases e2 : T.pys ts with
      | none => rw [e1, e2] at h'; cases h'
      | some dr =>
        rw [e1, e2] at h'
        cases h'
        cases i with
        | zero => cases hk; exact ⟨d, rfl, e1⟩
        | succ i => exact pys_at (i := i) e2 hk
/-- a new pair of data -/
theorem R.newPair {c : Ct} {ρ : Rho} {tm : List T} {σ : L2.St} {vs : List V} {F : Hp} {W : List Addr} {H : Hp} {p : Addr} {x y : V} {d e : PyData} (h : R K I c ρ tm σ vs F W H) (hx : Rep K F W H x (.dat d) []) (hy : Rep K F W H y (.dat e) []) (hp : H p = none) :
    ∃ F', R K I c ρ (.dat (.tuple [d, e]) :: tm) σ (.ref p :: vs) F' W (upd H p (.tup [x, y])) := by
  obtain ⟨F3, _, r3⟩ := (h.newTupC (ts := [.dat d, .dat e]) (us := [x, y]) (.cons hx (.cons hy .nil (.refl _)) (.refl _)) hp).freeze (d := .tuple [d, e]) rfl
  exact ⟨F3, r3⟩
theorem ei_enum (ha : EvW K I E ta wa) : EvI K I E (iEnum K (tCons ta tNil)) (iEn wa) := fun c ρ tm σ vs F W H r Qx Qs hx hw Rr k =>
  ha c ρ tm σ vs F W H r Qx _ hx hw _ fun t ρ1 v F1 W1 H1 r1 q1 => by
    obtain ⟨t', ρ2, r2, hz, s, ts, ds, hp, hL, hi, hc, hd, q⟩ := r1.settle q1
    obtain ⟨a, us, rfl, hl, h1, _, _⟩ := seq_turn r2 hp hi hc
    refine ⟨a, us, rfl, h1 hL, k (Ite K a) ⟨[t'], ts.length, fun i => .dat (.tuple [.int i, ds.getD i .none])⟩ [.ref a] ρ2 F1 W1 H1 r2 rfl ?_ ?_ (fun _ _ => rfl) q⟩
    · intro c ρ tm σ vs F W H r
      obtain ⟨a', us', e, hl', h1', _, hat⟩ := seq_turn (tm := tm) (vs := vs) r (peek_noLz hz hp ρ) hi hc
      cases e
      refine ⟨fun i hi' => ?_, us', h1' hL, Nat.le_of_eq hl'⟩
      have hlt : i < us'.length := Nat.lt_of_lt_of_eq hi' hl'.symm
      refine ⟨⟨us', us'[i], h1' hL, List.getElem?_eq_getElem hlt⟩, fun x H' y => ?_⟩
      obtain ⟨P, x0, e1, e2, e3, e4⟩ := y
      subst e1; subst e3
      have hx := e4 us' (h1' hL)
      have hk : ts[i]? = some (ts[i]'(hi')) := List.getElem?_eq_getElem hi'
      obtain ⟨d, hd1, hd2⟩ := pys_at hd hk
      have hrep := hat i x0 hx _ hk
      have hrd : Rep K F W H x0 (.dat d) [] := .dat (rep_py (.refl _) _ _ [] d hrep (fun _ z => (nomatch z)) hd2)
      show ∃ F', R K I c ρ (T.dat (.tuple [.int i, ds.getD i .none]) :: ([t'] ++ tm)) σ _ F' W _
      rw [getD_of hd1]
      exact R.newPair r (.dat (.int _)) hrd e2
    · intro x hx
      cases List.mem_singleton.mp hx
      exact hz
theorem ei_zip (ha : EvW K I E ta wa) (hb : EvW K I E tb wb) : EvI K I E (iZip K (tCons ta (tCons tb tNil))) (iZp wa wb) := fun c ρ tm σ vs F W H r Qx Qs hx hw Rr k =>
  ha c ρ tm σ vs F W H r Qx _ hx hw _ fun t ρ1 v F1 W1 H1 r1 q1 => hb c ρ1 (t :: tm) σ (v :: vs) F1 W1 H1 r1 Qx _ hx q1 _ fun u ρ2 w F2 W2 H2 r2 ⟨s1, s2, t1, t2, d1, d2, z1, z2, p1, p2, l1, l2, i1, i2, c1, c2, y1, y2, q⟩ => by
    obtain ⟨b, ws, rfl, _, g1, _, _⟩ := seq_turn r2 p2 i2 c2
    obtain ⟨a, us, rfl, _, h1, _, _⟩ := seq_turn r2.drop p1 i1 c1
    refine ⟨a, b, us, ws, rfl, h1 l1, g1 l2, k (Itz K a b) ⟨[u, t], min t1.length t2.length, fun i => .dat (.tuple [d1.getD i .none, d2.getD i .none])⟩ [.ref b, .ref a] ρ2 F2 W2 H2 r2 rfl ?_ ?_ (fun _ _ => rfl) q⟩
    · intro c ρ tm σ vs F W H r
      obtain ⟨b', ws', e, hlb, g1', _, hatb⟩ := seq_turn (tm := t :: tm) (vs := .ref a :: vs) r (peek_noLz z2 p2 ρ) i2 c2
      cases e
      obtain ⟨a', us', e, hla, h1', _, hata⟩ := seq_turn (tm := tm) (vs := vs) (R.drop (tm := t :: tm) (vs := .ref a :: vs) r) (peek_noLz z1 p1 ρ) i1 c1
      cases e
      refine ⟨fun i hi' => ?_, us', ws', h1' l1, g1' l2, by show us'.length ≤ min t1.length t2.length ∨ ws'.length ≤ min t1.length t2.length; omega⟩
      have hi2 : i < min t1.length t2.length := hi'
      have hlt : i < us'.length := by omega
      have hlt2 : i < ws'.length := by omega
      refine ⟨⟨us', ws', us'[i], ws'[i], h1' l1, g1' l2, List.getElem?_eq_getElem hlt, List.getElem?_eq_getElem hlt2⟩, fun x H' y => ?_⟩
      obtain ⟨P, x0, x1, e1, e2, e3, e4, e5⟩ := y
      subst e1; subst e3
      have hk1 : t1[i]? = some (t1[i]'(by omega)) := List.getElem?_eq_getElem (by omega)
      have hk2 : t2[i]? = some (t2[i]'(by omega)) := List.getElem?_eq_getElem (by omega)
      obtain ⟨e, he1, he2⟩ := pys_at y1 hk1
      obtain ⟨e', he3, he4⟩ := pys_at y2 hk2
      have r1 : Rep K F W H x0 (.dat e) [] := .dat (rep_py (.refl _) _ _ [] e (hata i x0 (e4 us' (h1' l1)) _ hk1) (fun _ z => (nomatch z)) he2)
      have r2 : Rep K F W H x1 (.dat e') [] := .dat (rep_py (.refl _) _ _ [] e' (hatb i x1 (e5 ws' (g1' l2)) _ hk2) (fun _ z => (nomatch z)) he4)
      show ∃ F', R K I c ρ (T.dat (.tuple [d1.getD i .none, d2.getD i .none]) :: ([u, t] ++ tm)) σ _ F' W _
      rw [getD_of he1, getD_of he3]
      exact R.newPair r r1 r2 e2
    · intro x hx
      rcases List.mem_cons.mp hx with rfl | hx
      · exact z2
      · cases List.mem_singleton.mp hx
        exact z1
end

/-! ### for -/
def sFor (wi : WI) (g : WG) (b : WS) : WS := fun O Qx ρ => wi ρ Qx fun src ρ1 => Inv1 fun Iv : Nat → Rho → Prop => Iv 0 ρ1 ∧
  (∀ i ρ2, i < src.n → Iv i ρ2 → g (src.it i) ρ2 Qx fun ρ3 => b ⟨Iv (i + 1), fun t ρ4 => O.rt t (dropsT src.tmp ρ4), fun ρ4 => O.nx (dropsT src.tmp ρ4), Iv (i + 1)⟩ Qx ρ3) ∧
  ∀ ρ2, Iv src.n ρ2 → O.nx (dropsT src.tmp ρ2)
section
variable {K : PySem.W.Frag} {I : Sg} {E : XS}
theorem sv_for {as : List Nat} {wi : TI} {ww : WI} {g : TG} {wg : WG} {tb : TS} {wb : WS} (hi : EvI K I E wi ww) (hg : GvW K I E as g wg) (hb : SvW K I E tb wb) : SvW K I E (tFor wi g tb) (sFor ww wg wb) := fun c ρ tm σ vs F W H r hz O Qx D hx d q =>
  hi c ρ tm σ vs F W H r Qx _ hx q _ fun J src xs ρ1 F1 W1 H1 r1 hl hs hn hr ⟨Iv, i0, it, iE⟩ => by
    refine ⟨fun i m σ H => m = src.n - i ∧ i ≤ src.n ∧ ∃ ρ F W, R K I c ρ (src.tmp ++ tm) σ (xs ++ vs) F W H ∧ Iv i ρ, ⟨src.n, by omega, Nat.zero_le _, ρ1, F1, W1, r1, i0⟩, ?_⟩
    rintro i m σ2 H2 ⟨rfl, hle, ρ2, F2, W2, r2, iv⟩
    have hz' : ∀ x ∈ src.tmp ++ tm, x.noLz = true := fun x hx => (List.mem_append.mp hx).elim (hn x) (hz x)
    obtain ⟨turns, stop⟩ := hs c ρ2 tm σ2 vs F2 W2 H2 r2
    by_cases hlt : i < src.n
    · obtain ⟨go, yld⟩ := turns i hlt
      refine .inr ⟨go, fun σ H => ∃ ρ F W, R K I c ρ (src.tmp ++ tm) σ (xs ++ vs) F W H ∧ Iv (i + 1) ρ, fun σ' H' h => ⟨src.n - (i + 1), by omega, rfl, hlt, h⟩, fun x H' y => ?_⟩
      obtain ⟨F3, r3⟩ := yld x H' y
      refine hg c ρ2 (src.it i) (src.tmp ++ tm) σ2 x (xs ++ vs) F3 W2 H' r3 (hr i hlt) hz' Qx _ _ hx (fun ρ4 σ4 F4 W4 H4 r4 _ q4 => ?_) (it i ρ2 hlt iv)
      refine hb c ρ4 (src.tmp ++ tm) σ4 (xs ++ vs) F4 W4 H4 r4 hz' _ Qx _ hx ⟨?_, ?_, ?_, ?_⟩ q4
      · exact fun ρ σ F W H r q => ⟨ρ, F, W, r, q⟩
      · exact fun t ρ σ v F W H r ht q => d.rt _ _ _ _ _ _ _ (R.drops (R.unmid r hl) hl) ht q
      · exact fun ρ σ F W H r q => d.nx _ _ _ _ _ (R.drops r hl) q
      · exact fun ρ σ F W H r q => ⟨ρ, F, W, r, q⟩
    · have e : i = src.n := by omega
      subst e
      exact .inl ⟨stop, d.nx _ _ _ _ _ (R.drops r2 hl) (iE ρ2 iv)⟩
end
end Hz
/-! Hz13: list comprehensions by trees. -/
namespace Hz
open PySem L2
def wipeR (ρ : Rho) : List Nat → Rho
  | [] => ρ
  | v :: vs => (wipeR ρ vs).set v none
section
variable {K : PySem.W.Frag} {I : Sg} {c : Ct} {ρ ρ' : Rho} {t s : T} {tm ts ss : List T} {σ σ2 : L2.St} {v : V} {vs us : List V} {F : Hp} {W : List Addr} {H : Hp}
theorem R.unset {i : Nat} (h : R K I c ρ tm σ vs F W H) (hz : ∀ x ∈ tm, x.noLz = true) (hi : i ∉ I.prot) : R K I c (ρ.set i none) tm (σ.set i none) vs F W H := by
  obtain ⟨f1, f2, h1, h2, nd, st⟩ := h.ex
  have pr' : ∀ k ∈ I.prot, (σ.set i none)[k]? = c.σ0[k]? := fun k hk => by
    rw [List.getElem?_set_ne (fun e => hi (by rw [e]; exact hk))]
    exact h.pr k hk
  have sig : ∀ {xs : List V} {ys : List T} {f : List Addr}, Lst (RepT K F W H σ) xs ys f → (∀ x ∈ ys, x.noLz = true) → Lst (RepT K F W H (σ.set i none)) xs ys f := by
    intro xs ys f hh
    induction hh with
    | nil => intro _; exact .nil
    | cons k1 _ q ih => intro hn; exact .cons (k1.sig (hn _ List.mem_cons_self)) (ih fun x hx => hn x (List.mem_cons_of_mem _ hx)) q
  cases hρ : ρ[i]? with
  | none =>
    have hl := h2.len
    have hi' : ρ.length ≤ i := List.getElem?_eq_none_iff.mp hρ
    rw [List.set_eq_of_length_le hi', List.set_eq_of_length_le (by omega)]
    exact h
  | some y =>
    obtain ⟨x, g1, g2, e1, e2, q, k⟩ := h2.focus hρ
    have r2 := k (RepS K F W H) none none [] (fun x y g hp hs => hp) .non
    have sl : List.Sublist (f1 ++ ([] ++ g2)) (f1 ++ (g1 ++ g2)) := (List.sublist_append_right g1 g2).append_left f1
    have pm := q.append_left f1
    exact ⟨⟨f1, _, sig h1 hz, r2, (nodup_of_perm pm nd).sublist sl, (st.perm (.refl _) pm).less fun a ha => sl.subset ha⟩, pr'⟩
theorem R.wipe {wv : List Nat} (h : R K I c ρ tm σ vs F W H) (hz : ∀ x ∈ tm, x.noLz = true) (hi : ∀ i ∈ wv, i ∉ I.prot) : R K I c (wipeR ρ wv) tm (L2.wipe σ wv) vs F W H := by
  induction wv with
  | nil => exact h
  | cons v wv ih => exact (ih fun i hi' => hi i (List.mem_cons_of_mem _ hi')).unset hz (hi v List.mem_cons_self)
theorem wipeR_none : ∀ {wv : List Nat} {ρ : Rho} {i : Nat}, i ∈ wv → ((wipeR ρ wv)[i]?).join = none
  | v :: wv, ρ, i, h => by
    unfold wipeR
    by_cases e : v = i
    · subst e
      rw [List.getElem?_set]
      by_cases hl : v < (wipeR ρ wv).length
      · rw [if_pos rfl, if_pos hl]; rfl
      · rw [if_pos rfl, if_neg hl]; rfl
    · rw [List.getElem?_set_ne e]
      rcases List.mem_cons.mp h with h | h
      · exact absurd h.symm e
      · exact wipeR_none h
theorem wipe_at : ∀ {wv : List Nat} {σ : L2.St} {i : Nat}, (L2.wipe σ wv)[i]? = if i ∈ wv then (if i < σ.length then some none else none) else σ[i]?
  | [], σ, i => by simp [L2.wipe]
  | v :: wv, σ, i => by
    unfold L2.wipe
    by_cases e : v = i
    · subst e
      rw [List.getElem?_set, if_pos rfl, wipe_length]
      simp
    · rw [List.getElem?_set_ne e, wipe_at]
      by_cases h : i ∈ wv
      · rw [if_pos h, if_pos (List.mem_cons_of_mem _ h)]
      · rw [if_neg h, if_neg (fun z => (List.mem_cons.mp z).elim (fun q => e q.symm) h)]
theorem wipe_same {wv as : List Nat} (h : SameBut (L2.wipe σ wv) σ2 as) (hs : ∀ i ∈ as, i ∈ wv) : L2.wipe σ2 wv = L2.wipe σ wv := by
  apply List.ext_getElem?
  intro i
  rw [wipe_at, wipe_at]
  have hl : σ2.length = σ.length := by rw [h.1, wipe_length]
  by_cases e : i ∈ wv
  · rw [if_pos e, if_pos e, hl]
  · rw [if_neg e, if_neg e, h.2 i (fun z => e (hs i z)), wipe_at, if_neg e]
/-- the block's names are the frame's again -/
theorem lst_ext {α β : Type} {P : α → β → List Addr → Prop} : ∀ {xs zs : List α} {ys : List β} {f : List Addr}, Lst P xs ys f → zs.length = xs.length → (∀ (i : Nat) (x : α) (y : β) (z : α) (g : List Addr), xs[i]? = some x → ys[i]? = some y → zs[i]? = some z → P x y g → P z y g) → Lst P zs ys f
  | [], [], _, _, .nil, _, _ => .nil
  | [], _ :: _, _, _, _, e, _ => by cases e
  | _ :: _, [], _, _, _, e, _ => by cases e
  | x :: xs, z :: zs, y :: ys, f, .cons h1 h2 p, e, k => .cons (k 0 x y z _ rfl rfl rfl h1) (lst_ext h2 (Nat.succ.inj e) fun i x y z g a b d hp => k (i + 1) x y z g a b d hp) p
theorem R.unwipe {wv : List Nat} (h : R K I c ρ tm (L2.wipe σ wv) vs F W H) (hz : ∀ x ∈ tm, x.noLz = true) (hi : ∀ i ∈ wv, i ∉ I.prot) (hn : ∀ i ∈ wv, (ρ[i]?).join = none) : R K I c ρ tm σ vs F W H := by
  obtain ⟨f1, f2, h1, h2, nd, st⟩ := h.ex
  have sig : ∀ {xs : List V} {ys : List T} {f : List Addr}, Lst (RepT K F W H (L2.wipe σ wv)) xs ys f → (∀ x ∈ ys, x.noLz = true) → Lst (RepT K F W H σ) xs ys f := by
    intro xs ys f hh
    induction hh with
    | nil => intro _; exact .nil
    | cons k1 _ q ih => intro hn; exact .cons (k1.sig (hn _ List.mem_cons_self)) (ih fun x hx => hn x (List.mem_cons_of_mem _ hx)) q
  refine ⟨⟨f1, f2, sig h1 hz, lst_ext h2 (wipe_length σ wv).symm fun i x y z g hx hy hz' hp => ?_, nd, st⟩, fun i hi' => ?_⟩
  · by_cases e : i ∈ wv
    · have := hn i e
      rw [hy] at this
      have hy0 : y = none := this
      subst hy0
      cases hp
      exact .non
    · rw [wipe_at, if_neg e, hz'] at hx
      cases hx
      exact hp
  · have := h.pr i hi'
    rw [wipe_at, if_neg (fun e => hi i e hi')] at this
    exact this
end

def wLc (wi : WI) (g : WG) (tt : WT) (te : WE) (wv : List Nat) : WE := fun ρ Qx Q => wi ρ Qx fun src ρ1 => Inv1 fun Iv : Nat → List T → Rho → Prop => Iv 0 [] (wipeR ρ1 wv) ∧
  (∀ i acc ρ2, i < src.n → Iv i acc ρ2 → g (src.it i) ρ2 Qx fun ρ3 => tt ρ3 Qx fun b ρ4 => if b = true then te ρ4 Qx fun t ρ5 => ∃ s ρ6, t.opn ρ5 = some (s, ρ6) ∧ acc.length < 1000000 ∧ Iv (i + 1) (acc ++ [s]) (wipeR ρ6 wv) else Iv (i + 1) acc (wipeR ρ4 wv)) ∧
  ∀ acc ρ2, Iv src.n acc ρ2 → Q (.lst acc) (dropsT src.tmp ρ2)
def bYes : WT := fun ρ _ Q => Q true ρ
section
variable {K : PySem.W.Frag} {I : Sg} {E : XS}
theorem et_yes : EvT K I E tYes bYes := fun c ρ tm σ vs F W H r Qx Qv hx hw Q k => k _ _ _ _ _ r hw
theorem R.newEmpty {c : Ct} {ρ : Rho} {tm : List T} {σ : L2.St} {vs : List V} {F : Hp} {W : List Addr} {H : Hp} {p : Addr} (h : R K I c ρ tm σ vs F W H) (hp : H p = none) : R K I c ρ (.lst [] :: tm) σ (.ref p :: vs) F W (upd H p (.lst [])) :=
  h.newLstC (ts := []) (us := []) .nil hp
/-- the value on top goes behind the list under it -/
theorem R.push {c : Ct} {ρ : Rho} {s : T} {ts tm : List T} {σ : L2.St} {x y : V} {vs : List V} {F : Hp} {W : List Addr} {H : Hp} (h : R K I c ρ (s :: .lst ts :: tm) σ (y :: x :: vs) F W H) (hs : s.real = true) :
    ∃ a us, x = .ref a ∧ H a = some (.lst us) ∧ us.length = ts.length ∧ R K I c ρ (.lst (ts ++ [s]) :: tm) σ (x :: vs) F W (upd H a (.lst (us ++ [y]))) := by
  have h' := R.mid (ts := [s]) (us := [y]) h rfl
  obtain ⟨a, us, e, hH, hl, hm⟩ := R.modLst (cs := [s]) (ws := [y]) h' rfl (by rw [List.all_cons, hs]; rfl)
  subst e
  exact ⟨a, us, rfl, hH, hl, hm (us' := us ++ [y]) (rv := []) (ts' := ts ++ [s]) (rs := []) fun P f g h1 h2 => ⟨f ++ g, [], [], h1.app h2, .nil, by rw [List.append_nil, List.append_nil]⟩⟩
/-- values at hand, their names forgotten -/
def unLz : List T → List V → List T
  | .lz _ :: ts, v :: vs => .cst v :: unLz ts vs
  | t :: ts, _ :: vs => t :: unLz ts vs
  | ts, [] => ts
  | [], _ => []
theorem unLz_no : ∀ {ts : List T} {vs : List V}, vs.length = ts.length → ∀ x ∈ unLz ts vs, x.noLz = true
  | [], [], _, x, hx => by cases hx
  | [], _ :: _, e, x, hx => by cases e
  | _ :: _, [], e, x, hx => by cases e
  | t :: ts, v :: vs, e, x, hx => by
    have ih := unLz_no (ts := ts) (vs := vs) (Nat.succ.inj e)
    cases t with
    | lz j =>
      rcases List.mem_cons.mp (show x ∈ T.cst v :: unLz ts vs from hx) with rfl | hx
      · rfl
      · exact ih x hx
    | dat d => rcases List.mem_cons.mp (show x ∈ T.dat d :: unLz ts vs from hx) with rfl | hx <;> first | rfl | exact ih x hx
    | cst d => rcases List.mem_cons.mp (show x ∈ T.cst d :: unLz ts vs from hx) with rfl | hx <;> first | rfl | exact ih x hx
    | well => rcases List.mem_cons.mp (show x ∈ T.well :: unLz ts vs from hx) with rfl | hx <;> first | rfl | exact ih x hx
    | lst d => rcases List.mem_cons.mp (show x ∈ T.lst d :: unLz ts vs from hx) with rfl | hx <;> first | rfl | exact ih x hx
    | tup d => rcases List.mem_cons.mp (show x ∈ T.tup d :: unLz ts vs from hx) with rfl | hx <;> first | rfl | exact ih x hx
    | dic d d' => rcases List.mem_cons.mp (show x ∈ T.dic d d' :: unLz ts vs from hx) with rfl | hx <;> first | rfl | exact ih x hx
    | ins d d' d'' => rcases List.mem_cons.mp (show x ∈ T.ins d d' d'' :: unLz ts vs from hx) with rfl | hx <;> first | rfl | exact ih x hx
    | dcl d d' d'' d3 => rcases List.mem_cons.mp (show x ∈ T.dcl d d' d'' d3 :: unLz ts vs from hx) with rfl | hx <;> first | rfl | exact ih x hx
    | exc d d' d'' d3 => rcases List.mem_cons.mp (show x ∈ T.exc d d' d'' d3 :: unLz ts vs from hx) with rfl | hx <;> first | rfl | exact ih x hx
    | exk d d' d'' d3 => rcases List.mem_cons.mp (show x ∈ T.exk d d' d'' d3 :: unLz ts vs from hx) with rfl | hx <;> first | rfl | exact ih x hx
    | bor d d' d'' d3 => rcases List.mem_cons.mp (show x ∈ T.bor d d' d'' d3 :: unLz ts vs from hx) with rfl | hx <;> first | rfl | exact ih x hx
theorem unLz_rep {F : Hp} {W : List Addr} {H : Hp} {σ : L2.St} : ∀ {ts : List T} {vs : List V} {f : List Addr}, OrigAll σ ts vs → vs.length = ts.length → (Lst (RepT K F W H σ) vs ts f ↔ Lst (RepT K F W H σ) vs (unLz ts vs) f)
  | [], [], f, _, _ => Iff.rfl
  | [], _ :: _, f, _, e => by cases e
  | _ :: _, [], f, _, e => by cases e
  | t :: ts, v :: vs, f, ho, e => by
    have ih := fun g => unLz_rep (F := F) (W := W) (H := H) (σ := σ) (ts := ts) (vs := vs) (f := g) ho.2 (Nat.succ.inj e)
    have any : ∀ {t' : T}, (∀ g, RepT K F W H σ v t g ↔ RepT K F W H σ v t' g) → (Lst (RepT K F W H σ) (v :: vs) (t :: ts) f ↔ Lst (RepT K F W H σ) (v :: vs) (t' :: unLz ts vs) f) := fun {t'} hh =>
      ⟨fun h => by cases h with | cons a b p => exact .cons ((hh _).mp a) ((ih _).mp b) p, fun h => by cases h with | cons a b p => exact .cons ((hh _).mpr a) ((ih _).mpr b) p⟩
    cases t with
    | lz j =>
      refine any (t' := .cst v) fun g => ⟨fun h => ?_, fun h => ?_⟩
      · cases h with
        | of h => cases h
        | lz h => exact .of .cst
      · cases h with
        | of h => cases h; exact .lz ho.1
    | _ => exact any fun g => Iff.rfl
theorem R.unLz {c : Ct} {ρ : Rho} {tm : List T} {σ : L2.St} {vs : List V} {F : Hp} {W : List Addr} {H : Hp} (h : R K I c ρ tm σ vs F W H) :
    ∃ tm', (∀ x ∈ tm', x.noLz = true) ∧ R K I c ρ tm' σ vs F W H ∧ ∀ {ρ' : Rho} {t : T} {v : V} {F' : Hp} {W' : List Addr} {H' : Hp}, R K I c ρ' (t :: tm') σ (v :: vs) F' W' H' → R K I c ρ' (t :: tm) σ (v :: vs) F' W' H' := by
  have ho : OrigAll σ tm vs ∧ vs.length = tm.length := by
    obtain ⟨f1, f2, h1, _, _, _⟩ := h.ex
    have hl := h1.len
    have h' : R K I c ρ (tm ++ []) σ (vs ++ []) F W H := by rw [List.append_nil, List.append_nil]; exact h
    exact ⟨R.origAll h' hl, hl⟩
  refine ⟨Hz.unLz tm vs, unLz_no ho.2, ?_, fun {ρ' t v F' W' H'} r => ?_⟩
  · obtain ⟨f1, f2, h1, h2, nd, st⟩ := h.ex
    exact ⟨⟨f1, f2, (unLz_rep ho.1 ho.2).mp h1, h2, nd, st⟩, h.pr⟩
  · obtain ⟨f1, f2, h1, h2, nd, st⟩ := r.ex
    cases h1 with
    | cons a b p => exact ⟨⟨f1, f2, .cons a ((unLz_rep ho.1 ho.2).mpr b) p, h2, nd, st⟩, r.pr⟩
theorem ev_lc {as wv : List Nat} {wi : TI} {ww : WI} {g : TG} {wg : WG} {tt : TT} {wt : WT} {te : TE} {we : WE} (hp : ∀ i ∈ wv, i ∉ I.prot) (has : ∀ i ∈ as, i ∈ wv) (hi : EvI K I E wi ww) (hg : GvW K I E as g wg) (ht : EvT K I E tt wt) (he : EvW K I E te we) :
    EvW K I E (tLc wi g tt te wv) (wLc ww wg wt we wv) := fun c ρ tm σ vs F W H r Qx Qv hx q Q k => by
  obtain ⟨tm', hz, r', back⟩ := r.unLz
  refine hi c ρ tm' σ vs F W H r' Qx _ hx q _ fun J src xs ρ1 F1 W1 H1 r1 hl hs hn hr ⟨Iv, i0, it, iE⟩ => ?_
  intro D hD
  have hz' : ∀ x ∈ src.tmp ++ tm', x.noLz = true := fun x hx => (List.mem_append.mp hx).elim (hn x) (hz x)
  have r2 := (R.wipe r1 hz' hp).newEmpty hD
  refine ⟨fun i m H => m = src.n - i ∧ i ≤ src.n ∧ ∃ ρ F W acc, R K I c ρ (.lst acc :: (src.tmp ++ tm')) (L2.wipe σ wv) (.ref D :: (xs ++ vs)) F W H ∧ (∀ j ∈ wv, (ρ[j]?).join = none) ∧ Iv i acc ρ,
    ⟨src.n, by omega, Nat.zero_le _, _, F1, W1, [], r2, fun j hj => wipeR_none hj, i0⟩, ?_⟩
  rintro i m H2 ⟨rfl, hle, ρ2, F2, W2, acc, r3, hw, iv⟩
  have r4 := R.unmid (ts := src.tmp) (us := xs) r3 hl
  obtain ⟨turns, stop⟩ := hs c ρ2 (.lst acc :: tm') (L2.wipe σ wv) (.ref D :: vs) F2 W2 H2 r4
  by_cases hlt : i < src.n
  · obtain ⟨go, yld⟩ := turns i hlt
    have next : ∀ {ρ5 : Rho} {acc' : List T} {σ5 : L2.St} {F5 : Hp} {W5 : List Addr} {H5 : Hp}, R K I c ρ5 (.lst acc' :: (src.tmp ++ tm')) σ5 (.ref D :: (xs ++ vs)) F5 W5 H5 → L2.wipe σ5 wv = L2.wipe σ wv → Iv (i + 1) acc' (wipeR ρ5 wv) →
        ∃ ρ F W acc, R K I c ρ (.lst acc :: (src.tmp ++ tm')) (L2.wipe σ wv) (.ref D :: (xs ++ vs)) F W H5 ∧ (∀ j ∈ wv, (ρ[j]?).join = none) ∧ Iv (i + 1) acc ρ := fun {ρ5 acc' σ5 F5 W5 H5} r5 e5 q5 => by
      have r6 := R.wipe r5 (fun x hx => (List.mem_cons.mp hx).elim (fun e => by rw [e]; rfl) (hz' x)) hp
      rw [e5] at r6
      exact ⟨_, F5, W5, acc', r6, fun j hj => wipeR_none hj, q5⟩
    refine .inr ⟨go, fun H => ∃ ρ F W acc, R K I c ρ (.lst acc :: (src.tmp ++ tm')) (L2.wipe σ wv) (.ref D :: (xs ++ vs)) F W H ∧ (∀ j ∈ wv, (ρ[j]?).join = none) ∧ Iv (i + 1) acc ρ, fun H' h => ⟨src.n - (i + 1), by omega, rfl, hlt, h⟩, fun x H' y => ?_⟩
    obtain ⟨F3, r5⟩ := yld x H' y
    have hzz : ∀ x ∈ src.tmp ++ .lst acc :: tm', x.noLz = true := fun x hx => by
      rcases List.mem_append.mp hx with hx | hx
      · exact hn x hx
      · rcases List.mem_cons.mp hx with rfl | hx
        · rfl
        · exact hz x hx
    refine hg c ρ2 (src.it i) (src.tmp ++ .lst acc :: tm') (L2.wipe σ wv) x (xs ++ .ref D :: vs) F3 W2 H' r5 (hr i hlt) hzz Qx _ _ hx (fun ρ4 σ4 F4 W4 H4 r6 sb q4 => ?_) (it i acc ρ2 hlt iv)
    have ew := wipe_same sb has
    refine ⟨ew, ht c ρ4 _ σ4 _ F4 W4 H4 r6 Qx _ hx q4 _ fun b ρ5 F5 W5 H5 r7 q5 => ?_⟩
    cases b with
    | false => exact next (R.mid r7 hl) ew q5
    | true =>
      refine he c ρ5 _ σ4 _ F5 W5 H5 r7 Qx _ hx q5 _ fun t ρ6 v F6 W6 H6 r8 ⟨s, ρ7, ho, hla, q6⟩ => ?_
      obtain ⟨r9, hsr⟩ := r8.opn ho
      -- the new item on top of the list
      have r10 : R K I c ρ7 (s :: .lst acc :: (src.tmp ++ tm')) σ4 (v :: .ref D :: (xs ++ vs)) F6 W6 H6 := by
        have z := R.unmid (ts := [s]) (us := [v]) (R.mid (ts := s :: src.tmp) (us := v :: xs) r9 (by rw [List.length_cons, List.length_cons, hl])) rfl
        exact z
      obtain ⟨a, us, e, hH, hlen, r11⟩ := r10.push hsr
      cases e
      exact ⟨us, hH, Nat.lt_of_lt_of_le (by omega) (line_of (n := 1000000) (Nat.le_refl _)), next r11 ew q6⟩
  · have e : i = src.n := by omega
    subst e
    refine .inl ⟨stop, ?_⟩
    have r5 := R.unwipe r3 (fun x hx => (List.mem_cons.mp hx).elim (fun e => by rw [e]; rfl) (hz' x)) hp hw
    have r6 := R.drops (ts := src.tmp) (us := xs) (tm := .lst acc :: tm') (vs := .ref D :: vs) (R.unmid r5 hl) hl
    exact k _ _ _ _ _ _ (back r6) (iE acc ρ2 iv)
end
end Hz
/-! Hz14: repr of data; own comparisons; isinstance. -/
namespace Hz
open PySem L2 PyProof.Rows
/-! ### repr -/
mutual
theorem dp_nodict {K : PySem.W.Frag} {H : Hp} : ∀ (d : PyData) (v : V), Dp K H v d → d.hasDict = false
  | .none, _, _ => rfl
  | .bool _, _, _ => rfl
  | .int _, _, _ => rfl
  | .str _, _, _ => rfl
  | .list ds, _, h => by
    cases h with
    | lst _ h => simp only [PyData.hasDict]; exact dpa_nodict ds _ h
  | .tuple ds, _, h => by
    cases h with
    | tup _ h => simp only [PyData.hasDict]; exact dpa_nodict ds _ h
  | .dict _, _, h => by cases h
theorem dpa_nodict {K : PySem.W.Frag} {H : Hp} : ∀ (ds : List PyData) (vs : List V), DpAll K H vs ds → PyData.hasDictAll ds = false
  | [], _, _ => rfl
  | d :: ds, _, h => by
    cases h with
    | cons h1 h2 => simp only [PyData.hasDictAll, dp_nodict d _ h1, dpa_nodict ds _ h2]; rfl
end
def ReprOk (d : PyData) : Prop := d.showable = true ∧ d.shown.length ≤ sizeLine ∧ d.depth ≤ 60
def rRep (K : PySem.W.Frag) : List V → Hp → VK → Prop := fun xs H Q => ∃ v d, xs = [v] ∧ Dp K H v d ∧ ReprOk d ∧ Q (.str d.shown) H
theorem call_repr {X : Cx} (hg : X.A.guards = some []) (hu : X.A.units + 65 < cLine) : CallR X (.builtin "repr") (rRep X.K) := by
  intro pins s σ H xs us Q I r h
  obtain ⟨v, d, rfl, hd, ⟨h1, h2, h3⟩, q⟩ := h
  obtain ⟨u, rfl, ru⟩ := vals1 r
  have nd := dp_nodict d v hd
  have ref : ∀ {a : Addr}, u = .ref a → wpAny (model X.prog X.w) X.A (call (.builtin "repr") [u]) (EP X pins σ Q) X.xe s := fun {a} e => by
    subst e
    obtain ⟨as, rd⟩ := Dp.reads I d v _ hd ru
    exact repr_of_reads' (h₀ := s.heap) rd h1 (fun z => by rw [nd] at z; cases z) hg (by omega) (fun _ _ e => e) (fun h' u tk hk => ⟨.str d.shown, H, I.kept hk, ⟨u, rfl⟩, q⟩) h2
  cases hd with
  | non =>
    cases (show u = Value.none from ru)
    exact PySem.P.repr_of_none ⟨.str _, H, I.tok _, ⟨_, rfl⟩, by simpa only [PyData.shown] using q⟩
  | bl b =>
    cases (show u = Value.bool b from ru)
    exact PySem.P.repr_of_bool ⟨.str _, H, I.tok _, ⟨_, rfl⟩, by simpa only [PyData.shown] using q⟩
  | int i =>
    obtain ⟨t, e⟩ := (show ∃ t, u = Value.int i t from ru)
    cases e
    exact PySem.P.repr_of_int (by simpa [PyData.showable] using h1) ⟨.str _, H, I.tok _, ⟨_, rfl⟩, by simpa only [PyData.shown] using q⟩
  | str x =>
    obtain ⟨t, e⟩ := (show ∃ t, u = Value.str x t from ru)
    cases e
    exact PySem.P.repr_of_str ⟨.str _, H, I.tok _, ⟨_, rfl⟩, by simpa only [PyData.shown] using q⟩ (by simpa only [PyData.shown] using h2)
  | lst _ _ => exact ref (show u = Value.ref _ from ru)
  | tup _ _ => exact ref (show u = Value.ref _ from ru)
mutual
/-- a bound of the length of what is shown; whether it can be shown -/
def cost : PyData → Nat
  | .none => 5
  | .bool _ => 5
  | .int i => i.natAbs.log2 + 4
  | .str x => 10 * x.length + 2
  | .list ds => costs ds + 3
  | .tuple ds => costs ds + 3
  | .dict _ => 0
def costs : List PyData → Nat
  | [] => 0
  | d :: ds => cost d + 2 + costs ds
end
mutual
def showB : PyData → Bool
  | .int i => decide (i.natAbs.log2 < 1920)
  | .str x => x.cps.toList.all fun c => decide (c < 16 ^ 8)
  | .list ds => showBs ds
  | .tuple ds => showBs ds
  | .dict _ => false
  | _ => true
def showBs : List PyData → Bool
  | [] => true
  | d :: ds => showB d && showBs ds
end
mutual
theorem show_cost : ∀ d : PyData, showB d = true → d.showable = true ∧ d.shown.length ≤ cost d
  | .none, _ => ⟨rfl, by decide⟩
  | .bool b, _ => ⟨rfl, by cases b <;> decide⟩
  | .int i, h => by
    have h' : i.natAbs.log2 < 1920 := of_decide_eq_true h
    refine ⟨by simpa [PyData.showable] using h', ?_⟩
    have := PySem.int_text_length_le (a := i) (k := i.natAbs.log2 + 1) (Nat.succ_pos _) (Nat.lt_succ_self _)
    simp only [PyData.shown, cost]
    rw [PySem.ofString_length]
    omega
  | .str x, h => by
    refine ⟨rfl, ?_⟩
    simp only [PyData.shown, cost]
    exact StrLaws.reprText_len x fun c hc => of_decide_eq_true (List.all_eq_true.mp h c hc)
  | .list ds, h => by
    obtain ⟨h1, h2⟩ := show_costs ds h
    refine ⟨by simpa [PyData.showable] using h1, ?_⟩
    simp only [PyData.shown, cost]
    have := listText_len_le (PyData.shownAll ds)
    omega
  | .tuple ds, h => by
    obtain ⟨h1, h2⟩ := show_costs ds h
    refine ⟨by simpa [PyData.showable] using h1, ?_⟩
    simp only [PyData.shown, cost]
    have := tupleText_len_le (PyData.shownAll ds)
    omega
  | .dict _, h => by cases h
theorem show_costs : ∀ ds : List PyData, showBs ds = true → PyData.showableAll ds = true ∧ ((PyData.shownAll ds).map (·.length)).sum + 2 * (PyData.shownAll ds).length ≤ costs ds
  | [], _ => ⟨rfl, by simp [PyData.shownAll]⟩
  | d :: ds, h => by
    have h' : (showB d && showBs ds) = true := h
    rw [Bool.and_eq_true] at h'
    obtain ⟨a1, a2⟩ := show_cost d h'.1
    obtain ⟨b1, b2⟩ := show_costs ds h'.2
    refine ⟨by simp [PyData.showableAll, a1, b1], ?_⟩
    simp only [PyData.shownAll, costs, List.map_cons, List.sum_cons, List.length_cons]
    omega
end
theorem reprOk {d : PyData} (h : showB d = true) (hc : cost d ≤ 16000000) (hd : d.depth ≤ 60) : ReprOk d := by
  obtain ⟨h1, h2⟩ := show_cost d h
  refine ⟨h1, ?_, hd⟩
  rw [sizeLine_eq]
  omega
def sRepr : S1 := fun t ρ Q => ∃ s d, t.peek ρ = some s ∧ s.py = some d ∧ ReprOk d ∧ Q (.dat (.str d.shown)) (t.drop ρ)
theorem op_repr {K : PySem.W.Frag} {I : Sg} : Op1 K I (fun v => rRep K [v]) sRepr := fun c ρ t tm σ v vs F W H r Qv ⟨s, d, hp, hd, ok, q⟩ Q kk => by
  obtain ⟨f, hr, _⟩ := r.peek hp
  exact ⟨v, d, rfl, dp_of hr r.sub hd, ok, kk _ _ _ _ _ _ (r.dropT.dat (.str _)) q⟩

/-! ### types -/
structure InsC (K : PySem.W.Frag) (C : Addr) : Prop where
  cl : Cls K C
  ha : PySem.W.findIn K (.ref C) "__class__" = some (some (.builtin "object.__class__"))
  hn : PySem.W.specialIn K (.builtin "object.__class__") "__get__" = some (some (.builtin "getset_descriptor.__get__"))
  tk : PySem.W.takesIn K (.builtin "object.__class__") = some true
  hm : PySem.W.mroIn K C (.type "object") = some true
def T.tyn : T → Option Value
  | .dat .none => some (.type "NoneType")
  | .dat (.bool _) => some (.type "bool")
  | .dat (.int _) => some (.type "int")
  | .dat (.str _) => some (.type "str")
  | .dat (.list _) => some (.type "list")
  | .dat (.tuple _) => some (.type "tuple")
  | .lst _ => some (.type "list")
  | .tup _ => some (.type "tuple")
  | .ins C _ _ => some (.ref C)
  | _ => none
theorem tyX_rep {K : PySem.W.Frag} {F : Hp} {W : List Addr} {H : Hp} {v : V} {s : T} {f : List Addr} {t : Value} (h : Rep K F W H v s f) (hs : Sub F H) (ht : s.tyn = some t) (hC : ∀ C, t = .ref C → InsC K C) : TyX K H v t := by
  cases h with
  | dat h =>
    cases h with
    | non => cases ht; exact .base .non
    | bl b => cases ht; exact .base (.bl b)
    | int i => cases ht; exact .base (.int i)
    | str x => cases ht; exact .base (.str x)
    | lst h1 _ =>
      cases ht
      rcases h1 with (h1 | ⟨o, h1⟩) | ⟨o, _, _, h1, h2, _⟩
      · exact .base (.lst (hs _ _ h1))
      · exact .base (.frz (hs _ _ h1))
      · exact .kList h1 h2
    | tup h1 _ =>
      cases ht
      rcases h1 with (h1 | ⟨o, h1⟩) | ⟨o, _, _, h1, h2, _⟩
      · exact .base (.tup (hs _ _ h1))
      · exact .fTuple (hs _ _ h1)
      · exact .kTuple h1 h2
  | lst h1 _ _ => cases ht; exact .base (.lst h1)
  | tup h1 _ _ => cases ht; exact .base (.tup h1)
  | ins h1 _ _ _ =>
    cases ht
    obtain ⟨a, b, c, d, e⟩ := hC _ rfl
    exact .base (.ins h1 a b c d e)
  | cst => cases ht
  | well _ => cases ht
  | dic _ _ _ _ => cases ht
  | dcl _ _ _ => cases ht
  | exc _ _ => cases ht
  | exk _ _ _ => cases ht
def sIsi (K : PySem.W.Frag) : S2 := fun t u ρ Q => ∃ s c tv uv b, t.peek ρ = some s ∧ s.tyn = some tv ∧ (∀ C, tv = .ref C → InsC K C) ∧ u = .cst c ∧ ClsV c uv ∧ PySem.W.kitOne K tv uv = some b ∧ Q (tBo b) (t.drop ρ)
theorem op_isi {K : PySem.W.Frag} {I : Sg} : Op2 K I (fun v w => rIsi K [v, w]) (sIsi K) := fun c ρ t u tm σ v w vs F W H r Qv ⟨s, c', tv, uv, b, hp, ht, hC, e, hc, hk, q⟩ Q kk => by
  subst e
  have e := r.topCst
  subst e
  have r1 := r.drop
  obtain ⟨f, hr, _⟩ := r1.peek hp
  exact ⟨v, w, tv, uv, b, rfl, hc, tyX_rep hr r1.sub ht hC, hk, kk _ _ _ _ _ _ (r1.dropT.dat (.bl b)) q⟩

/-! ### own comparisons -/
def anyX : XK := fun _ _ _ => True
def rOwn (K : PySem.W.Frag) (C : Addr) (sp : Sp) : R2 := fun x y H Q => ∃ a dx fs tb, x = .ref a ∧ H a = some (.ins C dx fs) ∧ TyX K H y tb ∧ PySem.W.notFirst K C tb = true ∧ sp [x, y] H Q anyX
theorem op_own {X : Cx} {CX : CXT} {k : Nat} {f C : Addr} {fd : FuncData} {ps : List Str} {sp : Sp} {op : CmpOp} (F : FnG X.prog X.w X.K X.mg X.base CX k f fd ps sp) (hr : Room k X.A) (hgd : X.A.guards = some []) (hb : BindM X.K fd ps 1 [] (fun us _ => us)) (hx : ∀ σ, PassesAt CX X σ anyX)
    (hs : PySem.W.findIn X.K (.ref C) (cmpInfo op).2.1 = some (some (.ref f))) (hf : PySem.W.isFn X.K (.ref f) = true) (he : compareOp op = richCompare op) : OpR X (compareOp op) (rOwn X.K C sp) := by
  intro pins s σ H x y v u Q I rx ry h
  obtain ⟨a, dx, fs, tb, rfl, ha, ty, hn, hq⟩ := h
  cases (show v = Value.ref a from rx)
  rw [he]
  obtain ⟨P, Z, p, _⟩ := kit_of I ry ty
  obtain ⟨mA, J, _⟩ := ins_get I.hok ha
  obtain ⟨od, J, _⟩ := J.look
  obtain ⟨m, hF⟩ := I.fr
  have hu : X.A.units < cLine := by have := hr.un; omega
  refine PySem.W.cmp_K hu hF I.ok.mod.kin J (Z.ty _ _ I.kIn p) hn hs hf ?_
  refine wpAny_mono (runG (us := [.ref a, u]) (vals := [.ref a, u]) (kw := []) F hr hgd (hx σ) I (hb.1 s (.ref a) [u] [] I.kIn rfl rfl) (.cons (rref _) (.cons ry .nil)) hq) (fun r s' hv => ?_) fun _ _ z => z
  obtain ⟨z, H', I', rz, q⟩ := hv
  have ep : EP X pins σ Q r s' := ⟨z, H', I', rz, q⟩
  cases z with
  | non => cases (show r = Value.none from rz); exact ep
  | bl b => cases (show r = Value.bool b from rz); exact ep
  | int i => obtain ⟨t, e⟩ := (show ∃ t, r = Value.int i t from rz); cases e; exact ep
  | str i => obtain ⟨t, e⟩ := (show ∃ t, r = Value.str i t from rz); cases e; exact ep
  | byt i => obtain ⟨t, e⟩ := (show ∃ t, r = Value.bytes i t from rz); cases e; exact ep
  | flt i => obtain ⟨t, e⟩ := (show ∃ t, r = Value.float i t from rz); cases e; exact ep
  | ref i => cases (show r = Value.ref i from rz); exact ep
  | ty n => cases (show r = Value.type n from rz); exact ep
/-- x op y by x's own method -/
def wOwn (K : PySem.W.Frag) (C : Addr) (Wf : SpT) (a b : WE) : WE := fun ρ Qx Q => a ρ Qx fun t ρ1 => b ρ1 Qx fun u ρ2 => ∃ ns xs s tb, t.peek ρ2 = some (.ins C ns xs) ∧ u.peek ρ2 = some s ∧ s.tyn = some tb ∧ (∀ D, tb = .ref D → InsC K D) ∧ PySem.W.notFirst K C tb = true ∧ wFn Wf [t, u] ρ2 Qx Q
theorem ev_own {K : PySem.W.Frag} {I : Sg} {E : XS} {C : Addr} {Wf : SpT} {ta tb : TE} {wa wb : WE} (ha : EvW K I E ta wa) (hb : EvW K I E tb wb) : EvW K I E (tOp (rOwn K C (spT K I.inv Wf)) ta tb) (wOwn K C Wf wa wb) :=
  fun c ρ tm σ vs F W H r Qx Qv hx hw Q k => ha c ρ tm σ vs F W H r Qx _ hx hw _ fun t ρ' v F' W' H' r' hw' => hb c ρ' (t :: tm) σ (v :: vs) F' W' H' r' Qx _ hx hw' _ fun u ρ2 w F2 W2 H2 r2 ⟨ns, xs, s, tb, e1, e2, e3, e4, e5, ss, ρ3, ho, hW⟩ => by
    obtain ⟨f2, h2, _⟩ := r2.peek e2
    obtain ⟨f1, h1, _⟩ := r2.drop.peek e1
    have ty := tyX_rep h2 r2.sub e3 e4
    cases h1 with
    | ins g1 g0 g2 p =>
      rename_i a dx us fps
      obtain ⟨ts, fp, F3, Wl, post, ep, b1, b2, b3, b4, b5, b6⟩ := R.call (ts := [t, u]) (us := [.ref a, w]) (R.mid (ts := [u]) (us := [w]) r2 rfl) rfl hx ho hW k
      exact ⟨a, dx, _, tb, rfl, g1, ty, e5, ts, fp, F3, Wl, post, ep, b1, b2, b3, b4, b5, fun _ _ _ _ _ _ _ _ _ _ _ _ _ _ => trivial⟩
end Hz
/-! Hz15: wells; walking over parts that are owned. -/
namespace Hz
open PySem L2 PyProof.Rows
/-! ### wells: two ints that nobody looks at but the draw -/
def wellO : HO → Prop := fun o => ∃ i j : Int, o = .lst [.int i, .int j]
section
variable {P : Program} {w : World} {K : PySem.W.Frag} {mg : Str → Option Value} {base : Heap} {CX : CXT} {k : Nat} {f : Addr} {fd : FuncData} {ps : List Str}
theorem FnG.map {sp sp' : Sp} (F : FnG P w K mg base CX k f fd ps sp) (h : ∀ vs H Q E, sp' vs H Q E → sp vs H Q E) : FnG P w K mg base CX k f fd ps sp' :=
  ⟨fun vs H Q E q => F.len vs H Q E (h vs H Q E q), fun A o s H a us vs Q E hr hg e b r q => F.run A o s H a us vs Q E hr hg e b r (h vs H Q E q)⟩
end
/-- a def that hands out a list of two ints hands out a well -/
def outWell (W : SpT) : SpT := fun ts post ep => ∃ post1, W ts post1 ep ∧ ∀ t os, post1 t os → ∃ i j : Int, t = .lst [tI i, tI j] ∧ post .well os
theorem two_ints {K : PySem.W.Frag} {F : Hp} {W : List Addr} {H : Hp} {v : V} {f : List Addr} {i j : Int} (h : Rep K F W H v (.lst [tI i, tI j]) f) : ∃ a, v = .ref a ∧ H a = some (.lst [.int i, .int j]) ∧ f.Perm [a] := by
  cases h with
  | lst h1 h2 p =>
    cases h2 with
    | cons a1 a2 p2 =>
      cases a2 with
      | cons b1 b2 p3 =>
        cases b2
        cases a1 with
        | dat a1 =>
          cases b1 with
          | dat b1 =>
            cases a1
            cases b1
            have e1 := List.perm_nil.mp p3
            subst e1
            have e2 := List.perm_nil.mp p2
            subst e2
            exact ⟨_, rfl, h1, p⟩
theorem outWell_ok {K : PySem.W.Frag} {W : SpT} {vs : List V} {H : Hp} {Q : VK} {E : XK} (h : spT K wellO (outWell W) vs H Q E) : spT K wellO W vs H Q E := by
  obtain ⟨ts, fp, F, Wl, post, ep, hL, nd, wf, ⟨post1, hW, hp⟩, kk, kx⟩ := h
  refine ⟨ts, fp, F, Wl, post1, ep, hL, nd, wf, hW, fun t os v fp' F' W' H' hL' nd' st hpost => ?_, kx⟩
  obtain ⟨i, j, rfl, hq⟩ := hp t os hpost
  cases hL' with
  | cons h1 h2 p =>
    rename_i f1 f2
    cases h1 with
    | som h1 =>
      obtain ⟨a, rfl, ha, pa⟩ := two_ints h1
      have pm : fp'.Perm (a :: f2) := p.trans (pa.append_right f2)
      have nd2 := List.nodup_cons.mp (nodup_of_perm pm nd')
      have s2 := st.perm (.refl _) pm
      have oa := s2.wf.own a List.mem_cons_self
      refine kk .well os (.ref a) f2 F' (a :: W') H' (.cons (.som (.well List.mem_cons_self)) (h2.mono (f₀ := f2) (fun _ z => z) fun x y g hp _ => hp.keep (.refl _) (fun _ z => List.mem_cons_of_mem _ z) fun _ _ => rfl) (.refl _)) nd2.2 ?_ hq
      refine ⟨⟨s2.wf.sub, fun b hb => ?_, fun x hx => ?_⟩, s2.subF, fun x hx => List.mem_cons_of_mem _ (s2.subW x hx), s2.keep, s2.there, fun b hb => s2.newO b (List.mem_cons_of_mem _ hb), s2.newF, fun x hx => ?_⟩
      · obtain ⟨g1, g2, g3⟩ := s2.wf.own b (List.mem_cons_of_mem _ hb)
        exact ⟨g1, fun z => (List.mem_cons.mp z).elim (fun e => nd2.1 (e ▸ hb)) g2, g3⟩
      · rcases List.mem_cons.mp hx with rfl | hx
        · exact ⟨oa.1, _, ha, i, j, rfl⟩
        · exact s2.wf.wel x hx
      · rcases List.mem_cons.mp hx with rfl | hx
        · rcases s2.newO x List.mem_cons_self with q | q
          · exact .inr (.inl q)
          · exact .inr (.inr q)
        · exact s2.newW x hx
def isDat : T → Bool
  | .dat _ => true
  | _ => false
/-- a def that takes such a list first, and changes it, takes a well -/
def inWell (W : SpT) : SpT := fun ts post ep => ∃ tr, ts = .well :: tr ∧ tr.all isDat = true ∧ ∀ i j : Int, ∃ post1, W (.lst [tI i, tI j] :: tr) post1 (fun _ _ _ => False) ∧
  ∀ t os, post1 t os → ∃ (i' j' : Int) (or : Rho), os = some (.lst [tI i', tI j']) :: or ∧ post t (some .well :: or)
theorem rep_dats {K : PySem.W.Frag} {F : Hp} {W W' : List Addr} {H : Hp} : ∀ {vs : List V} {ts : List T} {f : List Addr}, Lst (Rep K F W H) vs ts f → ts.all isDat = true → f = [] ∧ Lst (Rep K F W' H) vs ts []
  | _, _, _, .nil, _ => ⟨rfl, .nil⟩
  | _, _, _, .cons h1 h2 p, h => by
    rw [List.all_cons, Bool.and_eq_true] at h
    obtain ⟨e, h3⟩ := rep_dats (W' := W') h2 h.2
    subst e
    cases h1 with
    | dat h1 => exact ⟨List.perm_nil.mp p, .cons (f1 := []) (.dat h1) h3 (.refl _)⟩
    | _ => cases h.1
theorem inWell_ok {K : PySem.W.Frag} {W : SpT} {vs : List V} {H : Hp} {Q : VK} {E : XK} (h : spT K wellO (inWell W) vs H Q E) : spT K wellO W vs H Q E := by
  obtain ⟨ts, fp, F, Wl, post, ep, hL, nd, wf, ⟨tr, rfl, hd, hW⟩, kk, kx⟩ := h
  cases hL with
  | cons h1 h2 p =>
    rename_i v vr f1 f2
    cases h1 with
    | well hw =>
      rename_i a
      obtain ⟨oF, o, ho, i, j, rfl⟩ := wf.wel a hw
      obtain ⟨post1, hW1, hp⟩ := hW i j
      obtain ⟨e, h3⟩ := rep_dats (W' := Wl.filter (fun b => decide (b ≠ a))) h2 hd
      subst e
      have e := List.perm_nil.mp p
      subst e
      have mW : ∀ {b : Addr}, b ∈ Wl.filter (fun b => decide (b ≠ a)) ↔ b ∈ Wl ∧ b ≠ a := fun {b} => by rw [List.mem_filter]; simp
      have wf0 : Hz.Wf wellO F (Wl.filter (fun b => decide (b ≠ a))) H [a] := ⟨wf.sub, fun b hb => by
        cases List.mem_singleton.mp hb
        exact ⟨oF, fun z => (mW.mp z).2 rfl, by rw [ho]; exact Option.some_ne_none _⟩, fun x hx => wf.wel x (mW.mp hx).1⟩
      refine ⟨_, [a], F, _, post1, _, .cons (f1 := [a]) (f2 := []) (.lst ho (.cons (f1 := []) (f2 := []) (.dat (.int i)) (.cons (f1 := []) (f2 := []) (.dat (.int j)) .nil (.refl _)) (.refl _)) (.refl _)) h3 (.refl _), (List.nodup_cons.mpr ⟨fun z => (nomatch z), .nil⟩), wf0, hW1, fun t os v' fp' F' W' H' hL' nd' st hpost => ?_, fun _ _ _ _ _ _ _ _ _ _ _ _ _ z => z.elim⟩
      obtain ⟨i', j', or, rfl, hq⟩ := hp t os hpost
      cases hL' with
      | cons g1 g2 p1 =>
        rename_i e1 e2
        cases g2 with
        | cons g3 g4 p2 =>
          rename_i e3 e4
          cases g3 with
          | som g3 =>
            obtain ⟨a', ea, ha, pa⟩ := two_ints g3
            cases ea
            have pm : fp'.Perm (a :: (e1 ++ e4)) := by
              refine p1.trans ((p2.append_left e1).trans (((pa.append_right e4).append_left e1).trans ?_))
              exact List.perm_middle
            have nd2 := List.nodup_cons.mp (nodup_of_perm pm nd')
            have s2 := st.perm (.refl _) pm
            have oa := s2.wf.own a List.mem_cons_self
            have kp : ∀ {x : Option V} {y : Option T} {g : List Addr}, RepS K F' W' H' x y g → RepS K F' (a :: W') H' x y g := fun h => h.keep (.refl _) (fun _ z => List.mem_cons_of_mem _ z) fun _ _ => rfl
            refine kk t (some .well :: or) v' (e1 ++ e4) F' (a :: W') H' (.cons (kp g1) (.cons (f1 := []) (.som (.well List.mem_cons_self)) (g4.mono (f₀ := e4) (fun _ z => z) fun x y g hp _ => kp hp) (.refl _)) (.refl _)) nd2.2 ?_ hq
            refine ⟨⟨s2.wf.sub, fun b hb => ?_, fun x hx => ?_⟩, s2.subF, fun x hx => ?_, fun b o hb n1 n2 => ?_, s2.there, fun b hb => ?_, fun b hb => ?_, fun x hx => ?_⟩
            · obtain ⟨q1, q2, q3⟩ := s2.wf.own b (List.mem_cons_of_mem _ hb)
              exact ⟨q1, fun z => (List.mem_cons.mp z).elim (fun e => nd2.1 (e ▸ hb)) q2, q3⟩
            · rcases List.mem_cons.mp hx with rfl | hx
              · exact ⟨oa.1, _, ha, i', j', rfl⟩
              · exact s2.wf.wel x hx
            · by_cases e : x = a
              · rw [e]; exact List.mem_cons_self
              · exact List.mem_cons_of_mem _ (s2.subW x (mW.mpr ⟨hx, e⟩))
            · have e : b ≠ a := fun e => n2 (e ▸ hw)
              exact s2.keep b o hb (fun z => e (List.mem_singleton.mp z)) fun z => n2 (mW.mp z).1
            · rcases s2.newO b (List.mem_cons_of_mem _ hb) with q | q
              · cases List.mem_singleton.mp q
                exact (nd2.1 hb).elim
              · exact .inr q
            · rcases s2.newF b hb with q | q | q
              · exact .inl q
              · cases List.mem_singleton.mp q
                exact (hb oa.1).elim
              · exact .inr (.inr q)
            · rcases List.mem_cons.mp hx with rfl | hx
              · exact .inl hw
              · rcases s2.newW x hx with q | q | q
                · exact .inl (mW.mp q).1
                · cases List.mem_singleton.mp q
                  exact .inl hw
                · exact .inr (.inr q)

/-! ### with more names that keep their values -/
section
variable {K : PySem.W.Frag} {I : Sg} {c : Ct} {ρ : Rho} {t s : T} {tm : List T} {σ : L2.St} {u v : V} {vs : List V} {F : Hp} {W : List Addr} {H : Hp}
def Sg.more (I : Sg) (bs : List Nat) : Sg := ⟨I.inv, bs ++ I.prot⟩
theorem R.rebase (bs : List Nat) (h : R K I c ρ tm σ vs F W H) : ∃ c', c'.σ0 = σ ∧ R K (I.more bs) c' ρ tm σ vs F W H ∧
    ∀ {ρ' : Rho} {tm' : List T} {σ' : L2.St} {vs' : List V} {F' : Hp} {W' : List Addr} {H' : Hp}, R K (I.more bs) c' ρ' tm' σ' vs' F' W' H' → R K I c ρ' tm' σ' vs' F' W' H' := by
  obtain ⟨f1, f2, h1, h2, nd, st⟩ := h.ex
  refine ⟨⟨H, F, W, f1 ++ f2, σ⟩, rfl, ⟨⟨f1, f2, h1, h2, nd, Step.refl st.wf⟩, fun _ _ => rfl⟩, fun {ρ' tm' σ' vs' F' W' H'} r => ?_⟩
  obtain ⟨g1, g2, j1, j2, nd', st'⟩ := r.ex
  exact ⟨⟨g1, g2, j1, j2, nd', st.trans st'⟩, fun i hi => (r.pr i (List.mem_append_right _ hi)).trans (h.pr i hi)⟩
def T.withS : T → T → T
  | .bor j p v _, s => .bor j p v s
  | _, s => s
theorem R.inner (h : R K I c ρ (t :: tm) σ (v :: vs) F W H) (hz : t.noLz = true) (hp : t.peek ρ = some s) : R K I c ρ (s :: tm) σ (v :: vs) F W H ∧
    ∀ {ρ' : Rho} {s1 : T} {tm' : List T} {σ' : L2.St} {vs' : List V} {F' : Hp} {W' : List Addr} {H' : Hp}, R K I c ρ' (s1 :: tm') σ' (v :: vs') F' W' H' → s1.real = true → R K I c ρ' (t.withS s1 :: tm') σ' (v :: vs') F' W' H' := by
  cases t with
  | lz j => cases hz
  | bor j p x s0 =>
    cases hp
    have e : x = v := h.orig
    subst e
    exact ⟨h.unbor, fun r hs => r.rebor hs⟩
  | _ => cases hp; exact ⟨h, fun r _ => r⟩
/-- an item is taken out of an owned list on top -/
theorem R.hole {ts : List T} {k : T} {i : Nat} (h : R K I c ρ (t :: tm) σ (v :: vs) F W H) (hz : t.noLz = true) (hp : t.peek ρ = some (.lst ts)) (hk : ts[i]? = some k) :
    ∃ a us x, v = .ref a ∧ H a = some (.lst us) ∧ us[i]? = some x ∧ R K I c ρ (k :: t.withS (.lst (ts.set i (.cst x))) :: tm) σ (x :: v :: vs) F W H := by
  obtain ⟨r1, back⟩ := h.inner hz hp
  obtain ⟨x, ha, r2⟩ := r1.part (k := k) (st := .ix i) rfl hk
  obtain ⟨a, us, e, ho, hx⟩ := ha
  subst e
  have r3 := R.mid (ts := [k]) (us := [x]) r2 rfl
  have r4 := back r3 rfl
  obtain ⟨f, hr, _⟩ := r1.peek (s := .lst ts) rfl
  cases hr with
  | lst h1 _ _ =>
    have ho' : H a = some (.lst us) := by
      rcases ho with ho | ho
      · exact ho
      · rw [h1] at ho; cases ho
    exact ⟨a, us, x, rfl, ho', hx, R.mid (ts := [_]) (us := [_]) r4 rfl⟩
/-- .. and put back -/
theorem R.unhole {ts : List T} {i : Nat} (h : R K I c ρ (s :: t :: tm) σ (u :: v :: vs) F W H) (hz : t.noLz = true) (hp : t.peek ρ = some (.lst ts)) (hk : ts[i]? = some (.cst u)) (hs : s.real = true) :
    R K I c ρ (t.withS (.lst (ts.set i s)) :: tm) σ (v :: vs) F W H := by
  obtain ⟨r1, back⟩ := R.inner (R.mid (ts := [s]) (us := [u]) h rfl) hz hp
  refine back ?_ rfl
  obtain ⟨fA, hA, nd, wf, q⟩ := R.loc (ts := [.lst ts, s]) (us := [v, u]) r1 rfl
  cases hA with
  | cons h1 h2 p =>
    rename_i f1 f2
    cases h2 with
    | cons j1 j2 p2 =>
      cases j2
      rename_i g1
      rw [List.append_nil] at p2
      obtain ⟨x, e1, e2, q1, hx, _, hk2⟩ := rep_child (h1.real rfl) (show (T.lst ts).child (.ix i) = some (.cst u) from hk)
      cases hx
      have r := hk2 F W H s g1 (.refl _) (fun _ z => z) (fun _ _ => rfl) (j1.real hs)
      have pm : fA.Perm (g1 ++ e2) := p.trans ((q1.append_right f2).trans (List.perm_append_comm.trans (p2.append_right _)))
      exact q (us' := [v]) (ts' := [.lst (ts.set i s)]) (fB := g1 ++ e2) ((Step.refl wf).perm (.refl _) pm) (nodup_of_perm pm nd) (.one (.of r))
theorem withS_peek {ρ' : Rho} {s1 : T} (hz : t.noLz = true) (hp : t.peek ρ = some s) (hs : s1.real = true) : (t.withS s1).peek ρ' = some s1 ∧ (t.withS s1).noLz = true := by
  cases t with
  | lz j => cases hz
  | bor j p x s0 => exact ⟨rfl, rfl⟩
  | _ => cases s1 <;> first | exact ⟨rfl, rfl⟩ | cases hs
theorem withS_withS {s1 s2 : T} (hz : t.noLz = true) (hp : t.peek ρ = some s) (h1 : s1.real = true) : (t.withS s1).withS s2 = t.withS s2 := by
  cases t with
  | lz j => cases hz
  | bor j p x s0 => rfl
  | _ => cases s1 <;> first | rfl | cases h1
theorem withS_self (hz : t.noLz = true) (hp : t.peek ρ = some s) : t.withS s = t := by
  cases t with
  | lz j => cases hz
  | bor j p x s0 => cases hp; rfl
  | _ => cases hp; rfl
/-- a slot's tree, taken out whole -/
theorem R.grab {b : Nat} (h : R K I c ρ tm σ vs F W H) (hb : ρ[b]? = some (some s)) : ∃ u, σ[b]? = some (some u) ∧ R K I c (ρ.set b none) (s :: tm) σ (u :: vs) F W H := by
  obtain ⟨u, r, hu⟩ := h.take hb (p := []) rfl
  have k2 := r.forget (i := b)
  rw [List.set_set] at k2
  exact ⟨u, hu rfl, k2⟩
end
end Hz
/-! Hz16: comprehensions over owned parts that are looked at. -/
namespace Hz
open PySem L2 PyProof.Rows
/-- [te for b1, b2 in zip(a, b) if tt], the items owned by the two lists and only looked at -/
def wLcZ (a b : WE) (b1 b2 : Nat) (tt : WT) (te : WE) (wv : List Nat) : WE := fun ρ Qx Q => a ρ Qx fun ta ρ1 => b ρ1 Qx fun tb ρ2 => settle tb ρ2 fun tb' ρ3 => settle ta ρ3 fun ta' ρ4 => ∃ t1 t2, ta'.peek ρ4 = some (.lst t1) ∧ tb'.peek ρ4 = some (.lst t2) ∧
  Inv1 fun Iv : Nat → List T → Rho → Prop => Iv 0 [] (wipeR ρ4 wv) ∧
  (∀ i acc ρ5 c1 c2, t1[i]? = some c1 → t2[i]? = some c2 → Iv i acc ρ5 → tt ((ρ5.set b1 (some c1)).set b2 (some c2)) Qx fun k ρ6 =>
    if k = true then te ρ6 Qx fun t ρ7 => ∃ s ρ8, t.opn ρ7 = some (s, ρ8) ∧ acc.length < 1000000 ∧ ρ8[b1]? = some (some c1) ∧ ρ8[b2]? = some (some c2) ∧ Iv (i + 1) (acc ++ [s]) (wipeR ρ8 wv)
    else ρ6[b1]? = some (some c1) ∧ ρ6[b2]? = some (some c2) ∧ Iv (i + 1) acc (wipeR ρ6 wv)) ∧
  ∀ acc ρ5, Iv (min t1.length t2.length) acc ρ5 → Q (.lst acc) (ta'.drop (tb'.drop ρ5))
section
variable {K : PySem.W.Frag} {I : Sg} {E : XS}
theorem wipeR_set : ∀ {wv : List Nat} {ρ : Rho} {b : Nat}, b ∈ wv → wipeR (ρ.set b none) wv = wipeR ρ wv
  | v :: wv, ρ, b, h => by
    unfold wipeR
    by_cases e : b ∈ wv
    · rw [wipeR_set e]
    · have e' : b = v := (List.mem_cons.mp h).elim (fun q => q) (fun q => absurd q e)
      subst e'
      clear h
      have : ∀ (wv : List Nat), b ∉ wv → ∀ ρ : Rho, wipeR (ρ.set b none) wv = (wipeR ρ wv).set b none := by
        intro wv
        induction wv with
        | nil => intro _ ρ; rfl
        | cons v wv ih =>
          intro hb ρ
          unfold wipeR
          rw [ih (fun z => hb (List.mem_cons_of_mem _ z)), List.set_comm]
          exact fun z => hb (by rw [z]; exact List.mem_cons_self)
      rw [this wv e, List.set_set]
theorem ev_lcZ {wv : List Nat} {ta tb : TE} {wa wb : WE} {b1 b2 : Nat} {tt : TT} {wt : WT} {te : TE} {we : WE} (hp : ∀ i ∈ wv, i ∉ I.prot) (h1 : b1 ∈ wv) (h2 : b2 ∈ wv) (hne : b1 ≠ b2)
    (ha : EvW K I E ta wa) (hb : EvW K I E tb wb) (ht : EvT K (I.more [b1, b2]) E tt wt) (he : EvW K (I.more [b1, b2]) E te we) :
    EvW K I E (tLc (iZip K (tCons ta (tCons tb tNil))) (gTup K 2 (gCons (gName b1) (gCons (gName b2) gNil))) tt te wv) (wLcZ wa wb b1 b2 wt we wv) := fun c ρ tm σ vs F W H r Qx Qv hx q Q k => by
  obtain ⟨tm', hz, r', back⟩ := r.unLz
  refine ha c ρ tm' σ vs F W H r' Qx _ hx q _ fun tA ρ1 vA F1 W1 H1 r1 q1 => hb c ρ1 (tA :: tm') σ (vA :: vs) F1 W1 H1 r1 Qx _ hx q1 _ fun tB ρ2 vB F2 W2 H2 r2 q2 => ?_
  obtain ⟨tB', ρ3, r3, hzB, q3⟩ := r2.settle q2
  obtain ⟨tA', ρ4, r4, hzA, t1, t2, pA, pB, Iv, i0, it, iE⟩ := (R.mid (ts := [tB']) (us := [vB]) r3 rfl).settle q3
  have r5 : R K I c ρ4 (tB' :: tA' :: tm') σ (vB :: vA :: vs) F2 W2 H2 := R.mid (ts := [tA']) (us := [vA]) r4 rfl
  -- what both say of the heap
  have two : ∀ {ρ : Rho} {σ : L2.St} {F : Hp} {W : List Addr} {H : Hp}, R K I c ρ (tB' :: tA' :: tm') σ (vB :: vA :: vs) F W H →
      ∃ a b us ws, vA = .ref a ∧ vB = .ref b ∧ H a = some (.lst us) ∧ H b = some (.lst ws) ∧ us.length = t1.length ∧ ws.length = t2.length := fun {ρ σ F W H} r => by
    obtain ⟨f, hB, _⟩ := r.peek (peek_noLz hzB pB ρ)
    obtain ⟨g, hA, _⟩ := r.drop.peek (peek_noLz hzA pA ρ)
    cases hA with
    | lst a1 a2 _ =>
      cases hB with
      | lst b1 b2 _ => exact ⟨_, _, _, _, rfl, rfl, a1, b1, repA_len a2, repA_len b2⟩
  obtain ⟨a, b, us0, ws0, eA, eB, hA0, hB0, lA0, lB0⟩ := two r5
  subst eA; subst eB
  refine ⟨a, b, us0, ws0, rfl, SqL.of hA0, SqL.of hB0, ?_⟩
  intro D hD
  have hz' : ∀ x ∈ tB' :: tA' :: tm', x.noLz = true := fun x hx => by
    rcases List.mem_cons.mp hx with rfl | hx
    · exact hzB
    · rcases List.mem_cons.mp hx with rfl | hx
      · exact hzA
      · exact hz x hx
  have r6 := (R.wipe r5 hz' hp).newEmpty hD
  generalize hn : min t1.length t2.length = n at iE
  refine ⟨fun i m H => m = n - i ∧ i ≤ n ∧ ∃ ρ F W acc, R K I c ρ (.lst acc :: tB' :: tA' :: tm') (L2.wipe σ wv) (.ref D :: .ref b :: .ref a :: vs) F W H ∧ (∀ j ∈ wv, (ρ[j]?).join = none) ∧ Iv i acc ρ,
    ⟨n, by omega, Nat.zero_le _, _, F2, W2, [], r6, fun j hj => wipeR_none hj, i0⟩, ?_⟩
  rintro i m H3 ⟨rfl, hle, ρ5, F3, W3, acc, r7, hw, iv⟩
  have r8 := R.drop r7
  obtain ⟨a', b', us, ws, eA, eB, hA, hB, lA, lB⟩ := two r8
  cases eA; cases eB
  by_cases hlt : i < n
  · have hi1 : i < t1.length := by omega
    have hi2 : i < t2.length := by omega
    refine .inr ⟨⟨us, ws, us[i]'(by omega), ws[i]'(by omega), SqL.of hA, SqL.of hB, List.getElem?_eq_getElem (by omega), List.getElem?_eq_getElem (by omega)⟩,
      fun H => ∃ ρ F W acc, R K I c ρ (.lst acc :: tB' :: tA' :: tm') (L2.wipe σ wv) (.ref D :: .ref b :: .ref a :: vs) F W H ∧ (∀ j ∈ wv, (ρ[j]?).join = none) ∧ Iv (i + 1) acc ρ, fun H' h => ⟨n - (i + 1), by omega, rfl, hlt, h⟩, fun x H' y => ?_⟩
    obtain ⟨P, x0, x1, e1, e2, e3, e4, e5⟩ := y
    subst e1; subst e3
    have hk1 : t1[i]? = some (t1[i]'hi1) := List.getElem?_eq_getElem hi1
    have hk2 : t2[i]? = some (t2[i]'hi2) := List.getElem?_eq_getElem hi2
    generalize t1[i]'hi1 = c1 at hk1
    generalize t2[i]'hi2 = c2 at hk2
    have hx0 := e4 us (SqL.of hA)
    have hx1 := e5 ws (SqL.of hB)
    -- the two items are taken out
    have s1 : R K I c ρ5 (tB' :: tA' :: .lst acc :: tm') (L2.wipe σ wv) (.ref b :: .ref a :: .ref D :: vs) F3 W3 H3 := R.unmid (ts := [tB', tA']) (us := [.ref b, .ref a]) r7 rfl
    obtain ⟨b', ws', y1, e, hB', hy1, s2⟩ := R.hole s1 hzB (peek_noLz hzB pB ρ5) hk2
    cases e
    rw [hB] at hB'
    cases hB'
    rw [hx1] at hy1
    cases hy1
    have s3 : R K I c ρ5 (tA' :: c2 :: tB'.withS (.lst (t2.set i (.cst x1))) :: .lst acc :: tm') (L2.wipe σ wv) (.ref a :: x1 :: .ref b :: .ref D :: vs) F3 W3 H3 := R.mid (ts := [c2, tB'.withS (.lst (t2.set i (.cst x1)))]) (us := [x1, .ref b]) s2 rfl
    obtain ⟨a', us', y0, e, hA', hy0, s4⟩ := R.hole s3 hzA (peek_noLz hzA pA ρ5) hk1
    cases e
    rw [hA] at hA'
    cases hA'
    rw [hx0] at hy0
    cases hy0
    -- the pair that zip hands out
    have s5 := (s4.cst (v := x1)).cst (v := x0)
    have s6 := R.newTup (ts := [.cst x0, .cst x1]) (us := [x0, x1]) (p := P) s5 rfl rfl e2
    have s7 := R.drop s6
    refine ⟨P, [x0, x1], rfl, SqT.of upd_same, rfl, x0, [x1], rfl, x1, [], rfl, rfl, ?_⟩
    have ew : L2.wipe (((L2.wipe σ wv).set b1 (some x0)).set b2 (some x1)) wv = L2.wipe σ wv := by
      refine wipe_same (as := [b1, b2]) ⟨by rw [List.length_set, List.length_set], fun j hj => ?_⟩ (fun j hj => ?_)
      · rw [List.getElem?_set_ne (fun e => hj (by rw [← e]; simp)), List.getElem?_set_ne (fun e => hj (by rw [← e]; simp))]
      · rcases List.mem_cons.mp hj with rfl | hj
        · exact h1
        · cases List.mem_singleton.mp hj; exact h2
    refine ⟨ew, ?_⟩
    have c1r : c1.real = true := by
      obtain ⟨f, hr, _⟩ := (R.drop s1).peek (peek_noLz hzA pA ρ5)
      cases hr with
      | lst _ g2 _ =>
        obtain ⟨u, f, _, g⟩ := repA_at g2 hk1
        exact rep_real g
    have c2r : c2.real = true := by
      obtain ⟨f, hr, _⟩ := s1.peek (peek_noLz hzB pB ρ5)
      cases hr with
      | lst _ g2 _ =>
        obtain ⟨u, f, _, g⟩ := repA_at g2 hk2
        exact rep_real g
    have pA1 := fun ρ' => withS_peek (ρ' := ρ') (s1 := .lst (t1.set i (.cst x0))) hzA (peek_noLz hzA pA ρ5) rfl
    have pB1 := fun ρ' => withS_peek (ρ' := ρ') (s1 := .lst (t2.set i (.cst x1))) hzB (peek_noLz hzB pB ρ5) rfl
    have nl : ∀ y ∈ tB'.withS (.lst (t2.set i (.cst x1))) :: .lst acc :: tm', y.noLz = true := fun y hy => by
      rcases List.mem_cons.mp hy with rfl | hy
      · exact (pB1 ρ5).2
      · rcases List.mem_cons.mp hy with rfl | hy
        · rfl
        · exact hz y hy
    have s8 : R K I c _ (tA'.withS (.lst (t1.set i (.cst x0))) :: c2 :: tB'.withS (.lst (t2.set i (.cst x1))) :: .lst acc :: tm') _ (.ref a :: x1 :: .ref b :: .ref D :: vs) F3 W3 _ := s7.set c1r (fun y hy => by
      rcases List.mem_cons.mp hy with rfl | hy
      · exact (pA1 ρ5).2
      · rcases List.mem_cons.mp hy with rfl | hy
        · exact real_noLz c2r
        · exact nl y hy) (hp b1 h1)
    have s9 : R K I c _ (tA'.withS (.lst (t1.set i (.cst x0))) :: tB'.withS (.lst (t2.set i (.cst x1))) :: .lst acc :: tm') _ (.ref a :: .ref b :: .ref D :: vs) F3 W3 _ := (R.mid (ts := [tA'.withS (.lst (t1.set i (.cst x0)))]) (us := [.ref a]) s8 rfl).set c2r (fun y hy => by
      rcases List.mem_cons.mp hy with rfl | hy
      · exact (pA1 ρ5).2
      · exact nl y hy) (hp b2 h2)
    obtain ⟨c', ec, s10, bk⟩ := s9.rebase [b1, b2]
    have hx' : XOk K (I.more [b1, b2]) c' E Qx := fun C t ρ σ v d F W H r => hx C t ρ σ v d F W H (bk r)
    -- .. and put back
    have close : ∀ {ρ6 : Rho} {acc' : List T} {σ6 : L2.St} {F6 : Hp} {W6 : List Addr} {H6 : Hp},
        R K (I.more [b1, b2]) c' ρ6 (tA'.withS (.lst (t1.set i (.cst x0))) :: tB'.withS (.lst (t2.set i (.cst x1))) :: .lst acc' :: tm') σ6 (.ref a :: .ref b :: .ref D :: vs) F6 W6 H6 → L2.wipe σ6 wv = L2.wipe σ wv → ρ6[b1]? = some (some c1) → ρ6[b2]? = some (some c2) → Iv (i + 1) acc' (wipeR ρ6 wv) →
        ∃ ρ F W acc, R K I c ρ (.lst acc :: tB' :: tA' :: tm') (L2.wipe σ wv) (.ref D :: .ref b :: .ref a :: vs) F W H6 ∧ (∀ j ∈ wv, (ρ[j]?).join = none) ∧ Iv (i + 1) acc ρ := fun {ρ6 acc' σ6 F6 W6 H6} z ew6 g1 g2 q6 => by
      have p1 := z.pr b1 (List.mem_append_left _ (by simp))
      have p2 := z.pr b2 (List.mem_append_left _ (by simp))
      rw [ec] at p1 p2
      obtain ⟨u1, k1, z1⟩ := (bk z).grab g1
      have g2' : (ρ6.set b1 none)[b2]? = some (some c2) := by rw [List.getElem?_set_ne hne]; exact g2
      obtain ⟨u2, k2, z2⟩ := z1.grab g2'
      have eu1 : u1 = x0 := by
        rw [k1, List.getElem?_set_ne hne.symm] at p1
        rw [List.getElem?_set] at p1
        by_cases hl : b1 < (L2.wipe σ wv).length
        · rw [if_pos rfl, if_pos hl] at p1; cases p1; rfl
        · rw [if_pos rfl, if_neg hl] at p1; cases p1
      have eu2 : u2 = x1 := by
        rw [k2, List.getElem?_set] at p2
        by_cases hl : b2 < ((L2.wipe σ wv).set b1 (some x0)).length
        · rw [if_pos rfl, if_pos hl] at p2; cases p2; rfl
        · rw [if_pos rfl, if_neg hl] at p2; cases p2
      subst eu1; subst eu2
      -- stack: c2 :: c1 :: A :: B :: acc
      have hk1' : (t1.set i (.cst u1))[i]? = some (.cst u1) := List.getElem?_set_self hi1
      have hk2' : (t2.set i (.cst u2))[i]? = some (.cst u2) := List.getElem?_set_self hi2
      have z3 : R K I c _ (c1 :: tA'.withS (.lst (t1.set i (.cst u1))) :: c2 :: tB'.withS (.lst (t2.set i (.cst u2))) :: .lst acc' :: tm') _ (u1 :: .ref a :: u2 :: .ref b :: .ref D :: vs) _ _ _ := R.unmid (ts := [c1, tA'.withS (.lst (t1.set i (.cst u1)))]) (us := [u1, .ref a]) z2 rfl
      have z4 := R.unhole z3 (pA1 ρ5).2 (pA1 _).1 hk1' c1r
      rw [withS_withS hzA (peek_noLz hzA pA ρ5) rfl, List.set_set, show t1.set i c1 = t1 by obtain ⟨hh1, hh2⟩ := List.getElem?_eq_some_iff.mp hk1; rw [← hh2]; exact List.set_getElem_self hh1, withS_self hzA (peek_noLz hzA pA ρ5)] at z4
      have z5 : R K I c _ (c2 :: tB'.withS (.lst (t2.set i (.cst u2))) :: tA' :: .lst acc' :: tm') _ (u2 :: .ref b :: .ref a :: .ref D :: vs) _ _ _ := R.unmid (ts := [c2, tB'.withS (.lst (t2.set i (.cst u2)))]) (us := [u2, .ref b]) z4 rfl
      have z6 := R.unhole z5 (pB1 ρ5).2 (pB1 _).1 hk2' c2r
      rw [withS_withS hzB (peek_noLz hzB pB ρ5) rfl, List.set_set, show t2.set i c2 = t2 by obtain ⟨hh1, hh2⟩ := List.getElem?_eq_some_iff.mp hk2; rw [← hh2]; exact List.set_getElem_self hh1, withS_self hzB (peek_noLz hzB pB ρ5)] at z6
      have z7 : R K I c _ (.lst acc' :: tB' :: tA' :: tm') _ (.ref D :: .ref b :: .ref a :: vs) _ _ _ := R.mid (ts := [tB', tA']) (us := [.ref b, .ref a]) z6 rfl
      have z8 := R.wipe z7 (fun y hy => (List.mem_cons.mp hy).elim (fun e => by rw [e]; rfl) (hz' y)) hp
      rw [ew6, wipeR_set h2, wipeR_set h1] at z8
      exact ⟨_, _, _, acc', z8, fun j hj => wipeR_none hj, q6⟩
    refine ht c' _ _ _ _ F3 W3 _ s10 Qx _ hx' (it i acc ρ5 c1 c2 hk1 hk2 iv) _ fun k' ρ6 F6 W6 H6 z q6 => ?_
    cases k' with
    | false =>
      obtain ⟨g1, g2, q7⟩ := q6
      exact close z ew g1 g2 q7
    | true =>
      refine he c' ρ6 _ _ _ F6 W6 H6 z Qx _ hx' q6 _ fun t ρ7 v F7 W7 H7 z1 ⟨s, ρ8, ho, hla, g1, g2, q8⟩ => ?_
      obtain ⟨z2, hsr⟩ := z1.opn ho
      have z3 : R K (I.more [b1, b2]) c' ρ8 (s :: .lst acc :: tA'.withS (.lst (t1.set i (.cst x0))) :: tB'.withS (.lst (t2.set i (.cst x1))) :: tm') _ (v :: .ref D :: .ref a :: .ref b :: vs) F7 W7 H7 :=
        R.unmid (ts := [s]) (us := [v]) (R.mid (ts := [s, tA'.withS (.lst (t1.set i (.cst x0))), tB'.withS (.lst (t2.set i (.cst x1)))]) (us := [v, .ref a, .ref b]) z2 rfl) rfl
      obtain ⟨a', us', e, hH, hlen, z4⟩ := z3.push hsr
      cases e
      have z5 := R.unmid (ts := [tA'.withS (.lst (t1.set i (.cst x0))), tB'.withS (.lst (t2.set i (.cst x1)))]) (us := [.ref a, .ref b]) z4 rfl
      exact ⟨us', hH, Nat.lt_of_lt_of_le (by omega) (line_of (n := 1000000) (Nat.le_refl _)), close z5 ew g1 g2 q8⟩
  · have e : i = n := by omega
    subst e
    refine .inl ⟨⟨us, ws, SqL.of hA, SqL.of hB, by omega⟩, ?_⟩
    have z1 := R.unwipe r7 (fun x hx => (List.mem_cons.mp hx).elim (fun e => by rw [e]; rfl) (hz' x)) hp hw
    have z2 : R K I c ρ5 (tB' :: tA' :: .lst acc :: tm') σ (.ref b :: .ref a :: .ref D :: vs) F3 W3 H3 := R.unmid (ts := [tB', tA']) (us := [.ref b, .ref a]) z1 rfl
    exact k _ _ _ _ _ _ (back z2.dropT.dropT) (iE acc ρ5 iv)
end
end Hz
/-! Hz17: named rules for what is written often; attributes as targets; binding of arguments. -/
namespace Hz
open PySem L2 PyProof.Rows
section
variable {K : PySem.W.Frag} {I : Sg} {E : XS} {ta tb : TE} {wa wb : WE}
abbrev iAdd (i j : Int) : PyData := .int (i + j)
abbrev iSub (i j : Int) : PyData := .int (i - j)
abbrev iMul (i j : Int) : PyData := .int (i * j)
abbrev iDiv (i j : Int) : PyData := .int (i / j)
abbrev iMod (i j : Int) : PyData := .int (i % j)
abbrev iPow (i j : Int) : PyData := .int (i ^ j.toNat)
abbrev bLt (i j : Int) : PyData := .bool (decide (i < j))
abbrev bLe (i j : Int) : PyData := .bool (decide (i ≤ j))
abbrev bGt (i j : Int) : PyData := .bool (decide (j < i))
abbrev bGe (i j : Int) : PyData := .bool (decide (j ≤ i))
def CMod (_ j : Int) : Prop := 0 < j
theorem ev_add (ha : EvW K I E ta wa) (hb : EvW K I E tb wb) : EvW K I E (tOp (rI0 fun i j => .int (i + j)) ta tb) (wII0 iAdd wa wb) := ev_II0 (fun _ _ _ => .int _) ha hb
theorem ev_sub (ha : EvW K I E ta wa) (hb : EvW K I E tb wb) : EvW K I E (tOp (rI0 fun i j => .int (i - j)) ta tb) (wII0 iSub wa wb) := ev_II0 (fun _ _ _ => .int _) ha hb
theorem ev_mul (ha : EvW K I E ta wa) (hb : EvW K I E tb wb) : EvW K I E (tOp (rI CMul fun i j => .int (i * j)) ta tb) (wII CMul iMul wa wb) := ev_II (fun _ _ _ => .int _) ha hb
theorem ev_fdiv (ha : EvW K I E ta wa) (hb : EvW K I E tb wb) : EvW K I E (tOp (rI CDiv fun i j => .int (i / j)) ta tb) (wII CDiv iDiv wa wb) := ev_II (fun _ _ _ => .int _) ha hb
theorem ev_mod (ha : EvW K I E ta wa) (hb : EvW K I E tb wb) : EvW K I E (tOp (rI (fun _ j => 0 < j) fun i j => .int (i % j)) ta tb) (wII CMod iMod wa wb) := ev_II (C := fun _ j => 0 < j) (fun _ _ _ => .int _) ha hb
theorem ev_pow (ha : EvW K I E ta wa) (hb : EvW K I E tb wb) : EvW K I E (tOp (rI CPow fun i j => .int (i ^ j.toNat)) ta tb) (wII CPow iPow wa wb) := ev_II (fun _ _ _ => .int _) ha hb
theorem ev_lt (ha : EvW K I E ta wa) (hb : EvW K I E tb wb) : EvW K I E (tOp (rI0 fun i j => .bl (decide (i < j))) ta tb) (wII0 bLt wa wb) := ev_II0 (fun _ _ _ => .bl _) ha hb
theorem ev_le (ha : EvW K I E ta wa) (hb : EvW K I E tb wb) : EvW K I E (tOp (rI0 fun i j => .bl (decide (i ≤ j))) ta tb) (wII0 bLe wa wb) := ev_II0 (fun _ _ _ => .bl _) ha hb
theorem ev_gt (ha : EvW K I E ta wa) (hb : EvW K I E tb wb) : EvW K I E (tOp (rI0 fun i j => .bl (decide (j < i))) ta tb) (wII0 bGt wa wb) := ev_II0 (fun _ _ _ => .bl _) ha hb
theorem ev_ge (ha : EvW K I E ta wa) (hb : EvW K I E tb wb) : EvW K I E (tOp (rI0 fun i j => .bl (decide (j ≤ i))) ta tb) (wII0 bGe wa wb) := ev_II0 (fun _ _ _ => .bl _) ha hb
end
theorem passG {X : Cx} {E : XS} : ∀ σ, PassesAt CX0 X σ (E σ) := fun _ _ _ _ _ _ _ h => h.elim
theorem room65 {k : Nat} {A : Around} (hr : Room k A) : A.units + 65 < cLine := by have := hr.un; omega
theorem room64 {k : Nat} {A : Around} (hr : Room k A) : A.units + 64 < cLine := by have := hr.un; omega
/-! ### o.f as a target among others -/
def gFldT (K : PySem.W.Frag) (to : TE) (f : Str) : TG := fun v σ H Q => to σ H fun x H2 => ∃ a C dx fs, x = .ref a ∧ H2 a = some (.ins C dx fs) ∧ Cls K C ∧ NoAttr K C f ∧ fs.length < 1000 ∧ Q σ (upd H2 a (.ins C dx (putF f v fs)))
theorem pg_fldT {X : Cx} {o : Expr} {f : Str} {pos : Pos} {to : TE} (ha : PE X o to) : PG X (.Attribute o f pos) (gFldT X.K to f) := by
  refine ⟨fun pins s σ H v u Q I r h => ?_⟩
  rw [assign_Attribute]
  refine wpAny_bind (wpAny_holding (thn (ha.run pins s σ H _ I h) fun ov s1 ⟨x, H1, I1, rx, a, C, dx, fs, ex, ea, c, n, l, q⟩ => ?_))
  subst ex
  obtain rfl : ov = Value.ref a := rx
  exact wpAny_bind (wpAny_standAt (wpAny_bind (wpAny_holding (setattr_ok I1 ea c n l r fun s2 I2 => wpAny_release ⟨σ, _, I2, q⟩))))
def gFd (C : Addr) (f : Str) (wo : WE) : WG := fun t ρ Qx Q => wo ρ Qx fun u ρ2 => ∃ ns ts ρ3, u.opn ρ2 = some (.ins C ns ts, ρ3) ∧ ns.length < 100 ∧ Q (u.cls (.ins C (putFT f t ns ts).1 (putFT f t ns ts).2) ρ3)
theorem g_fld {K : PySem.W.Frag} {I : Sg} {E : XS} {C : Addr} {f : Str} {to : TE} {wo : WE} (hC : Cls K C) (hf : NoAttr K C f) (ho : EvW K I E to wo) : GvW K I E [] (gFldT K to f) (gFd C f wo) := fun c ρ t tm σ v vs F W H r ht hz Qx Qg D hx k q =>
  ho c ρ (t :: tm) σ (v :: vs) F W H r Qx _ hx q _ fun u ρ2 x F2 W2 H2 r2 ⟨ns, ts, ρ3, hop, hn, q2⟩ => by
    obtain ⟨r3, _⟩ := r2.opn hop
    obtain ⟨a, dx, us, rfl, hH, hl, r4⟩ := R.putFld (f := f) r3 ht
    exact ⟨a, C, dx, _, rfl, hH, hC, hf, by rw [List.length_zip]; omega, k _ _ _ _ _ (R.clsT (t := u) r4 rfl r2.orig) (SameBut.refl _ _) q2⟩
/-! ### binding -/
section
variable {K : PySem.W.Frag} {x qual : Str} {st : Stmt} {f : Addr} {fd : FuncData} {ps ks : List Str} {n : Nat} {mk : {α : Type} → List α → List α → List α}
theorem bindG_mk (F : Fun K x qual st f fd) (hv : ∀ {vs zs : List V} {us ws : List Value}, Vals vs us → Vals zs ws → Vals (mk vs zs) (mk us ws))
    (h : ∀ (kV doc pm : Value) (an : Option Addr) (cdv ct : Value) (us ws : List Value), us.length = n → ws.length = ks.length → bindArgs (PySem.W.fnOf x qual (defArgs st) (defBody st) (defScope st) .none kV doc pm an cdv ct) ⟨us, ks.zip ws⟩ = pure (ps.zip (mk us ws))) : BindG K fd ps n ks mk := by
  obtain ⟨oc, od, kV, doc, pm, an, cdv, ct, osl, rfl, lk, hcd⟩ := F.ex
  exact ⟨fun s us ws _ h1 h2 => .of_eq (h kV doc pm an cdv ct us ws h1 h2), hv⟩
theorem bindM_mk (F : Fun K x qual st f fd) (hv : ∀ {vs zs : List V} {us ws : List Value}, Vals vs us → Vals zs ws → Vals (mk vs zs) (mk us ws))
    (h : ∀ (kV doc pm : Value) (an : Option Addr) (cdv ct : Value) (y : Value) (us ws : List Value), us.length = n → ws.length = ks.length → bindArgs (PySem.W.fnOf x qual (defArgs st) (defBody st) (defScope st) .none kV doc pm an cdv ct) ⟨y :: us, ks.zip ws⟩ = pure (ps.zip (y :: mk us ws))) : BindM K fd ps n ks mk := by
  obtain ⟨oc, od, kV, doc, pm, an, cdv, ct, osl, rfl, lk, hcd⟩ := F.ex
  exact ⟨fun s y us ws _ h1 h2 => .of_eq (h kV doc pm an cdv ct y us ws h1 h2), hv⟩
theorem vals_fst {vs zs : List V} {us ws : List Value} (h : Vals vs us) (_ : Vals zs ws) : Vals vs us := h
theorem vals_app : ∀ {vs zs : List V} {us ws : List Value}, Vals vs us → Vals zs ws → Vals (vs ++ zs) (us ++ ws)
  | _, _, _, _, .nil, h => h
  | _, _, _, _, .cons r h1, h => .cons r (vals_app h1 h)
end
theorem inAdd (i j : Int) (H : Hp) (Q : VK) (h : Q (.int (i + j)) H) : rAdd (.int i) (.int j) H Q := by
  first
    | exact ⟨i, j, rfl, rfl, h⟩
    | exact .inl ⟨i, j, rfl, rfl, h⟩
theorem inSub (i j : Int) (H : Hp) (Q : VK) (h : Q (.int (i - j)) H) : rSub (.int i) (.int j) H Q := by
  first
    | exact ⟨i, j, rfl, rfl, h⟩
    | exact .inl ⟨i, j, rfl, rfl, h⟩
end Hz
/-! Hz18: names for what is printed by the generator. -/
namespace Hz
open PySem L2
theorem bt_len : bootBuiltins "len" = some (.builtin "len") := by decide +kernel
theorem bt_abs : bootBuiltins "abs" = some (.builtin "abs") := by decide +kernel
theorem bt_max : bootBuiltins "max" = some (.builtin "max") := by decide +kernel
theorem bt_min : bootBuiltins "min" = some (.builtin "min") := by decide +kernel
theorem bt_repr : bootBuiltins "repr" = some (.builtin "repr") := by decide +kernel
theorem bt_isinstance : bootBuiltins "isinstance" = some (.builtin "isinstance") := by decide +kernel
theorem bt_sorted : bootBuiltins "sorted" = some (.builtin "sorted") := by decide +kernel
theorem bt_sum : bootBuiltins "sum" = some (.builtin "sum") := by decide +kernel
theorem bt_all : bootBuiltins "all" = some (.builtin "all") := by decide +kernel
theorem bt_any : bootBuiltins "any" = some (.builtin "any") := by decide +kernel
theorem bt_int : bootBuiltins "int" = some (.type "int") := by decide +kernel
theorem bt_bool : bootBuiltins "bool" = some (.type "bool") := by decide +kernel
theorem bt_str : bootBuiltins "str" = some (.type "str") := by decide +kernel
theorem bt_list : bootBuiltins "list" = some (.type "list") := by decide +kernel
theorem bt_tuple : bootBuiltins "tuple" = some (.type "tuple") := by decide +kernel
theorem bt_dict : bootBuiltins "dict" = some (.type "dict") := by decide +kernel
def sAbs : S1 := fun t ρ Q => ∃ i, t = tI i ∧ Q (tI (if i < 0 then -i else i)) ρ
abbrev iMax (i j : Int) : PyData := .int (if j > i then j else i)
abbrev iMin (i j : Int) : PyData := .int (if j < i then j else i)
abbrev iNeg (i : Int) : PyData := .int (-i)
theorem ev_neg {K : PySem.W.Frag} {I : Sg} {E : XS} {ta : TE} {wa : WE} (ha : EvW K I E ta wa) : EvW K I E (tUn (rU fun i => .int (-i)) ta) (wU iNeg wa) := ev_U (fun _ _ => .int _) ha
/-- where nothing comes -/
def sNv : WS := fun _ _ _ => False
theorem sv_never {K : PySem.W.Frag} {I : Sg} {E : XS} : SvW K I E tNever sNv := fun c ρ tm σ vs F W H r hz O Qx D hx d q => q.elim
/-- what a promise asks, weaker -/
theorem spT_mono {K : PySem.W.Frag} {inv : HO → Prop} {W W' : SpT} (h : ∀ ts post ep, W' ts post ep → W ts post ep) : ∀ vs H Q E, spT K inv W' vs H Q E → spT K inv W vs H Q E :=
  fun vs H Q E ⟨ts, fp, F, Wl, post, ep, a, b, c, d, e⟩ => ⟨ts, fp, F, Wl, post, ep, a, b, c, h _ _ _ d, e⟩
end Hz
/-! Hz19: the state, worked out. -/
namespace Hz
open PySem L2
section
variable {ρ : Rho} {j : Nat} {p : List Stp} {v : V} {s t : T} {d : PyData} {ts : List T} {C : Addr} {ns : List Str} {ks : List Key}
theorem drop_bor : (T.bor j p v s).drop ρ = putAt ρ j p v s := rfl
theorem drop_lz : (T.lz j).drop ρ = ρ := rfl
theorem drop_dat : (T.dat d).drop ρ = ρ := rfl
theorem drop_cst : (T.cst v).drop ρ = ρ := rfl
theorem drop_well : T.well.drop ρ = ρ := rfl
theorem drop_lst : (T.lst ts).drop ρ = ρ := rfl
theorem drop_tup : (T.tup ts).drop ρ = ρ := rfl
theorem drop_dic : (T.dic ks ts).drop ρ = ρ := rfl
theorem drop_ins : (T.ins C ns ts).drop ρ = ρ := rfl
theorem opn_bor : (T.bor j p v s).opn ρ = some (s, ρ) := rfl
theorem opn_lz : (T.lz j).opn ρ = (ρ[j]?).join.map fun s => (s, ρ.set j none) := rfl
theorem opn_dat : (T.dat d).opn ρ = some (.dat d, ρ) := rfl
theorem opn_cst : (T.cst v).opn ρ = some (.cst v, ρ) := rfl
theorem opn_well : T.well.opn ρ = some (.well, ρ) := rfl
theorem opn_lst : (T.lst ts).opn ρ = some (.lst ts, ρ) := rfl
theorem opn_tup : (T.tup ts).opn ρ = some (.tup ts, ρ) := rfl
theorem opn_dic : (T.dic ks ts).opn ρ = some (.dic ks ts, ρ) := rfl
theorem opn_ins : (T.ins C ns ts).opn ρ = some (.ins C ns ts, ρ) := rfl
theorem cls_bor : (T.bor j p v s).cls t ρ = putAt ρ j p v t := rfl
theorem cls_lz : (T.lz j).cls t ρ = ρ.set j (some t) := rfl
theorem cls_dat : (T.dat d).cls t ρ = ρ := rfl
theorem cls_cst : (T.cst v).cls t ρ = ρ := rfl
theorem cls_well : T.well.cls t ρ = ρ := rfl
theorem cls_lst : (T.lst ts).cls t ρ = ρ := rfl
theorem cls_tup : (T.tup ts).cls t ρ = ρ := rfl
theorem cls_dic : (T.dic ks ts).cls t ρ = ρ := rfl
theorem cls_ins : (T.ins C ns ts).cls t ρ = ρ := rfl
theorem clsAll_nil {us : Rho} : clsAll [] us ρ = ρ := rfl
theorem clsAll_some {us : Rho} : clsAll (t :: ts) (some s :: us) ρ = clsAll ts us (t.cls s ρ) := rfl
theorem clsAll_none {us : Rho} : clsAll (t :: ts) (none :: us) ρ = clsAll ts us ρ := rfl
theorem putc_lst {n : Nat} : (T.lst ts).putc (.ix n) s = .lst (ts.set n s) := rfl
theorem putc_tup {n : Nat} : (T.tup ts).putc (.ix n) s = .tup (ts.set n s) := rfl
theorem putc_ins {f : Str} : (T.ins C ns ts).putc (.fd f) s = .ins C ns (match fpos ns f with | some i => ts.set i s | none => ts) := rfl
theorem child_lst {n : Nat} : (T.lst ts).child (.ix n) = ts[n]? := rfl
theorem child_tup {n : Nat} : (T.tup ts).child (.ix n) = ts[n]? := rfl
theorem child_ins {f : Str} : (T.ins C ns ts).child (.fd f) = (fpos ns f).bind fun i => ts[i]? := rfl
theorem get_nil : t.get [] = some t := by cases t <;> rfl
theorem get_cons {x : Stp} : t.get (x :: p) = (t.child x).bind fun c => c.get p := by cases t <;> rfl
theorem put_nil : t.put [] s = s := by cases t <;> rfl
theorem put_cons {x : Stp} : t.put (x :: p) s = match t.child x with | some c => t.putc x (c.put p s) | none => t := by cases t <;> rfl
/-- a part goes back to its place -/
theorem putAt_same {t0 : T} (h1 : (ρ[j]?).join = some t0) (h2 : t0.get p = some (.cst v)) : putAt ρ j p v s = ρ.set j (some (t0.put p s)) := by
  unfold putAt
  rw [h1]
  show (match t0.get p with | some (.cst u) => if u = v then ρ.set j (some (t0.put p s)) else ρ | _ => ρ) = _
  rw [h2]
  exact if_pos rfl
theorem putFT_some {f : Str} {i : Nat} (h : fpos ns f = some i) : putFT f t ns ts = (ns, ts.set i t) := by unfold putFT; rw [h]
theorem putFT_none {f : Str} (h : fpos ns f = none) : putFT f t ns ts = (ns ++ [f], ts ++ [t]) := by unfold putFT; rw [h]
end
/-- one of two ways -/
theorem iteD {p : Prop} [Decidable p] {A B : Prop} (h1 : p → A) (h2 : ¬ p → B) : if decide p = true then A else B := by
  by_cases h : p
  · rw [if_pos (decide_eq_true h)]; exact h1 h
  · rw [if_neg (fun z => h (of_decide_eq_true z))]; exact h2 h
end Hz
/-! Hz20: lists of data in trees; indexes. -/
namespace Hz
open PySem L2
theorem pys_map {α : Type} (f : α → PyData) : ∀ xs : List α, T.pys (xs.map fun x => T.dat (f x)) = some (xs.map f)
  | [] => rfl
  | x :: xs => by
    show (match T.py (T.dat (f x)), T.pys (xs.map fun x => T.dat (f x)) with | some d, some ds => some (d :: ds) | _, _ => none) = _
    rw [pys_map f xs]
    rfl
theorem copy_map {α : Type} (f : α → PyData) : ∀ xs : List α, (xs.map fun x => T.dat (f x)).all T.copy = true
  | [] => rfl
  | x :: xs => by rw [List.map_cons, List.all_cons, copy_map f xs]; rfl
theorem real_map {α : Type} (f : α → PyData) : ∀ xs : List α, (xs.map fun x => T.dat (f x)).all T.real = true
  | [] => rfl
  | x :: xs => by rw [List.map_cons, List.all_cons, real_map f xs]; rfl
theorem isDat_map {α : Type} (f : α → PyData) : ∀ xs : List α, (xs.map fun x => T.dat (f x)).all isDat = true
  | [] => rfl
  | x :: xs => by rw [List.map_cons, List.all_cons, isDat_map f xs]; rfl
theorem ixN_of {n : Nat} {i : Int} (h0 : 0 ≤ i) (h : i < n) : ixN n i = some i.toNat := by
  unfold ixN
  simp [h0, h]
theorem sIx_of {n : Nat} {i : Int} (h0 : 0 ≤ i) (h : i ≤ n) (d : Nat) : HT.sIx n d (some i) = i.toNat := by
  show (if i < 0 then (i + (n : Int)).toNat else min i.toNat n) = i.toNat
  rw [if_neg (by omega)]
  omega
theorem cutT_pre {xs : List T} {i : Int} (h0 : 0 ≤ i) (h : i ≤ xs.length) : cutT xs none (some i) = xs.take i.toNat := by
  unfold cutT
  rw [sIx_of h0 h]
  show (xs.drop 0).take (i.toNat - 0) = _
  rfl
theorem cutT_suf {xs : List T} {i : Int} (h0 : 0 ≤ i) (h : i ≤ xs.length) : cutT xs (some i) none = xs.drop i.toNat := by
  unfold cutT
  rw [sIx_of h0 h]
  show (xs.drop i.toNat).take (xs.length - i.toNat) = _
  rw [List.take_of_length_le (by rw [List.length_drop]; exact Nat.le_refl _)]
end Hz
/-! Hz21: data that is compared or shown. -/
namespace Hz
open PySem L2
/-- two texts compared -/
def sEqT (neg : Bool) : S2 := fun t u ρ Q => ∃ x y : Str, t = .dat (.str x) ∧ u = .dat (.str y) ∧ Q (tBo (if neg then !decide (x = y) else decide (x = y))) ρ
theorem dec_str {x y : Str} : decide (V.str x = V.str y) = decide (x = y) := by
  by_cases h : x = y
  · rw [decide_eq_true h, decide_eq_true (by rw [h])]
  · rw [decide_eq_false h, decide_eq_false (fun z => h (V.str.inj z))]
theorem op_eqT {K : PySem.W.Frag} {I : Sg} : Op2 K I rEq (sEqT false) := fun c ρ t u tm σ v w vs F W H r Qv ⟨x, y, e1, e2, q⟩ Q kk => by
  subst e1; subst e2
  have d2 := r.topDat
  have d1 := r.drop.topDat
  cases d1
  cases d2
  refine ⟨rfl, ?_⟩
  rw [dec_str]
  exact kk _ _ _ _ _ _ (r.drop.drop.dat (.bl _)) q
theorem op_neT {K : PySem.W.Frag} {I : Sg} : Op2 K I rNe (sEqT true) := fun c ρ t u tm σ v w vs F W H r Qv ⟨x, y, e1, e2, q⟩ Q kk => by
  subst e1; subst e2
  have d2 := r.topDat
  have d1 := r.drop.topDat
  cases d1
  cases d2
  refine ⟨rfl, ?_⟩
  rw [dec_str]
  exact kk _ _ _ _ _ _ (r.drop.drop.dat (.bl _)) q
theorem ev_eqT {K : PySem.W.Frag} {I : Sg} {E : XS} {ta tb : TE} {wa wb : WE} (ha : EvW K I E ta wa) (hb : EvW K I E tb wb) : EvW K I E (tOp rEq ta tb) (w2 (sEqT false) wa wb) := ev_op2 op_eqT ha hb
theorem ev_neT {K : PySem.W.Frag} {I : Sg} {E : XS} {ta tb : TE} {wa wb : WE} (ha : EvW K I E ta wa) (hb : EvW K I E tb wb) : EvW K I E (tOp rNe ta tb) (w2 (sEqT true) wa wb) := ev_op2 op_neT ha hb
/-! ### plain data -/
theorem shaped_of {d : PyData} (h : d.canLay0 = true) (h2 : d.depth ≤ 64) : SeqAt.shaped d = true := by
  unfold SeqAt.shaped
  rw [h, decide_eq_true h2]
  rfl
theorem lay_map {α : Type} {f : α → PyData} (h : ∀ x, (f x).canLay0 = true) : ∀ xs : List α, PyData.canLayAll0 (xs.map f) = true
  | [] => rfl
  | x :: xs => by
    show ((f x).canLay0 && PyData.canLayAll0 (xs.map f)) = true
    rw [h x, lay_map h xs]
    rfl
theorem depth_map {α : Type} {f : α → PyData} {k : Nat} (h : ∀ x, (f x).depth ≤ k) : ∀ xs : List α, PyData.depthAll (xs.map f) ≤ k
  | [] => Nat.zero_le _
  | x :: xs => Nat.max_le.mpr ⟨h x, depth_map h xs⟩
theorem eqvAll_map {α : Type} [DecidableEq α] {f : α → PyData} (h : ∀ x y, PyData.eqv (f x) (f y) = decide (x = y)) : ∀ xs ys : List α, PyData.eqvAll (xs.map f) (ys.map f) = decide (xs = ys)
  | [], [] => rfl
  | [], _ :: _ => rfl
  | _ :: _, [] => rfl
  | x :: xs, y :: ys => by
    show (PyData.eqv (f x) (f y) && PyData.eqvAll (xs.map f) (ys.map f)) = _
    rw [h, eqvAll_map h xs ys]
    by_cases e1 : x = y <;> by_cases e2 : xs = ys <;> simp [e1, e2]
theorem eqv_int {i j : Int} : PyData.eqv (.int i) (.int j) = decide (i = j) := by
  show (i == j) = _
  rw [Bool.beq_eq_decide_eq]
theorem eqv_bool {i j : Bool} : PyData.eqv (.bool i) (.bool j) = (i == j) := rfl
theorem eqv_ints (es fs : List Int) : PyData.eqvAll (es.map .int) (fs.map .int) = decide (es = fs) := eqvAll_map (fun _ _ => eqv_int) es fs
theorem small_int {i : Int} (h : i.natAbs < 2 ^ 40) : showB (.int i) = true ∧ cost (.int i) ≤ 44 := by
  have h1 : i.natAbs.log2 < 40 := by
    by_cases e : i.natAbs = 0
    · rw [e]; decide
    · exact (Nat.log2_lt e).mpr h
  refine ⟨decide_eq_true (by omega), ?_⟩
  show i.natAbs.log2 + 4 ≤ 44
  omega
theorem small_all {α : Type} {f : α → PyData} {k : Nat} : ∀ {xs : List α}, (∀ x ∈ xs, showB (f x) = true ∧ cost (f x) ≤ k) → showBs (xs.map f) = true ∧ costs (xs.map f) ≤ (k + 2) * xs.length
  | [], _ => ⟨rfl, Nat.zero_le _⟩
  | x :: xs, h => by
    obtain ⟨a1, a2⟩ := h x List.mem_cons_self
    obtain ⟨b1, b2⟩ := small_all (xs := xs) fun y hy => h y (List.mem_cons_of_mem _ hy)
    refine ⟨?_, ?_⟩
    · show (showB (f x) && showBs (xs.map f)) = true
      rw [a1, b1]; rfl
    · show cost (f x) + 2 + costs (xs.map f) ≤ (k + 2) * (xs.length + 1)
      rw [Nat.mul_succ]
      omega
theorem small_ints {es : List Int} (h : ∀ x ∈ es, x.natAbs < 2 ^ 40) : showBs (es.map .int) = true ∧ costs (es.map .int) ≤ 46 * es.length := small_all fun x hx => small_int (h x hx)
theorem kit_self {K : PySem.W.Frag} {t : Value} : PySem.W.kitOne K t t = some true := by
  unfold PySem.W.kitOne
  rw [if_pos (by simp)]
theorem notFirst_self {K : PySem.W.Frag} {C : Addr} : PySem.W.notFirst K C (.ref C) = true := by simp [PySem.W.notFirst]
theorem insOnly {K : PySem.W.Frag} {C : Addr} (h : InsC K C) : ∀ D, Value.ref C = .ref D → InsC K D := fun D e => by cases e; exact h
theorem insNo {K : PySem.W.Frag} {n : String} : ∀ D, Value.type n = .ref D → InsC K D := fun D e => by cases e
theorem iteI {i j : Int} {A B : Prop} (h1 : i = j → A) (h2 : i ≠ j → B) : if PyData.eqv (.int i) (.int j) = true then A else B := by rw [eqv_int]; exact iteD h1 h2
theorem iteNI {i j : Int} {A B : Prop} (h1 : i ≠ j → A) (h2 : i = j → B) : if (!PyData.eqv (.int i) (.int j)) = true then A else B := by
  rw [eqv_int]
  by_cases h : i = j
  · rw [decide_eq_true h]; exact h2 h
  · rw [decide_eq_false h]; exact h1 h
theorem iteN {p : Prop} [Decidable p] {A B : Prop} (h1 : ¬ p → A) (h2 : p → B) : if (!decide p) = true then A else B := by
  by_cases h : p
  · rw [decide_eq_true h]; exact h2 h
  · rw [decide_eq_false h]; exact h1 h
theorem iteT1 {A B : Prop} (h : A) : if true = true then A else B := by rw [if_pos rfl]; exact h
theorem iteF1 {A B : Prop} (h : B) : if false = true then A else B := by rw [if_neg Bool.false_ne_true]; exact h
end Hz
/-! Hz22: two displays compared, their items only looked at. -/
namespace Hz
open PySem L2
def peekAll : List T → Rho → Option (List T)
  | [], _ => some []
  | t :: ts, ρ => match t.peek ρ, peekAll ts ρ with
    | some s, some ss => some (s :: ss)
    | _, _ => none
section
variable {K : PySem.W.Frag} {I : Sg} {c : Ct} {ρ : Rho} {tm : List T} {σ : L2.St} {vs : List V} {F : Hp} {W : List Addr} {H : Hp}
theorem R.skip : ∀ {ts : List T} {us : List V}, R K I c ρ (ts ++ tm) σ (us ++ vs) F W H → us.length = ts.length → R K I c ρ tm σ vs F W H
  | [], [], h, _ => h
  | [], _ :: _, h, e => by cases e
  | _ :: _, [], h, e => by cases e
  | t :: ts, u :: us, h, e => R.skip (ts := ts) (us := us) h.drop (Nat.succ.inj e)
theorem R.dpAll : ∀ {ts ss : List T} {us : List V} {ds : List PyData}, R K I c ρ (ts ++ tm) σ (us ++ vs) F W H → us.length = ts.length → peekAll ts ρ = some ss → T.pys ss = some ds → DpAll K H us ds
  | [], ss, [], ds, h, _, hp, hd => by
    cases hp
    cases hd
    exact .nil
  | [], _, _ :: _, _, h, e, _, _ => by cases e
  | _ :: _, _, [], _, h, e, _, _ => by cases e
  | t :: ts, ss, u :: us, ds, h, e, hp, hd => by
    have hp' : (match t.peek ρ, peekAll ts ρ with | some s, some ss => some (s :: ss) | _, _ => none) = some ss := hp
    cases e1 : t.peek ρ with
    | none => rw [e1] at hp'; cases hp'
    | some s =>
      cases e2 : peekAll ts ρ with
      | none => rw [e1, e2] at hp'; cases hp'
      | some sr =>
        rw [e1, e2] at hp'
        cases hp'
        have hd' : (match s.py, T.pys sr with | some d, some ds => some (d :: ds) | _, _ => none) = some ds := hd
        cases e3 : s.py with
        | none => rw [e3] at hd'; cases hd'
        | some d =>
          cases e4 : T.pys sr with
          | none => rw [e3, e4] at hd'; cases hd'
          | some dr =>
            rw [e3, e4] at hd'
            cases hd'
            obtain ⟨f, hr, _⟩ := R.peek h e1
            exact .cons (dp_of hr (R.sub h) e3) (R.dpAll (ts := ts) (us := us) (R.drop h) (Nat.succ.inj e) e2 e4)
theorem R.csts : ∀ us : List V, R K I c ρ tm σ vs F W H → R K I c ρ (us.map .cst ++ tm) σ (us ++ vs) F W H
  | [], h => h
  | u :: us, h => (R.csts us h).cst
theorem csts_real : ∀ us : List V, (us.map T.cst).all T.real = true
  | [] => rfl
  | u :: us => by rw [List.map_cons, List.all_cons, csts_real us]; rfl
end
def wEqTup (neg : Bool) (wa wb : WA) : WE := fun ρ Qx Q => wa ρ Qx fun ts ρ1 => ts.length ≤ 1000000 ∧ wb ρ1 Qx fun us ρ2 => us.length ≤ 1000000 ∧ ∃ s1 s2 d1 d2, peekAll ts ρ2 = some s1 ∧ peekAll us ρ2 = some s2 ∧ T.pys s1 = some d1 ∧ T.pys s2 = some d2 ∧
  SeqAt.shaped (.tuple d1) = true ∧ SeqAt.shaped (.tuple d2) = true ∧ Q (tBo (if neg then !PyData.eqv (.tuple d1) (.tuple d2) else PyData.eqv (.tuple d1) (.tuple d2))) (dropsT ts (dropsT us ρ2))
section
variable {K : PySem.W.Frag} {I : Sg} {E : XS} {ta tb : TA} {wa wb : WA}
theorem ev_eqTup_core {neg : Bool} {r : R2} (hr : ∀ x y H Q, (∃ d e, Dp K H x d ∧ Dp K H y e ∧ SeqAt.shaped d = true ∧ SeqAt.shaped e = true ∧ Q (.bl (if neg then !PyData.eqv d e else PyData.eqv d e)) H) → r x y H Q)
    (ha : EvA K I E ta wa) (hb : EvA K I E tb wb) : EvW K I E (tOp r (tTup ta) (tTup tb)) (wEqTup neg wa wb) := fun c ρ tm σ vs F W H rr Qx Qv hx hw Q k =>
  ha c ρ tm σ vs F W H rr Qx _ hx hw _ fun ts us ρ1 F1 W1 H1 r1 l1 ⟨z1, q1⟩ => by
    refine ⟨line_of (by rw [l1]; exact z1), fun p hp => ?_⟩
    have r2 := R.newTup (ts := us.map .cst) (us := us) (R.csts us r1) (by rw [List.length_map]) (csts_real us) hp
    refine hb c ρ1 _ σ _ F1 W1 _ r2 Qx _ hx q1 _ fun ts2 us2 ρ2 F2 W2 H2 r3 l2 ⟨z2, s1, s2, d1, d2, p1, p2, e1, e2, h1, h2, q⟩ => ?_
    refine ⟨line_of (by rw [l2]; exact z2), fun p' hp' => ?_⟩
    have r4 := R.newTup (ts := us2.map .cst) (us := us2) (R.csts us2 r3) (by rw [List.length_map]) (csts_real us2) hp'
    -- what both tuples are
    have tupAt : ∀ {ρ : Rho} {xs : List V} {tm : List T} {a : V} {vs : List V} {F : Hp} {W : List Addr} {H : Hp}, R K I c ρ (.tup (xs.map .cst) :: tm) σ (a :: vs) F W H → ∃ b, a = .ref b ∧ H b = some (.tup xs) := fun {ρ xs tm a vs F W H} r => by
      obtain ⟨f, hr, _⟩ := r.peek (s := .tup (xs.map .cst)) rfl
      cases hr with
      | tup g1 g2 _ =>
        refine ⟨_, rfl, ?_⟩
        have : ∀ {us xs : List V} {f : List Addr}, RepA K F W H us (xs.map .cst) f → us = xs := by
          intro us xs
          induction xs generalizing us with
          | nil => intro f h; cases h; rfl
          | cons x xs ih =>
            intro f h
            cases h with
            | cons a b _ =>
              cases a
              rw [ih b]
        rw [← this g2]
        exact g1
    have r5 := r4.drop
    obtain ⟨b, eb, hb1⟩ := tupAt (R.skip r5 l2)
    cases eb
    obtain ⟨b', eb, hb2⟩ := tupAt r4
    cases eb
    have a2 := R.dpAll r5 l2 p2 e2
    have a1 := R.dpAll (R.drop (R.skip r5 l2)) l1 p1 e1
    refine hr _ _ _ _ ⟨.tuple d1, .tuple d2, .tup (SqT.of hb1) a1, .tup (SqT.of hb2) a2, h1, h2, ?_⟩
    have r6 := R.drops r5 l2
    exact k _ _ _ _ _ _ ((R.drops (R.drop r6) l1).dat (.bl _)) q
theorem ev_eqTup (ha : EvA K I E ta wa) (hb : EvA K I E tb wb) : EvW K I E (tOp (rEqD K) (tTup ta) (tTup tb)) (wEqTup false wa wb) := ev_eqTup_core (fun x y H Q h => h) ha hb
theorem ev_neTup (ha : EvA K I E ta wa) (hb : EvA K I E tb wb) : EvW K I E (tOp (rNeD K) (tTup ta) (tTup tb)) (wEqTup true wa wb) := ev_eqTup_core (fun x y H Q h => h) ha hb
end
end Hz
/-! Hz23: trees as data, plain data: by their shape. -/
namespace Hz
open PySem L2
theorem pys_cons {t : T} {ts : List T} {d : PyData} {ds : List PyData} (h1 : t.py = some d) (h2 : T.pys ts = some ds) : T.pys (t :: ts) = some (d :: ds) := by
  show (match t.py, T.pys ts with | some d, some ds => some (d :: ds) | _, _ => none) = _
  rw [h1, h2]
theorem pys_nil : T.pys [] = some [] := rfl
theorem pys_consE {t : T} {ts : List T} : T.pys (t :: ts) = match t.py, T.pys ts with | some d, some ds => some (d :: ds) | _, _ => none := rfl
theorem py_lstE {ts : List T} : (T.lst ts).py = (T.pys ts).map .list := rfl
theorem py_tupE {ts : List T} : (T.tup ts).py = (T.pys ts).map .tuple := rfl
theorem pys_mapD {α : Type} (f : α → PyData) (xs : List α) : T.pys (xs.map fun x => T.dat (f x)) = some (xs.map f) := pys_map f xs
theorem pys_mapI (xs : List Int) : T.pys (xs.map tI) = some (xs.map .int) := pys_map _ xs
theorem dropsT_nil {ρ : Rho} : dropsT [] ρ = ρ := rfl
theorem dropsT_cons {t : T} {ts : List T} {ρ : Rho} : dropsT (t :: ts) ρ = dropsT ts (t.drop ρ) := rfl
theorem py_dat {d : PyData} : (T.dat d).py = some d := rfl
theorem py_lst {ts : List T} {ds : List PyData} (h : T.pys ts = some ds) : (T.lst ts).py = some (.list ds) := by
  show (T.pys ts).map PyData.list = _
  rw [h]; rfl
theorem py_tup {ts : List T} {ds : List PyData} (h : T.pys ts = some ds) : (T.tup ts).py = some (.tuple ds) := by
  show (T.pys ts).map PyData.tuple = _
  rw [h]; rfl
theorem pys_mapL {α : Type} {f : α → T} {g : α → PyData} (h : ∀ x, (f x).py = some (g x)) : ∀ xs : List α, T.pys (xs.map f) = some (xs.map g)
  | [] => rfl
  | x :: xs => pys_cons (h x) (pys_mapL h xs)
theorem pys_app : ∀ {ts us : List T} {ds es : List PyData}, T.pys ts = some ds → T.pys us = some es → T.pys (ts ++ us) = some (ds ++ es)
  | [], us, ds, es, h1, h2 => by cases h1; exact h2
  | t :: ts, us, ds, es, h1, h2 => by
    have h' : (match t.py, T.pys ts with | some d, some ds => some (d :: ds) | _, _ => none) = some ds := h1
    cases e1 : t.py with
    | none => rw [e1] at h'; cases h'
    | some d =>
      cases e2 : T.pys ts with
      | none => rw [e1, e2] at h'; cases h'
      | some dr =>
        rw [e1, e2] at h'
        cases h'
        exact pys_cons e1 (pys_app e2 h2)
/-- data without dicts, at most k deep -/
structure Pl (k : Nat) (d : PyData) : Prop where
  lay : d.canLay0 = true
  deep : d.depth ≤ k
structure PlA (k : Nat) (ds : List PyData) : Prop where
  lay : PyData.canLayAll0 ds = true
  deep : PyData.depthAll ds ≤ k
theorem pl_int {k : Nat} {i : Int} : Pl k (.int i) := ⟨rfl, Nat.zero_le _⟩
theorem pl_bool {k : Nat} {b : Bool} : Pl k (.bool b) := ⟨rfl, Nat.zero_le _⟩
theorem pl_none {k : Nat} : Pl k .none := ⟨rfl, Nat.zero_le _⟩
theorem pl_str {k : Nat} {x : Str} (h : (PyData.str x).canLay0 = true) : Pl k (.str x) := ⟨h, Nat.zero_le _⟩
theorem pl_list {k : Nat} {ds : List PyData} (h : PlA k ds) : Pl (k + 1) (.list ds) := ⟨h.lay, Nat.succ_le_succ h.deep⟩
theorem pl_tuple {k : Nat} {ds : List PyData} (h : PlA k ds) : Pl (k + 1) (.tuple ds) := ⟨h.lay, Nat.succ_le_succ h.deep⟩
theorem plA_nil {k : Nat} : PlA k [] := ⟨rfl, Nat.zero_le _⟩
theorem plA_cons {k : Nat} {d : PyData} {ds : List PyData} (h1 : Pl k d) (h2 : PlA k ds) : PlA k (d :: ds) := by
  refine ⟨?_, Nat.max_le.mpr ⟨h1.deep, h2.deep⟩⟩
  show (d.canLay0 && PyData.canLayAll0 ds) = true
  rw [h1.lay, h2.lay]; rfl
theorem plA_map {α : Type} {f : α → PyData} {k : Nat} (h : ∀ x, Pl k (f x)) (xs : List α) : PlA k (xs.map f) := ⟨lay_map (fun x => (h x).lay) xs, depth_map (fun x => (h x).deep) xs⟩
theorem plA_of {k : Nat} {ds : List PyData} (h : ∀ d ∈ ds, Pl k d) : PlA k ds := by
  induction ds with
  | nil => exact plA_nil
  | cons d ds ih => exact plA_cons (h d List.mem_cons_self) (ih fun x hx => h x (List.mem_cons_of_mem _ hx))
theorem shaped_pl {d : PyData} (h : Pl 64 d) : SeqAt.shaped d = true := shaped_of h.lay h.deep
theorem eqv_list {xs ys : List PyData} : PyData.eqv (.list xs) (.list ys) = PyData.eqvAll xs ys := rfl
theorem eqv_tuple {xs ys : List PyData} : PyData.eqv (.tuple xs) (.tuple ys) = PyData.eqvAll xs ys := rfl
theorem eqvAll_cons {x y : PyData} {xs ys : List PyData} : PyData.eqvAll (x :: xs) (y :: ys) = (PyData.eqv x y && PyData.eqvAll xs ys) := rfl
theorem eqvAll_nil : PyData.eqvAll [] [] = true := rfl
theorem pl_refl {k : Nat} {d : PyData} (h : Pl k d) : PyData.eqv d d = true := PySem.SeqAt.eqv_refl d h.lay
end Hz
/-! Hz24: what slices of data hold. -/
namespace Hz
open PySem L2
theorem cut_mem {xs : List T} {lo hi : Option Int} {x : T} (h : x ∈ cutT xs lo hi) : x ∈ xs := List.mem_of_mem_drop (List.mem_of_mem_take h)
theorem all_cut {xs : List T} {lo hi : Option Int} {p : T → Bool} (h : xs.all p = true) : (cutT xs lo hi).all p = true := List.all_eq_true.mpr fun x hx => List.all_eq_true.mp h x (cut_mem hx)
theorem copy_dats (ds : List PyData) : (ds.map T.dat).all T.copy = true := copy_map _ ds
theorem getD_mem {xs : List T} {i : Nat} (h : i < xs.length) : xs.getD i tN ∈ xs := by
  rw [List.getD_eq_getElem?_getD, List.getElem?_eq_getElem h]
  exact List.getElem_mem h
theorem dats_ints {ns : List Int} {x : T} (h : x ∈ (ns.map PyData.int).map T.dat) : ∃ n, n ∈ ns ∧ x = tI n := by
  obtain ⟨d, hd, rfl⟩ := List.mem_map.mp h
  obtain ⟨n, hn, rfl⟩ := List.mem_map.mp hd
  exact ⟨n, hn, rfl⟩
theorem cut_len {xs : List T} {lo hi : Option Int} : (cutT xs lo hi).length ≤ xs.length := by
  unfold cutT
  rw [List.length_take, List.length_drop]
  omega
end Hz
namespace Hz
open PySem L2
theorem rok_int {i : Int} (h : i.natAbs < 2 ^ 40) : ReprOk (.int i) := by
  obtain ⟨h1, h2⟩ := small_int h
  exact reprOk h1 (Nat.le_trans h2 (by decide)) (Nat.zero_le _)
theorem rok_none : ReprOk .none := reprOk rfl (by decide) (Nat.zero_le _)
theorem rok_bool {b : Bool} : ReprOk (.bool b) := reprOk rfl (by show 5 ≤ 16000000; decide) (Nat.zero_le _)
/-- what is shown alike is alike as a text -/
theorem eqT_self {x : Str} {P : Bool → Prop} (h : P true) : P (if false = true then !decide (x = x) else decide (x = x)) := by
  rw [if_neg Bool.false_ne_true, decide_eq_true rfl]
  exact h
theorem eqT_of {x y : Str} {P : Bool → Prop} (e : x = y) (h : P true) : P (if false = true then !decide (x = y) else decide (x = y)) := by
  rw [if_neg Bool.false_ne_true, decide_eq_true e]
  exact h
end Hz
namespace Hz
open PySem L2
theorem give_dat {t : T} {st : Stp} {d : PyData} {ρ : Rho} {Q : T → Rho → Prop} : give t st (.dat d) ρ Q = Q (.dat d) (t.drop ρ) := if_pos rfl
theorem give_cst {t : T} {st : Stp} {v : V} {ρ : Rho} {Q : T → Rho → Prop} : give t st (.cst v) ρ Q = Q (.cst v) (t.drop ρ) := if_pos rfl
theorem give_well {t : T} {st : Stp} {ρ : Rho} {Q : T → Rho → Prop} : give t st .well ρ Q = Q .well (t.drop ρ) := if_pos rfl
end Hz
namespace Hz
open PySem L2
theorem kit_type {K : PySem.W.Frag} {C : Addr} {n : String} {b : Bool} (h1 : PySem.W.isClsIn K C = true) (h2 : PySem.W.typeIn K (.ref C) = some (.type "type")) (h3 : PySem.W.subIn K (.type n) (.ref C) = some b) : PySem.W.kitOne K (.type n) (.ref C) = some b := by
  unfold PySem.W.isClsIn at h1
  unfold PySem.W.kitOne PySem.W.kitCls
  have hn : (Value.type n == Value.ref C) = false := by simp
  rw [if_neg (by rw [hn]; exact Bool.false_ne_true)]
  show (if ((PySem.W.clsIn K C).isSome && PySem.W.typeIn K (.ref C) == some (.type "type")) = true then PySem.W.subIn K (.type n) (.ref C) else none) = some b
  rw [h1, h2, if_pos (by simp)]
  exact h3
end Hz
/-! Hz25: dicts whose keys are ints and texts and whose values are data. -/
namespace Hz
open PySem L2
section
variable {κ α : Type} [DecidableEq κ]
def valA (kvs : List (κ × α)) (k : κ) : Option α := (kvs.find? fun kv => decide (kv.1 = k)).map (·.2)
def putA (kvs : List (κ × α)) (k : κ) (v : α) : List (κ × α) :=
  if (kvs.any fun kv => decide (kv.1 = k)) = true then kvs.map (fun kv => if kv.1 = k then (kv.1, v) else kv) else kvs ++ [(k, v)]
def dropA (kvs : List (κ × α)) (k : κ) : List (κ × α) := kvs.filter fun kv => decide (kv.1 ≠ k)
end
abbrev DKv := List (Key × PyData)
/-- a dict that is owned -/
def dicD (kvs : DKv) : T := .dic (kvs.map (·.1)) (kvs.map fun kv => .dat kv.2)
section
variable {K : PySem.W.Frag} {F F' : Hp}
theorem PD.sub (e : Sub F F') {xs : List (Key × V)} {ys : DKv} (h : PD K F xs ys) : PD K F' xs ys := h.by fun _ _ => dp_sub e _ _
theorem PD.len : ∀ {xs : List (Key × V)} {ys : DKv}, PD K F xs ys → xs.length = ys.length
  | _, _, .nil => rfl
  | _, _, .cons _ h2 => by rw [List.length_cons, List.length_cons, h2.len]
theorem PD.any (k : Key) : ∀ {xs : List (Key × V)} {ys : DKv}, PD K F xs ys → (xs.any fun kv => decide (kv.1 = k)) = ys.any fun kv => decide (kv.1 = k)
  | _, _, .nil => rfl
  | _, _, .cons _ h2 => by rw [List.any_cons, List.any_cons, h2.any k]
theorem PD.app : ∀ {xs xs' : List (Key × V)} {ys ys' : DKv}, PD K F xs ys → PD K F xs' ys' → PD K F (xs ++ xs') (ys ++ ys')
  | _, _, _, _, .nil, h => h
  | _, _, _, _, .cons h1 h2, h => .cons h1 (PD.app h2 h)
theorem PD.repl {k : Key} {v : V} {d : PyData} (hd : Dp K F v d) : ∀ {xs : List (Key × V)} {ys : DKv}, PD K F xs ys → PD K F (xs.map fun kv => if kv.1 = k then (kv.1, v) else kv) (ys.map fun kv => if kv.1 = k then (kv.1, d) else kv)
  | _, _, .nil => .nil
  | _, _, .cons (k := j) h1 h2 => by
    rw [List.map_cons, List.map_cons]
    by_cases e : j = k
    · rw [if_pos e, if_pos e]; exact .cons hd (PD.repl hd h2)
    · rw [if_neg e, if_neg e]; exact .cons h1 (PD.repl hd h2)
theorem PD.put {k : Key} {v : V} {d : PyData} {xs : List (Key × V)} {ys : DKv} (h : PD K F xs ys) (hd : Dp K F v d) : PD K F (putK xs k v) (putA ys k d) := by
  unfold putK putA
  rw [h.any k]
  by_cases e : (ys.any fun kv => decide (kv.1 = k)) = true
  · rw [if_pos e, if_pos e]; exact h.repl hd
  · rw [if_neg e, if_neg e]; exact h.app (.cons hd .nil)
theorem PD.drop {k : Key} : ∀ {xs : List (Key × V)} {ys : DKv}, PD K F xs ys → PD K F (dropK xs k) (dropA ys k)
  | _, _, .nil => .nil
  | _, _, .cons (k := j) (xs := xs) (ys := ys) h1 h2 => by
    have ih := PD.drop (k := k) h2
    unfold dropK dropA at ih ⊢
    rw [List.filter_cons, List.filter_cons]
    by_cases e : j = k
    · rw [if_neg (by simp [e]), if_neg (by simp [e])]; exact ih
    · rw [if_pos (by simp [e]), if_pos (by simp [e])]; exact .cons h1 ih
theorem PD.val {k : Key} : ∀ {xs : List (Key × V)} {ys : DKv}, PD K F xs ys → (valV xs k = none ∧ valA ys k = none) ∨ ∃ v d, valV xs k = some v ∧ valA ys k = some d ∧ Dp K F v d
  | _, _, .nil => .inl ⟨rfl, rfl⟩
  | _, _, .cons (k := j) (v := v) (d := d) h1 h2 => by
    by_cases e : j = k
    · refine .inr ⟨v, d, valV_pos e, ?_, h1⟩
      simp [valA, List.find?_cons, e]
    · have ih := PD.val (k := k) h2
      rw [valV_neg (p := (j, v)) e]
      have e2 : ∀ ys : DKv, valA ((j, d) :: ys) k = valA ys k := fun ys => by simp [valA, List.find?_cons, e]
      rw [e2]
      exact ih
/-- what such a tree says -/
theorem rep_dic {W : List Addr} {H : Hp} {v : V} {kvs : DKv} {f : List Addr} (h : Rep K F W H v (dicD kvs) f) : ∃ a xs, v = .ref a ∧ H a = some (.dK xs) ∧ PD K F xs kvs ∧ f.Perm [a] := by
  cases h with
  | dic h1 h0 h2 p =>
    rename_i a vs fps
    have key : ∀ (kvs : DKv) (vs : List V) (f : List Addr), RepA K F W H vs (kvs.map fun kv => .dat kv.2) f → PD K F ((kvs.map (·.1)).zip vs) kvs ∧ f = [] := by
      intro kvs
      induction kvs with
      | nil => intro vs f h; cases h; exact ⟨.nil, rfl⟩
      | cons kv kvs ih =>
        intro vs f h
        cases h with
        | cons g1 g2 q =>
          cases g1 with
          | dat g1 =>
            obtain ⟨i1, i2⟩ := ih _ _ g2
            subst i2
            exact ⟨.cons g1 i1, List.perm_nil.mp q⟩
    obtain ⟨k1, k2⟩ := key kvs vs fps h2
    subst k2
    exact ⟨a, _, rfl, h1, k1, p⟩
theorem rep_dic_mk {W : List Addr} {H : Hp} {a : Addr} {kvs : DKv} {xs : List (Key × V)} (h1 : H a = some (.dK xs)) (h2 : PD K F xs kvs) : Rep K F W H (.ref a) (dicD kvs) [a] := by
  have key : ∀ {xs : List (Key × V)} {kvs : DKv}, PD K F xs kvs → (kvs.map (·.1)).zip (xs.map (·.2)) = xs ∧ RepA K F W H (xs.map (·.2)) (kvs.map fun kv => .dat kv.2) [] := by
    intro xs kvs h
    induction h with
    | nil => exact ⟨rfl, .nil⟩
    | cons g1 g2 ih => exact ⟨by rw [List.map_cons, List.map_cons, List.zip_cons_cons, ih.1], .cons (f1 := []) (f2 := []) (.dat g1) ih.2 (.refl _)⟩
  obtain ⟨k1, k2⟩ := key h2
  exact .dic (by rw [h1, k1]) (by rw [List.length_map, List.length_map, h2.len]) k2 (.refl _)
end
def keyOf : PyData → Option Key
  | .int i => some (.inl i)
  | .str x => some (.inr x)
  | _ => none
theorem key_dp {K : PySem.W.Frag} {F : Hp} {v : V} {d : PyData} {k : Key} (h : Dp K F v d) (hk : keyOf d = some k) : v = kV k := by
  cases h with
  | int i => cases hk; rfl
  | str x => cases hk; rfl
  | _ => cases hk
section
variable {K : PySem.W.Frag} {I : Sg} {c : Ct} {ρ : Rho} {tm : List T} {σ : L2.St} {x : V} {vs : List V} {F : Hp} {W : List Addr} {H : Hp} {kvs : DKv} {p : Addr}
theorem R.newDic {xs : List (Key × V)} (h : R K I c ρ tm σ vs F W H) (hx : PD K F xs kvs) (hp : H p = none) : R K I c ρ (dicD kvs :: tm) σ (.ref p :: vs) F W (upd H p (.dK xs)) := by
  obtain ⟨fA, hA, nd, wf, q⟩ := R.loc (ts := []) (us := []) h rfl
  cases hA
  exact q (us' := [.ref p]) (ts' := [dicD kvs]) (fB := [p]) (Step.alloc (o := .dK xs) wf hp) (List.nodup_cons.mpr ⟨fun z => (nomatch z), .nil⟩) (.one (.of (rep_dic_mk upd_same hx)))
theorem R.modDic (h : R K I c ρ (dicD kvs :: tm) σ (x :: vs) F W H) : ∃ a xs, x = .ref a ∧ H a = some (.dK xs) ∧ PD K F xs kvs ∧ ∀ {xs' : List (Key × V)} {kvs' : DKv}, PD K F xs' kvs' → R K I c ρ (dicD kvs' :: tm) σ (x :: vs) F W (upd H a (.dK xs')) := by
  obtain ⟨fA, hA, nd, wf, q⟩ := R.loc (ts := [dicD kvs]) (us := [x]) h rfl
  cases hA with
  | cons h1 h2 p =>
    cases h2
    obtain ⟨a, xs, rfl, ha, hx, pa⟩ := rep_dic (h1.real rfl)
    refine ⟨a, xs, rfl, ha, hx, fun {xs' kvs'} hx' => ?_⟩
    have pm : _ := p.trans (pa.append_right [])
    have hm : a ∈ fA := pm.mem_iff.mpr (List.mem_append_left _ List.mem_cons_self)
    exact q (us' := [.ref a]) (ts' := [dicD kvs']) (fB := [a]) ((Step.upd (o := .dK xs') wf hm).less fun b hb => by rw [List.mem_singleton.mp hb]; exact hm) (List.nodup_cons.mpr ⟨fun z => (nomatch z), .nil⟩) (.one (.of (rep_dic_mk upd_same hx')))
theorem R.peekDic {t : T} (h : R K I c ρ (t :: tm) σ (x :: vs) F W H) (hp : t.peek ρ = some (dicD kvs)) : ∃ a xs, x = .ref a ∧ H a = some (.dK xs) ∧ PD K F xs kvs := by
  obtain ⟨f, hr, _⟩ := h.peek hp
  obtain ⟨a, xs, e, ha, hx, _⟩ := rep_dic hr
  exact ⟨a, xs, e, ha, hx⟩
end
/-! ### by trees -/
def wDNew : WE := fun ρ _ Q => Q (dicD []) ρ
/-- d[y], y there -/
def wDGet (wd wy : WE) : WE := fun ρ Qx Q => wd ρ Qx fun t ρ1 => wy ρ1 Qx fun u ρ2 => ∃ kvs d k e, t.peek ρ2 = some (dicD kvs) ∧ u = .dat d ∧ keyOf d = some k ∧ valA kvs k = some e ∧ Q (.dat e) (t.drop ρ2)
def wDIn (neg : Bool) (wy wd : WE) : WE := fun ρ Qx Q => wy ρ Qx fun u ρ1 => wd ρ1 Qx fun t ρ2 => ∃ kvs d k, t.peek ρ2 = some (dicD kvs) ∧ u = .dat d ∧ keyOf d = some k ∧ Q (tBo (if neg then !(valA kvs k).isSome else (valA kvs k).isSome)) (t.drop ρ2)
/-- d.get(y), d.get(y, z) -/
def dicAt (t : T) (ρ : Rho) : Prop := ∃ kvs, t.peek ρ = some (dicD kvs)
def wDGet1 (wd wy : WE) : WE := fun ρ Qx Q => wd ρ Qx fun t ρ1 => dicAt t ρ1 ∧ wy ρ1 Qx fun u ρ2 => ∃ kvs d k, t.peek ρ2 = some (dicD kvs) ∧ u = .dat d ∧ keyOf d = some k ∧ Q (.dat ((valA kvs k).getD .none)) (t.drop ρ2)
def wDGet2 (wd wy wz : WE) : WE := fun ρ Qx Q => wd ρ Qx fun t ρ1 => dicAt t ρ1 ∧ wy ρ1 Qx fun u ρ2 => (wFz wz) ρ2 Qx fun z ρ3 => ∃ kvs d k e, t.peek ρ3 = some (dicD kvs) ∧ u = .dat d ∧ keyOf d = some k ∧ z = .dat e ∧ Q (.dat ((valA kvs k).getD e)) (t.drop ρ3)
/-- d.pop(y), y there -/
def wDPop (wd wy : WE) : WE := fun ρ Qx Q => wd ρ Qx fun t ρ1 => dicAt t ρ1 ∧ wy ρ1 Qx fun u ρ2 => ∃ kvs d k e ρ3, u = .dat d ∧ keyOf d = some k ∧ t.opn ρ2 = some (dicD kvs, ρ3) ∧ valA kvs k = some e ∧ Q (.dat e) (t.cls (dicD (dropA kvs k)) ρ3)
/-- d[y] = v; del d[y] -/
def sDp (wd wy wv : WE) : WS := fun O Qx ρ => (wFz wv) ρ Qx fun z ρ1 => wd ρ1 Qx fun t ρ2 => wy ρ2 Qx fun u ρ3 => ∃ kvs d k e ρ4, z = .dat e ∧ u = .dat d ∧ keyOf d = some k ∧ t.opn ρ3 = some (dicD kvs, ρ4) ∧ kvs.length < 1000000 ∧ O.nx (t.cls (dicD (putA kvs k e)) ρ4)
def sDl (wd wy : WE) : WS := fun O Qx ρ => wd ρ Qx fun t ρ1 => wy ρ1 Qx fun u ρ2 => ∃ kvs d k ρ3, u = .dat d ∧ keyOf d = some k ∧ t.opn ρ2 = some (dicD kvs, ρ3) ∧ (valA kvs k).isSome = true ∧ O.nx (t.cls (dicD (dropA kvs k)) ρ3)
section
variable {K : PySem.W.Frag} {I : Sg} {E : XS} {td ty tz : TE} {wd wy wz : WE}
theorem ev_dnew : EvW K I E tDNewK wDNew := fun c ρ tm σ vs F W H r Qx Qv hx hw Q k p hp => k _ _ _ _ _ _ (r.newDic .nil hp) hw
theorem PD.get {F : Hp} {H : Hp} {xs : List (Key × V)} {kvs : DKv} {a : Addr} {k : Key} (ha : H a = some (.dK xs)) (hx : PD K F xs kvs) : ∃ o, DGet H a (kV k) o ∧ o = valV xs k := ⟨_, DGet.k ha, rfl⟩
theorem ev_dget (hd : EvW K I E td wd) (hy : EvW K I E ty wy) : EvW K I E (tDGet td ty) (wDGet wd wy) := fun c ρ tm σ vs F W H r Qx Qv hx hw Q kk =>
  hd c ρ tm σ vs F W H r Qx _ hx hw _ fun t ρ1 x F1 W1 H1 r1 q1 => hy c ρ1 (t :: tm) σ (x :: vs) F1 W1 H1 r1 Qx _ hx q1 _ fun u ρ2 y F2 W2 H2 r2 ⟨kvs, d, k, e, hp, hu, hk, he, q⟩ => by
    subst hu
    have ey := key_dp r2.topDat hk
    subst ey
    have r3 := r2.drop
    obtain ⟨a, xs, rfl, ha, hx'⟩ := r3.peekDic hp
    rcases hx'.val (k := k) with ⟨_, z⟩ | ⟨v, d', z1, z2, z3⟩
    · rw [z] at he; cases he
    · rw [z2] at he
      cases he
      exact ⟨a, v, rfl, by rw [← z1]; exact DGet.k ha, kk _ _ _ _ _ _ (r3.dropT.dat z3) q⟩
theorem isSome_val {F : Hp} {xs : List (Key × V)} {kvs : DKv} {k : Key} (h : PD K F xs kvs) : (valV xs k).isSome = (valA kvs k).isSome := by
  rcases h.val (k := k) with ⟨z1, z2⟩ | ⟨v, d, z1, z2, _⟩ <;> rw [z1, z2] <;> rfl
theorem ev_din (hy : EvW K I E ty wy) (hd : EvW K I E td wd) : EvW K I E (tDIn ty td) (wDIn false wy wd) := fun c ρ tm σ vs F W H r Qx Qv hx hw Q kk =>
  hy c ρ tm σ vs F W H r Qx _ hx hw _ fun u ρ1 y F1 W1 H1 r1 q1 => hd c ρ1 (u :: tm) σ (y :: vs) F1 W1 H1 r1 Qx _ hx q1 _ fun t ρ2 x F2 W2 H2 r2 ⟨kvs, d, k, hp, hu, hk, q⟩ => by
    subst hu
    obtain ⟨a, xs, rfl, ha, hx'⟩ := r2.peekDic hp
    have r3 := r2.dropT
    have ey := key_dp r3.topDat hk
    subst ey
    refine ⟨a, _, rfl, DGet.k ha, ?_⟩
    rw [isSome_val hx']
    exact kk _ _ _ _ _ _ (r3.drop.dat (.bl _)) q
theorem ev_dnotin (hy : EvW K I E ty wy) (hd : EvW K I E td wd) : EvW K I E (tDNotIn ty td) (wDIn true wy wd) := fun c ρ tm σ vs F W H r Qx Qv hx hw Q kk =>
  hy c ρ tm σ vs F W H r Qx _ hx hw _ fun u ρ1 y F1 W1 H1 r1 q1 => hd c ρ1 (u :: tm) σ (y :: vs) F1 W1 H1 r1 Qx _ hx q1 _ fun t ρ2 x F2 W2 H2 r2 ⟨kvs, d, k, hp, hu, hk, q⟩ => by
    subst hu
    obtain ⟨a, xs, rfl, ha, hx'⟩ := r2.peekDic hp
    have r3 := r2.dropT
    have ey := key_dp r3.topDat hk
    subst ey
    refine ⟨a, _, rfl, DGet.k ha, ?_⟩
    rw [isSome_val hx']
    exact kk _ _ _ _ _ _ (r3.drop.dat (.bl _)) q
theorem dp_getD {F : Hp} {xs : List (Key × V)} {kvs : DKv} {k : Key} {z : V} {e : PyData} (h : PD K F xs kvs) (hz : Dp K F z e) : Dp K F ((valV xs k).getD z) ((valA kvs k).getD e) := by
  rcases h.val (k := k) with ⟨z1, z2⟩ | ⟨v, d, z1, z2, z3⟩ <;> rw [z1, z2]
  · exact hz
  · exact z3
theorem ev_dget1 (hd : EvW K I E td wd) (hy : EvW K I E ty wy) : EvW K I E (tDGet1 td ty) (wDGet1 wd wy) := fun c ρ tm σ vs F W H r Qx Qv hx hw Q kk =>
  hd c ρ tm σ vs F W H r Qx _ hx hw _ fun t ρ1 x F1 W1 H1 r1 ⟨⟨kvs0, hp0⟩, q1⟩ => by
    obtain ⟨a, xs0, rfl, ha0, _⟩ := r1.peekDic hp0
    refine ⟨a, rfl, .inl ⟨xs0, .inl ha0⟩, hy c ρ1 (t :: tm) σ (.ref a :: vs) F1 W1 H1 r1 Qx _ hx q1 _ fun u ρ2 y F2 W2 H2 r2 ⟨kvs, d, k, hp, hu, hk, q⟩ => ?_⟩
    subst hu
    have ey := key_dp r2.topDat hk
    subst ey
    have r3 := r2.drop
    obtain ⟨b, xs, eb, ha, hx'⟩ := r3.peekDic hp
    cases eb
    exact ⟨_, DGet.k ha, kk _ _ _ _ _ _ (r3.dropT.dat (dp_getD hx' .non)) q⟩
theorem ev_dget2 (hd : EvW K I E td wd) (hy : EvW K I E ty wy) (hz : EvW K I E tz wz) : EvW K I E (tDGet2 td ty tz) (wDGet2 wd wy wz) := fun c ρ tm σ vs F W H r Qx Qv hx hw Q kk =>
  hd c ρ tm σ vs F W H r Qx _ hx hw _ fun t ρ1 x F1 W1 H1 r1 ⟨⟨kvs0, hp0⟩, q1⟩ => by
    obtain ⟨a, xs0, rfl, ha0, _⟩ := r1.peekDic hp0
    refine ⟨a, rfl, .inl ⟨xs0, .inl ha0⟩, hy c ρ1 (t :: tm) σ (.ref a :: vs) F1 W1 H1 r1 Qx _ hx q1 _ fun u ρ2 y F2 W2 H2 r2 q2 => ev_fz hz c ρ2 (u :: t :: tm) σ (y :: .ref a :: vs) F2 W2 H2 r2 Qx _ hx q2 _ fun s ρ3 z F3 W3 H3 r3 ⟨kvs, d, k, e, hp, hu, hk, hs, q⟩ => ?_⟩
    subst hu; subst hs
    have dz := r3.topDat
    have r4 := r3.drop
    have ey := key_dp r4.topDat hk
    subst ey
    have r5 := r4.drop
    obtain ⟨b, xs, eb, ha, hx'⟩ := r5.peekDic hp
    cases eb
    exact ⟨_, DGet.k ha, kk _ _ _ _ _ _ (r5.dropT.dat (dp_getD hx' dz)) q⟩
theorem ev_dpop (hd : EvW K I E td wd) (hy : EvW K I E ty wy) : EvW K I E (tDPop1 td ty) (wDPop wd wy) := fun c ρ tm σ vs F W H r Qx Qv hx hw Q kk =>
  hd c ρ tm σ vs F W H r Qx _ hx hw _ fun t ρ1 x F1 W1 H1 r1 ⟨⟨kvs0, hp0⟩, q1⟩ => by
    obtain ⟨a, xs0, rfl, ha0, _⟩ := r1.peekDic hp0
    refine ⟨a, rfl, .inl ⟨xs0, .inl ha0⟩, hy c ρ1 (t :: tm) σ (.ref a :: vs) F1 W1 H1 r1 Qx _ hx q1 _ fun u ρ2 y F2 W2 H2 r2 ⟨kvs, d, k, e, ρ3, hu, hk, ho, he, q⟩ => ?_⟩
    subst hu
    have ey := key_dp r2.topDat hk
    subst ey
    have r3 := r2.drop
    have hor := r3.orig
    obtain ⟨r4, _⟩ := r3.opn ho
    obtain ⟨b, xs, eb, ha, hx', hm⟩ := r4.modDic
    cases eb
    rcases hx'.val (k := k) with ⟨_, z⟩ | ⟨v, d', z1, z2, z3⟩
    · rw [z] at he; cases he
    · rw [z2] at he
      cases he
      have r5 := R.clsT (t := t) (hm (hx'.drop (k := k))) rfl hor
      exact ⟨xs, k, v, ha, rfl, z1, kk _ _ _ _ _ _ (r5.dat z3) q⟩
theorem sv_dput (hd : EvW K I E td wd) (hy : EvW K I E ty wy) (hz : EvW K I E tz wz) : SvW K I E (sDPut td ty tz) (sDp wd wy wz) := fun c ρ tm σ vs F W H r hzz O Qx D hx dd q =>
  ev_fz hz c ρ tm σ vs F W H r Qx _ hx q _ fun s ρ1 z F1 W1 H1 r1 q1 => hd c ρ1 (s :: tm) σ (z :: vs) F1 W1 H1 r1 Qx _ hx q1 _ fun t ρ2 x F2 W2 H2 r2 q2 => hy c ρ2 (t :: s :: tm) σ (x :: z :: vs) F2 W2 H2 r2 Qx _ hx q2 _ fun u ρ3 y F3 W3 H3 r3 ⟨kvs, d, k, e, ρ4, hs, hu, hk, ho, hl, q3⟩ => by
    subst hu; subst hs
    have ey := key_dp r3.topDat hk
    subst ey
    have r4 := r3.drop
    have hor := r4.orig
    obtain ⟨r5, _⟩ := r4.opn ho
    have dz := (R.drop r5).topDat
    obtain ⟨a, xs, rfl, ha, hx', hm⟩ := r5.modDic
    have r6 := R.clsT (t := t) (hm (hx'.put (k := k) dz)) rfl hor
    exact ⟨a, _, rfl, DPut.k ha (Nat.lt_of_lt_of_le (by rw [hx'.len]; exact hl) (line_of (n := 1000000) (Nat.le_refl _))), dd.nx _ _ _ _ _ r6.drop q3⟩
theorem sv_ddel (hd : EvW K I E td wd) (hy : EvW K I E ty wy) : SvW K I E (sDDel td ty) (sDl wd wy) := fun c ρ tm σ vs F W H r hzz O Qx D hx dd q =>
  hd c ρ tm σ vs F W H r Qx _ hx q _ fun t ρ1 x F1 W1 H1 r1 q1 => hy c ρ1 (t :: tm) σ (x :: vs) F1 W1 H1 r1 Qx _ hx q1 _ fun u ρ2 y F2 W2 H2 r2 ⟨kvs, d, k, ρ3, hu, hk, ho, hs, q2⟩ => by
    subst hu
    have ey := key_dp r2.topDat hk
    subst ey
    have r3 := r2.drop
    have hor := r3.orig
    obtain ⟨r4, _⟩ := r3.opn ho
    obtain ⟨a, xs, rfl, ha, hx', hm⟩ := r4.modDic
    have r5 := R.clsT (t := t) (hm (hx'.drop (k := k))) rfl hor
    exact ⟨a, xs, k, rfl, ha, rfl, by rw [isSome_val hx']; exact hs, dd.nx _ _ _ _ _ r5 q2⟩
end
end Hz
/-! Hz26: sorted, min, max of data. -/
namespace Hz
open PySem L2 PySem.W PyProof.Rows
mutual
theorem dp_plain {K : PySem.W.Frag} {H : Hp} : ∀ (d : PyData) (v : V), Dp K H v d → d.plain = true
  | .none, _, _ => rfl
  | .bool _, _, _ => rfl
  | .int _, _, _ => rfl
  | .str _, _, _ => rfl
  | .list ds, _, h => by
    cases h with
    | lst _ h => simp only [PyData.plain]; exact dpa_plain ds _ h
  | .tuple ds, _, h => by
    cases h with
    | tup _ h => simp only [PyData.plain]; exact dpa_plain ds _ h
  | .dict _, _, h => by cases h
theorem dpa_plain {K : PySem.W.Frag} {H : Hp} : ∀ (ds : List PyData) (vs : List V), DpAll K H vs ds → PyData.plainAll ds = true
  | [], _, _ => rfl
  | d :: ds, _, h => by
    cases h with
    | cons h1 h2 => simp only [PyData.plainAll, dp_plain d _ h1, dpa_plain ds _ h2]; rfl
end
theorem dpa_len {K : PySem.W.Frag} {H : Hp} : ∀ {us : List V} {ds : List PyData}, DpAll K H us ds → us.length = ds.length
  | _, _, .nil => rfl
  | _, _, .cons _ h => by rw [List.length_cons, List.length_cons, dpa_len h]
theorem dpa_at {K : PySem.W.Frag} {H : Hp} : ∀ {us : List V} {ds : List PyData} {i : Nat} {u : V}, DpAll K H us ds → us[i]? = some u → ∃ d, ds[i]? = some d ∧ Dp K H u d
  | _, _, _, _, .nil, h => by cases h
  | _, _, 0, _, .cons h1 _, h => by cases h; exact ⟨_, rfl, h1⟩
  | _, _, i + 1, _, .cons _ h2, h => dpa_at (i := i) h2 h
section
variable {X : Cx}
def rSortD (K : PySem.W.Frag) : List V → Hp → VK → Prop := fun vs H Q => ∃ (a : Addr) (us : List V) (ds : List PyData), vs = [V.ref a] ∧ SqL K H a us ∧ DpAll K H us ds ∧ AllAlike ds ∧ Sortable ds ∧ (∀ d ∈ ds, d.depth ≤ 60) ∧
  ∀ (p : Addr), H p = none → Q (.ref p) (upd H p (.lst (((us.zip ds).mergeSort (dataLe false fun b : V × PyData => b.2)).map (·.1))))
theorem cr_sortD {k : Nat} (hr : Room k X.A) : CallR X (.builtin "sorted") (rSortD X.K) := by
  intro pins s σ H vs us0 Q I r h
  obtain ⟨a, us, ds, rfl, hs, hd, hal, hk, hdep, q⟩ := h
  obtain ⟨its, rv, hl, hz⟩ := I.list hs
  rw [Vals.ref1 r]
  obtain ⟨as, rd⟩ := Dp.readsAll I ds us its hd rv
  have hlen := dpa_len hd
  have hlv := rv.length
  -- each value with what it is
  have each : ∀ {us : List V} {ds : List PyData} {its : List Value} {as : List Addr}, Vals us its → DpAll X.K H us ds → ReadsAll s.heap its ds as → EachIs (fun v (b : V × PyData) => RelV b.1 v ∧ Dp X.K H b.1 b.2) its (us.zip ds) ∧ EachIs (fun v (b : V × PyData) => ∃ as, Reads s.heap v b.2 as) its (us.zip ds) ∧ (us.zip ds).map (·.2) = ds := by
    intro us ds its as rv hd rd
    induction rv generalizing ds as with
    | nil => cases hd; exact ⟨.nil, .nil, rfl⟩
    | cons r1 r2 ih =>
      cases hd with
      | cons d1 d2 =>
        cases rd with
        | cons e1 e2 =>
          obtain ⟨i1, i2, i3⟩ := ih d2 e2
          exact ⟨.cons ⟨r1, d1⟩ i1, .cons ⟨_, e1⟩ i2, by rw [List.zip_cons_cons, List.map_cons, i3]⟩
  obtain ⟨e1, e2, e3⟩ := each rv hd rd
  have hun : ∀ b, b ∈ us.zip ds → X.A.units + 2 + (b.2).depth < cLine := fun b hb => by
    have h1 : b.2 ∈ ds := by rw [← e3]; exact List.mem_map.mpr ⟨b, hb, rfl⟩
    have h2 := hdep _ h1
    have := hr.un
    omega
  refine PySem.W.sorted_data (enc := fun b : V × PyData => b.2) hl.isList e1 e2 (by rw [e3]; exact hal) (by rw [e3]; exact hk) (by rw [List.length_zip]; omega) hun fun out ho eo => ?_
  obtain ⟨ep, he'⟩ := PyProof.Rows.sortedAll_at s.heap its out.toArray
  have fin : ∀ {out : List Value} {bs : List (V × PyData)}, EachIs (fun v (b : V × PyData) => RelV b.1 v ∧ Dp X.K H b.1 b.2) out bs → Vals (bs.map (·.1)) out := by
    intro out bs h
    induction h with
    | nil => exact .nil
    | cons h1 _ ih => exact .cons h1.1 ih
  have f1 := fin eo
  have hlz : (((us.zip ds).mergeSort (dataLe false fun b : V × PyData => b.2)).map (·.1)).length ≤ sizeLine := by
    rw [f1.length, ho, List.length_zip]; omega
  exact ⟨.ref _, upd H (s.heap.objs.size + 1) (.lst _), I.laid (t' := s.toks) (fun _ _ => PyProof.Rows.sortedAll_old) (Nat.le_succ _) ⟨hlz, out, ep, f1, he'⟩, rfl, q _ (I.hok.fresh (Nat.le_succ _))⟩
def rMinD (K : PySem.W.Frag) (f : PyData → List PyData → PyData) : List V → Hp → VK → Prop := fun vs H Q => ∃ (a : Addr) (us : List V) (x : PyData) (ds : List PyData), vs = [V.ref a] ∧ SqL K H a us ∧ DpAll K H us (x :: ds) ∧ AlikeAll (x :: ds) ∧ PyData.depthAll (x :: ds) ≤ 60 ∧
  ∀ (i : Nat) u, us[i]? = some u → (x :: ds)[i]? = some (f x ds) → Q u H
theorem cr_minD {k : Nat} (hr : Room k X.A) : CallR X (.builtin "min") (rMinD X.K minD) := by
  intro pins s σ H vs us0 Q I r h
  obtain ⟨a, us, x, ds, rfl, hs, hd, hal, hdep, q⟩ := h
  obtain ⟨its, rv, hl, hz⟩ := I.list hs
  rw [Vals.ref1 r]
  obtain ⟨as, rd⟩ := Dp.readsAll I (x :: ds) us its hd rv
  refine min_list_data (x := x) (xs := ds) hr.hd hl.isList rd hal (by have := hr.un; omega) fun i v h' tk bs hv hrd hk => ?_
  have hv' : its[i]? = some v := by simpa using hv
  obtain ⟨u, hu, ru⟩ : ∃ u, us[i]? = some u ∧ RelV u v := by
    have hlt : i < its.length := (List.getElem?_eq_some_iff.mp hv').1
    have hlt2 : i < us.length := by rw [rv.length]; exact hlt
    obtain ⟨v', hv2, ru⟩ := rv.get (List.getElem?_eq_getElem hlt2)
    rw [hv'] at hv2
    cases hv2
    exact ⟨_, List.getElem?_eq_getElem hlt2, ru⟩
  obtain ⟨d, hdi, hdd⟩ := dpa_at (i := i) (u := u) hd hu
  obtain ⟨bs', rd'⟩ := Dp.reads I d u v hdd ru
  have rd2 : Reads h' v d bs' := PyProof.Rows.Reads.keeps hk rd'
  have e := PySem.SeqAt.plain_unique d _ v _ _ (dp_plain d u hdd) rd2 hrd
  subst e
  exact ⟨u, H, I.kept hk, ru, q i u hu hdi⟩
theorem cr_maxD {k : Nat} (hr : Room k X.A) : CallR X (.builtin "max") (rMinD X.K maxD) := by
  intro pins s σ H vs us0 Q I r h
  obtain ⟨a, us, x, ds, rfl, hs, hd, hal, hdep, q⟩ := h
  obtain ⟨its, rv, hl, hz⟩ := I.list hs
  rw [Vals.ref1 r]
  obtain ⟨as, rd⟩ := Dp.readsAll I (x :: ds) us its hd rv
  refine max_list_data (x := x) (xs := ds) hr.hd hl.isList rd hal (by have := hr.un; omega) fun i v h' tk bs hv hrd hk => ?_
  have hv' : its[i]? = some v := by simpa using hv
  obtain ⟨u, hu, ru⟩ : ∃ u, us[i]? = some u ∧ RelV u v := by
    have hlt : i < its.length := (List.getElem?_eq_some_iff.mp hv').1
    have hlt2 : i < us.length := by rw [rv.length]; exact hlt
    obtain ⟨v', hv2, ru⟩ := rv.get (List.getElem?_eq_getElem hlt2)
    rw [hv'] at hv2
    cases hv2
    exact ⟨_, List.getElem?_eq_getElem hlt2, ru⟩
  obtain ⟨d, hdi, hdd⟩ := dpa_at (i := i) (u := u) hd hu
  obtain ⟨bs', rd'⟩ := Dp.reads I d u v hdd ru
  have rd2 : Reads h' v d bs' := PyProof.Rows.Reads.keeps hk rd'
  have e := PySem.SeqAt.plain_unique d _ v _ _ (dp_plain d u hdd) rd2 hrd
  subst e
  exact ⟨u, H, I.kept hk, ru, q i u hu hdi⟩
end
/-! ### by trees -/
/-- sorted(xs): a new list of the same data in order -/
def sSort : S1 := fun t ρ Q => ∃ s ts ds, t.peek ρ = some s ∧ s.isL = true ∧ s.items = some ts ∧ ts.all isDat = true ∧ T.pys ts = some ds ∧ AllAlike ds ∧ Sortable ds ∧ (∀ d ∈ ds, d.depth ≤ 60) ∧ Q (.lst ((ds.mergeSort (dataLe false fun d => d)).map .dat)) (t.drop ρ)
/-- min(xs), max(xs): data -/
def sMinD (f : PyData → List PyData → PyData) : S1 := fun t ρ Q => ∃ s ts x ds, t.peek ρ = some s ∧ s.isL = true ∧ s.items = some ts ∧ ts.all isDat = true ∧ T.pys ts = some (x :: ds) ∧ AlikeAll (x :: ds) ∧ PyData.depthAll (x :: ds) ≤ 60 ∧ Q (.dat (f x ds)) (t.drop ρ)
section
variable {K : PySem.W.Frag} {I : Sg}
theorem dpa_sub' {H H' : Hp} (e : Sub H H') {us : List V} {ds : List PyData} (h : DpAll K H us ds) : DpAll K H' us ds := dpa_sub e _ _ h
theorem rep_dpa {F : Hp} {W : List Addr} {H : Hp} : ∀ {ts : List T} {us : List V} {f : List Addr} {ds : List PyData}, RepA K F W H us ts f → ts.all isDat = true → T.pys ts = some ds → DpAll K F us ds
  | [], us, f, ds, h, _, hd => by cases h; cases hd; exact .nil
  | t :: ts, us, f, ds, h, ha, hd => by
    rw [List.all_cons, Bool.and_eq_true] at ha
    cases h with
    | cons h1 h2 p =>
      cases h1 with
      | dat h1 =>
        rename_i d
        have hd' : (match (T.dat d).py, T.pys ts with | some d, some ds => some (d :: ds) | _, _ => none) = some ds := hd
        cases e2 : T.pys ts with
        | none => rw [e2] at hd'; cases hd'
        | some dr =>
          rw [e2] at hd'
          cases hd'
          exact .cons h1 (rep_dpa h2 ha.2 e2)
      | _ => cases ha.1
/-- what is at hand in a list of data -/
theorem R.listDat {c : Ct} {ρ : Rho} {t s : T} {tm ts : List T} {σ : L2.St} {v : V} {vs : List V} {F : Hp} {W : List Addr} {H : Hp} {ds : List PyData} (r : R K I c ρ (t :: tm) σ (v :: vs) F W H) (hp : t.peek ρ = some s) (hL : s.isL = true) (hi : s.items = some ts) (ha : ts.all isDat = true) (hd : T.pys ts = some ds) :
    ∃ a us, v = .ref a ∧ SqL K H a us ∧ DpAll K F us ds := by
  obtain ⟨f, hr, _⟩ := r.peek hp
  obtain ⟨a, us, g, rfl, hA, _, h1, _, _⟩ := rep_seq hr r.sub hi
  exact ⟨a, us, rfl, h1 hL, rep_dpa hA ha hd⟩
theorem zip_mem {F : Hp} : ∀ {us : List V} {ds : List PyData}, DpAll K F us ds → (∀ b ∈ us.zip ds, Dp K F b.1 b.2) ∧ (us.zip ds).map (·.2) = ds
  | _, _, .nil => ⟨fun b hb => (nomatch hb), rfl⟩
  | _, _, .cons h1 h2 => by
    obtain ⟨i1, i2⟩ := zip_mem h2
    refine ⟨fun b hb => ?_, by rw [List.zip_cons_cons, List.map_cons, i2]⟩
    rw [List.zip_cons_cons] at hb
    rcases List.mem_cons.mp hb with rfl | hb
    · exact h1
    · exact i1 b hb
theorem repA_pairs {F : Hp} {W : List Addr} {H : Hp} : ∀ (bs : List (V × PyData)), (∀ b ∈ bs, Dp K F b.1 b.2) → RepA K F W H (bs.map (·.1)) ((bs.map (·.2)).map .dat) []
  | [], _ => .nil
  | b :: bs, h => .cons (f1 := []) (f2 := []) (.dat (h b List.mem_cons_self)) (repA_pairs bs fun x hx => h x (List.mem_cons_of_mem _ hx)) (.refl _)
theorem op_sort : Op1 K I (fun v => rSortD K [v]) sSort := fun c ρ t tm σ v vs F W H r Qv ⟨s, ts, ds, hp, hL, hi, hc, hd, ha, hk, hdep, q⟩ Q kk => by
  obtain ⟨a, us, rfl, hs, hdp⟩ := r.listDat hp hL hi hc hd
  refine ⟨a, us, ds, rfl, hs, dpa_sub r.sub _ _ hdp, ha, hk, hdep, fun p hpn => ?_⟩
  obtain ⟨z1, z2⟩ := zip_mem hdp
  have hm : ((us.zip ds).mergeSort (dataLe false fun b : V × PyData => b.2)).map (·.2) = ds.mergeSort (dataLe false fun d => d) := by
    have := List.map_mergeSort (r := dataLe false fun b : V × PyData => b.2) (s := dataLe false fun d => d) (f := fun b : V × PyData => b.2) (l := us.zip ds) (fun _ _ _ _ => rfl)
    rw [this, z2]
  have hrep := repA_pairs (W := W) (H := H) ((us.zip ds).mergeSort (dataLe false fun b : V × PyData => b.2)) (fun b hb => z1 b (List.mem_mergeSort.mp hb))
  rw [hm] at hrep
  exact kk _ _ _ _ _ _ (r.dropT.newLstC hrep hpn) q
theorem op_minD {f : PyData → List PyData → PyData} : Op1 K I (fun v => rMinD K f [v]) (sMinD f) := fun c ρ t tm σ v vs F W H r Qv ⟨s, ts, x, ds, hp, hL, hi, hc, hd, ha, hdep, q⟩ Q kk => by
  obtain ⟨a, us, rfl, hs, hdp⟩ := r.listDat hp hL hi hc hd
  refine ⟨a, us, x, ds, rfl, hs, dpa_sub r.sub _ _ hdp, ha, hdep, fun i u hu hx => ?_⟩
  obtain ⟨d, e1, e2⟩ := dpa_at hdp hu
  rw [hx] at e1
  cases e1
  exact kk _ _ _ _ _ _ (r.dropT.dat e2) q
end
end Hz
/-! Hz27: chains of comparisons, sum, all, any, extend, dicts copied and displayed. -/
namespace Hz
open PySem L2 PySem.W PyProof.Rows
/-- a < b < c on ints -/
def wChain (f g : Int → Int → Bool) (wa wb wc : WE) : WE := fun ρ Qx Q => wa ρ Qx fun ta ρ1 => wb ρ1 Qx fun tb ρ2 => ∃ i j, ta = tI i ∧ tb = tI j ∧ if f i j = true then wc ρ2 Qx fun tc ρ3 => ∃ l, tc = tI l ∧ Q (tBo (g j l)) ρ3 else Q (tBo false) ρ2
section
variable {K : PySem.W.Frag} {I : Sg} {E : XS} {ta tb tc : TE} {wa wb wc : WE}
theorem ev_chain {f g : Int → Int → Bool} (ha : EvW K I E ta wa) (hb : EvW K I E tb wb) (hc : EvW K I E tc wc) : EvW K I E (tChain (rI0 fun i j => .bl (f i j)) (rI0 fun i j => .bl (g i j)) ta tb tc) (wChain f g wa wb wc) :=
  fun c ρ tm σ vs F W H r Qx Qv hx hw Q k => ha c ρ tm σ vs F W H r Qx _ hx hw _ fun t ρ' v F' W' H' r' hw' => hb c ρ' (t :: tm) σ (v :: vs) F' W' H' r' Qx _ hx hw' _ fun t2 ρ2 v2 F2 W2 H2 r2 ⟨i, j, e1, e2, q⟩ => by
    subst e1; subst e2
    have d2 := r2.topDat
    have d1 := r2.drop.topDat
    cases d1
    cases d2
    refine ⟨i, j, rfl, rfl, f i j, rfl, ?_⟩
    cases hf : f i j with
    | false =>
      rw [hf] at q
      exact k _ _ _ _ _ _ (r2.drop.drop.dat (.bl false)) q
    | true =>
      rw [hf] at q
      refine hc c ρ2 tm σ vs F2 W2 H2 r2.drop.drop Qx _ hx q _ fun t3 ρ3 v3 F3 W3 H3 r3 ⟨l, e3, q3⟩ => ?_
      subst e3
      have d3 := r3.topDat
      cases d3
      exact ⟨j, l, rfl, rfl, k _ _ _ _ _ _ (r3.drop.dat (.bl _)) q3⟩
/-- sum, all, any of a list of ints, of bools -/
def sSum : S1 := fun t ρ Q => ∃ s ts ns, t.peek ρ = some s ∧ s.isL = true ∧ s.items = some ts ∧ ts.all isDat = true ∧ T.pys ts = some (List.map PyData.int ns) ∧ Q (tI (List.sum ns)) (t.drop ρ)
def sBools (f : List Bool → Bool) : S1 := fun t ρ Q => ∃ s ts bs, t.peek ρ = some s ∧ s.isL = true ∧ s.items = some ts ∧ ts.all isDat = true ∧ T.pys ts = some (List.map PyData.bool bs) ∧ Q (tBo (f bs)) (t.drop ρ)
theorem dpa_ints {F : Hp} : ∀ {ns : List Int} {us : List V}, DpAll K F us (ns.map .int) → us = ns.map V.int
  | [], us, h => by cases h; rfl
  | n :: ns, us, h => by
    cases h with
    | cons h1 h2 =>
      cases h1
      rw [dpa_ints h2]
      rfl
theorem dpa_bools {F : Hp} : ∀ {ns : List Bool} {us : List V}, DpAll K F us (ns.map .bool) → us = ns.map V.bl
  | [], us, h => by cases h; rfl
  | n :: ns, us, h => by
    cases h with
    | cons h1 h2 =>
      cases h1
      rw [dpa_bools h2]
      rfl
theorem op_sum : Op1 K I (fun v => rSum K [v]) sSum := fun c ρ t tm σ v vs F W H r Qv ⟨s, ts, ns, hp, hL, hi, hc, hd, q⟩ Q kk => by
  obtain ⟨a, us, rfl, hs, hdp⟩ := r.listDat hp hL hi hc hd
  rw [dpa_ints hdp] at hs
  exact ⟨a, ns, rfl, hs, kk _ _ _ _ _ _ (r.dropT.dat (.int _)) q⟩
theorem op_all : Op1 K I (fun v => rAll K [v]) (sBools fun bs => bs.all id) := fun c ρ t tm σ v vs F W H r Qv ⟨s, ts, bs, hp, hL, hi, hc, hd, q⟩ Q kk => by
  obtain ⟨a, us, rfl, hs, hdp⟩ := r.listDat hp hL hi hc hd
  rw [dpa_bools hdp] at hs
  exact ⟨a, bs, rfl, hs, kk _ _ _ _ _ _ (r.dropT.dat (.bl _)) q⟩
theorem op_any : Op1 K I (fun v => rAny K [v]) (sBools fun bs => bs.any id) := fun c ρ t tm σ v vs F W H r Qv ⟨s, ts, bs, hp, hL, hi, hc, hd, q⟩ Q kk => by
  obtain ⟨a, us, rfl, hs, hdp⟩ := r.listDat hp hL hi hc hd
  rw [dpa_bools hdp] at hs
  exact ⟨a, bs, rfl, hs, kk _ _ _ _ _ _ (r.dropT.dat (.bl _)) q⟩
/-- xs.extend(ys), ys owned and its items shared -/
def sExt : S2 := fun t u ρ Q => ∃ us ts ρ1, u.peek ρ = some (.lst us) ∧ us.all T.copy = true ∧ t.opn (u.drop ρ) = some (.lst ts, ρ1) ∧ ts.length + us.length ≤ 1000000 ∧ Q tN (t.cls (.lst (ts ++ us)) ρ1)
theorem op_ext : Op2 K I (fun v w => rExtend v [w]) sExt := fun c ρ t u tm σ v w vs F W H r Qv ⟨us, ts, ρ1, hp, hc, ho, hz, q⟩ Q kk => by
  obtain ⟨g, hr2, _⟩ := r.peek hp
  cases hr2 with
  | lst b1 b2 p2 =>
    rename_i b ys gps
    have e2 := repA_len b2
    have k2 := repA_iff.mp (repA_copy (F' := F) (W' := W) (H' := H) (.refl _) (fun _ z => z) b2 hc)
    have r1 := r.dropT
    have hor := r1.orig
    obtain ⟨r2, _⟩ := r1.opn ho
    -- the items of the other list at hand as well
    have push : ∀ {xs : List V} {zs : List T}, Lst (Rep K F W H) xs zs [] → R K I c ρ1 (zs ++ .lst ts :: tm) σ (xs ++ v :: vs) F W H := by
      intro xs zs h
      have aux : ∀ {xs : List V} {zs : List T} {f : List Addr}, Lst (Rep K F W H) xs zs f → f = [] → R K I c ρ1 (zs ++ .lst ts :: tm) σ (xs ++ v :: vs) F W H := by
        intro xs zs f h
        induction h with
        | nil => intro _; exact r2
        | @cons x y xs' ys' fp f1 f2 a _ p ih =>
          intro e
          subst e
          have e0 := List.perm_nil.mp p.symm
          obtain ⟨z1, z2⟩ := List.append_eq_nil_iff.mp e0
          subst z1
          have rr := ih z2
          obtain ⟨fA, hA, nd, wf, qq⟩ := R.loc (ts := []) (us := []) rr rfl
          cases hA
          exact qq (us' := [x]) (ts' := [y]) (fB := []) (Step.refl wf) .nil (.one (.of a))
      exact aux h rfl
    have r3 := push k2
    have hl : ys.length = us.length := k2.len
    have r4 := R.mid (ts := us) (us := ys) r3 hl
    have hcr : us.all T.real = true := List.all_eq_true.mpr fun x hx => copy_real (List.all_eq_true.mp hc x hx)
    obtain ⟨a, xs, e, hH, hlx, hm⟩ := R.modLst (cs := us) (ws := ys) r4 hl hcr
    subst e
    have r5 := hm (us' := xs ++ ys) (rv := []) (ts' := ts ++ us) (rs := []) fun P f g h1 h2 => ⟨f ++ g, [], [], h1.app h2, .nil, by rw [List.append_nil, List.append_nil]⟩
    have r6 := R.clsT (t := t) r5 rfl hor
    exact ⟨a, b, xs, ys, rfl, rfl, hH, b1, line_of (by omega), kk _ _ _ _ _ _ (r6.dat .non) q⟩
end
/-! ### dicts: a copy; a display -/
section
variable {X : Cx}
def rDCopy : List V → Hp → VK → Prop := fun xs H Q => ∃ a kvs, xs = [.ref a] ∧ H a = some (.dK kvs) ∧ ∀ p, H p = none → Q (.ref p) (upd H p (.dK kvs))
theorem call_dcopy : CallR X (.type "dict") rDCopy := by
  intro pins s σ H xs us Q I r h
  obtain ⟨a, kvs, rfl, ha, q⟩ := h
  rw [Vals.ref1 r]
  exact d_copyOf I (.inl ha) fun p s' hp I' => ⟨.ref p, _, I', rfl, q p hp⟩
end
def sDCopy : S1 := fun t ρ Q => ∃ kvs, t.peek ρ = some (dicD kvs) ∧ Q (dicD kvs) (t.drop ρ)
theorem op_dcopy {K : PySem.W.Frag} {I : Sg} : Op1 K I (fun v => rDCopy [v]) sDCopy := fun c ρ t tm σ v vs F W H r Qv ⟨kvs, hp, q⟩ Q kk => by
  obtain ⟨a, xs, rfl, ha, hx⟩ := r.peekDic hp
  exact ⟨a, xs, rfl, ha, fun p hpn => kk _ _ _ _ _ _ (r.dropT.newDic hx hpn) q⟩
end Hz
/-! Hz28: dict displays; walking over a dict's items. -/
namespace Hz
open PySem L2 PySem.W PyProof.Rows
abbrev WPs := Rho → WX → (List (PyData × PyData) → Rho → Prop) → Prop
def pNil : WPs := fun ρ _ Q => Q [] ρ
def pCons (wk wv : WE) (r : WPs) : WPs := fun ρ Qx Q => wk ρ Qx fun tk ρ1 => ∃ dk, tk = .dat dk ∧ (wFz wv) ρ1 Qx fun tv ρ2 => ∃ dv, tv = .dat dv ∧ r ρ2 Qx fun ps ρ3 => Q ((dk, dv) :: ps) ρ3
def flatT : List (PyData × PyData) → List T
  | [] => []
  | (k, d) :: r => flatT r ++ [.dat d, .dat k]
def flatV : List (V × V) → List V
  | [] => []
  | (k, d) :: r => flatV r ++ [d, k]
theorem flat_len : ∀ {ps : List (V × V)} {kds : List (PyData × PyData)}, ps.length = kds.length → (flatV ps).length = (flatT kds).length
  | [], [], _ => rfl
  | [], _ :: _, h => by cases h
  | _ :: _, [], h => by cases h
  | (a, b) :: ps, (k, d) :: kds, h => by
    show (flatV ps ++ [b, a]).length = (flatT kds ++ [T.dat d, T.dat k]).length
    rw [List.length_append, List.length_append, flat_len (Nat.succ.inj h)]
    rfl
def EvP (K : PySem.W.Frag) (I : Sg) (E : XS) (trs : List (TE × TE)) (wp : WPs) : Prop :=
  ∀ c ρ tm σ vs F W H, R K I c ρ tm σ vs F W H → ∀ Qx Qv, XOk K I c E Qx → wp ρ Qx Qv →
    ∀ Q : List (V × V) → Hp → Prop, (∀ ps kds ρ' F' W' H', R K I c ρ' (flatT kds ++ tm) σ (flatV ps ++ vs) F' W' H' → ps.length = kds.length → Qv kds ρ' → Q ps H') → tPairs trs σ H Q
section
variable {K : PySem.W.Frag} {I : Sg} {E : XS} {tk tv : TE} {wk wv : WE} {trs : List (TE × TE)} {wp : WPs}
theorem ep_nil : EvP K I E [] pNil := fun c ρ tm σ vs F W H r Qx Qv hx hw Q k => k [] [] _ _ _ _ r rfl hw
theorem ep_cons (hk : EvW K I E tk wk) (hv : EvW K I E tv wv) (hr : EvP K I E trs wp) : EvP K I E ((tk, tv) :: trs) (pCons wk wv wp) := fun c ρ tm σ vs F W H r Qx Qv hx hw Q k =>
  hk c ρ tm σ vs F W H r Qx _ hx hw _ fun t ρ1 x F1 W1 H1 r1 ⟨dk, e, q1⟩ => by
    subst e
    refine ev_fz hv c ρ1 (.dat dk :: tm) σ (x :: vs) F1 W1 H1 r1 Qx _ hx q1 _ fun t2 ρ2 y F2 W2 H2 r2 ⟨dv, e, q2⟩ => ?_
    subst e
    refine hr c ρ2 (.dat dv :: .dat dk :: tm) σ (y :: x :: vs) F2 W2 H2 r2 Qx _ hx q2 _ fun ps kds ρ3 F3 W3 H3 r3 hl q3 => ?_
    refine k ((x, y) :: ps) ((dk, dv) :: kds) ρ3 F3 W3 H3 ?_ (by rw [List.length_cons, List.length_cons, hl]) q3
    show R K I c ρ3 ((flatT kds ++ [T.dat dv, T.dat dk]) ++ tm) σ ((flatV ps ++ [y, x]) ++ vs) F3 W3 H3
    rw [List.append_assoc, List.append_assoc]
    exact r3
end
/-- the pairs as a table -/
def keysOf : List (PyData × PyData) → Option DKv
  | [] => some []
  | (k, d) :: r => match keyOf k, keysOf r with
    | some k, some kvs => some ((k, d) :: kvs)
    | _, _ => none
def mergeA (kvs more : DKv) : DKv := more.foldl (fun acc kv => putA acc kv.1 kv.2) kvs
theorem PD.merge {K : PySem.W.Frag} {F : Hp} : ∀ {more : List (Key × V)} {md : DKv}, PD K F more md → ∀ {xs : List (Key × V)} {ys : DKv}, PD K F xs ys → PD K F (mergeK xs more) (mergeA ys md)
  | _, _, .nil, _, _, h => h
  | _, _, .cons (k := k) (v := v) (d := d) h1 h2, xs, ys, h => PD.merge h2 (h.put (k := k) h1)
theorem flat_pd {K : PySem.W.Frag} {I : Sg} {c : Ct} {ρ : Rho} {σ : L2.St} {F : Hp} {W : List Addr} {H : Hp} : ∀ {ps : List (V × V)} {kds : List (PyData × PyData)} {tm : List T} {vs : List V} {kvs : DKv}, R K I c ρ (flatT kds ++ tm) σ (flatV ps ++ vs) F W H → ps.length = kds.length → keysOf kds = some kvs →
    ∃ xs : List (Key × V), ps = xs.map (fun kv => (kV kv.1, kv.2)) ∧ PD K F xs kvs ∧ R K I c ρ tm σ vs F W H
  | [], [], tm, vs, kvs, h, _, hk => by cases hk; exact ⟨[], rfl, .nil, h⟩
  | [], _ :: _, _, _, _, h, e, _ => by cases e
  | _ :: _, [], _, _, _, h, e, _ => by cases e
  | (a, b) :: ps, (k, d) :: kds, tm, vs, kvs, h, e, hk => by
    have h' : R K I c ρ (flatT kds ++ (.dat d :: .dat k :: tm)) σ (flatV ps ++ (b :: a :: vs)) F W H := by
      have h2 : R K I c ρ ((flatT kds ++ [T.dat d, T.dat k]) ++ tm) σ ((flatV ps ++ [b, a]) ++ vs) F W H := h
      rw [List.append_assoc, List.append_assoc] at h2
      exact h2
    have hk' : (match keyOf k, keysOf kds with | some k, some kvs => some ((k, d) :: kvs) | _, _ => none) = some kvs := hk
    cases e1 : keyOf k with
    | none => rw [e1] at hk'; cases hk'
    | some kk =>
      cases e2 : keysOf kds with
      | none => rw [e1, e2] at hk'; cases hk'
      | some kr =>
        rw [e1, e2] at hk'
        cases hk'
        obtain ⟨xs, ex, hp, r⟩ := flat_pd (ps := ps) (kds := kds) h' (Nat.succ.inj e) e2
        have hb := r.topDat
        have ha := r.drop.topDat
        exact ⟨(kk, b) :: xs, by rw [ex, List.map_cons, key_dp ha e1], .cons hb hp, r.drop.drop⟩
def wDisp (wp : WPs) : WE := fun ρ Qx Q => wp ρ Qx fun kds ρ1 => ∃ kvs, keysOf kds = some kvs ∧ kvs.length ≤ 15 ∧ Q (dicD (mergeA [] kvs)) ρ1
theorem ev_disp {K : PySem.W.Frag} {I : Sg} {E : XS} {trs : List (TE × TE)} {wp : WPs} (h : EvP K I E trs wp) : EvW K I E (tDisp trs) (wDisp wp) := fun c ρ tm σ vs F W H r Qx Qv hx hw Q k p hp => by
  have r1 := r.newDic .nil hp
  refine h c ρ (dicD [] :: tm) σ (.ref p :: vs) F W _ r1 Qx _ hx hw _ fun ps kds ρ1 F1 W1 H1 r2 hl ⟨kvs, hk, h15, q⟩ => ?_
  obtain ⟨xs, ex, hp', r3⟩ := flat_pd r2 hl hk
  obtain ⟨a, ys, e, ha, hy, hm⟩ := r3.modDic
  cases e
  cases hy
  exact ⟨ha, xs, ex, by rw [hp'.len]; exact h15, k _ _ _ _ _ _ (hm (hp'.merge .nil)) q⟩
end Hz
/-! Hz29: a dict that is walked stands still meanwhile. -/
namespace Hz
open PySem L2 PySem.W PyProof.Rows
def without (F : Hp) (d : Addr) : Hp := fun a => if a = d then none else F a
def isDk : HO → Prop
  | .frz _ (.dK _) => True
  | _ => False
section
variable {K : PySem.W.Frag} {F F' : Hp} {W W' : List Addr} {H H' : Hp} {d : Addr} {w : HO}
theorem sql_without (hd : F d = some w) (hw : isDk w) {a : Addr} {xs : List V} (h : SqL K F a xs) : SqL K (without F d) a xs := by
  rcases h with h | h
  · refine .inl ?_
    have ne : a ≠ d := fun e => by
      subst e
      rcases h with h | ⟨o', h⟩ <;> rw [hd] at h <;> cases h <;> exact hw
    unfold Rd without
    rw [if_neg ne]
    exact h
  · exact .inr h
theorem sqt_without (hd : F d = some w) (hw : isDk w) {a : Addr} {xs : List V} (h : SqT K F a xs) : SqT K (without F d) a xs := by
  rcases h with h | h
  · refine .inl ?_
    have ne : a ≠ d := fun e => by
      subst e
      rcases h with h | ⟨o', h⟩ <;> rw [hd] at h <;> cases h <;> exact hw
    unfold Rd without
    rw [if_neg ne]
    exact h
  · exact .inr h
mutual
theorem dp_without (hd : F d = some w) (hw : isDk w) : ∀ (e : PyData) (v : V), Dp K F v e → Dp K (without F d) v e
  | .none, _, h => by cases h; exact .non
  | .bool b, _, h => by cases h; exact .bl b
  | .int i, _, h => by cases h; exact .int i
  | .str x, _, h => by cases h; exact .str x
  | .list ds, _, h => by
    cases h with
    | lst hs ha => exact .lst (sql_without hd hw hs) (dpa_without hd hw ds _ ha)
  | .tuple ds, _, h => by
    cases h with
    | tup hs ha => exact .tup (sqt_without hd hw hs) (dpa_without hd hw ds _ ha)
  | .dict _, _, h => by cases h
theorem dpa_without (hd : F d = some w) (hw : isDk w) : ∀ (ds : List PyData) (vs : List V), DpAll K F vs ds → DpAll K (without F d) vs ds
  | [], _, h => by cases h; exact .nil
  | e :: ds, _, h => by
    cases h with
    | cons h1 h2 => exact .cons (dp_without hd hw e _ h1) (dpa_without hd hw ds _ h2)
end
theorem xd_without {od : Obj} {xs : List (Key × V)} (hd : F d = some (.frz od (.dK xs))) : ∀ a o, (∀ q u, o ≠ HO.frz q u) → F a = some o → (without F d) a = some o := fun a o n e => by
  unfold without
  rw [if_neg (fun z => by rw [z, hd] at e; cases e; exact n _ _ rfl)]
  exact e
mutual
theorem rep_keepD (eF : ∀ (e : PyData) (v : V), Dp K F v e → Dp K F' v e) (eX : ∀ a o, (∀ q u, o ≠ HO.frz q u) → F a = some o → F' a = some o) (eW : ∀ w ∈ W, w ∈ W') : ∀ (t : T) (v : V) (fp : List Addr), Rep K F W H v t fp → (∀ a ∈ fp, H' a = H a) → Rep K F' W' H' v t fp
  | .dat d, v, fp, h, k => by cases h with | dat h => exact .dat (eF _ _ h)
  | .cst u, v, fp, h, k => by cases h; exact .cst
  | .well, v, fp, h, k => by cases h with | well h => exact .well (eW _ h)
  | .lst ts, v, fp, h, k => by
    cases h with
    | lst h1 h2 p => exact .lst ((k _ (p.mem_iff.mpr List.mem_cons_self)).trans h1) (repA_keepD eF eX eW ts _ _ h2 fun a ha => k a (p.mem_iff.mpr (List.mem_cons_of_mem _ ha))) p
  | .tup ts, v, fp, h, k => by
    cases h with
    | tup h1 h2 p => exact .tup ((k _ (p.mem_iff.mpr List.mem_cons_self)).trans h1) (repA_keepD eF eX eW ts _ _ h2 fun a ha => k a (p.mem_iff.mpr (List.mem_cons_of_mem _ ha))) p
  | .dic ks ts, v, fp, h, k => by
    cases h with
    | dic h1 h0 h2 p => exact .dic ((k _ (p.mem_iff.mpr List.mem_cons_self)).trans h1) h0 (repA_keepD eF eX eW ts _ _ h2 fun a ha => k a (p.mem_iff.mpr (List.mem_cons_of_mem _ ha))) p
  | .ins C ns ts, v, fp, h, k => by
    cases h with
    | ins h1 h0 h2 p => exact .ins ((k _ (p.mem_iff.mpr List.mem_cons_self)).trans h1) h0 (repA_keepD eF eX eW ts _ _ h2 fun a ha => k a (p.mem_iff.mpr (List.mem_cons_of_mem _ ha))) p
  | .dcl d o xs kvs, v, fp, h, k => by cases h with | dcl h1 h2 p => exact .dcl ((k _ (p.mem_iff.mpr List.mem_cons_self)).trans h1) (h2.by eF) p
  | .exc a d C e, v, fp, h, k => by cases h with | exc h1 h2 => exact .exc (eX _ _ (fun _ _ z => nomatch z) h1) (eF _ _ h2)
  | .exk a d C e, v, fp, h, k => by cases h with | exk h1 h2 h3 => exact .exk (eX _ _ (fun _ _ z => nomatch z) h1) (eF _ _ h2) (eX _ _ (fun _ _ z => nomatch z) h3)
  | .lz j, v, fp, h, k => by cases h
  | .bor j p u t, v, fp, h, k => by cases h
theorem repA_keepD (eF : ∀ (e : PyData) (v : V), Dp K F v e → Dp K F' v e) (eX : ∀ a o, (∀ q u, o ≠ HO.frz q u) → F a = some o → F' a = some o) (eW : ∀ w ∈ W, w ∈ W') : ∀ (ts : List T) (vs : List V) (fp : List Addr), RepA K F W H vs ts fp → (∀ a ∈ fp, H' a = H a) → RepA K F' W' H' vs ts fp
  | [], vs, fp, h, k => by cases h; exact .nil
  | t :: ts, vs, fp, h, k => by
    cases h with
    | cons h1 h2 p => exact .cons (rep_keepD eF eX eW t _ _ h1 fun a ha => k a (p.mem_iff.mpr (List.mem_append_left _ ha))) (repA_keepD eF eX eW ts _ _ h2 fun a ha => k a (p.mem_iff.mpr (List.mem_append_right _ ha))) p
end
end
section
variable {K : PySem.W.Frag} {I : Sg} {c : Ct} {ρ : Rho} {tm : List T} {σ : L2.St} {x : V} {vs : List V} {F : Hp} {W : List Addr} {H : Hp} {kvs : DKv}
/-- the dict on top is locked: it is known, nobody owns it; at the end it is owned again -/
theorem R.lock (h : R K I c ρ (dicD kvs :: tm) σ (x :: vs) F W H) : ∃ d xs, x = .ref d ∧ H d = some (.dK xs) ∧ PD K F xs kvs ∧ ∀ od, ∃ c' F', c'.σ0 = σ ∧ F' d = some (.frz od (.dK xs)) ∧ Sub F F' ∧ R K I c' ρ tm σ vs F' W (upd H d (.frz od (.dK xs))) ∧
    ∀ {ρ2 : Rho} {tm2 : List T} {σ2 : L2.St} {vs2 : List V} {F2 : Hp} {W2 : List Addr} {H2 : Hp}, R K I c' ρ2 tm2 σ2 vs2 F2 W2 H2 →
      H2 d = some (.frz od (.dK xs)) ∧ R K I c ρ2 (dicD kvs :: tm2) σ2 (.ref d :: vs2) (without F2 d) W2 (upd H2 d (.dK xs)) := by
  obtain ⟨f1, f2, h1, h2, nd, st⟩ := h.ex
  cases h1 with
  | cons j1 j2 q =>
    rename_i a1 a2
    obtain ⟨d, xs, rfl, hd, hx, pd⟩ := rep_dic (j1.real rfl)
    have pm : (f1 ++ f2).Perm (d :: (a2 ++ f2)) := (q.append_right f2).trans (((pd.append_right a2).append_right f2).trans (by rw [List.append_assoc]; exact .refl _))
    have nd' := List.nodup_cons.mp (nodup_of_perm pm nd)
    have s0 := st.perm (.refl _) pm
    have od0 := s0.wf.own d List.mem_cons_self
    refine ⟨d, xs, rfl, hd, hx, fun od => ?_⟩
    have hF' : ∀ a o, F a = some o → upd F d (.frz od (.dK xs)) a = some o := fun a o e => by rw [upd_ne (fun z => by rw [z, od0.1] at e; cases e)]; exact e
    have neRest : ∀ a ∈ a2 ++ f2, a ≠ d := fun a ha e => nd'.1 (e ▸ ha)
    have wfl : Hz.Wf I.inv (upd F d (.frz od (.dK xs))) W (upd H d (.frz od (.dK xs))) (a2 ++ f2) := by
      refine ⟨fun a o e => ?_, fun a ha => ?_, fun y hy => ?_⟩
      · by_cases z : a = d
        · rw [z, upd_same] at e ⊢; exact e
        · rw [upd_ne z] at e ⊢; exact s0.wf.sub a o e
      · obtain ⟨g1, g2, g3⟩ := s0.wf.own a (List.mem_cons_of_mem _ ha)
        exact ⟨by rw [upd_ne (neRest a ha)]; exact g1, g2, by rw [upd_ne (neRest a ha)]; exact g3⟩
      · obtain ⟨g1, o, g2, g3⟩ := s0.wf.wel y hy
        have z : y ≠ d := fun e => od0.2.1 (e ▸ hy)
        exact ⟨by rw [upd_ne z]; exact g1, o, by rw [upd_ne z]; exact g2, g3⟩
    have kpT : ∀ {y : V} {t : T} {g : List Addr}, RepT K F W H σ y t g → (∀ a ∈ g, a ∈ a2 ++ f2) → RepT K (upd F d (.frz od (.dK xs))) W (upd H d (.frz od (.dK xs))) σ y t g := fun hp hs => hp.keep hF' (fun _ z => z) fun a ha => upd_ne (neRest a (hs a ha))
    refine ⟨⟨upd H d (.frz od (.dK xs)), upd F d (.frz od (.dK xs)), W, a2 ++ f2, σ⟩, upd F d (.frz od (.dK xs)), rfl, upd_same, hF', ⟨⟨a2, f2, j2.mono (f₀ := a2) (fun _ z => z) fun x y g hp hs => kpT hp fun a ha => List.mem_append_left _ (hs a ha), h2.mono (f₀ := f2) (fun _ z => z) fun x y g hp hs => hp.keep hF' (fun _ z => z) fun a ha => upd_ne (neRest a (List.mem_append_right _ (hs a ha))), nd'.2, Step.refl wfl⟩, fun _ _ => rfl⟩, fun {ρ2 tm2 σ2 vs2 F2 W2 H2} r2 => ?_⟩
    obtain ⟨g1, g2, k1, k2, nd2, s2⟩ := r2.ex
    have hd2 : F2 d = some (.frz od (.dK xs)) := s2.subF _ _ upd_same
    have hH2 : H2 d = some (.frz od (.dK xs)) := s2.wf.sub _ _ hd2
    have hw : isDk (.frz od (.dK xs)) := trivial
    have ne2 : ∀ a ∈ g1 ++ g2, a ≠ d := fun a ha e => by
      have := (s2.wf.own a ha).1
      rw [e, hd2] at this
      cases this
    have dW : d ∉ W2 := fun z => by
      have := (s2.wf.wel d z).1
      rw [hd2] at this
      cases this
    refine ⟨hH2, ⟨⟨[d] ++ g1, g2, ?_, ?_, ?_, ?_⟩, fun i hi => (r2.pr i hi).trans (h.pr i hi)⟩⟩
    · refine .cons (.of (rep_dic_mk upd_same ?_)) (k1.mono (f₀ := g1) (fun _ z => z) fun x y g hp hs => ?_) (.refl _)
      · have : PD K F2 xs kvs := hx.sub (Sub.trans hF' s2.subF)
        have aux : ∀ {xs : List (Key × V)} {ys : DKv}, PD K F2 xs ys → PD K (without F2 d) xs ys := by
          intro xs ys h
          induction h with
          | nil => exact .nil
          | cons a _ ih => exact .cons (dp_without hd2 hw _ _ a) ih
        exact aux this
      · have kk : ∀ a ∈ g, upd H2 d (.dK xs) a = H2 a := fun a ha => upd_ne (ne2 a (List.mem_append_left _ (hs a ha)))
        cases hp with
        | of hp => exact .of (rep_keepD (dp_without hd2 hw) (xd_without hd2) (fun _ z => z) _ _ _ hp kk)
        | lz hp => exact .lz hp
        | bor hp => exact .bor (rep_keepD (dp_without hd2 hw) (xd_without hd2) (fun _ z => z) _ _ _ hp kk)
    · exact k2.mono (f₀ := g2) (fun _ z => z) fun x y g hp hs => by
        have kk : ∀ a ∈ g, upd H2 d (.dK xs) a = H2 a := fun a ha => upd_ne (ne2 a (List.mem_append_right _ (hs a ha)))
        cases hp with
        | non => exact .non
        | som hp => exact .som (rep_keepD (dp_without hd2 hw) (xd_without hd2) (fun _ z => z) _ _ _ hp kk)
    · rw [List.append_assoc]
      exact List.nodup_cons.mpr ⟨fun z => ne2 d z rfl, nd2⟩
    · -- the step from before the lock
      have step : Step I.inv F W H (d :: (a2 ++ f2)) (without F2 d) W2 (upd H2 d (.dK xs)) (d :: (g1 ++ g2)) := by
        refine ⟨⟨fun a o e => ?_, fun a ha => ?_, fun y hy => ?_⟩, fun a o e => ?_, s2.subW, fun a o e n1 n2 => ?_, fun a e => ?_, fun a ha => ?_, fun a e => ?_, fun y hy => ?_⟩
        · unfold without at e
          by_cases z : a = d
          · rw [if_pos z] at e; cases e
          · rw [if_neg z] at e; rw [upd_ne z]; exact s2.wf.sub a o e
        · rcases List.mem_cons.mp ha with rfl | ha
          · exact ⟨by unfold without; rw [if_pos rfl], dW, by rw [upd_same]; exact Option.some_ne_none _⟩
          · obtain ⟨z1, z2, z3⟩ := s2.wf.own a ha
            exact ⟨by unfold without; rw [if_neg (ne2 a ha)]; exact z1, z2, by rw [upd_ne (ne2 a ha)]; exact z3⟩
        · obtain ⟨z1, o, z2, z3⟩ := s2.wf.wel y hy
          have z : y ≠ d := fun e => dW (e ▸ hy)
          exact ⟨by unfold without; rw [if_neg z]; exact z1, o, by rw [upd_ne z]; exact z2, z3⟩
        · have z : a ≠ d := fun z => by rw [z, od0.1] at e; cases e
          unfold without
          rw [if_neg z]
          exact s2.subF a o (hF' a o e)
        · have z : a ≠ d := fun z => n1 (by rw [z]; exact List.mem_cons_self)
          rw [upd_ne z]
          exact s2.keep a o (by show upd H d _ a = _; rw [upd_ne z]; exact e) (fun q => n1 (List.mem_cons_of_mem _ q)) n2
        · by_cases z : a = d
          · rw [z, upd_same]; exact Option.some_ne_none _
          · rw [upd_ne z]
            exact s2.there a (by show upd H d _ a ≠ _; rw [upd_ne z]; exact e)
        · rcases List.mem_cons.mp ha with rfl | ha
          · exact .inl List.mem_cons_self
          · rcases s2.newO a ha with q | q
            · exact .inl (List.mem_cons_of_mem _ q)
            · refine .inr ?_
              have q' : upd H d (.frz od (.dK xs)) a = none := q
              rw [upd_ne (ne2 a ha)] at q'
              exact q'
        · unfold without at e
          by_cases z : a = d
          · rw [if_pos z] at e; exact (e rfl).elim
          · rw [if_neg z] at e
            rcases s2.newF a e with q | q | q
            · refine .inl ?_
              have q' : upd F d (.frz od (.dK xs)) a ≠ none := q
              rw [upd_ne z] at q'
              exact q'
            · exact .inr (.inl (List.mem_cons_of_mem _ q))
            · refine .inr (.inr ?_)
              have q' : upd H d (.frz od (.dK xs)) a = none := q
              rw [upd_ne z] at q'
              exact q'
        · rcases s2.newW y hy with q | q | q
          · exact .inl q
          · exact .inr (.inl (List.mem_cons_of_mem _ q))
          · refine .inr (.inr ?_)
            have q' : upd H d (.frz od (.dK xs)) y = none := q
            rw [upd_ne (fun (e : y = d) => dW (by rw [← e]; exact hy))] at q'
            exact q'
      exact s0.trans step
end
end Hz
/-! Hz30: comprehensions over the items of a dict that is an attribute. -/
namespace Hz
open PySem L2 PySem.W PyProof.Rows
def keyD : Key → PyData
  | .inl i => .int i
  | .inr x => .str x
def noX : WX := fun _ _ _ => False
theorem dp_key {K : PySem.W.Frag} {F : Hp} (k : Key) : Dp K F (kV k) (keyD k) := by
  cases k with
  | inl i => exact .int i
  | inr x => exact .str x
theorem pd_at {K : PySem.W.Frag} {F : Hp} : ∀ {xs : List (Key × V)} {kvs : DKv} {i : Nat} {k : Key} {v : V}, PD K F xs kvs → xs[i]? = some (k, v) → ∃ d, kvs[i]? = some (k, d) ∧ Dp K F v d
  | _, _, _, _, _, .nil, h => by cases h
  | _, _, 0, _, _, .cons h1 _, h => by cases h; exact ⟨_, rfl, h1⟩
  | _, _, i + 1, _, _, .cons _ h2, h => pd_at (i := i) h2 h
def wLcI (C : Addr) (i : Nat) (f : Str) (wg : WG) (wt : WT) (we : WE) (wv : List Nat) : WE := fun ρ Qx Q => ∃ ns ts kvs, ρ[i]? = some (some (.ins C ns ts)) ∧ (T.ins C ns ts).child (.fd f) = some (dicD kvs) ∧ ∀ v, Inv1 fun Iv : Nat → List T → Rho → Prop =>
  Iv 0 [] (wipeR (ρ.set i (some ((T.ins C ns ts).putc (.fd f) (.cst v)))) wv) ∧
  (∀ n acc ρ2 k d, kvs[n]? = some (k, d) → Iv n acc ρ2 → wg (.dat (.tuple [keyD k, d])) ρ2 noX fun ρ3 => wt ρ3 noX fun b ρ4 => if b = true then we ρ4 noX fun t ρ5 => ∃ s ρ6, t.opn ρ5 = some (s, ρ6) ∧ acc.length < 1000000 ∧ Iv (n + 1) (acc ++ [s]) (wipeR ρ6 wv) else Iv (n + 1) acc (wipeR ρ4 wv)) ∧
  ∀ acc ρ2, Iv kvs.length acc ρ2 → Q (.lst acc) (Hz.putAt ρ2 i [.fd f] v (dicD kvs))
section
variable {K : PySem.W.Frag} {I : Sg} {E : XS}
theorem ev_lcI {C : Addr} {i : Nat} {f : Str} {as wv : List Nat} {g : TG} {wg : WG} {tt : TT} {wt : WT} {te : TE} {we : WE} (hC : Cls K C) (hf : NoAttr K C f) (hp : ∀ i ∈ wv, i ∉ I.prot) (hiv : i ∉ wv) (has : ∀ i ∈ as, i ∈ wv) (hg : GvW K I E as g wg) (ht : EvT K I E tt wt) (he : EvW K I E te we) :
    EvW K I E (tLockE (tLc (iItems (tFld K (tVar i) f)) g tt te wv)) (wLcI C i f wg wt we wv) := fun c ρ tm σ vs F W H r Qx Qv hx ⟨ns, ts, kvs, hρ, hch, hw⟩ Q k => by
  obtain ⟨tm', hz, r', back⟩ := r.unLz
  obtain ⟨v, r1, _⟩ := r'.take hρ (p := [.fd f]) (s := dicD kvs) (by rw [get_cons, hch]; exact get_nil)
  have hput : (T.ins C ns ts).put [.fd f] (.cst v) = (T.ins C ns ts).putc (.fd f) (.cst v) := by rw [put_cons, hch]; show T.putc _ _ (T.put _ [] _) = _; rw [put_nil]
  rw [hput] at r1
  obtain ⟨d, xs, ev, hd, hx', lk⟩ := r1.lock
  subst ev
  refine ⟨d, .dK xs, hd, trivial, fun od => ?_⟩
  obtain ⟨c', F', ec, hF', hsub, r2, unlock⟩ := lk od
  obtain ⟨Iv, i0, it, iE⟩ := hw (.ref d)
  have hx2 : XOk K I c' E noX := fun _ _ _ _ _ _ _ _ _ _ _ _ z => z.elim
  -- the attribute, as it stands
  obtain ⟨j, hj⟩ : ∃ j, fpos ns f = some j ∧ ts[j]? = some (dicD kvs) := by
    have h' : ((fpos ns f).bind fun i => ts[i]?) = some (dicD kvs) := hch
    cases e : fpos ns f with
    | none => rw [e] at h'; cases h'
    | some j => rw [e] at h'; exact ⟨j, rfl, h'⟩
  have hlt : i < ρ.length := (List.getElem?_eq_some_iff.mp hρ).1
  obtain ⟨u, fp, hu, hrep, _⟩ := r2.slot (j := i) (s := (T.ins C ns ts).putc (.fd f) (.cst (.ref d))) (List.getElem?_set_self hlt)
  have hpc : (T.ins C ns ts).putc (.fd f) (.cst (.ref d)) = .ins C ns (ts.set j (.cst (.ref d))) := by
    show T.ins C ns (match fpos ns f with | some i => ts.set i _ | none => ts) = _
    rw [hj.1]
  rw [hpc] at hrep
  cases hrep with
  | ins g1 g0 g2 gp =>
    rename_i a dx us fps
    have hjl : j < ts.length := (List.getElem?_eq_some_iff.mp hj.2).1
    obtain ⟨w0, f0, e1, e2⟩ := repA_at g2 (n := j) (c := .cst (.ref d)) (List.getElem?_set_self hjl)
    cases e2
    refine ⟨_, hu, a, C, dx, _, .ref d, rfl, g1, hC, hf, by rw [lookup_zip g0, hj.1]; exact e1, d, od, xs, rfl, by rw [upd_same], ?_⟩
    intro D hD
    have r3 := (R.wipe r2 hz hp).newEmpty hD
    have hlen := hx'.len
    refine ⟨fun n m H => m = kvs.length - n ∧ n ≤ kvs.length ∧ ∃ ρ F W acc, R K I c' ρ (.lst acc :: tm') (L2.wipe σ wv) (.ref D :: vs) F W H ∧ (∀ j ∈ wv, (ρ[j]?).join = none) ∧ Iv n acc ρ,
      ⟨kvs.length, by omega, Nat.zero_le _, _, F', W, [], r3, fun j hj => wipeR_none hj, i0⟩, ?_⟩
    rintro n m H2 ⟨rfl, hle, ρ2, F2, W2, acc, r4, hwn, iv⟩
    obtain ⟨hlk, ru⟩ := unlock r4
    obtain ⟨b0, ys, eb, hb, hy⟩ := ru.peekDic (t := dicD kvs) rfl
    cases eb
    rw [upd_same] at hb
    cases hb
    have hy2 : PD K F2 xs kvs := hy.sub fun a o e => by
      unfold without at e
      by_cases z : a = d
      · rw [if_pos z] at e; cases e
      · rw [if_neg z] at e; exact e
    by_cases hlt2 : n < kvs.length
    · have next : ∀ {ρ5 : Rho} {acc' : List T} {σ5 : L2.St} {F5 : Hp} {W5 : List Addr} {H5 : Hp}, R K I c' ρ5 (.lst acc' :: tm') σ5 (.ref D :: vs) F5 W5 H5 → L2.wipe σ5 wv = L2.wipe σ wv → Iv (n + 1) acc' (wipeR ρ5 wv) →
          ∃ ρ F W acc, R K I c' ρ (.lst acc :: tm') (L2.wipe σ wv) (.ref D :: vs) F W H5 ∧ (∀ j ∈ wv, (ρ[j]?).join = none) ∧ Iv (n + 1) acc ρ := fun {ρ5 acc' σ5 F5 W5 H5} r5 e5 q5 => by
        have r6 := R.wipe r5 (fun x hx => (List.mem_cons.mp hx).elim (fun e => by rw [e]; rfl) (hz x)) hp
        rw [e5] at r6
        exact ⟨_, F5, W5, acc', r6, fun j hj => wipeR_none hj, q5⟩
      refine .inr ⟨⟨hlk, by rw [hlen]; exact hlt2⟩, fun H => ∃ ρ F W acc, R K I c' ρ (.lst acc :: tm') (L2.wipe σ wv) (.ref D :: vs) F W H ∧ (∀ j ∈ wv, (ρ[j]?).join = none) ∧ Iv (n + 1) acc ρ, fun H' h => ⟨kvs.length - (n + 1), by omega, rfl, hlt2, h⟩, fun y H' yl => ?_⟩
      obtain ⟨P, k1, v1, hk1, ey, hP, eH⟩ := yl
      subst ey; subst eH
      obtain ⟨d1, hd1, hdd⟩ := pd_at hy2 hk1
      obtain ⟨F3, r5⟩ := R.newPair (d := keyD k1) (e := d1) (x := kV k1) (y := v1) r4 (.dat (dp_key k1)) (.dat hdd) hP
      refine hg c' ρ2 (.dat (.tuple [keyD k1, d1])) (.lst acc :: tm') (L2.wipe σ wv) (.ref P) (.ref D :: vs) F3 W2 _ r5 rfl (fun x hx => (List.mem_cons.mp hx).elim (fun e => by rw [e]; rfl) (hz x)) noX _ _ hx2 (fun ρ4 σ4 F4 W4 H4 r6 sb q4 => ?_) (it n acc ρ2 k1 d1 hd1 iv)
      have ew := wipe_same sb has
      refine ⟨ew, ht c' ρ4 _ σ4 _ F4 W4 H4 r6 noX _ hx2 q4 _ fun b ρ5 F5 W5 H5 r7 q5 => ?_⟩
      cases b with
      | false => exact next r7 ew q5
      | true =>
        refine he c' ρ5 _ σ4 _ F5 W5 H5 r7 noX _ hx2 q5 _ fun t ρ6 v F6 W6 H6 r8 ⟨s, ρ7, ho, hla, q6⟩ => ?_
        obtain ⟨r9, hsr⟩ := r8.opn ho
        obtain ⟨a', us', e, hH, hlen', r11⟩ := r9.push hsr
        cases e
        exact ⟨us', hH, Nat.lt_of_lt_of_le (by omega) (line_of (n := 1000000) (Nat.le_refl _)), next r11 ew q6⟩
    · have e : n = kvs.length := by omega
      subst e
      refine .inl ⟨⟨hlk, Nat.le_of_eq hlen⟩, hlk, ?_⟩
      have r5 := R.unwipe ru (fun x hx => ?_) hp hwn
      · have r6 := r5.putAt (j := i) (p := [.fd f]) rfl
        exact k _ _ _ _ _ _ (back r6) (iE acc ρ2 iv)
      · rcases List.mem_cons.mp hx with rfl | hx
        · rfl
        · rcases List.mem_cons.mp hx with rfl | hx
          · rfl
          · exact hz x hx
end
end Hz
/-! Hz31: x in xs of data. -/
namespace Hz
open PySem L2 PySem.W PyProof.Rows
def wInD (neg : Bool) (a b : WE) : WE := fun ρ Qx Q => a ρ Qx fun ta ρ1 => b ρ1 Qx fun tb ρ2 => ∃ s1 s2 d ds, ta.peek ρ2 = some s1 ∧ tb.peek ρ2 = some s2 ∧ s1.py = some d ∧ s2.py = some (.list ds) ∧
  SeqAt.shaped d = true ∧ SeqAt.shaped (.list ds) = true ∧ Q (tBo (if neg then !(List.any ds fun z => PyData.eqv z d) else List.any ds fun z => PyData.eqv z d)) (ta.drop (tb.drop ρ2))
section
variable {K : PySem.W.Frag} {I : Sg} {E : XS} {ta tb : TE} {wa wb : WE}
theorem ev_inD (ha : EvW K I E ta wa) (hb : EvW K I E tb wb) : EvW K I E (tOp (rInD K) ta tb) (wInD false wa wb) :=
  fun c ρ tm σ vs F W H r Qx Qv hx hw Q k => ha c ρ tm σ vs F W H r Qx _ hx hw _ fun t ρ' v F' W' H' r' hw' => hb c ρ' (t :: tm) σ (v :: vs) F' W' H' r' Qx _ hx hw' _ fun t2 ρ2 v2 F2 W2 H2 r2 ⟨s1, s2, d1, d2, e1, e2, p1, p2, z1, z2, q⟩ => by
    obtain ⟨f2, h2, _⟩ := r2.peek e2
    obtain ⟨f1, h1, _⟩ := r2.drop.peek e1
    exact ⟨d1, d2, dp_of h1 r2.sub p1, dp_of h2 r2.sub p2, z1, z2, k _ _ _ _ _ _ (r2.dropT.dropT.dat (.bl _)) q⟩
theorem ev_notInD (ha : EvW K I E ta wa) (hb : EvW K I E tb wb) : EvW K I E (tOp (rNotInD K) ta tb) (wInD true wa wb) :=
  fun c ρ tm σ vs F W H r Qx Qv hx hw Q k => ha c ρ tm σ vs F W H r Qx _ hx hw _ fun t ρ' v F' W' H' r' hw' => hb c ρ' (t :: tm) σ (v :: vs) F' W' H' r' Qx _ hx hw' _ fun t2 ρ2 v2 F2 W2 H2 r2 ⟨s1, s2, d1, d2, e1, e2, p1, p2, z1, z2, q⟩ => by
    obtain ⟨f2, h2, _⟩ := r2.peek e2
    obtain ⟨f1, h1, _⟩ := r2.drop.peek e1
    exact ⟨d1, d2, dp_of h1 r2.sub p1, dp_of h2 r2.sub p2, z1, z2, k _ _ _ _ _ _ (r2.dropT.dropT.dat (.bl _)) q⟩
end
end Hz
/-! Hz32: enumerate over a tuple. -/
namespace Hz
open PySem L2 PySem.W PyProof.Rows
open AutoSeq1 (wpAny_loadPart')
set_option maxHeartbeats 1000000 in
theorem meets_enumerate_newT (l : Addr) (items : Array Value) (n : Nat) (dct : Option Addr) (sl : Array (Option Value)) :
    Meets (Builtin.«enumerate.__new__» ⟨[.type "enumerate", .ref l], []⟩) (fun _ R s => s.heap.get? l = some { cls := .type "tuple", dict := dct, data := .seq items n, slots := sl } ∧
      R (.ok (.ret (.ref (s.heap.push { cls := .type "tuple_iterator", data := .fields #[.ref l, .int 0 0] }).objs.size)))
        { s with heap := (s.heap.push { cls := .type "tuple_iterator", data := .fields #[.ref l, .int 0 0] }).push { cls := .type "enumerate", data := .fields #[.none, .bool false, .ref s.heap.objs.size, rawInt 0, .none, .none] } }) :=
  .of_wp fun prog w A R s h => by
    obtain ⟨hp, g, d, tk, os⟩ := s; obtain ⟨hl, h⟩ := h
    have hsub := sub_enumerate
    have hL : Heap.IsTuple (Shared.heap ⟨hp, g, d, tk, os⟩) l items := ⟨_, hl, rfl, n, rfl⟩
    wp_walk using wpAny_loadPart' hl
    refine wpAny_stack_any fun st => wpAny_pure ?_
    split
    · rename_i c _ _ _ _ _
      cases (c == Value.type "enumerate")
      · wp_walk using wpAny_loadPart' hl, wpAny_pyIter_tuple hL
        exact ⟨_, rfl, h⟩
      · wp_walk using wpAny_loadPart' hl, wpAny_pyIter_tuple hL
        exact ⟨_, rfl, h⟩
    · wp_walk using wpAny_loadPart' hl, wpAny_pyIter_tuple hL
      exact ⟨_, rfl, h⟩
section
variable {prog : Program} {w : World} {A : Around} {E : Value → Shared → Prop} {s : Shared}
theorem call_enumerate_tup {l : Addr} {items : Array Value} {Q : Value → Shared → Prop} (hL : s.heap.IsTuple l items)
    (h : ∀ h', IsEnum h' (s.heap.objs.size + 1) s.heap.objs.size 0 .none → h'.IsTupleIter s.heap.objs.size l 0 → h'.objs.size = s.heap.objs.size + 2 →
      (∀ b o, s.heap.get? b = some o → h'.get? b = some o) → Q (.ref (s.heap.objs.size + 1)) { s with heap := h' }) :
    wpAny (model prog w) A (call (.type "enumerate") [.ref l]) Q E s := by
  obtain ⟨⟨c, dct, dt, sl⟩, hl, hc, n, hd⟩ := hL
  replace hc : c = .type "tuple" := hc
  replace hd : dt = .seq items n := hd
  subst hc hd
  refine callType_new F.called_enumerate (by decide) (F.typeCall_enumerate_1 _) (F.newCall_enumerate_1 _) (fun obj => F.args_object_init_2 obj _) F.entry_enumerate_new
    (meets_enumerate_newT l items n dct sl) ⟨hl, ?_⟩
  have hz : (s.heap.push { cls := .type "tuple_iterator", data := .fields #[.ref l, .int 0 0] }).objs.size = s.heap.objs.size + 1 := Heap.size_push ..
  show _ ∧ _
  rw [hz]
  have he : IsEnum ((s.heap.push { cls := .type "tuple_iterator", data := .fields #[.ref l, .int 0 0] }).push
      { cls := .type "enumerate", data := .fields #[.none, .bool false, .ref s.heap.objs.size, rawInt 0, .none, .none] }) (s.heap.objs.size + 1) s.heap.objs.size 0 .none := by
    have := Heap.get?_push_size (s.heap.push { cls := .type "tuple_iterator", data := .fields #[.ref l, .int 0 0] })
      (o := { cls := .type "enumerate", data := .fields #[.none, .bool false, .ref s.heap.objs.size, rawInt 0, .none, .none] }) rfl
    rw [hz] at this; exact this
  refine ⟨⟨_, he, rfl⟩, h _ he ⟨_, Heap.get?_push_of_some _ (Heap.get?_push_size _ rfl), rfl, rfl⟩ (by rw [Heap.size_push, hz]) fun b o x => Heap.get?_push_of_some _ (Heap.get?_push_of_some _ x)⟩
end
theorem wpAny_pyNext_enum_endT {prog : Program} {w : World} {A : Around} {E : Value → Shared → Prop} {s : Shared} {e it l : Addr} {i : Nat} {items : Array Value} {old : Value} {Q : Option Value → Shared → Prop} (hh : A.handled = none)
    (he : IsEnum s.heap e it i old) (hit : s.heap.IsTupleIter it l i) (hl : s.heap.IsTuple l items) (hx : items[i]? = none)
    (hQ : ∀ h', Heap.ExtBut it s.heap h' → Q none { s with heap := h' }) : wpAny (model prog w) A (pyNext (.ref e)) Q E s := by
  have hT : s.TypeIs (.ref e) "enumerate" := ⟨_, he, rfl⟩
  unfold pyNext
  refine wpAny_bind (wpAny_attempt (wpAny_callSpecial?_slot (name := Str.ofString "__next__") hT F.slot_enumerate_next
    (wpAny_call_entry F.slot_enumerate_next hT F.entry_enumerate_next ?_ (F.args_enumerate_next_1 _))))
  show wpAny _ _ (field (.ref e) 2 >>= _) _ _ _
  refine wpAny_bind (wpAny_field he rfl (x := .ref it) rfl ?_)
  refine wpAny_bind (wpAny_nextOf_tuple_end (A := A.in1) hh hit hl hx fun h' x he' hx' => ?_)
  obtain ⟨o, ho, hc⟩ := hx'
  refine wpAny_bind (wpAny_isInstance (T := "StopIteration") (b := true) ⟨o, ho, hc⟩ isSubtype_stop ?_)
  exact wpAny_pure (hQ _ he')
/-- the tuple at a, each item in a new pair -/
def IteT (K : PySem.W.Frag) (a : Addr) : It :=
  ⟨fun i H => ∃ (xs : List V) (x : V), SqT K H a xs ∧ xs[i]? = some x, fun i H v H' => ∃ T x, v = .ref T ∧ H T = none ∧ H' = upd H T (.tup [.int (i : Nat), x]) ∧ ∀ xs, SqT K H a xs → xs[i]? = some x, fun i H => ∃ xs : List V, SqT K H a xs ∧ xs.length ≤ i⟩
theorem tup_of {h : Heap} {a : Addr} {its : Array Value} (p : IsTup h a its) : h.IsTuple a its := p
theorem turn_enumT {P : Program} {w : World} {K : PySem.W.Frag} {elts : List Expr} {kk : Nat} {tpos : Pos} (a e it : Addr) (hai : a ≠ it) (hae : a ≠ e) :
    Turn P w K (.Tuple elts kk tpos) (IteT K a) [e, it] e (fun i h => (∃ old, IsEnum h e it ((i : Nat) : Int) old) ∧ h.IsTupleIter it a i ∧ e ≠ it) where
  mem := by simp
  obj := fun i h st b hb => by
    obtain ⟨⟨old, he⟩, ⟨o, ho, hc, hd⟩, _⟩ := st
    have e' : b = e ∨ b = it := by simpa using hb
    rcases e' with z | z
    · rw [z]; exact ⟨_, he, fun v q => nomatch q⟩
    · rw [z]; exact ⟨o, ho, fun v q => by rw [hd] at q; cases q⟩
  keep := fun i h h' st k => let ⟨⟨old, he⟩, hi, hne⟩ := st; ⟨⟨old, k e (by simp) _ he⟩, hi.at fun o q => k it (by simp) o q, hne⟩
  item := by
    intro X hP hw hK hc i pins s σ H E I hf st hg
    subst hP hw hK
    obtain ⟨⟨old, he⟩, hit, hne⟩ := st
    obtain ⟨xs, x, hq, hx⟩ := hg
    obtain ⟨its, rv, p, hz⟩ := I.tuple hq
    obtain ⟨u, hu, ru⟩ := rv.get hx
    have hel : e < s.heap.objs.size := Heap.lt_size he
    have hil : it < s.heap.objs.size := by obtain ⟨_, q, _⟩ := hit; exact Heap.lt_size q
    have hlt : i < its.toArray.size := by rw [List.size_toArray]; exact (List.getElem?_eq_some_iff.mp hu).1
    have hef : e ∉ [it, a] := fun z => by
      have z' : e = it ∨ e = a := by simpa using z
      rcases z' with z' | z'
      · exact hne z'
      · exact hae z'.symm
    refine wpAny_pyNext_enum_itemC (Draws.tuple (A := X.A.in1) (I.ok.hd hc) it a hai its.toArray) he ⟨hit, tup_of p⟩ hlt hne hef fun u' h' tk hP ho hst' hT hsz hk => ?_
    have eu : u' = u := by
      have z : its[i]? = some u' := by simpa using hP
      exact Option.some.inj (z.symm.trans hu)
    subst eu
    refine ⟨_, rfl, wpAny_letOwnedTupleGo_enum (s := { s with heap := h', toks := tk + 1 }) ho fun h'' he' sb => ?_⟩
    have hT2 : h''.get? s.heap.objs.size = some { cls := .type "tuple", data := .seq #[.int i tk, u'] } := (sb.2 _ (Nat.ne_of_gt hel)).trans hT
    have new : ObjOk X.prog X.w (upd H s.heap.objs.size (.tup [.int (i : Nat), x])) h'' s.heap.objs.size (.tup [.int (i : Nat), x]) :=
      ⟨by show 2 ≤ sizeLine; decide, [.int i tk, u'], .cons ⟨_, rfl⟩ (.cons ru .nil), ⟨_, hT2, rfl, _, rfl⟩⟩
    have I1 : Inv X pins σ (upd H s.heap.objs.size (.tup [.int (i : Nat), x])) { s with heap := h'', toks := tk + 1 } :=
      I.turnedNew (ch := [e, it]) (fun b ob hb q => (sb.2 b (fun z => hb (by simp [z]))).trans (hk b ob (fun z => hb (by simp [z])) (fun z => hb (by simp [z])) q)) hf (Nat.le_refl _) new
    refine ⟨.ref s.heap.objs.size, _, I1, rfl, ⟨_, x, rfl, I.hok.fresh (Nat.le_refl _), rfl, fun ys hy => by rw [I.tuple_inj hy hq]; exact hx⟩, ⟨⟨u', ?_⟩, hst'.1.at fun o q => (sb.2 it (Ne.symm hne)).trans q, hne⟩, fun b hb => ?_⟩
    · have e1 : ((i + 1 : Nat) : Int) = (i : Int) + 1 := by omega
      rw [e1]; exact he'
    · have hb' : b < s.heap.objs.size := by
        have e' : b = e ∨ b = it := by simpa using hb
        rcases e' with z | z
        · rw [z]; exact hel
        · rw [z]; exact hil
      rw [upd_ne (Nat.ne_of_lt hb')]
      exact (hf b hb).1
  done := by
    intro X hP hw hK hc i pins s σ H E I hf st hg
    subst hP hw hK
    obtain ⟨⟨old, he⟩, hit, hne⟩ := st
    obtain ⟨xs, hq, hx⟩ := hg
    obtain ⟨its, rv, p, hz⟩ := I.tuple hq
    obtain ⟨f0, f1, f2, f3, f4, f5⟩ := hf it (by simp)
    have hl := rv.length
    exact wpAny_pyNext_enum_endT (I.ok.hd hc) he hit (tup_of p) (by simp; omega) fun h' eb => ⟨rfl, I.turned (t' := s.toks) (fun b o hb q => eb b o hb q) f0 f1 f3 f4 f5⟩
  self := fun A i s Q E st h => let ⟨⟨_, he⟩, _⟩ := st; wpAny_pyIter_enum he h
def iEnumT (K : PySem.W.Frag) (ta : TA) : TI := fun σ H R => ta σ H fun vs H1 => ∃ a xs, vs = [.ref a] ∧ SqT K H1 a xs ∧ R (IteT K a) H1
theorem pi_enumT {X : Cx} {e : Expr} {ta : TA} {p pos tpos : Pos} {elts : List Expr} {kk : Nat} (hg : Gl X "enumerate") (hm : X.mg "enumerate" = none) (ha : PA X [e] ta) (hs : starEach [e] X.env = [(false, eval e X.env)] := by rfl) :
    PI X (.Tuple elts kk tpos) (.Call (.Name "enumerate" p) [e] [] pos) (iEnumT X.K ta) := by
  refine ⟨fun pins s σ H R I h => ?_⟩
  refine Call_ (ld_blt I hg hm boot_enumerate (PyProof.Rows.callWith_type1 (thn (ha.run pos pins s σ H _ I h) fun us s1 ⟨vs, H1, I1, r1, q1⟩ => ?_) hs rfl))
  obtain ⟨a, xs, ex, hq, q⟩ := q1
  subst ex
  cases r1 with
  | cons r rr =>
    cases rr
    cases r
    obtain ⟨its, rv, p', hz⟩ := I1.tuple hq
    have hal : a < s1.heap.objs.size := by obtain ⟨_, z, _⟩ := p'; exact Heap.lt_size z
    refine call_enumerate_tup (tup_of p') fun h' he hit hsz hk => wpAny_pyIter_enum he ?_
    have I2 : Inv X pins σ H1 { s1 with heap := h' } := I1.kept (t' := s1.toks) hk
    refine ⟨s1.heap.objs.size + 1, [s1.heap.objs.size + 1, s1.heap.objs.size], _, _, H1, rfl, I2, turn_enumT a (s1.heap.objs.size + 1) s1.heap.objs.size (Nat.ne_of_lt hal) (Nat.ne_of_lt (Nat.lt_succ_of_lt hal)), ⟨⟨.none, he⟩, hit, Nat.succ_ne_self _⟩, fun b hb => ?_, q⟩
    have e' : b = s1.heap.objs.size + 1 ∨ b = s1.heap.objs.size := by simpa using hb
    have hle : s1.heap.objs.size ≤ b := by
      rcases e' with z | z
      · rw [z]; exact Nat.le_add_right _ _
      · rw [z]; exact Nat.le_refl _
    exact I1.fpOk hle (I1.hok.fresh hle)
end Hz
namespace Hz
open PySem L2 PySem.W PyProof.Rows
def iEnT (a : WE) : WI := fun ρ Qx Q => a ρ Qx fun t ρ1 => settle t ρ1 fun t' ρ2 => ∃ s ts ds, t'.peek ρ2 = some s ∧ s.isL = false ∧ s.items = some ts ∧ ts.all T.copy = true ∧ T.pys ts = some ds ∧ Q ⟨[t'], ts.length, fun i => .dat (.tuple [.int i, ds.getD i .none])⟩ ρ2
section
variable {K : PySem.W.Frag} {I : Sg} {E : XS} {ta tb tl : TE} {wa wb : WE}
theorem ei_enumT (ha : EvW K I E ta wa) : EvI K I E (iEnumT K (tCons ta tNil)) (iEnT wa) := fun c ρ tm σ vs F W H r Qx Qs hx hw Rr k =>
  ha c ρ tm σ vs F W H r Qx _ hx hw _ fun t ρ1 v F1 W1 H1 r1 q1 => by
    obtain ⟨t', ρ2, r2, hz, s, ts, ds, hp, hL, hi, hc, hd, q⟩ := r1.settle q1
    obtain ⟨a, us, rfl, hl, _, h1, _⟩ := seq_turn r2 hp hi hc
    refine ⟨a, us, rfl, h1 hL, k (IteT K a) ⟨[t'], ts.length, fun i => .dat (.tuple [.int i, ds.getD i .none])⟩ [.ref a] ρ2 F1 W1 H1 r2 rfl ?_ ?_ (fun _ _ => rfl) q⟩
    · intro c ρ tm σ vs F W H r
      obtain ⟨a', us', e, hl', _, h1', hat⟩ := seq_turn (tm := tm) (vs := vs) r (peek_noLz hz hp ρ) hi hc
      cases e
      refine ⟨fun i hi' => ?_, us', h1' hL, Nat.le_of_eq hl'⟩
      have hlt : i < us'.length := Nat.lt_of_lt_of_eq hi' hl'.symm
      refine ⟨⟨us', us'[i], h1' hL, List.getElem?_eq_getElem hlt⟩, fun x H' y => ?_⟩
      obtain ⟨P, x0, e1, e2, e3, e4⟩ := y
      subst e1; subst e3
      have hx := e4 us' (h1' hL)
      have hk : ts[i]? = some (ts[i]'(hi')) := List.getElem?_eq_getElem hi'
      obtain ⟨d, hd1, hd2⟩ := pys_at hd hk
      have hrep := hat i x0 hx _ hk
      have hrd : Rep K F W H x0 (.dat d) [] := .dat (rep_py (.refl _) _ _ [] d hrep (fun _ z => (nomatch z)) hd2)
      show ∃ F', R K I c ρ (T.dat (.tuple [.int i, ds.getD i .none]) :: ([t'] ++ tm)) σ _ F' W _
      rw [getD_of hd1]
      exact R.newPair r (.dat (.int _)) hrd e2
    · intro x hx
      cases List.mem_singleton.mp hx
      exact hz
end
end Hz
/-! Hz33: sorted(d.items()). -/
namespace Hz
open PySem L2 PySem.W PyProof.Rows
def pairD (kv : Key × PyData) : PyData := .tuple [keyD kv.1, kv.2]
/-- a pair that lies at an address: its two values and what it says -/
abbrev Lp := Addr × V × V × PyData
def lay : Hp → List Lp → Hp
  | H, [] => H
  | H, b :: L => lay (upd H b.1 (.tup [b.2.1, b.2.2.1])) L
theorem each_of {α β : Type} {R : α → β → Prop} : ∀ {vs : List α} {bs : List β}, vs.length = bs.length → (∀ (j : Nat) v b, vs[j]? = some v → bs[j]? = some b → R v b) → EachIs R vs bs
  | [], [], _, _ => .nil
  | [], _ :: _, h, _ => by cases h
  | _ :: _, [], h, _ => by cases h
  | v :: vs, b :: bs, h, k => .cons (k 0 v b rfl rfl) (each_of (by simpa using h) fun j v b h1 h2 => k (j + 1) v b h1 h2)
mutual
theorem reads_lt {h : Heap} : ∀ {v : Value} {d : PyData} {as : List Addr}, Reads h v d as → ∀ a ∈ as, a < h.objs.size
  | _, _, _, .none, a, ha => by cases ha
  | _, _, _, .bool _, a, ha => by cases ha
  | _, _, _, .int _ _, a, ha => by cases ha
  | _, _, _, .str _ _, a, ha => by cases ha
  | _, _, _, .list h1 _ _ h2, a, ha => by
    rcases List.mem_cons.mp ha with rfl | ha
    · exact Heap.lt_size h1
    · exact readsAll_lt h2 a ha
  | _, _, _, .tuple h1 _ _ h2, a, ha => readsAll_lt h2 a ha
  | _, _, _, .dict h1 _ _ h2 h3, a, ha => by
    rcases List.mem_cons.mp ha with rfl | ha
    · exact Heap.lt_size h1
    · rcases List.mem_append.mp ha with ha | ha
      · exact readsAll_lt h2 a ha
      · exact readsAll_lt h3 a ha
theorem readsAll_lt {h : Heap} : ∀ {vs : List Value} {ds : List PyData} {as : List Addr}, ReadsAll h vs ds as → ∀ a ∈ as, a < h.objs.size
  | _, _, _, .nil, a, ha => by cases ha
  | _, _, _, .cons h1 h2, a, ha => by
    rcases List.mem_append.mp ha with ha | ha
    · exact reads_lt h1 a ha
    · exact readsAll_lt h2 a ha
end
theorem pairs_at {P : Program} {w : World} : ∀ {es : List DictEntry} {vs : List (Key × Value)} {j : Nat} {kv : Key × Value}, Pairs (mixKind P w) es vs → vs[j]? = some kv → ∃ e, es[j]? = some e ∧ (mixKind P w).is kv.1 e.key = true ∧ e.val = kv.2
  | _, _, _, _, .nil, h => by cases h
  | _, _, 0, _, .cons h1 h2 _, h => by cases h; exact ⟨_, rfl, h1, h2⟩
  | _, _, j + 1, _, .cons _ _ h3, h => pairs_at (j := j) h3 h
theorem kv_at : ∀ {xs : List (Key × V)} {vs : List (Key × Value)} {j : Nat} {x : Key × V}, KV xs vs → xs[j]? = some x → ∃ y, vs[j]? = some y ∧ x.1 = y.1 ∧ RelV x.2 y.2
  | _, _, _, _, .nil, h => by cases h
  | _, _, 0, _, .cons h1 _, h => by cases h; exact ⟨_, rfl, h1.1, h1.2⟩
  | _, _, j + 1, _, .cons _ h2, h => kv_at (j := j) h2 h
theorem relV_key {k : Key} {v : Value} (h : keyIs k v = true) : RelV (kV k) v := by
  rcases keyIs_shape h with ⟨i, t, rfl, rfl⟩ | ⟨x, t, rfl, rfl⟩
  · exact ⟨_, rfl⟩
  · exact ⟨_, rfl⟩
theorem reads_key {h : Heap} {k : Key} {v : Value} (e : keyIs k v = true) : ∃ as, Reads h v (keyD k) as := by
  rcases keyIs_shape e with ⟨i, t, rfl, rfl⟩ | ⟨x, t, rfl, rfl⟩
  · exact ⟨_, .int _ _⟩
  · exact ⟨_, .str _ _⟩
section
variable {X : Cx}
def rItemsK : V → List V → Hp → VK → Prop := fun x xs H Q => ∃ (a : Addr) (kvs : List (Key × V)), x = .ref a ∧ xs = [] ∧ H a = some (.dK kvs) ∧ ∀ p, H p = none → Q (.ref p) (upd H p (L2.DX.itemsO p a))
theorem mt_itemsK : MtR X "dict.items" rItemsK := by
  intro pins s σ H x xs v us Q I rx rxs h
  obtain ⟨a, kvs, rfl, rfl, ha, q⟩ := h
  cases rx
  cases rxs
  obtain ⟨z, hd, vs, rel, o, es, ep, ho, hx, hdat, _⟩ := dk_of I.hok ha
  refine DT.callItems (es := es) (ep := ep) hd ⟨o, ho, hx, hdat⟩ ?_
  have hf : H s.heap.objs.size = none := I.hok.fresh (Nat.le_refl _)
  exact ⟨.ref s.heap.objs.size, upd H s.heap.objs.size (L2.DX.itemsO s.heap.objs.size a), I.laid (t' := s.toks) (fun b u e => Heap.get?_push_of_some _ e) (Nat.le_refl _) (L2.DX.itemsO_ok (Heap.get?_push_size _ rfl)), rfl, q _ hf⟩
theorem takeL {pins : List (Addr × Obj)} {σ : L2.St} {H0 : Hp} {s : Shared} {h' : Heap} {tk : Nat} (I0 : Inv X pins σ H0 s) : ∀ (L : List Lp) (H1 : Hp), Inv X pins σ H1 { s with heap := h', toks := tk } → (L.map (·.1)).Nodup →
    (∀ b ∈ L, s.heap.objs.size ≤ b.1 ∧ H1 b.1 = none ∧ ∀ H2, ObjOk X.prog X.w H2 h' b.1 (.tup [b.2.1, b.2.2.1])) →
    Inv X pins σ (lay H1 L) { s with heap := h', toks := tk }
  | [], H1, I1, _, _ => I1
  | b :: L, H1, I1, hn, h => by
    obtain ⟨hb, hnone, ok⟩ := h b (List.mem_cons_self ..)
    have I2 : Inv X pins σ (upd H1 b.1 (.tup [b.2.1, b.2.2.1])) { s with heap := h', toks := tk } := I1.take (h' := h') (t' := tk) (fun c ob _ e => e) (I0.fpOk hb hnone) (ok _)
    rw [List.map_cons, List.nodup_cons] at hn
    refine takeL I0 L _ I2 hn.2 fun c hc => ?_
    obtain ⟨c1, c2, c3⟩ := h c (List.mem_cons_of_mem _ hc)
    exact ⟨c1, by rw [upd_ne (fun z => hn.1 (by rw [← z]; exact List.mem_map.mpr ⟨c, hc, rfl⟩))]; exact c2, c3⟩
theorem lay_ne : ∀ {L : List Lp} {H : Hp} {a : Addr}, (∀ b ∈ L, a ≠ b.1) → lay H L a = H a
  | [], _, _, _ => rfl
  | b :: L, H, a, h => by
    show lay (upd H b.1 _) L a = H a
    rw [lay_ne fun c hc => h c (List.mem_cons_of_mem _ hc), upd_ne (h b (List.mem_cons_self ..))]
def rSortI (K : PySem.W.Frag) : List V → Hp → VK → Prop := fun vs H Q => ∃ (p a : Addr) (xs : List (Key × V)) (kvs : DKv), vs = [.ref p] ∧ H p = some (L2.DX.itemsO p a) ∧ H a = some (.dK xs) ∧ PD K H xs kvs ∧
  AllAlike (kvs.map pairD) ∧ Sortable (kvs.map pairD) ∧ (∀ d ∈ kvs.map pairD, d.depth ≤ 60) ∧
  ∀ (bs : List Lp) (l : Addr), bs.map (·.2) = (xs.zip kvs).map (fun z => (kV z.1.1, z.1.2, pairD z.2)) → (bs.map (·.1)).Nodup → (∀ b ∈ bs, H b.1 = none) → (∀ b ∈ bs, l ≠ b.1) → H l = none →
    Q (.ref l) (upd (lay H bs) l (.lst ((bs.mergeSort (dataLe false fun b : Lp => b.2.2.2)).map fun b => V.ref b.1)))
theorem pd_zip {K : PySem.W.Frag} {F : Hp} : ∀ {xs : List (Key × V)} {kvs : DKv} {j : Nat} {z : (Key × V) × Key × PyData}, PD K F xs kvs → (xs.zip kvs)[j]? = some z → xs[j]? = some z.1 ∧ kvs[j]? = some z.2 ∧ z.1.1 = z.2.1 ∧ Dp K F z.1.2 z.2.2
  | _, _, _, _, .nil, h => by cases h
  | _, _, 0, _, .cons h1 _, h => by cases h; exact ⟨rfl, rfl, rfl, h1⟩
  | _, _, j + 1, _, .cons _ h2, h => pd_zip (j := j) h2 h
theorem zip_snd {K : PySem.W.Frag} {F : Hp} : ∀ {xs : List (Key × V)} {kvs : DKv}, PD K F xs kvs → (xs.zip kvs).map (fun z => pairD z.2) = kvs.map pairD
  | _, _, .nil => rfl
  | _, _, .cons _ h2 => by rw [List.zip_cons_cons, List.map_cons, List.map_cons, zip_snd h2]
theorem cr_sortI {k : Nat} (hr : Room k X.A) : CallR X (.builtin "sorted") (rSortI X.K) := by
  intro pins s σ H xs0 us Q I r h
  obtain ⟨p, a, xs, kvs, rfl, hp, ha, hx, hal, hk, hdep, q⟩ := h
  obtain rfl := Vals.ref1 r
  have view : s.heap.IsItemsView p a := (show ObjOk X.prog X.w H s.heap p (L2.DX.itemsO p a) from I.hok p _ hp).1
  obtain ⟨z, hd, vs, rel, o, es, ep, ho, hxd, hdat, hks, hps, hn⟩ := dk_of I.hok ha
  have l1 : xs.length = vs.length := Paired.length rel
  have l2 : es.size = vs.length := by rw [← Array.length_toList]; exact hps.length
  have l3 : xs.length = kvs.length := hx.len
  have hh : X.A.handled = none := hr.hd
  refine DT.sortedI (es := es) (ep := ep) hh view ⟨o, ho, hxd, hdat⟩ (by omega) fun h' tk as hkp hlt hl hG => ?_
  have nd : as.Nodup := List.Pairwise.imp (fun h => Nat.ne_of_lt h) hG.rise
  -- what was laid
  let bs : List Lp := (as.zip (xs.zip kvs)).map fun z => (z.1, kV z.2.1.1, z.2.1.2, pairD z.2.2)
  have lz : (xs.zip kvs).length = as.length := by rw [List.length_zip]; omega
  have b1 : bs.map (·.1) = as := by
    show List.map _ (List.map _ _) = _
    rw [List.map_map]
    exact List.map_fst_zip (by omega)
  have b2 : bs.map (·.2) = (xs.zip kvs).map (fun z => (kV z.1.1, z.1.2, pairD z.2)) := by
    show List.map _ (List.map _ _) = _
    rw [List.map_map]
    have : (as.zip (xs.zip kvs)).map (·.2) = xs.zip kvs := List.map_snd_zip (by omega)
    conv => rhs; rw [← this, List.map_map]
    rfl
  have b3 : bs.map (fun b => b.2.2.2) = kvs.map pairD := by
    have e1 : bs.map (fun b => b.2.2.2) = (bs.map (·.2)).map (fun b => b.2.2) := (List.map_map (f := fun b : Lp => b.2) (g := fun b : V × V × PyData => b.2.2) (l := bs)).symm
    rw [e1, b2, List.map_map]
    exact zip_snd hx
  have bl : bs.length = as.length := by have := congrArg List.length b1; rw [List.length_map] at this; exact this
  -- each of them
  have each : ∀ (j : Nat) (b : Lp), bs[j]? = some b → as[j]? = some b.1 ∧ ∃ (e : DictEntry) (kx : Key × V) (ky : Key × PyData), b.2 = (kV kx.1, kx.2, pairD ky) ∧ kx.1 = ky.1 ∧ Dp X.K H kx.2 ky.2 ∧ RelV (kV kx.1) e.key ∧ keyIs kx.1 e.key = true ∧ RelV kx.2 e.val ∧ h'.get? b.1 = some { cls := .type "tuple", data := .seq #[e.key, e.val] } := by
    intro j b hb
    have hb' : ((as.zip (xs.zip kvs))[j]?).map (fun z => (z.1, kV z.2.1.1, z.2.1.2, pairD z.2.2)) = some b := by rw [← List.getElem?_map]; exact hb
    cases ez : (as.zip (xs.zip kvs))[j]? with
    | none => rw [ez] at hb'; cases hb'
    | some z =>
      rw [ez] at hb'
      cases hb'
      obtain ⟨z1, z2⟩ := List.getElem?_zip_eq_some.mp ez
      obtain ⟨y1, y2, y3, y4⟩ := pd_zip hx z2
      obtain ⟨e, he, hg⟩ := hG.pairs j _ z1
      obtain ⟨kv, w1, w2, w3⟩ := kv_at rel y1
      obtain ⟨e', v1, v2, v3⟩ := pairs_at hps w1
      have ee : e' = e := by
        have : es.toList[j]? = some e := by rw [Array.getElem?_toList]; exact he
        rw [this] at v1
        exact (Option.some.inj v1).symm
      subst ee
      rw [← w2] at v2
      exact ⟨z1, e', z.2.1, z.2.2, rfl, y3, y4, relV_key v2, v2, by rw [v3]; exact w3, hg⟩
  -- the heap of the sort
  have hob : (h'.push { cls := .type "list", data := .seq (as.map Value.ref).toArray }).get? h'.objs.size = some (seqObj "list" (as.map Value.ref).toArray 0) := Heap.get?_push_size _ rfl
  have kb : ∀ b o, s.heap.get? b = some o → (h'.push { cls := .type "list", data := .seq (as.map Value.ref).toArray }).get? b = some o := fun b o e => Heap.get?_push_of_some _ (hkp b o e)
  have ne0 : ∀ b o, h'.get? b = some o → b ≠ h'.objs.size := fun b o e => Nat.ne_of_lt (Heap.lt_size e)
  generalize hh2 : h'.push { cls := .type "list", data := .seq (as.map Value.ref).toArray } = h2 at hob kb ⊢
  have ka : ∀ b o, h'.get? b = some o → h2.get? b = some o := fun b o e => by rw [← hh2]; exact Heap.get?_push_of_some _ e
  have ev : EachIs (fun (v : Value) (b : Lp) => v = .ref b.1 ∧ b ∈ bs) (as.map Value.ref) bs := each_of (by rw [List.length_map, bl]) fun j v b h1 h2 => by
    obtain ⟨e1, _⟩ := each j b h2
    rw [List.getElem?_map, e1] at h1
    cases h1
    exact ⟨rfl, List.mem_of_getElem? h2⟩
  have er : EachIs (fun (v : Value) (b : Lp) => ∃ as, Reads h2 v b.2.2.2 as ∧ h'.objs.size ∉ as) (as.map Value.ref) bs := each_of (by rw [List.length_map, bl]) fun j v b h1 hb => by
    obtain ⟨e1, e, kx, ky, eb, ek, hdp, rk, ki, rv, hg⟩ := each j b hb
    rw [List.getElem?_map, e1] at h1
    cases h1
    obtain ⟨a1, r1⟩ := reads_key (h := s.heap) ki
    obtain ⟨a2, r2⟩ := Dp.reads I ky.2 kx.2 e.val hdp rv
    have r12 : ReadsAll s.heap [e.key, e.val] [keyD kx.1, ky.2] (a1 ++ (a2 ++ [])) := .cons r1 (.cons r2 .nil)
    have e22 : b.2.2.2 = .tuple [keyD kx.1, ky.2] := by rw [eb, ek]; rfl
    rw [e22]
    refine ⟨a1 ++ (a2 ++ []), .tuple (ka _ _ hg) rfl rfl (PyProof.Rows.ReadsAll.keeps kb r12), fun hm => ?_⟩
    exact absurd (readsAll_lt r12 _ hm) (Nat.not_lt.mpr (Nat.le_of_lt hlt))
  refine list_sort_data (s := { s with heap := h2, toks := tk }) (R := fun (v : Value) (b : Lp) => v = .ref b.1 ∧ b ∈ bs) (enc := fun b : Lp => b.2.2.2) hob ev er (by rw [b3]; exact hal) (by rw [b3]; exact hk) (by omega) (fun b hb => ?_) fun out hol eo => ?_
  · have hm : b.2.2.2 ∈ kvs.map pairD := by rw [← b3]; exact List.mem_map.mpr ⟨b, hb, rfl⟩
    have := hdep _ hm
    have := hr.un
    show X.A.units + 1 + 1 + _ < cLine
    omega
  · -- behind the sort
    show EP X pins σ Q (.ref h'.objs.size) { s with heap := sortedHeap h2 h'.objs.size (as.map Value.ref) out.toArray, toks := tk }
    have kF : ∀ b o, b ≠ h'.objs.size → h2.get? b = some o → (sortedHeap h2 h'.objs.size (as.map Value.ref) out.toArray).get? b = some o := fun b o hb e => (PyProof.Rows.sortedHeap_old hb (Heap.lt_size e)).trans e
    have kS : ∀ b o, s.heap.get? b = some o → (sortedHeap h2 h'.objs.size (as.map Value.ref) out.toArray).get? b = some o := fun b o e => kF b o (ne0 _ _ (hkp b o e)) (kb b o e)
    obtain ⟨eF, heF⟩ := PyProof.Rows.sortedHeap_at (vs := as.map Value.ref) (out := out.toArray) hob
    have I1 : Inv X pins σ H { s with heap := sortedHeap h2 h'.objs.size (as.map Value.ref) out.toArray, toks := tk } := I.kept (t' := tk) kS
    have hn0 : H h'.objs.size = none := I.hok.fresh (Nat.le_of_lt hlt)
    have fr : ∀ b ∈ bs, s.heap.objs.size ≤ b.1 ∧ H b.1 = none := fun b hb => by
      have : b.1 ∈ as := by rw [← b1]; exact List.mem_map.mpr ⟨b, hb, rfl⟩
      have hbl : s.heap.objs.size ≤ b.1 := Nat.le_of_lt (hG.above _ this)
      exact ⟨hbl, I.hok.fresh hbl⟩
    have neL : ∀ b ∈ bs, h'.objs.size ≠ b.1 := fun b hb => by
      obtain ⟨j, hj⟩ := List.mem_iff_getElem?.mp hb
      obtain ⟨_, e, _, _, _, _, _, _, _, _, hg⟩ := each j b hj
      exact (ne0 _ _ hg).symm
    have I2 := takeL (h' := sortedHeap h2 h'.objs.size (as.map Value.ref) out.toArray) (tk := tk) I bs H I1 (by rw [b1]; exact nd) fun b hb => by
      obtain ⟨f1, f2⟩ := fr b hb
      obtain ⟨j, hj⟩ := List.mem_iff_getElem?.mp hb
      obtain ⟨_, e, kx, ky, eb, ek, hdp, rk, ki, rv, hg⟩ := each j b hj
      refine ⟨f1, f2, fun H2 => ⟨(by rw [sizeLine_eq]; show 2 ≤ 16777216; omega), [e.key, e.val], ?_, ⟨_, kF _ _ (ne0 _ _ hg) (ka _ _ hg), rfl, 0, rfl⟩⟩⟩
      rw [eb]
      exact .cons rk (.cons rv .nil)
    have hnL : lay H bs h'.objs.size = none := by rw [lay_ne neL]; exact hn0
    have rvs : ∀ {out : List Value} {cs : List Lp}, EachIs (fun (v : Value) (b : Lp) => v = .ref b.1 ∧ b ∈ bs) out cs → Vals (cs.map fun b => V.ref b.1) out := by
      intro out cs h
      induction h with
      | nil => exact .nil
      | cons h1 _ ih => exact .cons h1.1 ih
    have rv := rvs eo
    have hlen : ((bs.mergeSort (dataLe false fun b : Lp => b.2.2.2)).map fun b => V.ref b.1).length ≤ sizeLine := by
      rw [List.length_map, List.length_mergeSort]; omega
    have I3 : Inv X pins σ (upd (lay H bs) h'.objs.size (.lst ((bs.mergeSort (dataLe false fun b : Lp => b.2.2.2)).map fun b => V.ref b.1))) { s with heap := sortedHeap h2 h'.objs.size (as.map Value.ref) out.toArray, toks := tk } :=
      I2.take (h' := sortedHeap h2 h'.objs.size (as.map Value.ref) out.toArray) (t' := tk) (fun b ob _ e => e) (I.fpOk (Nat.le_of_lt hlt) hnL) ⟨hlen, out, eF, rv, heF⟩
    exact ⟨.ref h'.objs.size, _, I3, rfl, q bs h'.objs.size b2 (by rw [b1]; exact nd) (fun b hb => (fr b hb).2) neL hn0⟩
end
end Hz
/-! Hz34: sorted(d.items()), by trees. -/
namespace Hz
open PySem L2 PySem.W PyProof.Rows
def sSortI : S1 := fun t ρ Q => ∃ kvs, t.peek ρ = some (dicD kvs) ∧ AllAlike (kvs.map pairD) ∧ Sortable (kvs.map pairD) ∧ (∀ d ∈ kvs.map pairD, d.depth ≤ 60) ∧ Q (.lst (((kvs.map pairD).mergeSort (dataLe false fun d => d)).map .dat)) (t.drop ρ)
def wSortI (wd : WE) : WE := w1 sSortI wd
section
variable {K : PySem.W.Frag} {I : Sg} {E : XS} {td : TE} {wd : WE}
theorem R.newPairS {c : Ct} {ρ : Rho} {tm : List T} {σ : L2.St} {vs : List V} {F : Hp} {W : List Addr} {H : Hp} {p : Addr} {x y : V} {d e : PyData} (h : R K I c ρ tm σ vs F W H) (hx : Dp K F x d) (hy : Dp K F y e) (hp : H p = none) :
    ∃ F', Sub F F' ∧ R K I c ρ (.dat (.tuple [d, e]) :: tm) σ (.ref p :: vs) F' W (upd H p (.tup [x, y])) := by
  obtain ⟨F3, s3, r3⟩ := (h.newTupC (ts := [.dat d, .dat e]) (us := [x, y]) (.cons (.dat hx) (.cons (.dat hy) .nil (.refl _)) (.refl _)) hp).freeze (d := .tuple [d, e]) rfl
  exact ⟨F3, s3, r3⟩
theorem R.layAll {c : Ct} {ρ : Rho} {tm : List T} {σ : L2.St} {vs : List V} {W : List Addr} : ∀ (bs : List Lp) {F : Hp} {H : Hp}, R K I c ρ tm σ vs F W H →
    (∀ b ∈ bs, ∃ d e, b.2.2.2 = .tuple [d, e] ∧ Dp K F b.2.1 d ∧ Dp K F b.2.2.1 e) → (bs.map (·.1)).Nodup → (∀ b ∈ bs, H b.1 = none) →
    ∃ F', Sub F F' ∧ R K I c ρ tm σ vs F' W (lay H bs) ∧ ∀ b ∈ bs, Dp K F' (.ref b.1) b.2.2.2
  | [], F, H, r, _, _, _ => ⟨F, fun _ _ z => z, r, fun b hb => nomatch hb⟩
  | b :: bs, F, H, r, hd, hn, hf => by
    obtain ⟨d, e, e1, e2, e3⟩ := hd b (List.mem_cons_self ..)
    obtain ⟨F1, s1, r1⟩ := r.newPairS e2 e3 (hf b (List.mem_cons_self ..))
    rw [List.map_cons, List.nodup_cons] at hn
    obtain ⟨F2, s2, r2, k2⟩ := R.layAll bs r1.drop (fun c hc => by
      obtain ⟨d', e', g1, g2, g3⟩ := hd c (List.mem_cons_of_mem _ hc)
      exact ⟨d', e', g1, dp_sub s1 _ _ g2, dp_sub s1 _ _ g3⟩) hn.2 (fun c hc => by
      rw [upd_ne (fun z => hn.1 (by rw [← z]; exact List.mem_map.mpr ⟨c, hc, rfl⟩))]
      exact hf c (List.mem_cons_of_mem _ hc))
    refine ⟨F2, fun a o z => s2 a o (s1 a o z), r2, fun c hc => ?_⟩
    rcases List.mem_cons.mp hc with rfl | hc
    · rw [e1]
      exact dp_sub s2 _ _ r1.topDat
    · exact k2 c hc
theorem R.untracked {c : Ct} {ρ : Rho} {tm : List T} {σ : L2.St} {vs : List V} {F : Hp} {W : List Addr} {H : Hp} {p : Addr} {o : HO} (h : R K I c ρ tm σ vs F W H) (hp : H p = none) : R K I c ρ tm σ vs F W (upd H p o) := by
  obtain ⟨fA, h0, nd, wf, k⟩ := R.loc (ts := []) (us := []) h rfl
  cases h0
  exact k (us' := []) (ts' := []) (fB := []) ((Step.alloc (o := o) wf hp).less fun b hb => nomatch hb) .nil .nil
theorem ev_sortI (hd : EvW K I E td wd) : EvW K I E (tCB (rSortI K) (tCons (tBM0 K "dict" rItemsK td) tNil)) (wSortI wd) :=
  fun c ρ tm σ vs F W H r Qx Qv hx hw Q k => hd c ρ tm σ vs F W H r Qx _ hx hw _ fun t ρ' v F' W' H' r' ⟨kvs, hp, hal, hk, hdep, q⟩ => by
    obtain ⟨a, xs, rfl, ha, hxs⟩ := r'.peekDic hp
    refine ⟨?_, a, xs, rfl, rfl, ha, fun p hpn => ?_⟩
    · exact .inr (.inr (.inl ⟨rfl, .inl ⟨_, ha⟩⟩))
    · have r1 := r'.untracked (o := L2.DX.itemsO p a) hpn
      have ne : a ≠ p := fun z => by rw [z, hpn] at ha; cases ha
      refine ⟨p, a, xs, kvs, rfl, upd_same, by rw [upd_ne ne]; exact ha, hxs.sub r1.sub, hal, hk, hdep, fun bs l b2 nd hf neL hln => ?_⟩
      have hat : ∀ b ∈ bs, ∃ z, z ∈ xs.zip kvs ∧ b.2 = (kV z.1.1, z.1.2, pairD z.2) := fun b hb => by
        have : b.2 ∈ (xs.zip kvs).map (fun z => (kV z.1.1, z.1.2, pairD z.2)) := by rw [← b2]; exact List.mem_map.mpr ⟨b, hb, rfl⟩
        obtain ⟨z, z1, z2⟩ := List.mem_map.mp this
        exact ⟨z, z1, z2.symm⟩
      obtain ⟨F2, s2, r2, k2⟩ := R.layAll bs r1 (fun b hb => by
        obtain ⟨z, z1, z2⟩ := hat b hb
        obtain ⟨j, hj⟩ := List.mem_iff_getElem?.mp z1
        obtain ⟨_, _, y3, y4⟩ := pd_zip hxs hj
        rw [z2]
        exact ⟨keyD z.2.1, z.2.2, rfl, by rw [y3]; exact dp_key _, y4⟩) nd hf
      have hlL : lay (upd H' p (L2.DX.itemsO p a)) bs l = none := by rw [lay_ne neL]; exact hln
      have hrep := repA_pairs (K := K) (F := F2) (W := W') (H := lay (upd H' p (L2.DX.itemsO p a)) bs) ((bs.mergeSort (dataLe false fun b : Lp => b.2.2.2)).map fun b => (V.ref b.1, b.2.2.2)) (fun b hb => by
        obtain ⟨b', hb', rfl⟩ := List.mem_map.mp hb
        exact k2 b' (List.mem_mergeSort.mp hb'))
      have hm : (bs.mergeSort (dataLe false fun b : Lp => b.2.2.2)).map (fun b => b.2.2.2) = (kvs.map pairD).mergeSort (dataLe false fun d => d) := by
        have e1 := List.map_mergeSort (r := dataLe false fun b : Lp => b.2.2.2) (s := dataLe false fun d => d) (f := fun b : Lp => b.2.2.2) (l := bs) (fun _ _ _ _ => rfl)
        have e2 : bs.map (fun b => b.2.2.2) = kvs.map pairD := by
          have e3 : bs.map (fun b => b.2.2.2) = (bs.map (·.2)).map (fun b => b.2.2) := (List.map_map (f := fun b : Lp => b.2) (g := fun b : V × V × PyData => b.2.2) (l := bs)).symm
          rw [e3, b2, List.map_map]
          exact zip_snd hxs
        rw [e1, e2]
      rw [List.map_map (f := fun b : Lp => (V.ref b.1, b.2.2.2)) (g := fun b : V × PyData => b.1), List.map_map (f := fun b : Lp => (V.ref b.1, b.2.2.2)) (g := fun b : V × PyData => b.2)] at hrep
      have f1 : (bs.mergeSort (dataLe false fun b : Lp => b.2.2.2)).map ((fun b : V × PyData => b.1) ∘ fun b : Lp => (V.ref b.1, b.2.2.2)) = (bs.mergeSort (dataLe false fun b : Lp => b.2.2.2)).map (fun b => V.ref b.1) := rfl
      have f2 : (bs.mergeSort (dataLe false fun b : Lp => b.2.2.2)).map ((fun b : V × PyData => b.2) ∘ fun b : Lp => (V.ref b.1, b.2.2.2)) = (kvs.map pairD).mergeSort (dataLe false fun d => d) := hm
      rw [f1, f2] at hrep
      exact k _ _ _ _ _ _ (r2.dropT.newLstC hrep hlL) q
end
end Hz
/-! Hz35: shifts and bits; tuples of the module. -/
namespace Hz
open PySem L2 PySem.W PyProof.Rows
section
variable {K : PySem.W.Frag} {I : Sg} {E : XS} {ta tb : TE} {wa wb : WE}
abbrev iShl (i j : Int) : PyData := .int (i * 2 ^ j.toNat)
abbrev iShr (i j : Int) : PyData := .int (i / 2 ^ j.toNat)
abbrev iAnd (i j : Int) : PyData := .int (Builtin.bitAnd i j)
abbrev iOr (i j : Int) : PyData := .int (Builtin.bitOr i j)
abbrev iXor (i j : Int) : PyData := .int (Builtin.bitXor i j)
def CShr (_ j : Int) : Prop := 0 ≤ j
theorem ev_shl (ha : EvW K I E ta wa) (hb : EvW K I E tb wb) : EvW K I E (tOp (rI CPow fun i j => .int (i * 2 ^ j.toNat)) ta tb) (wII CPow iShl wa wb) := ev_II (fun _ _ _ => .int _) ha hb
theorem ev_shr (ha : EvW K I E ta wa) (hb : EvW K I E tb wb) : EvW K I E (tOp (rI (fun _ j => 0 ≤ j) fun i j => .int (i / 2 ^ j.toNat)) ta tb) (wII CShr iShr wa wb) := ev_II (C := fun _ j => 0 ≤ j) (fun _ _ _ => .int _) ha hb
theorem ev_and2 (ha : EvW K I E ta wa) (hb : EvW K I E tb wb) : EvW K I E (tOp (rI0 fun i j => .int (Builtin.bitAnd i j)) ta tb) (wII0 iAnd wa wb) := ev_II0 (fun _ _ _ => .int _) ha hb
theorem ev_or2 (ha : EvW K I E ta wa) (hb : EvW K I E tb wb) : EvW K I E (tOp (rI0 fun i j => .int (Builtin.bitOr i j)) ta tb) (wII0 iOr wa wb) := ev_II0 (fun _ _ _ => .int _) ha hb
theorem ev_xor2 (ha : EvW K I E ta wa) (hb : EvW K I E tb wb) : EvW K I E (tOp (rI0 fun i j => .int (Builtin.bitXor i j)) ta tb) (wII0 iXor wa wb) := ev_II0 (fun _ _ _ => .int _) ha hb
end
/-- a tuple of ints that the module's fragment holds -/
theorem dp_intsK {K : PySem.W.Frag} {H : Hp} {a : Addr} {o : Obj} {its : Array Value} {n : Nat} {is : List Int} (h : K.lookup a = some o) (hc : o.cls = .type "tuple") (hd : o.data = .seq its n) (hz : its.size ≤ sizeLine) (hv : Vals (is.map V.int) its.toList) : Dp K H (.ref a) (.tuple (is.map .int)) := by
  refine .tup (.inr ⟨o, its, n, h, hc, hd, hz, hv⟩) ?_
  have : ∀ is : List Int, DpAll K H (is.map V.int) (is.map .int) := by
    intro is
    induction is with
    | nil => exact .nil
    | cons i is ih => exact .cons (.int i) ih
  exact this is
theorem vals_ints : ∀ (zs : List (Int × Tok)), Vals (zs.map fun z => V.int z.1) (zs.map fun z => Value.int z.1 z.2)
  | [] => .nil
  | z :: zs => .cons ⟨z.2, rfl⟩ (vals_ints zs)
/-- the constant's value, known everywhere -/
def KConst (K : PySem.W.Frag) (v : V) (d : PyData) : Prop := ∀ H : Hp, Dp K H v d
end Hz
namespace Hz
open PySem PySem.W PyProof.Rows
/-- pairs of ints as data -/
abbrev dP (x : Int × Int) : PyData := .tuple [.int x.1, .int x.2]
def leP (x y : Int × Int) : Bool := decide (x.1 < y.1 ∨ (x.1 = y.1 ∧ x.2 ≤ y.2))
def ltP (x y : Int × Int) : Bool := decide (x.1 < y.1 ∨ (x.1 = y.1 ∧ x.2 < y.2))
theorem itemLt_int (a b : Int) : itemLt (.inl a) (.inl b) = decide (a < b) := rfl
theorem dataLt_pair (x y : Int × Int) : dataLt (dP x) (dP y) = ltP x y := by
  show PyProof.Rows.lexLt itemOrd [.inl 1, .inl x.1, .inl 1, .inl x.2, .inl 0] [.inl 1, .inl y.1, .inl 1, .inl y.2, .inl 0] = _
  simp only [PyProof.Rows.lexLt, itemLt_int]
  unfold ltP
  simp
  by_cases h1 : x.1 < y.1
  · simp [h1]
  · by_cases h2 : y.1 < x.1
    · have : ¬ x.1 = y.1 := by omega
      simp [h1, h2, this]
    · have : x.1 = y.1 := by omega
      simp [this]
theorem dataLe_eq (x y : PyData) : dataLe false (fun d => d) x y = !dataLt y x := rfl
theorem dataLe_pair (x y : Int × Int) : dataLe false (fun d => d) (dP x) (dP y) = leP x y := by
  rw [dataLe_eq, dataLt_pair]
  unfold ltP leP
  by_cases h : x.1 < y.1 ∨ (x.1 = y.1 ∧ x.2 ≤ y.2)
  · rw [decide_eq_true h]
    have : ¬ (y.1 < x.1 ∨ (y.1 = x.1 ∧ y.2 < x.2)) := by omega
    rw [decide_eq_false this]
    rfl
  · rw [decide_eq_false h]
    have : (y.1 < x.1 ∨ (y.1 = x.1 ∧ y.2 < x.2)) := by omega
    rw [decide_eq_true this]
    rfl
theorem dataLe_int (x y : Int) : dataLe false (fun d => d) (.int x) (.int y) = decide (x ≤ y) := by
  rw [dataLe_eq, dataLt_int]
  by_cases h : x ≤ y
  · rw [decide_eq_true h, decide_eq_false (by omega)]
    rfl
  · rw [decide_eq_false h, decide_eq_true (by omega)]
    rfl
theorem sort_pairs (l : List (Int × Int)) : (l.map dP).mergeSort (dataLe false fun d => d) = (l.mergeSort leP).map dP :=
  (List.map_mergeSort (r := leP) (s := dataLe false fun d => d) (f := dP) (l := l) fun a _ b _ => (dataLe_pair a b).symm).symm
abbrev leI (x y : Int) : Bool := decide (x ≤ y)
theorem sort_ints (l : List Int) : (l.map PyData.int).mergeSort (dataLe false fun d => d) = (l.mergeSort leI).map PyData.int :=
  (List.map_mergeSort (r := leI) (s := dataLe false fun d => d) (f := PyData.int) (l := l) fun a _ b _ => (dataLe_int a b).symm).symm
theorem leP_trans (a b c : Int × Int) (h1 : leP a b = true) (h2 : leP b c = true) : leP a c = true := by
  unfold leP at *
  have := of_decide_eq_true h1
  have := of_decide_eq_true h2
  exact decide_eq_true (by omega)
theorem leP_total (a b : Int × Int) : (leP a b || leP b a) = true := by
  unfold leP
  rw [Bool.or_eq_true]
  by_cases h : a.1 < b.1 ∨ (a.1 = b.1 ∧ a.2 ≤ b.2)
  · exact .inl (decide_eq_true h)
  · exact .inr (decide_eq_true (by omega))
theorem leP_anti {a b : Int × Int} (h1 : leP a b = true) (h2 : leP b a = true) : a = b := by
  unfold leP at *
  have := of_decide_eq_true h1
  have := of_decide_eq_true h2
  exact Prod.ext (by omega) (by omega)
/-- what is sorted, is what stands so -/
theorem sortP_eq {xs ys : List (Int × Int)} (p : xs.Perm ys) (h : ys.Pairwise fun a b => leP a b = true) : xs.mergeSort leP = ys :=
  ((List.mergeSort_perm xs leP).trans p).eq_of_pairwise (fun a b _ _ h1 h2 => leP_anti h1 h2) (List.pairwise_mergeSort leP_trans leP_total xs) h
theorem sortP_asc {xs ys : List (Int × Int)} (p : xs.Perm ys) (h : ys.Pairwise fun a b => a.1 < b.1) : xs.mergeSort leP = ys :=
  sortP_eq p (h.imp fun {a b} hab => by unfold leP; exact decide_eq_true (.inl hab))
theorem leI_trans (a b c : Int) (h1 : leI a b = true) (h2 : leI b c = true) : leI a c = true := decide_eq_true (Int.le_trans (of_decide_eq_true h1) (of_decide_eq_true h2))
theorem leI_total (a b : Int) : (leI a b || leI b a) = true := by
  rw [Bool.or_eq_true]
  exact (Int.le_total a b).imp (fun h => decide_eq_true h) (fun h => decide_eq_true h)
theorem sortI_eq {xs ys : List Int} (p : xs.Perm ys) (h : ys.Pairwise fun a b => a ≤ b) : xs.mergeSort leI = ys :=
  ((List.mergeSort_perm xs leI).trans p).eq_of_pairwise (fun a b _ _ h1 h2 => Int.le_antisymm (of_decide_eq_true h1) (of_decide_eq_true h2))
    (List.pairwise_mergeSort leI_trans leI_total xs) (h.imp fun {a b} hab => decide_eq_true hab)
theorem alike_pair (x y : Int × Int) : alike (dP x) (dP y) = true := by simp [alike, alikeAll]
theorem allAlike_pairs (l : List (Int × Int)) : AllAlike (l.map dP) := fun d hd d' hd' => by
  obtain ⟨x, _, rfl⟩ := List.mem_map.mp hd
  obtain ⟨y, _, rfl⟩ := List.mem_map.mp hd'
  exact alike_pair x y
theorem allAlike_ints (l : List Int) : AllAlike (l.map PyData.int) := fun d hd d' hd' => by
  obtain ⟨x, _, rfl⟩ := List.mem_map.mp hd
  obtain ⟨y, _, rfl⟩ := List.mem_map.mp hd'
  simp [alike]
theorem sortable_pairs (l : List (Int × Int)) : Sortable (l.map dP) := .inl fun d hd => by
  obtain ⟨x, _, rfl⟩ := List.mem_map.mp hd
  exact ⟨_, _, rfl⟩
theorem sortable_ints (l : List Int) : Sortable (l.map PyData.int) := .inr fun d hd => by
  obtain ⟨x, _, rfl⟩ := List.mem_map.mp hd
  exact ⟨by simp, by simp⟩
theorem depth_pairs (l : List (Int × Int)) : ∀ d ∈ l.map dP, d.depth ≤ 60 := fun d hd => by
  obtain ⟨x, _, rfl⟩ := List.mem_map.mp hd
  simp [PyData.depth, PyData.depthAll]
theorem depth_ints (l : List Int) : ∀ d ∈ l.map PyData.int, d.depth ≤ 60 := fun d hd => by
  obtain ⟨x, _, rfl⟩ := List.mem_map.mp hd
  simp [PyData.depth]
theorem alikeAll_pairs (l : List (Int × Int)) : AlikeAll (l.map dP) := ⟨allAlike_pairs l, fun d hd => by
  obtain ⟨x, _, rfl⟩ := List.mem_map.mp hd
  simp⟩
/-- the least of pairs -/
structure IsMin (m : Int × Int) (l : List (Int × Int)) : Prop where
  mem : m ∈ l
  le : ∀ y ∈ l, leP m y = true
theorem IsMin.uniq {m m' : Int × Int} {l : List (Int × Int)} (h : IsMin m l) (h' : IsMin m' l) : m = m' := leP_anti (h.le _ h'.mem) (h'.le _ h.mem)
theorem IsMin.perm {m : Int × Int} {l l' : List (Int × Int)} (h : IsMin m l) (p : l.Perm l') : IsMin m l' := ⟨p.mem_iff.mp h.mem, fun y hy => h.le y (p.mem_iff.mpr hy)⟩
theorem sort_head {l : List (Int × Int)} {m : Int × Int} {r : List (Int × Int)} (h : l.mergeSort leP = m :: r) : IsMin m l := by
  have pw := List.pairwise_mergeSort leP_trans leP_total l
  have pm := List.mergeSort_perm l leP
  rw [h] at pw pm
  refine IsMin.perm ⟨List.mem_cons_self, fun y hy => ?_⟩ pm
  rcases List.mem_cons.mp hy with rfl | hy
  · unfold leP
    exact decide_eq_true (.inr ⟨rfl, Int.le_refl _⟩)
  · exact (List.pairwise_cons.mp pw).1 y hy
theorem minD_pairs : ∀ (l : List (Int × Int)) (x : Int × Int), ∃ m, minD (dP x) (l.map dP) = dP m ∧ IsMin m (x :: l)
  | [], x => ⟨x, rfl, List.mem_singleton.mpr rfl, fun y hy => by
    rw [List.mem_singleton.mp hy]
    unfold leP
    exact decide_eq_true (.inr ⟨rfl, Int.le_refl _⟩)⟩
  | z :: l, x => by
    have e : minD (dP x) ((z :: l).map dP) = minD (dP (if ltP z x then z else x)) (l.map dP) := by
      unfold minD
      rw [List.map_cons, List.foldl_cons]
      show (l.map dP).foldl _ (if dataLt (dP z) (dP x) then dP z else dP x) = _
      rw [dataLt_pair]
      congr 1
      split <;> rfl
    obtain ⟨m, h1, h2⟩ := minD_pairs l (if ltP z x then z else x)
    refine ⟨m, e.trans h1, ?_⟩
    have key : leP m x = true ∧ leP m z = true ∧ (m = x ∨ m = z ∨ m ∈ l) := by
      have hm := h2.le _ List.mem_cons_self
      have hmm := List.mem_cons.mp h2.mem
      by_cases c : ltP z x = true
      · rw [if_pos c] at hm hmm
        refine ⟨?_, hm, hmm.elim (fun h => .inr (.inl h)) fun h => .inr (.inr h)⟩
        unfold ltP at c
        unfold leP at hm ⊢
        have := of_decide_eq_true c
        have := of_decide_eq_true hm
        exact decide_eq_true (by omega)
      · rw [if_neg c] at hm hmm
        refine ⟨hm, ?_, hmm.elim (fun h => .inl h) fun h => .inr (.inr h)⟩
        unfold ltP at c
        unfold leP at hm ⊢
        have := of_decide_eq_false (Bool.eq_false_iff.mpr c)
        have := of_decide_eq_true hm
        exact decide_eq_true (by omega)
    refine ⟨?_, fun y hy => ?_⟩
    · rcases key.2.2 with h | h | h
      · rw [h]; exact List.mem_cons_self
      · rw [h]; exact List.mem_cons_of_mem _ List.mem_cons_self
      · exact List.mem_cons_of_mem _ (List.mem_cons_of_mem _ h)
    · rcases List.mem_cons.mp hy with rfl | hy
      · exact key.1
      · rcases List.mem_cons.mp hy with rfl | hy
        · exact key.2.1
        · exact h2.le _ (List.mem_cons_of_mem _ hy)
end Hz
/-! Hz37: branches, lists walked, what can be shown: helps for reading. -/
namespace Hz
open PySem L2
theorem ifY {b : Bool} {A B : Prop} (h : b = true) (x : A) : if b = true then A else B := by rw [if_pos h]; exact x
theorem ifN {b : Bool} {A B : Prop} (h : b = false) (x : B) : if b = true then A else B := by rw [if_neg (by rw [h]; exact Bool.false_ne_true)]; exact x
theorem ifS {b : Bool} {A B : Prop} (h1 : b = true → A) (h2 : b = false → B) : if b = true then A else B := by
  cases b
  · exact ifN rfl (h2 rfl)
  · exact ifY rfl (h1 rfl)
theorem ixN_nat {n i : Nat} (h : i < n) : ixN n (i : Int) = some i := by
  rw [ixN_of (by omega) (by omega), Int.toNat_natCast]
theorem ixN_neg {n : Nat} {i : Int} (h0 : i < 0) (h : -(n : Int) ≤ i) : ixN n i = some (i + n).toNat := by
  unfold ixN
  have : ¬ (0 ≤ i) := by omega
  simp [this, h0, h]
/-- a list's item by its place -/
theorem overL {α : Type} {l : List α} {g : α → T} {P : Nat → T → Prop} (h : ∀ i x, l[i]? = some x → P i (g x)) : ∀ i, i < (l.map g).length → P i ((l.map g).getD i tN) := fun i hi => by
  rw [List.length_map] at hi
  have e : l[i]? = some l[i] := List.getElem?_eq_getElem hi
  have : (l.map g).getD i tN = g l[i] := by
    rw [List.getD_eq_getElem?_getD, List.getElem?_map, e]
    rfl
  rw [this]
  exact h i _ e
theorem getD_map {α β : Type} {l : List α} {g : α → β} {i : Nat} {x : α} {d : β} (h : l[i]? = some x) : (l.map g).getD i d = g x := by
  rw [List.getD_eq_getElem?_getD, List.getElem?_map, h]
  rfl
theorem getD_map2 {α β γ : Type} {l : List α} {g : α → β} {f : β → γ} {i : Nat} {x : α} {d : γ} (h : l[i]? = some x) : ((l.map g).map f).getD i d = f (g x) := by
  rw [List.map_map]
  exact getD_map h
theorem at_lt {α : Type} {l : List α} {i : Nat} (h : i < l.length) : ∃ x, l[i]? = some x := ⟨_, List.getElem?_eq_getElem h⟩
theorem at_map {α β : Type} {l : List α} {g : α → β} {i : Nat} {x : α} (h : l[i]? = some x) : (l.map g)[i]? = some (g x) := by
  rw [List.getElem?_map, h]
  rfl
theorem at_int {α : Type} {l : List α} {i : Int} (h0 : 0 ≤ i) (h : i < l.length) : ∃ x, l[i.toNat]? = some x := at_lt (by omega)
/-- what a comprehension has made of the first items -/
def sel {α β : Type} (f : α → Option β) (l : List α) (i : Nat) : List β := (l.take i).filterMap f
theorem sel_zero {α β : Type} {f : α → Option β} {l : List α} : sel f l 0 = [] := rfl
theorem sel_yes {α β : Type} {f : α → Option β} {l : List α} {i : Nat} {x : α} {y : β} (h : l[i]? = some x) (hf : f x = some y) : sel f l (i + 1) = sel f l i ++ [y] := by
  unfold sel
  rw [List.take_succ, h, List.filterMap_append]
  simp [hf]
theorem sel_no {α β : Type} {f : α → Option β} {l : List α} {i : Nat} {x : α} (h : l[i]? = some x) (hf : f x = none) : sel f l (i + 1) = sel f l i := by
  unfold sel
  rw [List.take_succ, h, List.filterMap_append]
  simp [hf]
theorem sel_all {α β : Type} {f : α → Option β} {l : List α} : sel f l l.length = l.filterMap f := by
  unfold sel
  rw [List.take_length]
theorem sel_len {α β : Type} {f : α → Option β} {l : List α} {i : Nat} : (sel f l i).length ≤ l.length := by
  unfold sel
  refine Nat.le_trans (List.length_filterMap_le ..) ?_
  rw [List.length_take]
  omega
theorem filterMap_if {α β : Type} {p : α → Bool} {g : α → β} : ∀ {l : List α}, l.filterMap (fun x => if p x = true then some (g x) else none) = (l.filter p).map g
  | [] => rfl
  | x :: l => by
    rw [List.filterMap_cons, List.filter_cons]
    by_cases h : p x = true
    · simp only [h, if_true, List.map_cons, filterMap_if]
    · simp only [h, if_false, Bool.false_eq_true, filterMap_if]
/-! ### what can be shown -/
structure Bd (c k : Nat) (d : PyData) : Prop where
  sh : showB d = true
  co : cost d ≤ c
  de : d.depth ≤ k
structure BdL (c k : Nat) (ds : List PyData) : Prop where
  sh : showBs ds = true
  co : costs ds ≤ c
  de : PyData.depthAll ds ≤ k
theorem bd_int {i : Int} (h : i.natAbs < 2 ^ 40) : Bd 44 0 (.int i) := ⟨(small_int h).1, (small_int h).2, Nat.le_refl _⟩
theorem bd_none : Bd 5 0 .none := ⟨rfl, Nat.le_refl _, Nat.le_refl _⟩
theorem bd_bool {b : Bool} : Bd 5 0 (.bool b) := ⟨rfl, Nat.le_refl _, Nat.le_refl _⟩
theorem bd_str {x : Str} {n : Nat} (h1 : (x.cps.toList.all fun c => decide (c < 16 ^ 8)) = true) (h2 : x.length ≤ n) : Bd (10 * n + 2) 0 (.str x) := ⟨h1, by show 10 * x.length + 2 ≤ _; omega, Nat.le_refl _⟩
theorem bd_tup {c k : Nat} {ds : List PyData} (h : BdL c k ds) : Bd (c + 3) (k + 1) (.tuple ds) := ⟨h.sh, Nat.add_le_add_right h.co 3, Nat.succ_le_succ h.de⟩
theorem bd_list {c k : Nat} {ds : List PyData} (h : BdL c k ds) : Bd (c + 3) (k + 1) (.list ds) := ⟨h.sh, Nat.add_le_add_right h.co 3, Nat.succ_le_succ h.de⟩
theorem bdl_nil : BdL 0 0 [] := ⟨rfl, Nat.le_refl _, Nat.le_refl _⟩
theorem bdl_cons {c k c2 k2 : Nat} {d : PyData} {ds : List PyData} (h : Bd c k d) (g : BdL c2 k2 ds) : BdL (c + 2 + c2) (max k k2) (d :: ds) :=
  ⟨by show (showB d && showBs ds) = true; rw [h.sh, g.sh]; rfl, by show cost d + 2 + costs ds ≤ _; have := h.co; have := g.co; omega, by
    show max d.depth (PyData.depthAll ds) ≤ _
    have := h.de
    have := g.de
    omega⟩
theorem bdl_map {α : Type} {f : α → PyData} {c k n : Nat} {xs : List α} (h : ∀ x ∈ xs, Bd c k (f x)) (hn : xs.length ≤ n) : BdL ((c + 2) * n) k (xs.map f) := by
  obtain ⟨h1, h2⟩ := small_all (f := f) (k := c) (xs := xs) fun x hx => ⟨(h x hx).sh, (h x hx).co⟩
  refine ⟨h1, Nat.le_trans h2 (Nat.mul_le_mul_left _ hn), ?_⟩
  clear h1 h2 hn
  induction xs with
  | nil => exact Nat.zero_le _
  | cons x xs ih => exact Nat.max_le.mpr ⟨(h x List.mem_cons_self).de, ih fun y hy => h y (List.mem_cons_of_mem _ hy)⟩
theorem rok_bd {c k : Nat} {d : PyData} (h : Bd c k d) (hc : c ≤ 16000000) (hk : k ≤ 60) : ReprOk d := reprOk h.sh (Nat.le_trans h.co hc) (Nat.le_trans h.de hk)
/-! ### dicts from ints to ints -/
def dI (l : List (Int × Int)) : DKv := l.map fun x => (Sum.inl x.1, .int x.2)
theorem dI_val {l : List (Int × Int)} {i : Int} : valA (dI l) (Sum.inl i) = ((l.find? fun x => decide (x.1 = i)).map fun x => PyData.int x.2) := by
  unfold valA dI
  rw [List.find?_map, Option.map_map]
  have : ((fun kv : Key × PyData => decide (kv.1 = (Sum.inl i : Key))) ∘ fun x : Int × Int => ((Sum.inl x.1 : Key), PyData.int x.2)) = fun x => decide (x.1 = i) := by
    funext x
    show decide ((Sum.inl x.1 : Key) = Sum.inl i) = _
    by_cases h : x.1 = i
    · rw [h]
      simp
    · rw [decide_eq_false h, decide_eq_false fun z => h (Sum.inl.inj z)]
  rw [this]
  rfl
theorem dI_drop {l : List (Int × Int)} {i : Int} : dropA (dI l) (Sum.inl i) = dI (l.filter fun x => decide (x.1 ≠ i)) := by
  unfold dropA dI
  rw [List.filter_map]
  congr 1
  refine List.filter_congr fun x _ => ?_
  by_cases h : x.1 = i
  · simp [h]
  · have : (Sum.inl x.1 : Key) ≠ Sum.inl i := fun z => h (Sum.inl.inj z)
    simp [h]
theorem dI_new {l : List (Int × Int)} {i j : Int} (h : ∀ x ∈ l, x.1 ≠ i) : putA (dI l) (Sum.inl i) (.int j) = dI (l ++ [(i, j)]) := by
  unfold putA
  have : ((dI l).any fun kv => decide (kv.1 = (Sum.inl i : Key))) = false := List.any_eq_false.mpr fun kv hkv => by
    obtain ⟨x, hx, rfl⟩ := List.mem_map.mp hkv
    intro z
    exact h x hx (Sum.inl.inj (of_decide_eq_true z))
  rw [this]
  unfold dI
  simp
theorem dI_has {l : List (Int × Int)} {i j : Int} (h : (i, j) ∈ l) (hu : ∀ x ∈ l, ∀ y ∈ l, x.1 = y.1 → x = y) : valA (dI l) (Sum.inl i) = some (.int j) := by
  rw [dI_val]
  cases e : l.find? fun x => decide (x.1 = i) with
  | none =>
    have := List.find?_eq_none.mp e _ h
    simp at this
  | some x =>
    have hx : x.1 = i := by simpa using List.find?_some e
    have := hu x (List.mem_of_find?_eq_some e) _ h hx
    rw [this]
    rfl
theorem dI_hasnt {l : List (Int × Int)} {i : Int} (h : ∀ x ∈ l, x.1 ≠ i) : valA (dI l) (Sum.inl i) = none := by
  rw [dI_val, List.find?_eq_none.mpr]
  · rfl
  · intro x hx z
    exact h x hx (of_decide_eq_true z)
end Hz
namespace Hz
open PySem L2
theorem dats_all {α : Type} {f : α → PyData} : ∀ {xs : List α}, (xs.map fun x => T.dat (f x)).all isDat = true
  | [] => rfl
  | x :: xs => by
    show (isDat (T.dat (f x)) && (xs.map fun x => T.dat (f x)).all isDat) = true
    rw [dats_all]
    rfl
theorem dats_cons {d : PyData} {xs : List T} (h : xs.all isDat = true) : (T.dat d :: xs).all isDat = true := by
  show (isDat (T.dat d) && xs.all isDat) = true
  rw [h]
  rfl
theorem dats_app {xs ys : List T} (h : xs.all isDat = true) (g : ys.all isDat = true) : (xs ++ ys).all isDat = true := by rw [List.all_append, h, g]; rfl
theorem depth_pairsA (l : List (Int × Int)) : PyData.depthAll (l.map dP) ≤ 60 := Nat.le_trans (depth_map (f := dP) (k := 1) (fun _ => Nat.le_refl _) l) (by decide)
theorem ps_lockSet {X : Cx} {st : Stmt} {te : TE} {i : Nat} (h : PS X st (tAsg te (gName i))) : PS X st (tAsg (tLockE te) (gName i)) := ⟨fun pins s σ H D I hw => (ps_lock h).run pins s σ H D I hw⟩
end Hz
namespace Hz
open PySem L2
/-- whether a built-in type is, or is below, another one -/
class KitT (a b : String) (r : outParam Bool) : Prop where
  h : kitB a b = some r
theorem kit_tc {K : PySem.W.Frag} {a b : String} {r : Bool} [k : KitT a b r] : PySem.W.kitOne K (.type a) (.type b) = some r := kit_ty k.h
instance : KitT "int" "int" true := ⟨by decide +kernel⟩
instance : KitT "int" "bool" false := ⟨by decide +kernel⟩
instance : KitT "int" "str" false := ⟨by decide +kernel⟩
instance : KitT "int" "list" false := ⟨by decide +kernel⟩
instance : KitT "int" "tuple" false := ⟨by decide +kernel⟩
instance : KitT "int" "dict" false := ⟨by decide +kernel⟩
instance : KitT "bool" "int" true := ⟨by decide +kernel⟩
instance : KitT "bool" "bool" true := ⟨by decide +kernel⟩
instance : KitT "bool" "str" false := ⟨by decide +kernel⟩
instance : KitT "bool" "list" false := ⟨by decide +kernel⟩
instance : KitT "bool" "tuple" false := ⟨by decide +kernel⟩
instance : KitT "bool" "dict" false := ⟨by decide +kernel⟩
instance : KitT "str" "int" false := ⟨by decide +kernel⟩
instance : KitT "str" "bool" false := ⟨by decide +kernel⟩
instance : KitT "str" "str" true := ⟨by decide +kernel⟩
instance : KitT "str" "list" false := ⟨by decide +kernel⟩
instance : KitT "str" "tuple" false := ⟨by decide +kernel⟩
instance : KitT "str" "dict" false := ⟨by decide +kernel⟩
instance : KitT "list" "int" false := ⟨by decide +kernel⟩
instance : KitT "list" "bool" false := ⟨by decide +kernel⟩
instance : KitT "list" "str" false := ⟨by decide +kernel⟩
instance : KitT "list" "list" true := ⟨by decide +kernel⟩
instance : KitT "list" "tuple" false := ⟨by decide +kernel⟩
instance : KitT "list" "dict" false := ⟨by decide +kernel⟩
instance : KitT "tuple" "int" false := ⟨by decide +kernel⟩
instance : KitT "tuple" "bool" false := ⟨by decide +kernel⟩
instance : KitT "tuple" "str" false := ⟨by decide +kernel⟩
instance : KitT "tuple" "list" false := ⟨by decide +kernel⟩
instance : KitT "tuple" "tuple" true := ⟨by decide +kernel⟩
instance : KitT "tuple" "dict" false := ⟨by decide +kernel⟩
instance : KitT "dict" "int" false := ⟨by decide +kernel⟩
instance : KitT "dict" "bool" false := ⟨by decide +kernel⟩
instance : KitT "dict" "str" false := ⟨by decide +kernel⟩
instance : KitT "dict" "list" false := ⟨by decide +kernel⟩
instance : KitT "dict" "tuple" false := ⟨by decide +kernel⟩
instance : KitT "dict" "dict" true := ⟨by decide +kernel⟩
instance : KitT "NoneType" "int" false := ⟨by decide +kernel⟩
instance : KitT "NoneType" "bool" false := ⟨by decide +kernel⟩
instance : KitT "NoneType" "str" false := ⟨by decide +kernel⟩
instance : KitT "NoneType" "list" false := ⟨by decide +kernel⟩
instance : KitT "NoneType" "tuple" false := ⟨by decide +kernel⟩
instance : KitT "NoneType" "dict" false := ⟨by decide +kernel⟩
end Hz
namespace Hz
open PySem L2
theorem dI_pairs {l : List (Int × Int)} : (dI l).map pairD = l.map dP := by
  unfold dI
  rw [List.map_map]
  rfl
theorem dI_len {l : List (Int × Int)} : (dI l).length = l.length := by unfold dI; rw [List.length_map]
end Hz
namespace Hz
open PySem L2
/-- data that can be compared with any other -/
class PlI (k : Nat) (d : PyData) : Prop where
  pl : Pl k d
class PlIA (k : Nat) (ds : List PyData) : Prop where
  pl : PlA k ds
instance {k : Nat} {i : Int} : PlI k (.int i) := ⟨pl_int⟩
instance {k : Nat} {b : Bool} : PlI k (.bool b) := ⟨pl_bool⟩
instance {k : Nat} : PlI k .none := ⟨pl_none⟩
instance {k : Nat} {ds : List PyData} [h : PlIA k ds] : PlI (k + 1) (.list ds) := ⟨pl_list h.pl⟩
instance {k : Nat} {ds : List PyData} [h : PlIA k ds] : PlI (k + 1) (.tuple ds) := ⟨pl_tuple h.pl⟩
instance {k : Nat} : PlIA k [] := ⟨plA_nil⟩
instance {k : Nat} {d : PyData} {ds : List PyData} [h : PlI k d] [g : PlIA k ds] : PlIA k (d :: ds) := ⟨plA_cons h.pl g.pl⟩
instance {α : Type} {f : α → PyData} {k : Nat} {xs : List α} [h : ∀ x, PlI k (f x)] : PlIA k (xs.map f) := ⟨plA_map (fun x => (h x).pl) xs⟩
theorem shaped_pi {d : PyData} [h : PlI 64 d] : SeqAt.shaped d = true := shaped_pl h.pl
example {l : List (Int × Int)} {i : Int} : SeqAt.shaped (.list [.tuple (l.map dP), .int i, .none, .list []]) = true := shaped_pi
end Hz
namespace Hz
open PySem L2
theorem pys_dats (ds : List PyData) : T.pys (ds.map T.dat) = some ds := by
  induction ds with
  | nil => rfl
  | cons d ds ih =>
    show (match (T.dat d).py, T.pys (ds.map T.dat) with | some d, some ds => some (d :: ds) | _, _ => none) = _
    rw [ih]
    rfl
end Hz
namespace Hz
open PySem L2
theorem eqv_pair (x y : Int × Int) : PyData.eqv (dP x) (dP y) = decide (x = y) := by
  show ((x.1 == y.1) && ((x.2 == y.2) && true)) = _
  rw [Bool.and_true]
  by_cases h : x = y
  · rw [decide_eq_true h, h]
    simp
  · rw [decide_eq_false h]
    cases h1 : x.1 == y.1 with
    | false => rfl
    | true =>
      cases h2 : x.2 == y.2 with
      | false => rfl
      | true => exact (h (Prod.ext (eq_of_beq h1) (eq_of_beq h2))).elim
end Hz
namespace Hz
open PySem L2
theorem eqvA_nn : PyData.eqvAll [] [] = true := rfl
theorem eqvA_cn {d : PyData} {ds : List PyData} : PyData.eqvAll (d :: ds) [] = false := rfl
theorem eqvA_nc {d : PyData} {ds : List PyData} : PyData.eqvAll [] (d :: ds) = false := rfl
theorem eqvA_cc {d e : PyData} {ds es : List PyData} : PyData.eqvAll (d :: ds) (e :: es) = (PyData.eqv d e && PyData.eqvAll ds es) := rfl
theorem eqv_ni {i : Int} : PyData.eqv .none (.int i) = false := rfl
theorem eqv_in {i : Int} : PyData.eqv (.int i) .none = false := rfl
end Hz
namespace Hz
open PySem L2
theorem isN_n : (T.dat .none).isNon = true := rfl
theorem isN_i {i : Int} : (T.dat (.int i)).isNon = false := rfl
theorem isN_b {i : Bool} : (T.dat (.bool i)).isNon = false := rfl
theorem isN_s {i : Str} : (T.dat (.str i)).isNon = false := rfl
theorem isN_t {i : List PyData} : (T.dat (.tuple i)).isNon = false := rfl
theorem isN_l {i : List PyData} : (T.dat (.list i)).isNon = false := rfl
theorem isN_lst {i : List T} : (T.lst i).isNon = false := rfl
theorem isN_tup {i : List T} : (T.tup i).isNon = false := rfl
theorem isN_dic {ks : List Key} {i : List T} : (T.dic ks i).isNon = false := rfl
theorem isN_ins {C : Addr} {ns : List Str} {i : List T} : (T.ins C ns i).isNon = false := rfl
end Hz
/-! Hz38: ranges with a step, `is` of truth values. -/
namespace Hz
open PySem L2
section
variable {K : PySem.W.Frag} {I : Sg} {E : XS} {ta tb tc : TE} {wa wb wc : WE}
/-- range(lo, hi, step): n turns -/
def iR3 (a b c : WE) : WI := fun ρ Qx Q => a ρ Qx fun t ρ1 => b ρ1 Qx fun u ρ2 => c ρ2 Qx fun w ρ3 => ∃ lo hi st n, t = tI lo ∧ u = tI hi ∧ w = tI st ∧ RgC lo hi st n ∧ Q ⟨[], n, fun i => tI (lo + (i : Nat) * st)⟩ ρ3
theorem ei_range3 (ha : EvW K I E ta wa) (hb : EvW K I E tb wb) (hc : EvW K I E tc wc) : EvI K I E (iRng3 (tCons ta (tCons tb (tCons tc tNil)))) (iR3 wa wb wc) := fun c ρ tm σ vs F W H r Qx Qs hx hw Rr k =>
  ha c ρ tm σ vs F W H r Qx _ hx hw _ fun t ρ1 v F1 W1 H1 r1 q1 => hb c ρ1 (t :: tm) σ (v :: vs) F1 W1 H1 r1 Qx _ hx q1 _ fun u ρ2 w F2 W2 H2 r2 q2 => hc c ρ2 (u :: t :: tm) σ (w :: v :: vs) F2 W2 H2 r2 Qx _ hx q2 _ fun x ρ3 y F3 W3 H3 r3 ⟨lo, hi, st, n, e1, e2, e3, g, q⟩ => by
    subst e1; subst e2; subst e3
    have d0 := r3.topDat
    have d1 := r3.drop.topDat
    have d2 := r3.drop.drop.topDat
    cases d0
    cases d1
    cases d2
    refine ⟨lo, hi, st, n, rfl, g, k (Itc lo st n) ⟨[], n, fun i => tI (lo + (i : Nat) * st)⟩ [] ρ3 F3 W3 H3 r3.drop.drop.drop rfl ?_ (fun _ z => (nomatch z)) (fun _ _ => rfl) q⟩
    intro c ρ tm σ vs F W H r
    exact ⟨fun i hi => ⟨hi, fun x H' ⟨e1, e2⟩ => by
      subst e1; subst e2
      exact ⟨F, r.dat (.int _)⟩⟩, Nat.le_refl _⟩
/-- x is True, x is not True, both sides truth values -/
def sIsB (neg : Bool) : S2 := fun t u ρ Q => ∃ a b, t = tBo a ∧ u = tBo b ∧ Q (tBo (if neg = true then !decide (a = b) else decide (a = b))) ρ
theorem op_isB : Op2 K I rIsB (sIsB false) := fun c ρ t u tm σ v w vs F W H r Qv ⟨a, b, e1, e2, q⟩ Q kk => by
  subst e1; subst e2
  have d1 := r.topDat
  have d2 := r.drop.topDat
  cases d1
  cases d2
  exact ⟨a, b, rfl, rfl, kk _ _ _ _ _ _ (r.drop.drop.dat (.bl _)) q⟩
theorem op_notB : Op2 K I rNotB (sIsB true) := fun c ρ t u tm σ v w vs F W H r Qv ⟨a, b, e1, e2, q⟩ Q kk => by
  subst e1; subst e2
  have d1 := r.topDat
  have d2 := r.drop.topDat
  cases d1
  cases d2
  exact ⟨a, b, rfl, rfl, kk _ _ _ _ _ _ (r.drop.drop.dat (.bl _)) q⟩
end
end Hz
namespace Hz
open PySem L2
theorem rgc_pos {i j c : Int} (h0 : 0 < c) (h1 : c < 1000000) (hi : -1000000 ≤ i) (hi' : i ≤ 1000000) (hj : -1000000 ≤ j) (hj' : j ≤ 1000000) : RgC i j c (if i < j then ((j - i - 1) / c + 1).toNat else 0) := by
  have e : Builtin.Range.rangeSize i j c = ((if i < j then ((j - i - 1) / c + 1).toNat else 0 : Nat) : Int) := by
    unfold Builtin.Range.rangeSize
    rw [if_pos h0]
    split
    · have : 0 ≤ (j - i - 1) / c := Int.ediv_nonneg (by omega) (by omega)
      omega
    · rfl
  refine ⟨by omega, by omega, ?_, e⟩
  have b : (j - i - 1) / c ≤ 2000000 := by
    rcases Int.lt_or_le (j - i - 1) 0 with h | h
    · have := Int.ediv_neg_of_neg_of_pos h h0
      omega
    · exact Int.le_trans (Int.ediv_le_self _ h) (by omega)
  unfold Builtin.Range.small
  rw [e]
  simp only [Builtin.Range.rangeFitsLong, Bool.and_eq_true, Bool.or_eq_true, decide_eq_true_eq, beq_iff_eq, if_pos h0]
  generalize (j - i - 1) / c = q at b ⊢
  split <;> omega
end Hz
/-! Hz39: the least of data. -/
namespace Hz
open PySem PySem.W PyProof.Rows
structure Least (m : PyData) (l : List PyData) : Prop where
  mem : m ∈ l
  le : ∀ y ∈ l, dataLt y m = false
theorem dataLt_trans {a b c : PyData} (h1 : dataLt b a = false) (h2 : dataLt c b = false) : dataLt c a = false :=
  KeyOrd.kle_trans (O := listOrd itemOrd) (a := keyToks a) (b := keyToks b) (c := keyToks c) h1 h2
theorem dataLt_self (a : PyData) : dataLt a a = false := (listOrd itemOrd).irrefl (keyToks a)
theorem dataLt_asymm {a b : PyData} (h : dataLt a b = true) : dataLt b a = false := by
  cases e : dataLt b a with
  | false => rfl
  | true =>
    have := (listOrd itemOrd).trans (keyToks a) (keyToks b) (keyToks a) h e
    rw [(listOrd itemOrd).irrefl (keyToks a)] at this
    cases this
theorem minD_least : ∀ (ds : List PyData) (x : PyData), Least (minD x ds) (x :: ds)
  | [], x => ⟨List.mem_singleton.mpr rfl, fun y hy => by rw [List.mem_singleton.mp hy]; exact dataLt_self x⟩
  | d :: ds, x => by
    have e : minD x (d :: ds) = minD (if dataLt d x then d else x) ds := rfl
    rw [e]
    obtain ⟨h1, h2⟩ := minD_least ds (if dataLt d x then d else x)
    have hm := h2 _ List.mem_cons_self
    by_cases c : dataLt d x = true
    · simp only [c, if_true] at h1 h2 hm ⊢
      refine ⟨List.mem_cons_of_mem _ h1, fun y hy => ?_⟩
      rcases List.mem_cons.mp hy with rfl | hy
      · exact dataLt_trans hm (dataLt_asymm c)
      · exact h2 y hy
    · have c' : dataLt d x = false := Bool.eq_false_iff.mpr c
      simp only [c', Bool.false_eq_true, if_false] at h1 h2 hm ⊢
      refine ⟨?_, fun y hy => ?_⟩
      · rcases List.mem_cons.mp h1 with h | h
        · rw [h]; exact List.mem_cons_self
        · exact List.mem_cons_of_mem _ (List.mem_cons_of_mem _ h)
      · rcases List.mem_cons.mp hy with rfl | hy
        · exact hm
        · rcases List.mem_cons.mp hy with rfl | hy
          · exact dataLt_trans hm c'
          · exact h2 y (List.mem_cons_of_mem _ hy)
theorem sort_least {l r : List PyData} {m : PyData} (h : l.mergeSort (dataLe false fun d => d) = m :: r) : Least m l := by
  have tot := sortLe_total (listOrd itemOrd) false fun d : PyData => keyToks d
  have pw := List.pairwise_mergeSort (le := dataLe false fun d => d) (fun a b c => tot.trans a b c) (fun a b => by rw [Bool.or_eq_true]; exact tot.total a b) l
  have pm := List.mergeSort_perm l (dataLe false fun d => d)
  rw [h] at pw pm
  refine ⟨pm.mem_iff.mp List.mem_cons_self, fun y hy => ?_⟩
  rcases List.mem_cons.mp (pm.mem_iff.mpr hy) with rfl | hy
  · exact dataLt_self _
  · have := (List.pairwise_cons.mp pw).1 y hy
    rw [dataLe_eq] at this
    exact Bool.not_eq_true' _ |>.mp this
/-- rows of ints as data: their order tells them apart -/
theorem toks_ints : ∀ (a b : List Int), keyToksAll (a.map .int) = keyToksAll (b.map .int) → a = b
  | [], [], _ => rfl
  | [], y :: b, h => by
    rw [List.map_nil, List.map_cons, keyToksAll, keyToksAll] at h
    simp [keyToks] at h
  | x :: a, [], h => by
    rw [List.map_nil, List.map_cons, keyToksAll, keyToksAll] at h
    simp [keyToks] at h
  | x :: a, y :: b, h => by
    rw [List.map_cons, List.map_cons, keyToksAll, keyToksAll] at h
    simp only [keyToks, List.cons_append, List.nil_append, List.cons.injEq, Sum.inl.injEq, true_and] at h
    rw [h.1, toks_ints a b h.2]
theorem lt_toks {x y : PyData} (h1 : dataLt x y = false) (h2 : dataLt y x = false) : keyToks x = keyToks y := (listOrd itemOrd).total (keyToks x) (keyToks y) h1 h2
/-- a number and a row of numbers, as a pair -/
abbrev dNR (x : Int × List Int) : PyData := .tuple [.int x.1, .tuple (x.2.map .int)]
theorem dNR_inj {x y : Int × List Int} (h1 : dataLt (dNR x) (dNR y) = false) (h2 : dataLt (dNR y) (dNR x) = false) : x = y := by
  have h := lt_toks h1 h2
  simp only [keyToks, keyToksAll, List.cons_append, List.nil_append, List.cons.injEq, Sum.inl.injEq, true_and, List.append_cancel_right_eq] at h
  exact Prod.ext h.1 (toks_ints _ _ h.2)
theorem tup_inj {x y : List Int} (h1 : dataLt (.tuple (x.map .int)) (.tuple (y.map .int)) = false) (h2 : dataLt (.tuple (y.map .int)) (.tuple (x.map .int)) = false) : x = y := toks_ints _ _ (lt_toks h1 h2)
theorem alike_ints : ∀ a b : List Int, alikeAll (a.map .int) (b.map .int) = true
  | [], _ => by simp [alikeAll]
  | _ :: _, [] => by simp [alikeAll]
  | x :: a, y :: b => by
    rw [List.map_cons, List.map_cons, alikeAll, alike_ints a b]
    rfl
theorem alike_dNR (x y : Int × List Int) : alike (dNR x) (dNR y) = true := by
  simp only [alike, alikeAll, alike_ints, Bool.and_self]
theorem dNR_lt {x y : Int × List Int} : dataLt (dNR x) (dNR y) = if x.1 = y.1 then dataLt (.tuple (x.2.map .int)) (.tuple (y.2.map .int)) else decide (x.1 < y.1) := by
  rw [dataLt_tuple]
  by_cases h : x.1 = y.1
  · rw [if_pos h, dataLt_all_yes (by simp [alike]) (by rw [eqv_int, decide_eq_true h])]
    cases e : PyData.eqv (.tuple (x.2.map .int)) (.tuple (y.2.map .int)) with
    | true =>
      rw [dataLt_all_yes (by simp only [alike, alike_ints]) e]
      have e' : x.2 = y.2 := by
        rw [eqv_tuple, eqv_ints] at e
        exact of_decide_eq_true e
      rw [e', dataLt_self]
      exact (listOrd itemOrd).irrefl (keyToksAll [])
    | false => rw [dataLt_all_no (by simp only [alike, alike_ints]) e]
  · rw [if_neg h, dataLt_all_no (by simp [alike]) (by rw [eqv_int, decide_eq_false h]), dataLt_int]
theorem Least.uniq {m m' : PyData} {l : List PyData} (h : Least m l) (h' : Least m' l) (hu : ∀ x ∈ l, ∀ y ∈ l, dataLt x y = false → dataLt y x = false → x = y) : m = m' :=
  hu _ h.mem _ h'.mem (h'.le _ h.mem) (h.le _ h'.mem)
end Hz
/-! Hz40: tuple(x), its rule by name. -/
namespace Hz
open PySem L2
def rTupK (K : PySem.W.Frag) : List V → Hp → VK → Prop := fun xs H Q => ∃ p ys, xs = [.ref p] ∧ ((SqL K H p ys ∧ ∀ l, H l = none → Q (.ref l) (upd H l (.tup ys))) ∨ (SqT K H p ys ∧ Q (.ref p) H))
theorem call_tupleK {X : Cx} {K : PySem.W.Frag} (h : X.K = K) : CallR X (.type "tuple") (rTupK K) := by
  subst h
  exact call_tuple_of
theorem op_tupleK {K : PySem.W.Frag} {I : Sg} : Op1 K I (fun v => rTupK K [v]) sTuple := op_tuple
def rLenK (K : PySem.W.Frag) : List V → Hp → VK → Prop := fun xs H Q => ∃ x n, xs = [x] ∧ LenV K x H n ∧ Q (.int n) H
theorem call_lenK {X : Cx} {K : PySem.W.Frag} (h : X.K = K) : CallR X (.builtin "len") (rLenK K) := by
  subst h
  exact call_len
theorem op_lenK {K : PySem.W.Frag} {I : Sg} : Op1 K I (fun v => rLenK K [v]) sLen := op_len
end Hz
/-! Hz41: comprehensions and loops by what they make, without the slots written out. -/
namespace Hz
open PySem L2
/-- slots set one behind the other -/
def setsR : Rho → List Nat → List (Option T) → Rho
  | ρ, i :: is, v :: vs => setsR (ρ.set i v) is vs
  | ρ, _, _ => ρ
theorem setsR_nil {ρ : Rho} : setsR ρ [] [] = ρ := rfl
theorem setsR_cons {ρ : Rho} {i : Nat} {is : List Nat} {v : Option T} {vs : List (Option T)} : setsR ρ (i :: is) (v :: vs) = setsR (ρ.set i v) is vs := rfl
/-- a loop's word that speaks of some slots alone -/
structure OnR (idx : List Nat) (I : Nat → List (Option T) → Prop) (ρ0 : Rho) (i : Nat) (ρ : Rho) : Prop where
  out : ∃ vs, I i vs ∧ ρ = setsR ρ0 idx vs
theorem onR0 {idx : List Nat} {I : Nat → List (Option T) → Prop} {ρ : Rho} {vs : List (Option T)} (h : I 0 vs) (e : setsR ρ idx vs = ρ) : OnR idx I ρ 0 ρ := ⟨vs, h, e.symm⟩
theorem wipeR_nil {ρ : Rho} : wipeR ρ [] = ρ := rfl
theorem wipeR_cons {ρ : Rho} {i : Nat} {is : List Nat} : wipeR ρ (i :: is) = (wipeR ρ is).set i none := rfl
theorem wipeL1 {x : Option T} {ρ : Rho} {i : Nat} : wipeR (x :: ρ) [i] = (x :: ρ).set i none := rfl
theorem wipeL2 {x : Option T} {ρ : Rho} {i j : Nat} : wipeR (x :: ρ) [i, j] = ((x :: ρ).set j none).set i none := rfl
theorem wipeL3 {x : Option T} {ρ : Rho} {i j l : Nat} : wipeR (x :: ρ) [i, j, l] = (((x :: ρ).set l none).set j none).set i none := rfl
theorem sNx_of {O : WO} {Qx : WX} {ρ : Rho} (h : O.nx ρ) : sNx O Qx ρ := h
theorem eqvA_xn {α : Type} {f : α → PyData} {ds : List α} : PyData.eqvAll (ds.map f) [] = decide (ds = []) := by cases ds <;> rfl
theorem eqvA_nx {α : Type} {f : α → PyData} {ds : List α} : PyData.eqvAll [] (ds.map f) = decide (ds = []) := by cases ds <;> rfl
theorem rng_at {α : Type} {n i x : Nat} (g : Nat → α) (h : (List.range n)[i]? = some x) : g i = g x := by
  have hi : i < n := by
    have := (List.getElem?_eq_some_iff.mp h).1
    rwa [List.length_range] at this
  rw [List.getElem?_range hi] at h
  cases h
  rfl
section
variable {wg : WG} {wt : WT} {we : WE} {wv : List Nat} {Qx : WX} {ρ0 : Rho} {n : Nat} {it : Nat → T} {Fin : List T → Rho → Prop} {α β : Type}
/-- what a comprehension makes of the items x of xs: v x, where p x -/
theorem lcD (xs : List α) (F : α → T) (p : α → Prop) [DecidablePred p] (v : α → T) (hn : n = xs.length) (hit : ∀ i x, xs[i]? = some x → it i = F x) (hz : xs.length ≤ 1000000)
    (step : ∀ x ∈ xs, ∀ (q : Prop) (k : Option T → Rho → Prop), q → (p x → k (some (v x)) ρ0) → (¬ p x → k none ρ0) →
      wg (F x) ρ0 Qx fun ρ3 => wt ρ3 Qx fun b ρ4 => if b = true then we ρ4 Qx fun t ρ5 => ∃ s ρ6, t.opn ρ5 = some (s, ρ6) ∧ q ∧ k (some s) (wipeR ρ6 wv) else k none (wipeR ρ4 wv))
    (fin : Fin ((xs.filter fun x => decide (p x)).map v) ρ0) :
    Inv1 fun Iv : Nat → List T → Rho → Prop => Iv 0 [] ρ0 ∧ (∀ i acc ρ2, i < n → Iv i acc ρ2 → wg (it i) ρ2 Qx fun ρ3 => wt ρ3 Qx fun b ρ4 => if b = true then we ρ4 Qx fun t ρ5 => ∃ s ρ6, t.opn ρ5 = some (s, ρ6) ∧ acc.length < 1000000 ∧ Iv (i + 1) (acc ++ [s]) (wipeR ρ6 wv) else Iv (i + 1) acc (wipeR ρ4 wv)) ∧ ∀ acc ρ2, Iv n acc ρ2 → Fin acc ρ2 := by
  subst hn
  refine ⟨fun i acc ρ => acc = sel (fun x => if p x then some (v x) else none) xs i ∧ ρ = ρ0, ⟨rfl, rfl⟩, ?_, ?_⟩
  · rintro i acc ρ hi ⟨rfl, rfl⟩
    obtain ⟨x, hx⟩ := at_lt hi
    rw [hit i x hx]
    have hl : (sel (fun x => if p x then some (v x) else none) xs i).length < 1000000 := by
      unfold sel
      refine Nat.lt_of_le_of_lt (List.length_filterMap_le ..) ?_
      rw [List.length_take]
      omega
    refine step x (List.mem_of_getElem? hx) _ (fun o ρ' => match o with | some s => sel (fun x => if p x then some (v x) else none) xs i ++ [s] = sel (fun x => if p x then some (v x) else none) xs (i + 1) ∧ ρ' = ρ | none => sel (fun x => if p x then some (v x) else none) xs i = sel (fun x => if p x then some (v x) else none) xs (i + 1) ∧ ρ' = ρ) hl (fun c => ⟨?_, rfl⟩) fun c => ⟨?_, rfl⟩
    · rw [sel_yes hx (if_pos c)]
    · rw [sel_no hx (if_neg c)]
  · rintro acc ρ ⟨rfl, rfl⟩
    rw [sel_all]
    have e : ∀ ys : List α, ys.filterMap (fun x => if p x then some (v x) else none) = (ys.filter fun x => decide (p x)).map v := by
      intro ys
      induction ys with
      | nil => rfl
      | cons y ys ih =>
        rw [List.filterMap_cons, List.filter_cons, ih]
        by_cases c : p y
        · rw [if_pos c, if_pos (decide_eq_true c)]; rfl
        · rw [if_neg c, if_neg (by simpa using c)]
    rw [e]
    exact fin
/-- no test -/
theorem lcM (xs : List α) (F : α → T) (v : α → T) (hn : n = xs.length) (hit : ∀ i x, xs[i]? = some x → it i = F x) (hz : xs.length ≤ 1000000)
    (step : ∀ x ∈ xs, ∀ (q : Prop) (k : Option T → Rho → Prop), q → k (some (v x)) ρ0 →
      wg (F x) ρ0 Qx fun ρ3 => wt ρ3 Qx fun b ρ4 => if b = true then we ρ4 Qx fun t ρ5 => ∃ s ρ6, t.opn ρ5 = some (s, ρ6) ∧ q ∧ k (some s) (wipeR ρ6 wv) else k none (wipeR ρ4 wv))
    (fin : Fin (xs.map v) ρ0) :
    Inv1 fun Iv : Nat → List T → Rho → Prop => Iv 0 [] ρ0 ∧ (∀ i acc ρ2, i < n → Iv i acc ρ2 → wg (it i) ρ2 Qx fun ρ3 => wt ρ3 Qx fun b ρ4 => if b = true then we ρ4 Qx fun t ρ5 => ∃ s ρ6, t.opn ρ5 = some (s, ρ6) ∧ acc.length < 1000000 ∧ Iv (i + 1) (acc ++ [s]) (wipeR ρ6 wv) else Iv (i + 1) acc (wipeR ρ4 wv)) ∧ ∀ acc ρ2, Iv n acc ρ2 → Fin acc ρ2 := by
  refine lcD xs F (fun _ => True) v hn hit hz (fun x hx q k hq h1 _ => step x hx q k hq (h1 trivial)) ?_
  rw [show (xs.filter fun x => decide True) = xs from List.filter_eq_self.mpr fun _ _ => rfl]
  exact fin
end
end Hz
/-! Hz42: tuples of data joined and cut. -/
namespace Hz
open PySem L2
def cutL {α : Type} (xs : List α) (lo hi : Option Int) : List α := (xs.drop (HT.sIx xs.length 0 lo)).take (HT.sIx xs.length xs.length hi - HT.sIx xs.length 0 lo)
theorem cutL_to {α : Type} {xs : List α} {i : Int} (h0 : 0 ≤ i) (h : i ≤ xs.length) : cutL xs none (some i) = xs.take i.toNat := by
  unfold cutL HT.sIx
  simp only [if_neg (show ¬ i < 0 by omega), List.drop_zero, Nat.sub_zero]
  rw [Nat.min_eq_left (by omega)]
theorem cutL_from {α : Type} {xs : List α} {i : Int} (h0 : 0 ≤ i) (h : i ≤ xs.length) : cutL xs (some i) none = xs.drop i.toNat := by
  unfold cutL HT.sIx
  simp only [if_neg (show ¬ i < 0 by omega)]
  rw [Nat.min_eq_left (by omega)]
  exact List.take_of_length_le (by rw [List.length_drop]; exact Nat.le_refl _)
theorem cut_out {α : Type} {f : α → PyData} {r : List α} {i : Nat} (h : i < r.length) : cutL (r.map f) none (some (0 + (i : Int))) ++ cutL (r.map f) (some (0 + (i : Int) + 1)) none = (r.eraseIdx i).map f := by
  rw [cutL_to (by omega) (by rw [List.length_map]; omega), cutL_from (by omega) (by rw [List.length_map]; omega)]
  rw [show (0 + (i : Int)).toNat = i by omega, show (0 + (i : Int) + 1).toNat = i + 1 by omega, ← List.map_take, ← List.map_drop, ← List.map_append, List.eraseIdx_eq_take_drop_succ]
theorem cut_out_len {α : Type} {f : α → PyData} {r : List α} {i : Nat} (h : i < r.length) (hr : r.length ≤ 1000000) : (cutL (r.map f) none (some (0 + (i : Int)))).length + (cutL (r.map f) (some (0 + (i : Int) + 1)) none).length ≤ 1000000 := by
  rw [← List.length_append, cut_out h, List.length_map]
  have := List.length_eraseIdx_le r i
  omega
theorem catAK {X : Cx} {K : PySem.W.Frag} (h : X.K = K) : OpR X (binaryOp .Add) (rCatA K) := by
  subst h
  exact op_catA
theorem slTupK {X : Cx} {K : PySem.W.Frag} (h : X.K = K) : SlR X (rSlA K) := by
  subst h
  exact sl_tupA
def sCatD : S2 := fun t u ρ Q => ∃ ds es, t.peek ρ = some (.dat (.tuple ds)) ∧ u.peek ρ = some (.dat (.tuple es)) ∧ ds.length + es.length ≤ 1000000 ∧ Q (.dat (.tuple (ds ++ es))) (t.drop (u.drop ρ))
def wSlT (a : WE) (lo hi : Rho → WX → (Option Int → Rho → Prop) → Prop) : WE := fun ρ Qx Q => a ρ Qx fun t ρ1 => lo ρ1 Qx fun l ρ2 => hi ρ2 Qx fun h ρ3 =>
  ∃ ds, t.peek ρ3 = some (.dat (.tuple ds)) ∧ Q (.dat (.tuple (cutL ds l h))) (t.drop ρ3)
section
variable {K : PySem.W.Frag} {I : Sg} {E : XS} {te ta tb : TE} {we wa wb : WE} {tl th : TO} {wl wh : Rho → WX → (Option Int → Rho → Prop) → Prop}
theorem dpa_app {H : Hp} : ∀ {us vs : List V} {ds es : List PyData}, DpAll K H us ds → DpAll K H vs es → DpAll K H (us ++ vs) (ds ++ es)
  | _, _, _, _, .nil, h => h
  | _, _, _, _, .cons h1 h2, h => .cons h1 (dpa_app h2 h)
theorem dpa_drop {H : Hp} : ∀ (n : Nat) {us : List V} {ds : List PyData}, DpAll K H us ds → DpAll K H (us.drop n) (ds.drop n)
  | 0, _, _, h => h
  | n + 1, _, _, .nil => .nil
  | n + 1, _, _, .cons _ h => dpa_drop n h
theorem dpa_take {H : Hp} : ∀ (n : Nat) {us : List V} {ds : List PyData}, DpAll K H us ds → DpAll K H (us.take n) (ds.take n)
  | 0, _, _, _ => .nil
  | n + 1, _, _, .nil => .nil
  | n + 1, _, _, .cons h1 h => .cons h1 (dpa_take n h)
theorem dpa_repA {F : Hp} {W : List Addr} {H : Hp} : ∀ {us : List V} {ds : List PyData}, DpAll K F us ds → RepA K F W H us (ds.map T.dat) []
  | _, _, .nil => .nil
  | _, _, .cons h1 h2 => .cons (.dat h1) (dpa_repA h2) (.refl _)
theorem pys_datsL : ∀ (xs : List PyData), T.pys (xs.map T.dat) = some xs
  | [] => rfl
  | x :: xs => by
    show (match T.py (T.dat x), T.pys (xs.map T.dat) with | some d, some ds => some (d :: ds) | _, _ => none) = _
    rw [pys_datsL xs]
    rfl
theorem R.newTupD {c : Ct} {ρ : Rho} {tm : List T} {σ : L2.St} {us vs : List V} {F : Hp} {W : List Addr} {H : Hp} {p : Addr} {ds : List PyData} (h : R K I c ρ tm σ vs F W H) (hA : DpAll K F us ds) (hp : H p = none) :
    ∃ F', R K I c ρ (.dat (.tuple ds) :: tm) σ (.ref p :: vs) F' W (upd H p (.tup us)) := by
  obtain ⟨F3, _, r3⟩ := (h.newTupC (dpa_repA hA) hp).freeze (d := .tuple ds) (by show (T.pys (ds.map T.dat)).map PyData.tuple = _; rw [pys_datsL]; rfl)
  exact ⟨F3, r3⟩
theorem op_catTD : Op2 K I (rCatA K) sCatD := fun c ρ t u tm σ v w vs F W H r Qv ⟨ds, es, hp, hq, hz, q⟩ Q kk => by
  obtain ⟨g, hr2, _⟩ := r.peek hq
  obtain ⟨f, hr1, _⟩ := r.drop.peek hp
  cases hr1 with
  | dat h1 =>
    cases hr2 with
    | dat h2 =>
      have h1' := h1
      have h2' := h2
      cases h1 with
      | tup s1 a1 =>
        cases h2 with
        | tup s2 a2 =>
          rename_i a us b ws
          have l1 := dpa_len a1
          have l2 := dpa_len a2
          have rr := r.dropT.dropT
          refine ⟨a, b, us, ws, rfl, rfl, sqt_sub r.sub s1, sqt_sub r.sub s2, line_of (by omega), fun e => ?_, fun _ e => ?_, fun _ _ p hpn => ?_⟩
          · subst e
            cases a1
            exact kk _ _ _ _ _ _ (rr.dat h2') q
          · subst e
            cases a2
            rw [List.append_nil] at q
            exact kk _ _ _ _ _ _ (rr.dat h1') q
          · obtain ⟨F3, r3⟩ := rr.newTupD (dpa_app a1 a2) hpn
            exact kk _ _ _ _ _ _ r3 q
theorem ev_slT (ha : EvW K I E ta wa) (hl : EvO K I E tl wl) (hh : EvO K I E th wh) : EvW K I E (tSl (rSlA K) ta tl th) (wSlT wa wl wh) := fun c ρ tm σ vs F W H r Qx Qv hx hw Q k =>
  ha c ρ tm σ vs F W H r Qx _ hx hw _ fun t ρ' v F' W' H' r' q1 => hl c ρ' (t :: tm) σ (v :: vs) F' W' H' r' Qx _ hx q1 _ fun lo ρ2 F2 W2 H2 r2 q2 => hh c ρ2 (t :: tm) σ (v :: vs) F2 W2 H2 r2 Qx _ hx q2 _
    fun hi ρ3 F3 W3 H3 r3 ⟨ds, hp, q⟩ => by
  obtain ⟨f, hr, _⟩ := r3.peek hp
  cases hr with
  | dat h1 =>
    have h1' := h1
    cases h1 with
    | tup s1 a1 =>
      rename_i a us
      have l1 := dpa_len a1
      refine ⟨a, us, rfl, sqt_sub r3.sub s1, fun e => ?_, fun _ p hpn => ?_⟩
      · rw [l1] at e
        have e2 : cutL ds lo hi = ds := by
          unfold cutL
          rw [e.1, e.2, List.drop_zero, Nat.sub_zero, List.take_length]
        rw [e2] at q
        exact k _ _ _ _ _ _ (r3.dropT.dat h1') q
      · have a2 : DpAll K F3 (cutV us lo hi) (cutL ds lo hi) := by
          unfold cutV cutL
          rw [l1]
          exact dpa_take _ (dpa_drop _ a1)
        obtain ⟨F4, r4⟩ := r3.dropT.newTupD a2 hpn
        exact k _ _ _ _ _ _ r4 q
end
end Hz
/-! Hz43: ints, rows of ints, numbers with rows as data: alike, their depth, the least. -/
namespace Hz
open PySem PySem.W PyProof.Rows
abbrev dT (r : List Int) : PyData := .tuple (r.map .int)
theorem alikeAll_ints (l : List Int) : AlikeAll (l.map PyData.int) := ⟨allAlike_ints l, fun d hd => by
  obtain ⟨x, _, rfl⟩ := List.mem_map.mp hd
  simp⟩
theorem depthA_ints (l : List Int) : PyData.depthAll (l.map .int) ≤ 60 := Nat.le_trans (depth_map (f := PyData.int) (k := 0) (fun _ => Nat.le_refl _) l) (by decide)
theorem depth_dT (r : List Int) : (dT r).depth ≤ 2 := by
  have h := depth_map (f := PyData.int) (k := 0) (fun _ => Nat.le_refl _) r
  simp only [PyData.depth]
  omega
theorem depth_dNR1 (x : Int × List Int) : (dNR x).depth ≤ 4 := by
  have h := depth_map (f := PyData.int) (k := 0) (fun _ => Nat.le_refl _) x.2
  simp only [PyData.depth, PyData.depthAll]
  omega
theorem depthA_dT (l : List (List Int)) : PyData.depthAll (l.map dT) ≤ 60 := Nat.le_trans (depth_map (f := dT) (k := 2) depth_dT l) (by decide)
theorem depth_dNRs (l : List (Int × List Int)) : ∀ d ∈ l.map dNR, d.depth ≤ 60 := fun d hd => by
  obtain ⟨x, _, rfl⟩ := List.mem_map.mp hd
  exact Nat.le_trans (depth_dNR1 x) (by decide)
theorem allAlike_dT (l : List (List Int)) : AllAlike (l.map dT) := fun d hd d' hd' => by
  obtain ⟨x, _, rfl⟩ := List.mem_map.mp hd
  obtain ⟨y, _, rfl⟩ := List.mem_map.mp hd'
  simp only [alike, alike_ints]
theorem alikeAll_dT (l : List (List Int)) : AlikeAll (l.map dT) := ⟨allAlike_dT l, fun d hd => by
  obtain ⟨x, _, rfl⟩ := List.mem_map.mp hd
  simp⟩
theorem allAlike_dNR (l : List (Int × List Int)) : AllAlike (l.map dNR) := fun d hd d' hd' => by
  obtain ⟨x, _, rfl⟩ := List.mem_map.mp hd
  obtain ⟨y, _, rfl⟩ := List.mem_map.mp hd'
  exact alike_dNR x y
theorem sortable_dNR (l : List (Int × List Int)) : Sortable (l.map dNR) := .inl fun d hd => by
  obtain ⟨x, _, rfl⟩ := List.mem_map.mp hd
  exact ⟨_, _, rfl⟩
theorem minD_ints (l : List Int) (x : Int) : ∃ m, minD (.int x) (l.map .int) = .int m ∧ m ∈ x :: l ∧ ∀ y ∈ x :: l, m ≤ y := by
  obtain ⟨h1, h2⟩ := minD_least (l.map .int) (.int x)
  have h1' : minD (.int x) (l.map .int) ∈ (x :: l).map PyData.int := h1
  obtain ⟨m, hm, e⟩ := List.mem_map.mp h1'
  refine ⟨m, e.symm, hm, fun y hy => ?_⟩
  have := h2 (.int y) (show PyData.int y ∈ (x :: l).map PyData.int from List.mem_map.mpr ⟨y, hy, rfl⟩)
  rw [← e, dataLt_int] at this
  have := of_decide_eq_false this
  omega
theorem minD_dT (l : List (List Int)) (x : List Int) : ∃ m, minD (dT x) (l.map dT) = dT m ∧ m ∈ x :: l ∧ ∀ y ∈ x :: l, dataLt (dT y) (dT m) = false := by
  obtain ⟨h1, h2⟩ := minD_least (l.map dT) (dT x)
  have h1' : minD (dT x) (l.map dT) ∈ (x :: l).map dT := h1
  obtain ⟨m, hm, e⟩ := List.mem_map.mp h1'
  refine ⟨m, e.symm, hm, fun y hy => ?_⟩
  have := h2 (dT y) (show dT y ∈ (x :: l).map dT from List.mem_map.mpr ⟨y, hy, rfl⟩)
  rwa [← e] at this
section
open L2
variable {α : Type} {l : List α} {t : T} {ρ : Rho} {Q : T → Rho → Prop}
theorem sMinD_I {f : α → Int} (hp : t.peek ρ = some (.lst (l.map fun x => tI (f x)))) (hne : l ≠ []) (q : ∀ x ∈ l, (∀ y ∈ l, f x ≤ f y) → Q (tI (f x)) (t.drop ρ)) : sMinD minD t ρ Q := by
  cases l with
  | nil => exact absurd rfl hne
  | cons x l =>
    have e : ∀ l : List α, (l.map fun x => tI (f x)) = (l.map f).map fun x => T.dat (.int x) := fun l => by rw [List.map_map]; rfl
    have ep : T.pys ((x :: l).map fun x => tI (f x)) = some (.int (f x) :: (l.map f).map .int) := by
      rw [e, show ((x :: l).map f).map (fun x => T.dat (.int x)) = (((x :: l).map f).map .int).map T.dat from by simp only [List.map_map]; rfl, pys_datsL]
      rfl
    obtain ⟨m, h1, h2, h3⟩ := minD_ints (l.map f) (f x)
    have h2' : m ∈ (x :: l).map f := h2
    obtain ⟨y, hy, rfl⟩ := List.mem_map.mp h2'
    refine ⟨_, _, _, _, hp, rfl, rfl, ?_, ep, alikeAll_ints ((x :: l).map f), depthA_ints ((x :: l).map f), ?_⟩
    · rw [e]
      exact dats_all
    · rw [h1]
      refine q y hy fun z hz => h3 _ ?_
      exact List.mem_map.mpr ⟨z, hz, rfl⟩
theorem sMinD_R {f : α → List Int} (hp : t.peek ρ = some (.lst (l.map fun x => T.dat (dT (f x))))) (hne : l ≠ []) (q : ∀ x ∈ l, (∀ y ∈ l, dataLt (dT (f y)) (dT (f x)) = false) → Q (.dat (dT (f x))) (t.drop ρ)) : sMinD minD t ρ Q := by
  cases l with
  | nil => exact absurd rfl hne
  | cons x l =>
    have e : ∀ l : List α, (l.map fun x => T.dat (dT (f x))) = (l.map f).map fun x => T.dat (dT x) := fun l => by rw [List.map_map]; rfl
    have ep : T.pys ((x :: l).map fun x => T.dat (dT (f x))) = some (dT (f x) :: (l.map f).map dT) := by
      rw [e, show ((x :: l).map f).map (fun x => T.dat (dT x)) = (((x :: l).map f).map dT).map T.dat from by simp only [List.map_map]; rfl, pys_datsL]
      rfl
    obtain ⟨m, h1, h2, h3⟩ := minD_dT (l.map f) (f x)
    have h2' : m ∈ (x :: l).map f := h2
    obtain ⟨y, hy, rfl⟩ := List.mem_map.mp h2'
    refine ⟨_, _, _, _, hp, rfl, rfl, ?_, ep, alikeAll_dT ((x :: l).map f), depthA_dT ((x :: l).map f), ?_⟩
    · rw [e]
      exact dats_all
    · rw [h1]
      refine q y hy fun z hz => h3 _ ?_
      exact List.mem_map.mpr ⟨z, hz, rfl⟩
/-- the first of what is sorted: numbers with rows -/
theorem sSort_NR {f : α → Int × List Int} (hp : t.peek ρ = some (.lst (l.map fun x => T.dat (dNR (f x))))) (q : ∀ ds, (∀ m r, ds = m :: r → Least m (l.map fun x => dNR (f x))) → (l ≠ [] → ds ≠ []) → ds.length = l.length → (∀ d ∈ ds, ∃ x ∈ l, d = dNR (f x)) → Q (.lst (ds.map .dat)) (t.drop ρ)) : sSort t ρ Q := by
  have e : (l.map fun x => T.dat (dNR (f x))) = (l.map f).map fun x => T.dat (dNR x) := by rw [List.map_map]; rfl
  have ep : T.pys (l.map fun x => T.dat (dNR (f x))) = some ((l.map f).map dNR) := by
    rw [e, show (l.map f).map (fun x => T.dat (dNR x)) = ((l.map f).map dNR).map T.dat from by simp only [List.map_map]; rfl, pys_datsL]
  have pm := List.mergeSort_perm ((l.map f).map dNR) (dataLe false fun d => d)
  refine ⟨_, _, _, hp, rfl, rfl, ?_, ep, allAlike_dNR _, sortable_dNR _, depth_dNRs _, q _ (fun m r h => ?_) (fun h h2 => ?_) ?_ fun d hd => ?_⟩
  · rw [e]
    exact dats_all
  · have := sort_least h
    rwa [List.map_map] at this
  · have := pm.length_eq
    rw [h2, List.length_map, List.length_map] at this
    exact h (List.length_eq_zero_iff.mp this.symm)
  · rw [pm.length_eq, List.length_map, List.length_map]
  · have := pm.mem_iff.mp hd
    rw [List.map_map] at this
    obtain ⟨x, hx, rfl⟩ := List.mem_map.mp this
    exact ⟨x, hx, rfl⟩
end
end Hz
/-! Hz44: zip of two of any kind: lists, tuples, texts. -/
namespace Hz
open PySem L2 PySem.W PyProof.Rows
inductive ZK where
  | l | t | s
def ZItems (K : PySem.W.Frag) (H : Hp) : ZK → V → List V → Prop
  | .l, v, xs => ∃ a, v = .ref a ∧ SqL K H a xs
  | .t, v, xs => ∃ a, v = .ref a ∧ SqT K H a xs
  | .s, v, xs => ∃ x : Str, v = .str x ∧ xs = x.cps.toList.map (fun c => V.str ⟨#[c]⟩)
def ZIt (h : Heap) (it : Addr) : ZK → Value → Nat → Prop
  | .l, u, i => ∃ a, u = .ref a ∧ h.IsListIter it a i
  | .t, u, i => ∃ a, u = .ref a ∧ h.IsTupleIter it a i
  | .s, u, i => ∃ x t, u = .str x t ∧ h.IsStrIter it (strIterType x) x t i
theorem ZIt.at {h h' : Heap} {it : Addr} {kd : ZK} {u : Value} {i : Nat} (z : ZIt h it kd u i) (e : ∀ o, h.get? it = some o → h'.get? it = some o) : ZIt h' it kd u i := by
  cases kd with
  | l => obtain ⟨a, rfl, q⟩ := z; exact ⟨a, rfl, q.at e⟩
  | t => obtain ⟨a, rfl, q⟩ := z; exact ⟨a, rfl, q.at e⟩
  | s => obtain ⟨x, t, rfl, o, ho, r⟩ := z; exact ⟨x, t, rfl, o, e o ho, r⟩
theorem ZIt.obj {h : Heap} {it : Addr} {kd : ZK} {u : Value} {i : Nat} (z : ZIt h it kd u i) : ∃ o vs, h.get? it = some o ∧ o.data = .fields vs := by
  cases kd with
  | l => obtain ⟨a, rfl, o, ho, _, hd⟩ := z; exact ⟨o, _, ho, hd⟩
  | t => obtain ⟨a, rfl, o, ho, _, hd⟩ := z; exact ⟨o, _, ho, hd⟩
  | s => obtain ⟨x, t, rfl, o, ho, _, hd⟩ := z; exact ⟨o, _, ho, hd⟩
section
variable {X : Cx} {pins : List (Addr × Obj)} {σ : L2.St} {H : Hp} {s : Shared} {kd : ZK} {v : V} {u : Value} {xs : List V}
theorem ZItems.inj (I : Inv X pins σ H s) {ys : List V} (h : ZItems X.K H kd v xs) (g : ZItems X.K H kd v ys) : xs = ys := by
  cases kd with
  | l => obtain ⟨a, rfl, q⟩ := h; obtain ⟨b, e, q'⟩ := g; cases e; exact I.list_inj q q'
  | t => obtain ⟨a, rfl, q⟩ := h; obtain ⟨b, e, q'⟩ := g; cases e; exact I.tuple_inj q q'
  | s => obtain ⟨x, rfl, q⟩ := h; obtain ⟨y, e, q'⟩ := g; cases e; rw [q, q']
/-- what an iterator over it draws -/
theorem zdraws (I : Inv X pins σ H s) (ru : RelV v u) (hz : ZItems X.K H kd v xs) {it : Addr} (hne : ∀ b, u = .ref b → b ≠ it) (hh : X.A.handled = none) :
    ∃ (rest : List Addr) (P : Nat → Value → Prop) (St : Nat → Heap → Prop), Draws X.prog X.w X.A.in1 it (it :: rest) xs.length P St ∧ (∀ b ∈ rest, u = .ref b) ∧ (∀ i, ZIt s.heap it kd u i → St i s.heap) ∧ (∀ i h, St i h → ZIt h it kd u i) ∧
      ∀ i x', P i x' → ∀ x, xs[i]? = some x → RelV x x' := by
  cases kd with
  | l =>
    obtain ⟨a, rfl, hq⟩ := hz
    cases ru
    obtain ⟨its, rv, p, _⟩ := I.list hq
    have hl : its.toArray.size = xs.length := by rw [List.size_toArray]; exact rv.length.symm
    refine ⟨[a], _, _, hl ▸ Draws.list (A := X.A.in1) hh it a (hne a rfl) its.toArray, fun b hb => by rw [List.mem_singleton.mp hb], fun i q => ?_, fun i h q => ⟨a, rfl, q.1⟩, fun i x' hp x hx => ?_⟩
    · obtain ⟨b, e, q⟩ := q
      cases e
      exact ⟨q, p.isList⟩
    · obtain ⟨w, hw, rw'⟩ := rv.get hx
      have z : its[i]? = some x' := by simpa using hp
      rw [hw] at z
      cases z
      exact rw'
  | t =>
    obtain ⟨a, rfl, hq⟩ := hz
    cases ru
    obtain ⟨its, rv, p, _⟩ := I.tuple hq
    have hl : its.toArray.size = xs.length := by rw [List.size_toArray]; exact rv.length.symm
    refine ⟨[a], _, _, hl ▸ Draws.tuple (A := X.A.in1) hh it a (hne a rfl) its.toArray, fun b hb => by rw [List.mem_singleton.mp hb], fun i q => ?_, fun i h q => ⟨a, rfl, q.1⟩, fun i x' hp x hx => ?_⟩
    · obtain ⟨b, e, q⟩ := q
      cases e
      exact ⟨q, p⟩
    · obtain ⟨w, hw, rw'⟩ := rv.get hx
      have z : its[i]? = some x' := by simpa using hp
      rw [hw] at z
      cases z
      exact rw'
  | s =>
    obtain ⟨x, rfl, rfl⟩ := hz
    obtain ⟨t, rfl⟩ := ru
    have hl : x.cps.size = (x.cps.toList.map (fun c => V.str ⟨#[c]⟩)).length := by rw [List.length_map, Array.length_toList]
    refine ⟨[], _, _, hl ▸ Draws.text (A := X.A.in1) hh it x t, fun b hb => absurd hb List.not_mem_nil, fun i q => ?_, fun i h q => ⟨x, t, rfl, q⟩, fun i x' hp y hx => ?_⟩
    · obtain ⟨x', t', e, q⟩ := q
      cases e
      exact q
    · obtain ⟨c, w, hc, rfl⟩ := hp
      rw [List.getElem?_map, Array.getElem?_toList, hc] at hx
      cases hx
      exact ⟨w, rfl⟩
theorem zbegins (I : Inv X pins σ H s) (ru : RelV v u) (hz : ZItems X.K H kd v xs) : ∃ o Hc, Begins u o Hc ∧ Hc s.heap ∧ (∀ h it, h.get? it = some o → ZIt h it kd u 0) ∧ ∀ b, u = .ref b → b < s.heap.objs.size := by
  cases kd with
  | l =>
    obtain ⟨a, rfl, hq⟩ := hz
    cases ru
    obtain ⟨its, rv, p, _⟩ := I.list hq
    exact ⟨_, _, begins_list a its.toArray, p.isList, fun h it e => ⟨a, rfl, _, e, rfl, rfl⟩, fun b e => by cases e; exact p.lt⟩
  | t =>
    obtain ⟨a, rfl, hq⟩ := hz
    cases ru
    obtain ⟨its, rv, p, _⟩ := I.tuple hq
    exact ⟨_, _, begins_tuple a its.toArray, p, fun h it e => ⟨a, rfl, _, e, rfl, rfl⟩, fun b e => by cases e; obtain ⟨o, ho, _⟩ := id p; exact Heap.lt_size ho⟩
  | s =>
    obtain ⟨x, rfl, rfl⟩ := hz
    obtain ⟨t, rfl⟩ := ru
    exact ⟨_, _, begins_text x t, trivial, fun h it e => ⟨x, t, rfl, _, e, rfl, rfl⟩, fun b e => by cases e⟩
end
/-- the items as they stand at each turn, in new pairs -/
def ItZ (K : PySem.W.Frag) (k1 k2 : ZK) (v1 v2 : V) : It :=
  ⟨fun i H => ∃ xs ys x y, ZItems K H k1 v1 xs ∧ ZItems K H k2 v2 ys ∧ xs[i]? = some x ∧ ys[i]? = some y,
    fun i H v H' => ∃ T x y, v = .ref T ∧ H T = none ∧ H' = upd H T (.tup [x, y]) ∧ (∀ xs, ZItems K H k1 v1 xs → xs[i]? = some x) ∧ ∀ ys, ZItems K H k2 v2 ys → ys[i]? = some y,
    fun i H => ∃ xs ys, ZItems K H k1 v1 xs ∧ ZItems K H k2 v2 ys ∧ i ≤ xs.length ∧ i ≤ ys.length ∧ (i = xs.length ∨ i = ys.length)⟩
theorem turn_zipM {P : Program} {w : World} {K : PySem.W.Frag} {elts : List Expr} {kk : Nat} {tpos : Pos} {k1 k2 : ZK} {v1 v2 : V} {u1 u2 : Value} (N : Nat) (ru1 : RelV v1 u1) (ru2 : RelV v2 u2) (hl1 : ∀ b, u1 = .ref b → b < N) (hl2 : ∀ b, u2 = .ref b → b < N) :
    Turn P w K (.Tuple elts kk tpos) (ItZ K k1 k2 v1 v2) [N + 4, N + 2, N + 3, N, N + 1] (N + 4) (fun i h => IsZip h (N + 4) (N + 2) (N + 3) .none ∧ IsTupOf2 h (N + 2) (.ref N) (.ref (N + 1)) ∧ (∃ x y, IsTupOf2 h (N + 3) x y) ∧ ZIt h N k1 u1 i ∧ ZIt h (N + 1) k2 u2 i) where
  mem := by simp
  obj := fun i h st c hc => by
    obtain ⟨hz, hTI, ⟨x, y, hTO⟩, h1, h2⟩ := st
    obtain ⟨o1, f1, e1, d1⟩ := h1.obj
    obtain ⟨o2, f2, e2, d2⟩ := h2.obj
    have e' : c = N + 4 ∨ c = N + 2 ∨ c = N + 3 ∨ c = N ∨ c = N + 1 := by simpa using hc
    rcases e' with q | q | q | q | q
    · rw [q]; exact ⟨_, hz, fun v q => nomatch q⟩
    · rw [q]; exact ⟨_, hTI, fun v q => nomatch q⟩
    · rw [q]; exact ⟨_, hTO, fun v q => nomatch q⟩
    · rw [q]; exact ⟨o1, e1, fun v q => by rw [d1] at q; cases q⟩
    · rw [q]; exact ⟨o2, e2, fun v q => by rw [d2] at q; cases q⟩
  keep := fun i h h' st k => by
    obtain ⟨hz, hTI, ⟨x, y, hTO⟩, h1, h2⟩ := st
    exact ⟨k _ (by simp) _ hz, k _ (by simp) _ hTI, ⟨x, y, k _ (by simp) _ hTO⟩, h1.at fun o q => k N (by simp) o q, h2.at fun o q => k (N + 1) (by simp) o q⟩
  item := by
    intro X hP hw hK hc i pins s σ H E I hf st hg
    subst hP hw hK
    obtain ⟨hz, hTI, ⟨x0, y0, hTO⟩, h1, h2⟩ := st
    obtain ⟨xs, ys, x, y, hqx, hqy, hx, hy⟩ := hg
    have hh := I.ok.hd hc
    obtain ⟨r1, P1, S1, D1, f1, a1, b1, c1⟩ := zdraws I ru1 hqx (it := N) (fun b e => Nat.ne_of_lt (hl1 b e)) hh
    obtain ⟨r2, P2, S2, D2, f2, a2, b2, c2⟩ := zdraws I ru2 hqy (it := N + 1) (fun b e => Nat.ne_of_lt (Nat.lt_succ_of_lt (hl2 b e))) hh
    have hi1 : i < xs.length := (List.getElem?_eq_some_iff.mp hx).1
    have hi2 : i < ys.length := (List.getElem?_eq_some_iff.mp hy).1
    have S := zip_sep2 (N := N) (fp1 := r1) (fp2 := r2) (fun b hb => hl1 b (f1 b hb)) (fun b hb => hl2 b (f2 b hb))
    have hzl : (N + 4 : Nat) < s.heap.objs.size := Heap.lt_size hz
    refine wpAny_pyNext_zipD2_item S D1 D2 hz hTI hTO (a1 i h1) (a2 i h2) hi1 hi2 fun x1 x2 h' tk p1 p2 z' TO' h1' h2' hT hsz hk => ?_
    have ru := c1 i x1 p1 x hx
    have ru' := c2 i x2 p2 y hy
    refine ⟨_, rfl, wpAny_letOwnedTupleGo_zip (s := { s with heap := h', toks := tk }) z' fun h'' z'' sb => ?_⟩
    have hT2 : h''.get? s.heap.objs.size = some { cls := .type "tuple", data := .seq #[x1, x2] } := (sb.2 _ (Nat.ne_of_gt hzl)).trans hT
    have new : ObjOk X.prog X.w (upd H s.heap.objs.size (.tup [x, y])) h'' s.heap.objs.size (.tup [x, y]) :=
      ⟨by show 2 ≤ sizeLine; decide, [x1, x2], .cons ru (.cons ru' .nil), ⟨_, hT2, rfl, _, rfl⟩⟩
    have I1 : Inv X pins σ (upd H s.heap.objs.size (.tup [x, y])) { s with heap := h'', toks := tk } :=
      I.turnedNew (ch := [N + 4, N + 2, N + 3, N, N + 1]) (fun c o hb q => (sb.2 c (fun q' => hb (by simp [q']))).trans (hk c o (fun q' => hb (by simp [q'])) (fun q' => hb (by simp [q'])) (fun q' => hb (by simp [q'])) (fun q' => hb (by simp [q'])) q)) hf (Nat.le_refl _) new
    refine ⟨.ref s.heap.objs.size, _, I1, rfl, ⟨_, x, y, rfl, I.hok.fresh (Nat.le_refl _), rfl, fun l hl => by rw [hl.inj I hqx]; exact hx, fun l hl => by rw [hl.inj I hqy]; exact hy⟩, ⟨z'', ?_, ⟨x1, x2, ?_⟩, ?_, ?_⟩, fun c hcm => ?_⟩
    · exact (sb.2 _ S.TIz).trans (hk _ _ S.TIz S.TITO S.TIi1 S.TIi2 hTI)
    · exact (sb.2 _ S.TOz).trans TO'
    · exact (b1 _ _ h1').at fun o q => (sb.2 _ (Ne.symm S.zi1)).trans q
    · exact (b2 _ _ h2').at fun o q => (sb.2 _ (Ne.symm S.zi2)).trans q
    · have hlt : c < s.heap.objs.size := by
        have e' : c = N + 4 ∨ c = N + 2 ∨ c = N + 3 ∨ c = N ∨ c = N + 1 := by simpa using hcm
        rcases e' with q | q | q | q | q
        · rw [q]; exact hzl
        · rw [q]; exact Heap.lt_size hTI
        · rw [q]; exact Heap.lt_size hTO
        · rw [q]; obtain ⟨_, _, e1, _⟩ := h1.obj; exact Heap.lt_size e1
        · rw [q]; obtain ⟨_, _, e1, _⟩ := h2.obj; exact Heap.lt_size e1
      rw [upd_ne (Nat.ne_of_lt hlt)]
      exact (hf c hcm).1
  done := by
    intro X hP hw hK hc i pins s σ H E I hf st hg
    subst hP hw hK
    obtain ⟨hz, hTI, ⟨x0, y0, hTO⟩, h1, h2⟩ := st
    obtain ⟨xs, ys, hqx, hqy, hi1, hi2, hend⟩ := hg
    have hh := I.ok.hd hc
    obtain ⟨r1, P1, S1, D1, f1, a1, b1, c1⟩ := zdraws I ru1 hqx (it := N) (fun b e => Nat.ne_of_lt (hl1 b e)) hh
    obtain ⟨r2, P2, S2, D2, f2, a2, b2, c2⟩ := zdraws I ru2 hqy (it := N + 1) (fun b e => Nat.ne_of_lt (Nat.lt_succ_of_lt (hl2 b e))) hh
    have S := zip_sep2 (N := N) (fp1 := r1) (fp2 := r2) (fun b hb => hl1 b (f1 b hb)) (fun b hb => hl2 b (f2 b hb))
    exact wpAny_pyNext_zipD2_end S D1 D2 hz hTI hTO (a1 i h1) (a2 i h2) hi1 hi2 hend fun h' tk hk => ⟨rfl, I.turnedL (t' := tk) (ch := [N + 4, N + 2, N + 3, N, N + 1]) (fun c o hb q =>
      hk c o (fun q' => hb (by simp [q'])) (fun q' => hb (by simp [q'])) (fun q' => hb (by simp [q'])) (fun q' => hb (by simp [q'])) q) hf⟩
  self := fun A i s Q E st h => wpAny_pyIter_zip st.1 h
def iZipM (K : PySem.W.Frag) (k1 k2 : ZK) (ta : TA) : TI := fun σ H R => ta σ H fun vs H1 => ∃ v1 v2 xs ys, vs = [v1, v2] ∧ ZItems K H1 k1 v1 xs ∧ ZItems K H1 k2 v2 ys ∧ R (ItZ K k1 k2 v1 v2) H1
theorem pi_zipM {X : Cx} {k1 k2 : ZK} {e e2 : Expr} {ta : TA} {p pos tpos : Pos} {elts : List Expr} {kk : Nat} (hg : Gl X "zip") (hm : X.mg "zip" = none) (ha : PA X [e, e2] ta)
    (hs : starEach [e, e2] X.env = (false, eval e X.env) :: starEach [e2] X.env := by rfl) (hpl : (backTo pos (starEach [e2] X.env)).any (·.1) = false := by rfl) :
    PI X (.Tuple elts kk tpos) (.Call (.Name "zip" p) [e, e2] [] pos) (iZipM X.K k1 k2 ta) := by
  refine ⟨fun pins s σ H R I h => ?_⟩
  refine Call_ (ld_blt I hg hm PyProof.Rows.boot_zip (PyProof.Rows.callWith_type1 (thn (ha.run pos pins s σ H _ I h) fun us s1 ⟨vs, H1, I1, r1, q1⟩ => ?_) hs hpl))
  obtain ⟨v1, v2, xs, ys, ex, hqx, hqy, q⟩ := q1
  subst ex
  cases r1 with
  | cons r rr =>
    cases rr with
    | cons r' rr =>
      cases rr
      have fresh5 : ∀ c, c ∈ [s1.heap.objs.size + 4, s1.heap.objs.size + 2, s1.heap.objs.size + 3, s1.heap.objs.size, s1.heap.objs.size + 1] → FpOk X pins H1 c := fun c hcm => by
        have e' : c = s1.heap.objs.size + 4 ∨ c = s1.heap.objs.size + 2 ∨ c = s1.heap.objs.size + 3 ∨ c = s1.heap.objs.size ∨ c = s1.heap.objs.size + 1 := by simpa using hcm
        have hle : s1.heap.objs.size ≤ c := by
          rcases e' with z | z | z | z | z
          · rw [z]; exact Nat.le_add_right _ _
          · rw [z]; exact Nat.le_add_right _ _
          · rw [z]; exact Nat.le_add_right _ _
          · rw [z]; exact Nat.le_refl _
          · rw [z]; exact Nat.le_add_right _ _
        exact I1.fpOk hle (I1.hok.fresh hle)
      obtain ⟨o1, H1c, B1, g1, z1, l1⟩ := zbegins I1 r hqx
      obtain ⟨o2, H2c, B2, g2, z2, l2⟩ := zbegins I1 r' hqy
      refine zip_begins2 B1 B2 g1 g2 fun h' hz hTI hTO e1 e2 hsz hk => wpAny_pyIter_zip hz ?_
      have I2 : Inv X pins σ H1 { s1 with heap := h' } := I1.kept (t' := s1.toks) hk
      exact ⟨s1.heap.objs.size + 4, [s1.heap.objs.size + 4, s1.heap.objs.size + 2, s1.heap.objs.size + 3, s1.heap.objs.size, s1.heap.objs.size + 1], _, _, H1, rfl, I2, turn_zipM s1.heap.objs.size r r' l1 l2, ⟨hz, hTI, ⟨_, _, hTO⟩, z1 _ _ e1, z2 _ _ e2⟩, fresh5, q⟩
end Hz
namespace Hz
open PySem L2 PySem.W PyProof.Rows
theorem pi_zipMK {X : Cx} {K : PySem.W.Frag} (hK : X.K = K) (k1 k2 : ZK) {e e2 : Expr} {ta : TA} {p pos tpos : Pos} {elts : List Expr} {kk : Nat} (hg : Gl X "zip") (hm : X.mg "zip" = none) (ha : PA X [e, e2] ta)
    (hs : starEach [e, e2] X.env = (false, eval e X.env) :: starEach [e2] X.env := by rfl) (hpl : (backTo pos (starEach [e2] X.env)).any (·.1) = false := by rfl) :
    PI X (.Tuple elts kk tpos) (.Call (.Name "zip" p) [e, e2] [] pos) (iZipM K k1 k2 ta) := by
  subst hK
  exact pi_zipM hg hm ha hs hpl
/-- data that is gone along -/
def SrcD (ρ : Rho) : ZK → T → List PyData → Prop
  | .l, t, ds => ∃ s ts, t.peek ρ = some s ∧ s.isL = true ∧ s.items = some ts ∧ ts.all T.copy = true ∧ T.pys ts = some ds
  | .t, t, ds => ∃ s ts, t.peek ρ = some s ∧ s.isL = false ∧ s.items = some ts ∧ ts.all T.copy = true ∧ T.pys ts = some ds
  | .s, t, ds => ∃ x : Str, t = .dat (.str x) ∧ ds = x.cps.toList.map (fun c => PyData.str ⟨#[c]⟩)
def iZpM (k1 k2 : ZK) (a b : WE) : WI := fun ρ Qx Q => a ρ Qx fun ta ρ1 => b ρ1 Qx fun tb ρ2 => settle tb ρ2 fun tb' ρ3 => settle ta ρ3 fun ta' ρ4 => ∃ d1 d2, SrcD ρ4 k1 ta' d1 ∧ SrcD ρ4 k2 tb' d2 ∧
  Q ⟨[tb', ta'], min d1.length d2.length, fun i => .dat (.tuple [d1.getD i .none, d2.getD i .none])⟩ ρ4
section
variable {K : PySem.W.Frag} {I : Sg} {E : XS} {ta tb tl : TE} {wa wb : WE}
theorem srcD_at {c : Ct} {ρ ρ' : Rho} {t : T} {tm : List T} {σ : L2.St} {v : V} {vs : List V} {F : Hp} {W : List Addr} {H : Hp} {kd : ZK} {ds : List PyData} (hz : t.noLz = true) (h : SrcD ρ' kd t ds) (r : R K I c ρ (t :: tm) σ (v :: vs) F W H) :
    ∃ xs, ZItems K H kd v xs ∧ xs.length = ds.length ∧ ∀ i x, xs[i]? = some x → Rep K F W H x (.dat (ds.getD i .none)) [] := by
  cases kd with
  | l =>
    obtain ⟨s, ts, hp, hL, hi, hc, hd⟩ := h
    obtain ⟨a, us, rfl, hl, h1, _, hat⟩ := seq_turn r (peek_noLz hz hp ρ) hi hc
    refine ⟨us, ⟨a, rfl, h1 hL⟩, ?_, fun i x hx => ?_⟩
    · have : ts.length = ds.length := by
        clear hat hl h1 hi hc hp
        induction ts generalizing ds with
        | nil => cases hd; rfl
        | cons t ts ih =>
          have h' : (match t.py, T.pys ts with | some d, some ds => some (d :: ds) | _, _ => none) = some ds := hd
          cases e1 : t.py with
          | none => rw [e1] at h'; cases h'
          | some d =>
            cases e2 : T.pys ts with
            | none => rw [e1, e2] at h'; cases h'
            | some dr => rw [e1, e2] at h'; cases h'; rw [List.length_cons, List.length_cons, ih e2]
      omega
    · have hlt : i < ts.length := by
        have := (List.getElem?_eq_some_iff.mp hx).1
        omega
      have hk : ts[i]? = some (ts[i]'hlt) := List.getElem?_eq_getElem hlt
      obtain ⟨d, hd1, hd2⟩ := pys_at hd hk
      rw [getD_of hd1]
      exact .dat (rep_py (.refl _) _ _ [] d (hat i x hx _ hk) (fun _ z => (nomatch z)) hd2)
  | t =>
    obtain ⟨s, ts, hp, hL, hi, hc, hd⟩ := h
    obtain ⟨a, us, rfl, hl, _, h1, hat⟩ := seq_turn r (peek_noLz hz hp ρ) hi hc
    refine ⟨us, ⟨a, rfl, h1 hL⟩, ?_, fun i x hx => ?_⟩
    · have : ts.length = ds.length := by
        clear hat hl h1 hi hc hp
        induction ts generalizing ds with
        | nil => cases hd; rfl
        | cons t ts ih =>
          have h' : (match t.py, T.pys ts with | some d, some ds => some (d :: ds) | _, _ => none) = some ds := hd
          cases e1 : t.py with
          | none => rw [e1] at h'; cases h'
          | some d =>
            cases e2 : T.pys ts with
            | none => rw [e1, e2] at h'; cases h'
            | some dr => rw [e1, e2] at h'; cases h'; rw [List.length_cons, List.length_cons, ih e2]
      omega
    · have hlt : i < ts.length := by
        have := (List.getElem?_eq_some_iff.mp hx).1
        omega
      have hk : ts[i]? = some (ts[i]'hlt) := List.getElem?_eq_getElem hlt
      obtain ⟨d, hd1, hd2⟩ := pys_at hd hk
      rw [getD_of hd1]
      exact .dat (rep_py (.refl _) _ _ [] d (hat i x hx _ hk) (fun _ z => (nomatch z)) hd2)
  | s =>
    obtain ⟨x, rfl, rfl⟩ := h
    have e := r.topDat
    cases e
    refine ⟨_, ⟨x, rfl, rfl⟩, by rw [List.length_map, List.length_map], fun i y hy => ?_⟩
    rw [List.getElem?_map] at hy
    cases hc : x.cps.toList[i]? with
    | none => rw [hc] at hy; cases hy
    | some c =>
      rw [hc] at hy
      cases hy
      rw [getD_of (x := PyData.str ⟨#[c]⟩) (by rw [List.getElem?_map, hc]; rfl)]
      exact .dat (.str _)
theorem ei_zipM (k1 k2 : ZK) (ha : EvW K I E ta wa) (hb : EvW K I E tb wb) : EvI K I E (iZipM K k1 k2 (tCons ta (tCons tb tNil))) (iZpM k1 k2 wa wb) := fun c ρ tm σ vs F W H r Qx Qs hx hw Rr k =>
  ha c ρ tm σ vs F W H r Qx _ hx hw _ fun tA ρ1 vA F1 W1 H1 r1 q1 => hb c ρ1 (tA :: tm) σ (vA :: vs) F1 W1 H1 r1 Qx _ hx q1 _ fun tB ρ2 vB F2 W2 H2 r2 q2 => by
    obtain ⟨tB', ρ3, r3, hzB, q3⟩ := r2.settle q2
    obtain ⟨tA', ρ4, r4, hzA, d1, d2, s1, s2, q⟩ := (R.mid (ts := [tB']) (us := [vB]) r3 rfl).settle q3
    have r5 : R K I c ρ4 (tB' :: tA' :: tm) σ (vB :: vA :: vs) F2 W2 H2 := R.mid (ts := [tA']) (us := [vA]) r4 rfl
    obtain ⟨ys, y1, y2, y3⟩ := srcD_at hzB s2 r5
    obtain ⟨xs, x1, x2, x3⟩ := srcD_at hzA s1 r5.drop
    refine ⟨vA, vB, xs, ys, rfl, x1, y1, k (ItZ K k1 k2 vA vB) ⟨[tB', tA'], min d1.length d2.length, fun i => .dat (.tuple [d1.getD i .none, d2.getD i .none])⟩ [vB, vA] ρ4 F2 W2 H2 r5 rfl ?_ ?_ (fun _ _ => rfl) q⟩
    · intro c ρ tm σ vs F W H r
      obtain ⟨ys, y1, y2, y3⟩ := srcD_at (tm := tA' :: tm) (vs := vA :: vs) hzB s2 r
      obtain ⟨xs, x1, x2, x3⟩ := srcD_at (tm := tm) (vs := vs) hzA s1 (R.drop (tm := tA' :: tm) (vs := vA :: vs) r)
      refine ⟨fun i hi' => ?_, xs, ys, x1, y1, by show min d1.length d2.length ≤ _; omega, by show min d1.length d2.length ≤ _; omega, by show min d1.length d2.length = _ ∨ min d1.length d2.length = _; omega⟩
      have hi2 : i < min d1.length d2.length := hi'
      have hlt : i < xs.length := by omega
      have hlt2 : i < ys.length := by omega
      refine ⟨⟨xs, ys, xs[i], ys[i], x1, y1, List.getElem?_eq_getElem hlt, List.getElem?_eq_getElem hlt2⟩, fun x H' y => ?_⟩
      obtain ⟨P, x0, y0, e1, e2, e3, e4, e5⟩ := y
      subst e1; subst e3
      exact R.newPair r (x3 i x0 (e4 xs x1)) (y3 i y0 (e5 ys y1)) e2
    · intro x hx
      rcases List.mem_cons.mp hx with rfl | hx
      · exact hzB
      · cases List.mem_singleton.mp hx
        exact hzA
end
end Hz
/-! Hz45: any data: what is asked of its kind. -/
namespace Hz
open PySem L2
/-- data that can be compared and shown -/
structure Gd (d : PyData) : Prop where
  lay : d.canLay0 = true
  shw : showB d = true
  dep : d.depth ≤ 20
structure Gds (ds : List PyData) : Prop where
  all : ∀ d ∈ ds, Gd d
theorem lay_all : ∀ {ds : List PyData}, PyData.canLayAll0 ds = true ↔ ∀ d ∈ ds, d.canLay0 = true
  | [] => ⟨fun _ d h => absurd h List.not_mem_nil, fun _ => rfl⟩
  | d :: ds => by
    show (d.canLay0 && PyData.canLayAll0 ds) = true ↔ _
    rw [Bool.and_eq_true, lay_all, List.forall_mem_cons]
theorem shw_all : ∀ {ds : List PyData}, showBs ds = true ↔ ∀ d ∈ ds, showB d = true
  | [] => ⟨fun _ d h => absurd h List.not_mem_nil, fun _ => rfl⟩
  | d :: ds => by
    show (showB d && showBs ds) = true ↔ _
    rw [Bool.and_eq_true, shw_all, List.forall_mem_cons]
theorem dep_all {k : Nat} : ∀ {ds : List PyData}, PyData.depthAll ds ≤ k ↔ ∀ d ∈ ds, d.depth ≤ k
  | [] => ⟨fun _ d h => absurd h List.not_mem_nil, fun _ => Nat.zero_le _⟩
  | d :: ds => by
    show max d.depth (PyData.depthAll ds) ≤ k ↔ _
    rw [Nat.max_le, dep_all, List.forall_mem_cons]
theorem Gd.tup {ds : List PyData} (h : Gd (.tuple ds)) : ∀ d ∈ ds, Gd d := fun d hd => by
  obtain ⟨h1, h2, h3⟩ := h
  have h3' : PyData.depthAll ds + 1 ≤ 20 := h3
  exact ⟨lay_all.mp h1 d hd, shw_all.mp h2 d hd, Nat.le_trans (dep_all.mp (Nat.le_refl _) d hd) (by omega)⟩
theorem Gd.lst {ds : List PyData} (h : Gd (.list ds)) : ∀ d ∈ ds, Gd d := fun d hd => by
  obtain ⟨h1, h2, h3⟩ := h
  have h3' : PyData.depthAll ds + 1 ≤ 20 := h3
  exact ⟨lay_all.mp h1 d hd, shw_all.mp h2 d hd, Nat.le_trans (dep_all.mp (Nat.le_refl _) d hd) (by omega)⟩
theorem Gd.shaped {d : PyData} (h : Gd d) : SeqAt.shaped d = true := shaped_of h.lay (Nat.le_trans h.dep (by decide))
theorem Gd.rok {d : PyData} (h : Gd d) (hc : cost d ≤ 16000000) : ReprOk d := reprOk h.shw hc (Nat.le_trans h.dep (by decide))
theorem Gd.dict {xs : List (PyData × PyData)} (h : Gd (.dict xs)) : False := by cases h.lay
def isIntD : PyData → Bool
  | .int _ => true
  | _ => false
def isBetD (lo hi : Int) : PyData → Bool
  | .int i => decide (lo ≤ i ∧ i ≤ hi)
  | _ => false
def isTupD (lo hi : Int) : PyData → Bool
  | .tuple ds => decide (lo ≤ ds.length ∧ (ds.length : Int) ≤ hi)
  | _ => false
def isWordD (ws : List Str) : PyData → Bool
  | .str x => decide (x ∈ ws)
  | _ => false
theorem any_str {ws : List Str} {x : Str} : ((ws.map PyData.str).any fun z => PyData.eqv z (.str x)) = decide (x ∈ ws) := by
  induction ws with
  | nil => rfl
  | cons w ws ih =>
    rw [List.map_cons, List.any_cons, ih]
    have e : PyData.eqv (.str w) (.str x) = decide (w = x) := by
      show (w == x) = _
      rw [Bool.beq_eq_decide_eq]
    rw [e]
    by_cases h : w = x
    · subst h
      simp
    · have h' : x ≠ w := fun z => h z.symm
      by_cases g : x ∈ ws <;> simp [h, h', g]
end Hz
/-! Hz46: values by name in another order than the parameters'. -/
namespace Hz
open PySem L2
def arr {α : Type} : List Nat → List α → List α
  | [], _ => []
  | i :: p, zs => (zs[i]?).toList ++ arr p zs
theorem arr_nil {α : Type} {zs : List α} : arr [] zs = [] := rfl
theorem arr_cons {α : Type} {i : Nat} {p : List Nat} {zs : List α} : arr (i :: p) zs = (zs[i]?).toList ++ arr p zs := rfl
theorem vals_at : ∀ {zs : List V} {ws : List Value} (i : Nat), Vals zs ws → Vals (zs[i]?).toList (ws[i]?).toList
  | _, _, _, .nil => .nil
  | _, _, 0, .cons r _ => .cons r .nil
  | _, _, i + 1, .cons _ h => vals_at i h
theorem vals_arr : ∀ (p : List Nat) {zs : List V} {ws : List Value}, Vals zs ws → Vals (arr p zs) (arr p ws)
  | [], _, _, _ => .nil
  | i :: p, _, _, h => vals_app (vals_at i h) (vals_arr p h)
theorem vals_appArr (p : List Nat) {vs zs : List V} {us ws : List Value} (h : Vals vs us) (g : Vals zs ws) : Vals (vs ++ arr p zs) (us ++ arr p ws) := vals_app h (vals_arr p g)
section
variable {P : V → T → List Addr → Prop}
theorem lst_perm : ∀ {p q : List Nat}, p.Perm q → ∀ {zs : List V} {ks : List T} {g : List Addr}, zs.length = ks.length → Lst P (arr p zs) (arr p ks) g → ∃ h, Lst P (arr q zs) (arr q ks) h ∧ g.Perm h := by
  intro p q pm
  induction pm with
  | nil => exact fun _ h => ⟨_, h, .refl _⟩
  | trans _ _ ih1 ih2 =>
    intro zs ks g hl h
    obtain ⟨h1, a1, b1⟩ := ih1 hl h
    obtain ⟨h2, a2, b2⟩ := ih2 hl a1
    exact ⟨h2, a2, b1.trans b2⟩
  | cons i _ ih =>
    intro zs ks g hl h
    have hl2 : ((zs[i]?).toList).length = ((ks[i]?).toList).length := by
      by_cases c : i < zs.length
      · rw [List.getElem?_eq_getElem c, List.getElem?_eq_getElem (by omega)]; rfl
      · rw [List.getElem?_eq_none (by omega), List.getElem?_eq_none (by omega)]; rfl
    obtain ⟨f1, f2, pf, h1, h2⟩ := Lst.cut (show Lst P ((zs[i]?).toList ++ arr _ zs) ((ks[i]?).toList ++ arr _ ks) g from h) hl2
    obtain ⟨f3, h3, p3⟩ := ih hl h2
    exact ⟨f1 ++ f3, h1.app h3, pf.trans (p3.append_left f1)⟩
  | swap i j p =>
    intro zs ks g hl h
    have hl2 : ∀ i, ((zs[i]?).toList).length = ((ks[i]?).toList).length := fun i => by
      by_cases c : i < zs.length
      · rw [List.getElem?_eq_getElem c, List.getElem?_eq_getElem (by omega)]; rfl
      · rw [List.getElem?_eq_none (by omega), List.getElem?_eq_none (by omega)]; rfl
    obtain ⟨f1, f2, pf, h1, h2⟩ := Lst.cut (show Lst P ((zs[j]?).toList ++ arr (i :: p) zs) ((ks[j]?).toList ++ arr (i :: p) ks) g from h) (hl2 j)
    obtain ⟨f3, f4, pf2, h3, h4⟩ := Lst.cut (show Lst P ((zs[i]?).toList ++ arr p zs) ((ks[i]?).toList ++ arr p ks) f2 from h2) (hl2 i)
    refine ⟨f3 ++ (f1 ++ f4), h3.app (h1.app h4), ?_⟩
    refine (pf.trans (pf2.append_left f1)).trans ?_
    rw [← List.append_assoc, ← List.append_assoc]
    exact List.perm_append_comm.append_right f4
theorem arr_range {α : Type} (zs : List α) : ∀ k, arr ((List.range zs.length).drop k) zs = zs.drop k := by
  intro k
  induction h : zs.length - k generalizing k with
  | zero =>
    rw [List.drop_eq_nil_of_le (by rw [List.length_range]; omega), List.drop_eq_nil_of_le (by omega)]
    rfl
  | succ n ih =>
    have hk : k < zs.length := by omega
    rw [List.drop_eq_getElem_cons (by rw [List.length_range]; exact hk), List.drop_eq_getElem_cons hk, List.getElem_range, arr_cons, ih (k + 1) (by omega), List.getElem?_eq_getElem hk]
    rfl
theorem mk_arr {n m : Nat} {p : List Nat} (hp : (List.range m).Perm p) : MkOk (fun us zs => us ++ arr p zs) n m := fun P us zs ts ks f g _ hm h1 h2 => by
  have hl := h2.len
  have e1 := arr_range zs 0
  have e2 := arr_range ks 0
  rw [List.drop_zero, List.drop_zero] at e1 e2
  rw [hm] at e1
  rw [← hl, hm] at e2
  have h2' : Lst P (arr (List.range m) zs) (arr (List.range m) ks) g := by rw [e1, e2]; exact h2
  obtain ⟨h, h3, p3⟩ := lst_perm hp hl h2'
  exact ⟨f ++ h, h1.app h3, p3.append_left f⟩
end
theorem zip_atL {β : Type} {g : β → PyData} {xs : List PyData} {ys : List β} {i : Nat} {x : PyData × β} (h : (xs.zip ys)[i]? = some x) : T.dat (.tuple [xs.getD i .none, (ys.map g).getD i .none]) = T.dat (.tuple [x.1, g x.2]) := by
  rw [List.getElem?_zip_eq_some] at h
  rw [getD_of h.1, getD_map h.2]
theorem zip_at2 {α β : Type} {f : α → PyData} {g : β → PyData} {xs : List α} {ys : List β} {i : Nat} {x : α × β} (h : (xs.zip ys)[i]? = some x) : T.dat (.tuple [(xs.map f).getD i .none, (ys.map g).getD i .none]) = T.dat (.tuple [f x.1, g x.2]) := by
  rw [List.getElem?_zip_eq_some] at h
  rw [getD_map h.1, getD_map h.2]
theorem any_int {r : List Int} {i : Int} : ((r.map PyData.int).any fun z => PyData.eqv z (.int i)) = decide (i ∈ r) := by
  induction r with
  | nil => rfl
  | cons w ws ih =>
    rw [List.map_cons, List.any_cons, ih, eqv_int]
    by_cases h : w = i
    · subst h
      simp
    · have h' : i ≠ w := fun z => h z.symm
      by_cases g : i ∈ ws <;> simp [h, h', g]
theorem srcT_dat {ρ : Rho} {ds : List PyData} : SrcD ρ .t (.dat (.tuple ds)) ds := ⟨.dat (.tuple ds), ds.map T.dat, rfl, rfl, rfl, List.all_eq_true.mpr fun x hx => by
  obtain ⟨_, _, rfl⟩ := List.mem_map.mp hx
  rfl, pys_datsL ds⟩
theorem srcL_dat {ρ : Rho} {ds : List PyData} : SrcD ρ .l (.dat (.list ds)) ds := ⟨.dat (.list ds), ds.map T.dat, rfl, rfl, rfl, List.all_eq_true.mpr fun x hx => by
  obtain ⟨_, _, rfl⟩ := List.mem_map.mp hx
  rfl, pys_datsL ds⟩
theorem srcL_map {α : Type} {f : α → PyData} {xs : List α} {ρ : Rho} {j : Nat} {p : List Stp} {v : V} : SrcD ρ .l (.bor j p v (.lst (xs.map fun x => T.dat (f x)))) (xs.map f) := ⟨_, _, rfl, rfl, rfl, List.all_eq_true.mpr fun x hx => by
  obtain ⟨_, _, rfl⟩ := List.mem_map.mp hx
  rfl, by rw [← pys_datsL, List.map_map]; rfl⟩
theorem srcL_lst {α : Type} {f : α → PyData} {xs : List α} {ρ : Rho} : SrcD ρ .l (.lst (xs.map fun x => T.dat (f x))) (xs.map f) := ⟨_, _, rfl, rfl, rfl, List.all_eq_true.mpr fun x hx => by
  obtain ⟨_, _, rfl⟩ := List.mem_map.mp hx
  rfl, by rw [← pys_datsL, List.map_map]; rfl⟩
theorem sBools_map {α : Type} {g : List Bool → Bool} {f : α → Bool} {xs : List α} {ρ : Rho} {Q : T → Rho → Prop} (q : Q (tBo (g (xs.map f))) ρ) : sBools g (.lst (xs.map fun x => tBo (f x))) ρ Q := by
  refine ⟨_, _, xs.map f, rfl, rfl, rfl, ?_, ?_, q⟩
  · exact List.all_eq_true.mpr fun x hx => by
      obtain ⟨_, _, rfl⟩ := List.mem_map.mp hx
      rfl
  · rw [show (xs.map fun x => tBo (f x)) = ((xs.map f).map PyData.bool).map T.dat from by simp only [List.map_map]; rfl, pys_datsL]
end Hz
/-! Hz47: what is shown of ints, and of None and truth values beside them. -/
namespace Hz
open PySem
theorem ofString_inj {a b : String} (h : Str.ofString a = Str.ofString b) : a = b := by
  rw [Str.ofString_eq_toList, Str.ofString_eq_toList] at h
  have h1 : (a.toList.map Char.toNat) = (b.toList.map Char.toNat) := by
    have := congrArg (fun x : Str => x.cps.toList) h
    simpa using this
  have h2 : a.toList = b.toList := by
    refine List.map_inj_right (fun x y e => ?_) |>.mp h1
    exact Char.ext (UInt32.toNat_inj.mp e)
  exact String.toList_inj.mp h2
theorem shown_int_inj {i p : Int} (h : (PyData.int i).shown = (PyData.int p).shown) : i = p := Int.repr_injective (ofString_inj h)
theorem shown_none_int {p : Int} : (PyData.none).shown ≠ (PyData.int p).shown := fun h => by
  have h1 : 111 ∈ (PyData.none).shown.cps.toList := (PyProof.Rows.mem_shown_none 111).mpr (by decide)
  rw [h] at h1
  exact PyProof.Rows.int_text_free' 111 ⟨by decide, by decide⟩ p h1
theorem shown_bool_int {b : Bool} {p : Int} : (PyData.bool b).shown ≠ (PyData.int p).shown := fun h => by
  have h1 : 101 ∈ (PyData.bool b).shown.cps.toList := (PyProof.Rows.mem_shown_bool 101 b).mpr (by cases b <;> decide)
  rw [h] at h1
  exact PyProof.Rows.int_text_free' 101 ⟨by decide, by decide⟩ p h1
/-- None, a truth value, a small int -/
inductive Sm : PyData → Prop
  | non : Sm .none
  | bl (b : Bool) : Sm (.bool b)
  | int (i : Int) (h : i.natAbs < 2 ^ 40) : Sm (.int i)
theorem Sm.gd {d : PyData} (h : Sm d) : Gd d := by
  cases h with
  | non => exact ⟨rfl, rfl, Nat.zero_le _⟩
  | bl b => exact ⟨rfl, rfl, Nat.zero_le _⟩
  | int i h => exact ⟨rfl, (small_int h).1, Nat.zero_le _⟩
theorem Sm.bd {d : PyData} (h : Sm d) : Bd 44 0 d := by
  cases h with
  | non => exact ⟨rfl, by decide, Nat.le_refl _⟩
  | bl b => exact ⟨rfl, by show 5 ≤ 44; decide, Nat.le_refl _⟩
  | int i h => exact bd_int h
theorem Sm.shown {d : PyData} (h : Sm d) (p : Int) : decide (d.shown = (PyData.int p).shown) = isBetD p p d := by
  cases h with
  | non => exact decide_eq_false shown_none_int
  | bl b => exact decide_eq_false shown_bool_int
  | int i h =>
    show _ = decide (p ≤ i ∧ i ≤ p)
    rw [decide_eq_decide]
    refine ⟨fun e => ?_, fun e => ?_⟩
    · have := shown_int_inj e
      omega
    · rw [show i = p by omega]
section
open L2
variable {wg : WG} {wt : WT} {we : WE} {wv : List Nat} {Qx : Hz.WX} {ρ0 : Rho} {n : Nat} {it : Nat → T} {Fin : List T → Rho → Prop}
/-- a comprehension by what holds of its items so far -/
theorem lcP (P : Nat → List T → Prop) (h0 : P 0 []) (hz : ∀ i acc, i < n → P i acc → acc.length < 1000000)
    (step : ∀ i acc, i < n → P i acc → ∀ (q : Prop) (kk : Option T → Rho → Prop), q → (∀ t, P (i + 1) (acc ++ [t]) → kk (some t) ρ0) → (P (i + 1) acc → kk none ρ0) →
      wg (it i) ρ0 Qx fun ρ3 => wt ρ3 Qx fun b ρ4 => if b = true then we ρ4 Qx fun t ρ5 => ∃ s ρ6, t.opn ρ5 = some (s, ρ6) ∧ q ∧ kk (some s) (wipeR ρ6 wv) else kk none (wipeR ρ4 wv))
    (fin : ∀ acc, P n acc → Fin acc ρ0) :
    Inv1 fun Iv : Nat → List T → Rho → Prop => Iv 0 [] ρ0 ∧ (∀ i acc ρ2, i < n → Iv i acc ρ2 → wg (it i) ρ2 Qx fun ρ3 => wt ρ3 Qx fun b ρ4 => if b = true then we ρ4 Qx fun t ρ5 => ∃ s ρ6, t.opn ρ5 = some (s, ρ6) ∧ acc.length < 1000000 ∧ Iv (i + 1) (acc ++ [s]) (wipeR ρ6 wv) else Iv (i + 1) acc (wipeR ρ4 wv)) ∧ ∀ acc ρ2, Iv n acc ρ2 → Fin acc ρ2 := by
  refine ⟨fun i acc ρ => P i acc ∧ ρ = ρ0, ⟨h0, rfl⟩, ?_, ?_⟩
  · rintro i acc ρ hi ⟨hp, rfl⟩
    exact step i acc hi hp _ (fun o ρ' => match o with | some s => P (i + 1) (acc ++ [s]) ∧ ρ' = ρ | none => P (i + 1) acc ∧ ρ' = ρ) (hz i acc hi hp) (fun t ht => ⟨ht, rfl⟩) (fun h => ⟨h, rfl⟩)
  · rintro acc ρ ⟨hp, rfl⟩
    exact fin acc hp
end
end Hz
/-! Hz48: dict comprehensions by trees; divmod. -/
namespace Hz
open PySem L2 PyProof.Rows
/-- {tk: te for .. in .. if tt}: keys ints or texts, what stands there data -/
def wDc (wi : WI) (g : WG) (tt : WT) (tk te : WE) (wv : List Nat) : WE := fun ρ Qx Q => wi ρ Qx fun src ρ1 => Inv1 fun Iv : Nat → DKv → Rho → Prop => Iv 0 [] (wipeR ρ1 wv) ∧
  (∀ i acc ρ2, i < src.n → Iv i acc ρ2 → g (src.it i) ρ2 Qx fun ρ3 => tt ρ3 Qx fun b ρ4 => if b = true then tk ρ4 Qx fun t ρ5 => (wFz te) ρ5 Qx fun u ρ6 => ∃ d k e, t = .dat d ∧ keyOf d = some k ∧ u = .dat e ∧ acc.length < 1000000 ∧ Iv (i + 1) (putA acc k e) (wipeR ρ6 wv) else Iv (i + 1) acc (wipeR ρ4 wv)) ∧
  ∀ acc ρ2, Iv src.n acc ρ2 → Q (dicD acc) (dropsT src.tmp ρ2)
section
variable {K : PySem.W.Frag} {I : Sg} {E : XS}
theorem ev_dc {as wv : List Nat} {wi : L2.TI} {ww : WI} {g : TG} {wg : WG} {tt : TT} {wt : WT} {tk te : TE} {wk we : WE} (hp : ∀ i ∈ wv, i ∉ I.prot) (has : ∀ i ∈ as, i ∈ wv) (hi : EvI K I E wi ww) (hg : GvW K I E as g wg) (ht : EvT K I E tt wt) (hk : EvW K I E tk wk) (he : EvW K I E te we) :
    EvW K I E (tDc wi g tt tk te wv) (wDc ww wg wt wk we wv) := fun c ρ tm σ vs F W H r Qx Qv hx q Q k => by
  obtain ⟨tm', hz, r', back⟩ := r.unLz
  refine hi c ρ tm' σ vs F W H r' Qx _ hx q _ fun J src xs ρ1 F1 W1 H1 r1 hl hs hn hr ⟨Iv, i0, it, iE⟩ => ?_
  intro D hD
  have hz' : ∀ x ∈ src.tmp ++ tm', x.noLz = true := fun x hx => (List.mem_append.mp hx).elim (hn x) (hz x)
  have r2 := (R.wipe r1 hz' hp).newDic .nil hD
  refine ⟨fun i m H => m = src.n - i ∧ i ≤ src.n ∧ ∃ ρ F W acc, R K I c ρ (dicD acc :: (src.tmp ++ tm')) (L2.wipe σ wv) (.ref D :: (xs ++ vs)) F W H ∧ (∀ j ∈ wv, (ρ[j]?).join = none) ∧ Iv i acc ρ,
    ⟨src.n, by omega, Nat.zero_le _, _, F1, W1, [], r2, fun j hj => wipeR_none hj, i0⟩, ?_⟩
  rintro i m H2 ⟨rfl, hle, ρ2, F2, W2, acc, r3, hw, iv⟩
  have r4 := R.unmid (ts := src.tmp) (us := xs) r3 hl
  obtain ⟨turns, stop⟩ := hs c ρ2 (dicD acc :: tm') (L2.wipe σ wv) (.ref D :: vs) F2 W2 H2 r4
  by_cases hlt : i < src.n
  · obtain ⟨go, yld⟩ := turns i hlt
    have next : ∀ {ρ5 : Rho} {acc' : DKv} {σ5 : L2.St} {F5 : Hp} {W5 : List Addr} {H5 : Hp}, R K I c ρ5 (dicD acc' :: (src.tmp ++ tm')) σ5 (.ref D :: (xs ++ vs)) F5 W5 H5 → L2.wipe σ5 wv = L2.wipe σ wv → Iv (i + 1) acc' (wipeR ρ5 wv) →
        ∃ ρ F W acc, R K I c ρ (dicD acc :: (src.tmp ++ tm')) (L2.wipe σ wv) (.ref D :: (xs ++ vs)) F W H5 ∧ (∀ j ∈ wv, (ρ[j]?).join = none) ∧ Iv (i + 1) acc ρ := fun {ρ5 acc' σ5 F5 W5 H5} r5 e5 q5 => by
      have r6 := R.wipe r5 (fun x hx => (List.mem_cons.mp hx).elim (fun e => by rw [e]; rfl) (hz' x)) hp
      rw [e5] at r6
      exact ⟨_, F5, W5, acc', r6, fun j hj => wipeR_none hj, q5⟩
    refine .inr ⟨go, fun H => ∃ ρ F W acc, R K I c ρ (dicD acc :: (src.tmp ++ tm')) (L2.wipe σ wv) (.ref D :: (xs ++ vs)) F W H ∧ (∀ j ∈ wv, (ρ[j]?).join = none) ∧ Iv (i + 1) acc ρ, fun H' h => ⟨src.n - (i + 1), by omega, rfl, hlt, h⟩, fun x H' y => ?_⟩
    obtain ⟨F3, r5⟩ := yld x H' y
    have hzz : ∀ x ∈ src.tmp ++ dicD acc :: tm', x.noLz = true := fun x hx => by
      rcases List.mem_append.mp hx with hx | hx
      · exact hn x hx
      · rcases List.mem_cons.mp hx with rfl | hx
        · rfl
        · exact hz x hx
    refine hg c ρ2 (src.it i) (src.tmp ++ dicD acc :: tm') (L2.wipe σ wv) x (xs ++ .ref D :: vs) F3 W2 H' r5 (hr i hlt) hzz Qx _ _ hx (fun ρ4 σ4 F4 W4 H4 r6 sb q4 => ?_) (it i acc ρ2 hlt iv)
    have ew := wipe_same sb has
    refine ⟨ew, ht c ρ4 _ σ4 _ F4 W4 H4 r6 Qx _ hx q4 _ fun b ρ5 F5 W5 H5 r7 q5 => ?_⟩
    cases b with
    | false => exact next (R.mid r7 hl) ew q5
    | true =>
      refine hk c ρ5 _ σ4 _ F5 W5 H5 r7 Qx _ hx q5 _ fun t ρ6 v F6 W6 H6 r8 q6 => ev_fz he c ρ6 _ σ4 _ F6 W6 H6 r8 Qx _ hx q6 _ fun u ρ7 z F7 W7 H7 r9 ⟨d, k, e, et, hk, eu, hla, q7⟩ => ?_
      subst et; subst eu
      have ey := key_dp (R.drop r9).topDat hk
      subst ey
      have dz := r9.topDat
      have r10 := R.mid (R.drop (R.drop r9)) hl
      obtain ⟨a, ys, e', hH, hx', hm⟩ := R.modDic r10
      cases e'
      exact ⟨ys, k, rfl, hH, Nat.lt_of_lt_of_le (by rw [hx'.len]; exact hla) (line_of (n := 1000000) (Nat.le_refl _)), next (hm (hx'.put (k := k) dz)) ew q7⟩
  · have e : i = src.n := by omega
    subst e
    refine .inl ⟨stop, ?_⟩
    have r5 := R.unwipe r3 (fun x hx => (List.mem_cons.mp hx).elim (fun e => by rw [e]; rfl) (hz' x)) hp hw
    have r6 := R.drops (ts := src.tmp) (us := xs) (tm := dicD acc :: tm') (vs := .ref D :: vs) (R.unmid r5 hl) hl
    exact k _ _ _ _ _ _ (back r6) (iE acc ρ2 iv)
/-- divmod of ints -/
def sDivmod : S2 := fun t u ρ Q => ∃ i j, t = tI i ∧ u = tI j ∧ CDiv i j ∧ Q (.dat (.tuple [.int (i / j), .int (i % j)])) ρ
theorem op_divmod : Op2 K I (fun v w H Q => ∃ i j, [v, w] = [.int i, .int j] ∧ CDiv i j ∧ ∀ p, H p = none → Q (.ref p) (upd H p (.tup [.int (i / j), .int (i % j)]))) sDivmod := fun c ρ t u tm σ v w vs F W H r Qv ⟨i, j, e1, e2, hc, q⟩ Q kk => by
  subst e1; subst e2
  have d := r.topDat
  have d' := r.drop.topDat
  cases d
  cases d'
  refine ⟨i, j, rfl, hc, fun p hp => ?_⟩
  obtain ⟨F3, r3⟩ := R.newPair (r.drop.drop) (.dat (.int (i / j))) (.dat (.int (i % j))) hp
  exact kk _ _ _ _ _ _ r3 q
end
theorem sw_trueD {kx vx : Expr} {gs : List Comprehension} {scope : Scope} {pos py : Pos} {y : Str} {l : Nat} {env : Env} (hk : env.scope.kind = .function) (hy : env.scope.names.lookup y = some .local) (hl : (py.line == pos.line) = true)
    (ha : (scope.names.any fun (n, k) => n == y && (k == .local || k == .cell)) = false) : swapsWith (.DictComp kx vx gs scope pos) (some (.Name y py)) l env = pure true := by
  have ky : env.kindOf y = some .local := hy
  have hb : env.blockKind = .function := by unfold Env.blockKind; rw [hk]; rfl
  unfold swapsWith
  simp only [hb, ky, ha, Expr.pos, hl]
  rfl
section
variable {X : Cx}
theorem ps_setDc {i : Nat} {y : Str} {py : Pos} {kx vx tg iter : Expr} {ifs : List Expr} {scope : Scope} {own : List (Str × Nat)} {pos spos : Pos} {wi : L2.TI} {g : TG} {tt : TT} {tk tv : TE} (hc : X.calm = true) (hN : X.N.Nodup) (hy : X.N[i]? = some y) (hyl : X.env.scope.names.lookup y = some .local)
    (hsw : swapsWith (.DictComp kx vx [⟨tg, iter, ifs, 0⟩] scope pos) (some (.Name y py)) spos.line X.env = pure true) (hi : PI X tg iter wi) (ok : BlkOk X.N X.env.scope scope own)
    (hg : ∀ (s : Shared) (H : Hp) (C : Addr) (cl : List (Str × Addr)) (fp : List Addr), PG (X.blk s H scope (compEnvC scope cl C X.env) fp) tg g) (ht : ∀ (s : Shared) (H : Hp) (C : Addr) (cl : List (Str × Addr)) (fp : List Addr), PTs (X.blk s H scope (compEnvC scope cl C X.env) fp) ifs tt)
    (hk : ∀ (s : Shared) (H : Hp) (C : Addr) (cl : List (Str × Addr)) (fp : List Addr), PE (X.blk s H scope (compEnvC scope cl C X.env) fp) kx tk)
    (he : ∀ (s : Shared) (H : Hp) (C : Addr) (cl : List (Str × Addr)) (fp : List Addr), PE (X.blk s H scope (compEnvC scope cl C X.env) fp) vx tv) (hs : ∀ x, foldedSetIterable iter X.env x = pure x := by intro _; rfl) :
    PS X (.Assign [.Name y py] (.DictComp kx vx [⟨tg, iter, ifs, 0⟩] scope pos) spos) (tAsg (tDc wi g tt tk tv (own.map (·.2))) (gName i)) := by
  refine ⟨fun pins s σ H D I h => ?_⟩
  rw [exec_Assign_Name_used _ _ _ _ hsw]
  refine wpAny_bind (wpAny_standAt (wpAny_bind ?_))
  show wpAny _ X.A (do let _ ← comprehension (.DictComp kx vx [⟨tg, iter, ifs, 0⟩] scope pos) scope X.env (firstIterPos [⟨tg, iter, ifs, 0⟩] pos) newDict false (eval iter X.env) (some (assign (.Name y py) X.env))) _ _ s
  have h : tDc wi g tt tk tv (own.map (·.2)) σ H (fun x H1 => gName i x σ H1 D.nx) := h
  refine wpAny_bind (thn (dc_core (Qf := fun _ s' => SP X pins D .next s') hc hN I hi ok hg ht hk he hs h fun L C s' m H' I' q hn f => ?_) fun _ s' hq => wpAny_pure (wpAny_pure hq))
  show wpAny _ _ (assign (.Name y py) X.env (.ref L)) _ _ _
  refine wpAny_assign_Name (store_ok2 (v := V.ref L) I' hN hy (.inl hyl) rfl (fun s2 I2 ⟨a, sb, ha⟩ => ?_) (.inr hyl))
  obtain ⟨f0, f1, f2, f3, f4, f5⟩ := f
  have haC : C ≠ a := by
    rcases ha with z | z
    · rw [z]; exact f1
    · exact fun e => f4 y a z e.symm
  refine ⟨m, hn.sameBut sb haC, fun h3 sb3 => ?_⟩
  exact ⟨_, H', I2.turned (t' := s2.toks) (fun b o hb e => (sb3.2 b hb).trans e) f0 f1 f3 f4 f5, q⟩
end
/-- xs * n -/
def sMulL : S2 := fun t u ρ Q => ∃ ts n, t.peek ρ = some (.lst ts) ∧ u = tI n ∧ ts.all T.copy = true ∧ ts.length * n.toNat ≤ 1000000 ∧ -1000000 ≤ n ∧ n ≤ 1000000 ∧ Q (.lst (List.replicate n.toNat ts).flatten) (t.drop ρ)
theorem lst_rep {P : V → T → List Addr → Prop} {xs : List V} {ys : List T} (h : Lst P xs ys []) : ∀ n : Nat, Lst P (List.replicate n xs).flatten (List.replicate n ys).flatten []
  | 0 => .nil
  | n + 1 => by
    rw [List.replicate_succ, List.replicate_succ, List.flatten_cons, List.flatten_cons]
    exact h.app (lst_rep h n)
theorem op_repL {K : PySem.W.Frag} {I : Sg} : Op2 K I L2.rRep sMulL := fun c ρ t u tm σ v w vs F W H r Qv ⟨ts, n, hp, e, hc, hz, h1, h2, q⟩ Q kk => by
  subst e
  have d := r.topDat
  cases d
  obtain ⟨f, hr1, _⟩ := r.drop.peek hp
  cases hr1 with
  | lst a1 a2 p1 =>
    rename_i a xs fps
    have e1 := repA_len a2
    have big := big62
    refine ⟨a, n, xs, rfl, rfl, a1, by omega, by omega, line_of (by rw [e1]; exact hz), fun p hp => kk _ _ _ _ _ _ (r.drop.dropT.newLstC ?_ hp) q⟩
    have k1 := repA_iff.mp (repA_copy (F' := F) (W' := W) (H' := H) (.refl _) (fun _ z => z) a2 hc)
    exact repA_iff.mpr (lst_rep k1 _)
/-- [te for .. in .. if tt for .. in .. if tt1] -/
def wLc2 (wi : WI) (g : WG) (tt : WT) (wi1 : WI) (g1 : WG) (tt1 : WT) (te : WE) (wv wv1 : List Nat) : WE := fun ρ Qx Q => wi ρ Qx fun src ρ1 => Inv1 fun Iv : Nat → List T → Rho → Prop => Iv 0 [] (wipeR ρ1 wv) ∧
  (∀ i acc ρ2, i < src.n → Iv i acc ρ2 → g (src.it i) ρ2 Qx fun ρ3 => tt ρ3 Qx fun b ρ4 => if b = true then wi1 ρ4 Qx fun src1 ρ5 => Inv1 fun Jv : Nat → List T → Rho → Prop => Jv 0 acc (wipeR ρ5 wv1) ∧
    (∀ j acc' ρ6, j < src1.n → Jv j acc' ρ6 → g1 (src1.it j) ρ6 Qx fun ρ7 => tt1 ρ7 Qx fun b ρ8 => if b = true then te ρ8 Qx fun t ρ9 => ∃ s ρ10, t.opn ρ9 = some (s, ρ10) ∧ acc'.length < 1000000 ∧ Jv (j + 1) (acc' ++ [s]) (wipeR ρ10 wv1) else Jv (j + 1) acc' (wipeR ρ8 wv1)) ∧
    ∀ acc' ρ6, Jv src1.n acc' ρ6 → Iv (i + 1) acc' (wipeR (dropsT src1.tmp ρ6) wv)
   else Iv (i + 1) acc (wipeR ρ4 wv)) ∧
  ∀ acc ρ2, Iv src.n acc ρ2 → Q (.lst acc) (dropsT src.tmp ρ2)
section
variable {K : PySem.W.Frag} {I : Sg} {E : XS}
theorem ev_lc2 {as as1 wv wv1 : List Nat} {wi wi1 : L2.TI} {ww ww1 : WI} {g g1 : TG} {wg wg1 : WG} {tt tt1 : TT} {wt wt1 : WT} {te : TE} {we : WE} (hp : ∀ i ∈ wv, i ∉ I.prot) (has : ∀ i ∈ as, i ∈ wv) (hp1 : ∀ i ∈ wv1, i ∉ I.prot) (has1 : ∀ i ∈ as1, i ∈ wv1) (hsub : ∀ i ∈ wv1, i ∈ wv)
    (hi : EvI K I E wi ww) (hg : GvW K I E as g wg) (ht : EvT K I E tt wt) (hi1 : EvI K I E wi1 ww1) (hg1 : GvW K I E as1 g1 wg1) (ht1 : EvT K I E tt1 wt1) (he : EvW K I E te we) :
    EvW K I E (tLc2 wi g tt wi1 g1 tt1 te wv wv1) (wLc2 ww wg wt ww1 wg1 wt1 we wv wv1) := fun c ρ tm σ vs F W H r Qx Qv hx q Q k => by
  obtain ⟨tm', hz, r', back⟩ := r.unLz
  refine hi c ρ tm' σ vs F W H r' Qx _ hx q _ fun J src xs ρ1 F1 W1 H1 r1 hl hs hn hr ⟨Iv, i0, it, iE⟩ => ?_
  intro D hD
  have hz' : ∀ x ∈ src.tmp ++ tm', x.noLz = true := fun x hx => (List.mem_append.mp hx).elim (hn x) (hz x)
  have r2 := (R.wipe r1 hz' hp).newEmpty hD
  refine ⟨fun i m H => m = src.n - i ∧ i ≤ src.n ∧ ∃ ρ F W acc, R K I c ρ (.lst acc :: (src.tmp ++ tm')) (L2.wipe σ wv) (.ref D :: (xs ++ vs)) F W H ∧ (∀ j ∈ wv, (ρ[j]?).join = none) ∧ Iv i acc ρ,
    ⟨src.n, by omega, Nat.zero_le _, _, F1, W1, [], r2, fun j hj => wipeR_none hj, i0⟩, ?_⟩
  rintro i m H2 ⟨rfl, hle, ρ2, F2, W2, acc, r3, hw, iv⟩
  have r4 := R.unmid (ts := src.tmp) (us := xs) r3 hl
  obtain ⟨turns, stop⟩ := hs c ρ2 (.lst acc :: tm') (L2.wipe σ wv) (.ref D :: vs) F2 W2 H2 r4
  have hzc : ∀ acc : List T, ∀ x ∈ T.lst acc :: (src.tmp ++ tm'), x.noLz = true := fun acc x hx => (List.mem_cons.mp hx).elim (fun e => by rw [e]; rfl) (hz' x)
  by_cases hlt : i < src.n
  · obtain ⟨go, yld⟩ := turns i hlt
    have next : ∀ {ρ5 : Rho} {acc' : List T} {σ5 : L2.St} {F5 : Hp} {W5 : List Addr} {H5 : Hp}, R K I c ρ5 (.lst acc' :: (src.tmp ++ tm')) σ5 (.ref D :: (xs ++ vs)) F5 W5 H5 → L2.wipe σ5 wv = L2.wipe σ wv → Iv (i + 1) acc' (wipeR ρ5 wv) →
        ∃ ρ F W acc, R K I c ρ (.lst acc :: (src.tmp ++ tm')) (L2.wipe σ wv) (.ref D :: (xs ++ vs)) F W H5 ∧ (∀ j ∈ wv, (ρ[j]?).join = none) ∧ Iv (i + 1) acc ρ := fun {ρ5 acc' σ5 F5 W5 H5} r5 e5 q5 => by
      have r6 := R.wipe r5 (hzc acc') hp
      rw [e5] at r6
      exact ⟨_, F5, W5, acc', r6, fun j hj => wipeR_none hj, q5⟩
    refine .inr ⟨go, fun H => ∃ ρ F W acc, R K I c ρ (.lst acc :: (src.tmp ++ tm')) (L2.wipe σ wv) (.ref D :: (xs ++ vs)) F W H ∧ (∀ j ∈ wv, (ρ[j]?).join = none) ∧ Iv (i + 1) acc ρ, fun H' h => ⟨src.n - (i + 1), by omega, rfl, hlt, h⟩, fun x H' y => ?_⟩
    obtain ⟨F3, r5⟩ := yld x H' y
    have hzz : ∀ x ∈ src.tmp ++ .lst acc :: tm', x.noLz = true := fun x hx => by
      rcases List.mem_append.mp hx with hx | hx
      · exact hn x hx
      · rcases List.mem_cons.mp hx with rfl | hx
        · rfl
        · exact hz x hx
    refine hg c ρ2 (src.it i) (src.tmp ++ .lst acc :: tm') (L2.wipe σ wv) x (xs ++ .ref D :: vs) F3 W2 H' r5 (hr i hlt) hzz Qx _ _ hx (fun ρ4 σ4 F4 W4 H4 r6 sb q4 => ?_) (it i acc ρ2 hlt iv)
    have ew := wipe_same sb has
    refine ⟨ew, ht c ρ4 _ σ4 _ F4 W4 H4 r6 Qx _ hx q4 _ fun b ρ5 F5 W5 H5 r7 q5 => ?_⟩
    cases b with
    | false => exact next (R.mid r7 hl) ew q5
    | true =>
      -- the second for
      refine hi1 c ρ5 (.lst acc :: (src.tmp ++ tm')) σ4 (.ref D :: (xs ++ vs)) F5 W5 H5 (R.mid r7 hl) Qx _ hx q5 _ fun J1 src1 ys ρ6 F6 W6 H6 r8 hl1 hs1 hn1 hr1 ⟨Jv, j0, jt, jE⟩ => ?_
      have hz1 : ∀ acc : List T, ∀ x ∈ src1.tmp ++ T.lst acc :: (src.tmp ++ tm'), x.noLz = true := fun acc x hx => (List.mem_append.mp hx).elim (hn1 x) (hzc acc x)
      have r9 := R.wipe r8 (hz1 acc) hp1
      refine ⟨fun j m H => m = src1.n - j ∧ j ≤ src1.n ∧ ∃ ρ F W acc, R K I c ρ (src1.tmp ++ T.lst acc :: (src.tmp ++ tm')) (L2.wipe σ4 wv1) (ys ++ .ref D :: (xs ++ vs)) F W H ∧ (∀ j ∈ wv1, (ρ[j]?).join = none) ∧ Jv j acc ρ,
        ⟨src1.n, by omega, Nat.zero_le _, _, F6, W6, acc, r9, fun j hj => wipeR_none hj, j0⟩, ?_⟩
      rintro j m1 H7 ⟨rfl, hle1, ρ7, F7, W7, acc1, r10, hw1, jv⟩
      obtain ⟨turns1, stop1⟩ := hs1 c ρ7 (.lst acc1 :: (src.tmp ++ tm')) (L2.wipe σ4 wv1) (.ref D :: (xs ++ vs)) F7 W7 H7 r10
      by_cases hlt1 : j < src1.n
      · obtain ⟨go1, yld1⟩ := turns1 j hlt1
        have next1 : ∀ {ρ5 : Rho} {acc' : List T} {σ5 : L2.St} {F5 : Hp} {W5 : List Addr} {H5 : Hp}, R K I c ρ5 (src1.tmp ++ .lst acc' :: (src.tmp ++ tm')) σ5 (ys ++ .ref D :: (xs ++ vs)) F5 W5 H5 → L2.wipe σ5 wv1 = L2.wipe σ4 wv1 → Jv (j + 1) acc' (wipeR ρ5 wv1) →
            ∃ ρ F W acc, R K I c ρ (src1.tmp ++ .lst acc :: (src.tmp ++ tm')) (L2.wipe σ4 wv1) (ys ++ .ref D :: (xs ++ vs)) F W H5 ∧ (∀ j ∈ wv1, (ρ[j]?).join = none) ∧ Jv (j + 1) acc ρ := fun {ρ5 acc' σ5 F5 W5 H5} r5 e5 q5 => by
          have r6 := R.wipe r5 (hz1 acc') hp1
          rw [e5] at r6
          exact ⟨_, F5, W5, acc', r6, fun j hj => wipeR_none hj, q5⟩
        refine .inr ⟨go1, fun H => ∃ ρ F W acc, R K I c ρ (src1.tmp ++ .lst acc :: (src.tmp ++ tm')) (L2.wipe σ4 wv1) (ys ++ .ref D :: (xs ++ vs)) F W H ∧ (∀ j ∈ wv1, (ρ[j]?).join = none) ∧ Jv (j + 1) acc ρ, fun H' h => ⟨src1.n - (j + 1), by omega, rfl, hlt1, h⟩, fun x1 H8 y1 => ?_⟩
        obtain ⟨F8, r11⟩ := yld1 x1 H8 y1
        refine hg1 c ρ7 (src1.it j) (src1.tmp ++ .lst acc1 :: (src.tmp ++ tm')) (L2.wipe σ4 wv1) x1 (ys ++ .ref D :: (xs ++ vs)) F8 W7 H8 r11 (hr1 j hlt1) (hz1 acc1) Qx _ _ hx (fun ρ8 σ8 F9 W9 H9 r12 sb1 q8 => ?_) (jt j acc1 ρ7 hlt1 jv)
        have ew1 := wipe_same sb1 has1
        refine ⟨ew1, ht1 c ρ8 _ σ8 _ F9 W9 H9 r12 Qx _ hx q8 _ fun b ρ9 F10 W10 H10 r13 q9 => ?_⟩
        cases b with
        | false => exact next1 r13 ew1 q9
        | true =>
          refine he c ρ9 _ σ8 _ F10 W10 H10 r13 Qx _ hx q9 _ fun t ρ10 v F11 W11 H11 r14 ⟨s, ρ11, ho, hla, q10⟩ => ?_
          obtain ⟨r15, hsr⟩ := r14.opn ho
          have r16 : R K I c ρ11 (s :: .lst acc1 :: (src1.tmp ++ (src.tmp ++ tm'))) σ8 (v :: .ref D :: (ys ++ (xs ++ vs))) F11 W11 H11 := by
            have z := R.unmid (ts := [s]) (us := [v]) (R.mid (ts := s :: src1.tmp) (us := v :: ys) r15 (by rw [List.length_cons, List.length_cons, hl1])) rfl
            exact z
          obtain ⟨a, us, e, hH, hlen, r17⟩ := r16.push hsr
          cases e
          exact ⟨us, hH, Nat.lt_of_lt_of_le (by omega) (line_of (n := 1000000) (Nat.le_refl _)), next1 (R.unmid r17 hl1) ew1 q10⟩
      · have e : j = src1.n := by omega
        subst e
        refine .inl ⟨stop1, ?_⟩
        have r11 := R.unwipe r10 (hz1 acc1) hp1 hw1
        have r12 := R.drops (ts := src1.tmp) (us := ys) r11 hl1
        exact next r12 ew (jE acc1 ρ7 jv)
  · have e : i = src.n := by omega
    subst e
    refine .inl ⟨stop, ?_⟩
    have r5 := R.unwipe r3 (hzc acc) hp hw
    have r6 := R.drops (ts := src.tmp) (us := xs) (tm := .lst acc :: tm') (vs := .ref D :: vs) (R.unmid r5 hl) hl
    exact k _ _ _ _ _ _ (back r6) (iE acc ρ2 iv)
end
end Hz
/-! Hz49: comprehensions over a list whose items are owned and only looked at; the same with enumerate. -/
namespace Hz
open PySem L2 PyProof.Rows
/-- [te for b1 in a if tt] -/
def wLcO (a : WE) (b1 : Nat) (tt : WT) (te : WE) (wv : List Nat) : WE := fun ρ Qx Q => a ρ Qx fun ta ρ1 => settle ta ρ1 fun ta' ρ4 => ∃ t1, ta'.peek ρ4 = some (.lst t1) ∧
  Inv1 fun Iv : Nat → List T → Rho → Prop => Iv 0 [] (wipeR ρ4 wv) ∧
  (∀ i acc ρ5 c1, t1[i]? = some c1 → Iv i acc ρ5 → tt (ρ5.set b1 (some c1)) Qx fun k ρ6 =>
    if k = true then te ρ6 Qx fun t ρ7 => ∃ s ρ8, t.opn ρ7 = some (s, ρ8) ∧ acc.length < 1000000 ∧ ρ8[b1]? = some (some c1) ∧ Iv (i + 1) (acc ++ [s]) (wipeR ρ8 wv)
    else ρ6[b1]? = some (some c1) ∧ Iv (i + 1) acc (wipeR ρ6 wv)) ∧
  ∀ acc ρ5, Iv t1.length acc ρ5 → Q (.lst acc) (ta'.drop ρ5)
/-- [te for b0, b1 in enumerate(a) if tt] -/
def wLcE (a : WE) (b0 b1 : Nat) (tt : WT) (te : WE) (wv : List Nat) : WE := fun ρ Qx Q => a ρ Qx fun ta ρ1 => settle ta ρ1 fun ta' ρ4 => ∃ t1, ta'.peek ρ4 = some (.lst t1) ∧
  Inv1 fun Iv : Nat → List T → Rho → Prop => Iv 0 [] (wipeR ρ4 wv) ∧
  (∀ i acc ρ5 c1, t1[i]? = some c1 → Iv i acc ρ5 → tt ((ρ5.set b0 (some (tI (i : Nat)))).set b1 (some c1)) Qx fun k ρ6 =>
    if k = true then te ρ6 Qx fun t ρ7 => ∃ s ρ8, t.opn ρ7 = some (s, ρ8) ∧ acc.length < 1000000 ∧ ρ8[b1]? = some (some c1) ∧ Iv (i + 1) (acc ++ [s]) (wipeR ρ8 wv)
    else ρ6[b1]? = some (some c1) ∧ Iv (i + 1) acc (wipeR ρ6 wv)) ∧
  ∀ acc ρ5, Iv t1.length acc ρ5 → Q (.lst acc) (ta'.drop ρ5)
section
variable {K : PySem.W.Frag} {I : Sg} {E : XS}
theorem ev_lcO {wv : List Nat} {ta : TE} {wa : WE} {b1 : Nat} {tt : TT} {wt : WT} {te : TE} {we : WE} (hp : ∀ i ∈ wv, i ∉ I.prot) (h1 : b1 ∈ wv)
    (ha : EvW K I E ta wa) (ht : EvT K (I.more [b1]) E tt wt) (he : EvW K (I.more [b1]) E te we) :
    EvW K I E (tLc (iList K ta) (gName b1) tt te wv) (wLcO wa b1 wt we wv) := fun c ρ tm σ vs F W H r Qx Qv hx q Q k => by
  obtain ⟨tm', hz, r', back⟩ := r.unLz
  refine ha c ρ tm' σ vs F W H r' Qx _ hx q _ fun tA ρ1 vA F2 W2 H2 r1 q1 => ?_
  obtain ⟨tA', ρ4, r5, hzA, t1, pA, Iv, i0, it, iE⟩ := r1.settle q1
  have two : ∀ {ρ : Rho} {σ : L2.St} {F : Hp} {W : List Addr} {H : Hp}, R K I c ρ (tA' :: tm') σ (vA :: vs) F W H →
      ∃ a us, vA = .ref a ∧ H a = some (.lst us) ∧ us.length = t1.length := fun {ρ σ F W H} r => by
    obtain ⟨g, hA, _⟩ := r.peek (peek_noLz hzA pA ρ)
    cases hA with
    | lst a1 a2 _ => exact ⟨_, _, rfl, a1, repA_len a2⟩
  obtain ⟨a, us0, eA, hA0, lA0⟩ := two r5
  subst eA
  refine ⟨a, rfl, ⟨us0, SqL.of hA0⟩, ?_⟩
  intro D hD
  have hz' : ∀ x ∈ tA' :: tm', x.noLz = true := fun x hx => by
    rcases List.mem_cons.mp hx with rfl | hx
    · exact hzA
    · exact hz x hx
  have r6 := (R.wipe r5 hz' hp).newEmpty hD
  generalize hn : t1.length = n at iE
  refine ⟨fun i m H => m = n - i ∧ i ≤ n ∧ ∃ ρ F W acc, R K I c ρ (.lst acc :: tA' :: tm') (L2.wipe σ wv) (.ref D :: .ref a :: vs) F W H ∧ (∀ j ∈ wv, (ρ[j]?).join = none) ∧ Iv i acc ρ,
    ⟨n, by omega, Nat.zero_le _, _, F2, W2, [], r6, fun j hj => wipeR_none hj, i0⟩, ?_⟩
  rintro i m H3 ⟨rfl, hle, ρ5, F3, W3, acc, r7, hw, iv⟩
  have r8 := R.drop r7
  obtain ⟨a', us, eA, hA, lA⟩ := two r8
  cases eA
  by_cases hlt : i < n
  · have hi1 : i < t1.length := by omega
    refine .inr ⟨⟨us, us[i]'(by omega), SqL.of hA, List.getElem?_eq_getElem (by omega)⟩,
      fun H => ∃ ρ F W acc, R K I c ρ (.lst acc :: tA' :: tm') (L2.wipe σ wv) (.ref D :: .ref a :: vs) F W H ∧ (∀ j ∈ wv, (ρ[j]?).join = none) ∧ Iv (i + 1) acc ρ, fun H' h => ⟨n - (i + 1), by omega, rfl, hlt, h⟩, fun x H' y => ?_⟩
    obtain ⟨e3, e4⟩ := y
    subst e3
    have hk1 : t1[i]? = some (t1[i]'hi1) := List.getElem?_eq_getElem hi1
    generalize t1[i]'hi1 = c1 at hk1
    have hx0 := e4 us (SqL.of hA)
    generalize ex0 : x = x0 at *
    subst ex0
    have s3 : R K I c ρ5 (tA' :: .lst acc :: tm') (L2.wipe σ wv) (.ref a :: .ref D :: vs) F3 W3 H' := R.unmid (ts := [tA']) (us := [.ref a]) r7 rfl
    obtain ⟨a', us', y0, e, hA', hy0, s4⟩ := R.hole s3 hzA (peek_noLz hzA pA ρ5) hk1
    cases e
    rw [hA] at hA'
    cases hA'
    rw [hx0] at hy0
    cases hy0
    have ew : L2.wipe ((L2.wipe σ wv).set b1 (some x)) wv = L2.wipe σ wv := by
      refine wipe_same (as := [b1]) ⟨by rw [List.length_set], fun j hj => ?_⟩ (fun j hj => ?_)
      · rw [List.getElem?_set_ne (fun e => hj (by rw [← e]; simp))]
      · cases List.mem_singleton.mp hj; exact h1
    refine ⟨ew, ?_⟩
    have c1r : c1.real = true := by
      obtain ⟨f, hr, _⟩ := s3.peek (peek_noLz hzA pA ρ5)
      cases hr with
      | lst _ g2 _ =>
        obtain ⟨u, f, _, g⟩ := repA_at g2 hk1
        exact rep_real g
    have pA1 := fun ρ' => withS_peek (ρ' := ρ') (s1 := .lst (t1.set i (.cst x))) hzA (peek_noLz hzA pA ρ5) rfl
    have s9 : R K I c _ (tA'.withS (.lst (t1.set i (.cst x))) :: .lst acc :: tm') _ (.ref a :: .ref D :: vs) F3 W3 _ := s4.set c1r (fun y hy => by
      rcases List.mem_cons.mp hy with rfl | hy
      · exact (pA1 ρ5).2
      · rcases List.mem_cons.mp hy with rfl | hy
        · rfl
        · exact hz y hy) (hp b1 h1)
    obtain ⟨c', ec, s10, bk⟩ := s9.rebase [b1]
    have hx' : XOk K (I.more [b1]) c' E Qx := fun C t ρ σ v d F W H r => hx C t ρ σ v d F W H (bk r)
    have close : ∀ {ρ6 : Rho} {acc' : List T} {σ6 : L2.St} {F6 : Hp} {W6 : List Addr} {H6 : Hp},
        R K (I.more [b1]) c' ρ6 (tA'.withS (.lst (t1.set i (.cst x))) :: .lst acc' :: tm') σ6 (.ref a :: .ref D :: vs) F6 W6 H6 → L2.wipe σ6 wv = L2.wipe σ wv → ρ6[b1]? = some (some c1) → Iv (i + 1) acc' (wipeR ρ6 wv) →
        ∃ ρ F W acc, R K I c ρ (.lst acc :: tA' :: tm') (L2.wipe σ wv) (.ref D :: .ref a :: vs) F W H6 ∧ (∀ j ∈ wv, (ρ[j]?).join = none) ∧ Iv (i + 1) acc ρ := fun {ρ6 acc' σ6 F6 W6 H6} z ew6 g1 q6 => by
      have p1 := z.pr b1 (List.mem_append_left _ (by simp))
      rw [ec] at p1
      obtain ⟨u1, k1, z1⟩ := (bk z).grab g1
      have eu1 : u1 = x := by
        rw [k1] at p1
        rw [List.getElem?_set] at p1
        by_cases hl : b1 < (L2.wipe σ wv).length
        · rw [if_pos rfl, if_pos hl] at p1; cases p1; rfl
        · rw [if_pos rfl, if_neg hl] at p1; cases p1
      subst eu1
      have hk1' : (t1.set i (.cst u1))[i]? = some (.cst u1) := List.getElem?_set_self hi1
      have z4 := R.unhole z1 (pA1 ρ5).2 (pA1 _).1 hk1' c1r
      rw [withS_withS hzA (peek_noLz hzA pA ρ5) rfl, List.set_set, show t1.set i c1 = t1 by obtain ⟨hh1, hh2⟩ := List.getElem?_eq_some_iff.mp hk1; rw [← hh2]; exact List.set_getElem_self hh1, withS_self hzA (peek_noLz hzA pA ρ5)] at z4
      have z7 : R K I c _ (.lst acc' :: tA' :: tm') _ (.ref D :: .ref a :: vs) _ _ _ := R.mid (ts := [tA']) (us := [.ref a]) z4 rfl
      have z8 := R.wipe z7 (fun y hy => (List.mem_cons.mp hy).elim (fun e => by rw [e]; rfl) (hz' y)) hp
      rw [ew6, wipeR_set h1] at z8
      exact ⟨_, _, _, acc', z8, fun j hj => wipeR_none hj, q6⟩
    refine ht c' _ _ _ _ F3 W3 _ s10 Qx _ hx' (it i acc ρ5 c1 hk1 iv) _ fun k' ρ6 F6 W6 H6 z q6 => ?_
    cases k' with
    | false =>
      obtain ⟨g1, q7⟩ := q6
      exact close z ew g1 q7
    | true =>
      refine he c' ρ6 _ _ _ F6 W6 H6 z Qx _ hx' q6 _ fun t ρ7 v F7 W7 H7 z1 ⟨s, ρ8, ho, hla, g1, q8⟩ => ?_
      obtain ⟨z2, hsr⟩ := z1.opn ho
      have z3 : R K (I.more [b1]) c' ρ8 (s :: .lst acc :: tA'.withS (.lst (t1.set i (.cst x))) :: tm') _ (v :: .ref D :: .ref a :: vs) F7 W7 H7 :=
        R.unmid (ts := [s]) (us := [v]) (R.mid (ts := [s, tA'.withS (.lst (t1.set i (.cst x)))]) (us := [v, .ref a]) z2 rfl) rfl
      obtain ⟨a', us', e, hH, hlen, z4⟩ := z3.push hsr
      cases e
      have z5 := R.unmid (ts := [tA'.withS (.lst (t1.set i (.cst x)))]) (us := [.ref a]) z4 rfl
      exact ⟨us', hH, Nat.lt_of_lt_of_le (by omega) (line_of (n := 1000000) (Nat.le_refl _)), close z5 ew g1 q8⟩
  · have e : i = n := by omega
    subst e
    refine .inl ⟨⟨us, SqL.of hA, by omega⟩, ?_⟩
    have z1 := R.unwipe r7 (fun x hx => (List.mem_cons.mp hx).elim (fun e => by rw [e]; rfl) (hz' x)) hp hw
    have z2 : R K I c ρ5 (tA' :: .lst acc :: tm') σ (.ref a :: .ref D :: vs) F3 W3 H3 := R.unmid (ts := [tA']) (us := [.ref a]) z1 rfl
    exact k _ _ _ _ _ _ (back z2.dropT) (iE acc ρ5 iv)
theorem ev_lcE {wv : List Nat} {ta : TE} {wa : WE} {b0 b1 : Nat} {tt : TT} {wt : WT} {te : TE} {we : WE} (hp : ∀ i ∈ wv, i ∉ I.prot) (h0 : b0 ∈ wv) (h1 : b1 ∈ wv) (hne : b0 ≠ b1)
    (ha : EvW K I E ta wa) (ht : EvT K (I.more [b1]) E tt wt) (he : EvW K (I.more [b1]) E te we) :
    EvW K I E (tLc (iEnum K (tCons ta tNil)) (gTup K 2 (gCons (gName b0) (gCons (gName b1) gNil))) tt te wv) (wLcE wa b0 b1 wt we wv) := fun c ρ tm σ vs F W H r Qx Qv hx q Q k => by
  obtain ⟨tm', hz, r', back⟩ := r.unLz
  refine ha c ρ tm' σ vs F W H r' Qx _ hx q _ fun tA ρ1 vA F2 W2 H2 r1 q1 => ?_
  obtain ⟨tA', ρ4, r5, hzA, t1, pA, Iv, i0, it, iE⟩ := r1.settle q1
  have two : ∀ {ρ : Rho} {σ : L2.St} {F : Hp} {W : List Addr} {H : Hp}, R K I c ρ (tA' :: tm') σ (vA :: vs) F W H →
      ∃ a us, vA = .ref a ∧ H a = some (.lst us) ∧ us.length = t1.length := fun {ρ σ F W H} r => by
    obtain ⟨g, hA, _⟩ := r.peek (peek_noLz hzA pA ρ)
    cases hA with
    | lst a1 a2 _ => exact ⟨_, _, rfl, a1, repA_len a2⟩
  obtain ⟨a, us0, eA, hA0, lA0⟩ := two r5
  subst eA
  refine ⟨a, us0, rfl, SqL.of hA0, ?_⟩
  intro D hD
  have hz' : ∀ x ∈ tA' :: tm', x.noLz = true := fun x hx => by
    rcases List.mem_cons.mp hx with rfl | hx
    · exact hzA
    · exact hz x hx
  have r6 := (R.wipe r5 hz' hp).newEmpty hD
  generalize hn : t1.length = n at iE
  refine ⟨fun i m H => m = n - i ∧ i ≤ n ∧ ∃ ρ F W acc, R K I c ρ (.lst acc :: tA' :: tm') (L2.wipe σ wv) (.ref D :: .ref a :: vs) F W H ∧ (∀ j ∈ wv, (ρ[j]?).join = none) ∧ Iv i acc ρ,
    ⟨n, by omega, Nat.zero_le _, _, F2, W2, [], r6, fun j hj => wipeR_none hj, i0⟩, ?_⟩
  rintro i m H3 ⟨rfl, hle, ρ5, F3, W3, acc, r7, hw, iv⟩
  have r8 := R.drop r7
  obtain ⟨a', us, eA, hA, lA⟩ := two r8
  cases eA
  by_cases hlt : i < n
  · have hi1 : i < t1.length := by omega
    refine .inr ⟨⟨us, us[i]'(by omega), SqL.of hA, List.getElem?_eq_getElem (by omega)⟩,
      fun H => ∃ ρ F W acc, R K I c ρ (.lst acc :: tA' :: tm') (L2.wipe σ wv) (.ref D :: .ref a :: vs) F W H ∧ (∀ j ∈ wv, (ρ[j]?).join = none) ∧ Iv (i + 1) acc ρ, fun H' h => ⟨n - (i + 1), by omega, rfl, hlt, h⟩, fun xx H' y => ?_⟩
    obtain ⟨P, x, e1, e2, e3, e4⟩ := y
    subst e1; subst e3
    have hk1 : t1[i]? = some (t1[i]'hi1) := List.getElem?_eq_getElem hi1
    generalize t1[i]'hi1 = c1 at hk1
    have hx0 := e4 us (SqL.of hA)
    have s3 : R K I c ρ5 (tA' :: .lst acc :: tm') (L2.wipe σ wv) (.ref a :: .ref D :: vs) F3 W3 H3 := R.unmid (ts := [tA']) (us := [.ref a]) r7 rfl
    obtain ⟨a', us', y0, e, hA', hy0, s4⟩ := R.hole s3 hzA (peek_noLz hzA pA ρ5) hk1
    cases e
    rw [hA] at hA'
    cases hA'
    rw [hx0] at hy0
    cases hy0
    have s5 := (s4.cst (v := x)).dat (v := .int (i : Nat)) (d := .int (i : Nat)) (.int _)
    have s6 := R.newTup (ts := [.dat (.int (i : Nat)), .cst x]) (us := [.int (i : Nat), x]) (p := P) s5 rfl rfl e2
    have s7 := (R.drop s6).dat (v := .int (i : Nat)) (d := .int (i : Nat)) (.int _)
    refine ⟨P, [.int (i : Nat), x], rfl, SqT.of upd_same, rfl, .int (i : Nat), [x], rfl, x, [], rfl, rfl, ?_⟩
    have ew : L2.wipe (((L2.wipe σ wv).set b0 (some (.int (i : Nat)))).set b1 (some x)) wv = L2.wipe σ wv := by
      refine wipe_same (as := [b0, b1]) ⟨by rw [List.length_set, List.length_set], fun j hj => ?_⟩ (fun j hj => ?_)
      · rw [List.getElem?_set_ne (fun e => hj (by rw [← e]; simp)), List.getElem?_set_ne (fun e => hj (by rw [← e]; simp))]
      · rcases List.mem_cons.mp hj with rfl | hj
        · exact h0
        · cases List.mem_singleton.mp hj; exact h1
    refine ⟨ew, ?_⟩
    have c1r : c1.real = true := by
      obtain ⟨f, hr, _⟩ := s3.peek (peek_noLz hzA pA ρ5)
      cases hr with
      | lst _ g2 _ =>
        obtain ⟨u, f, _, g⟩ := repA_at g2 hk1
        exact rep_real g
    have pA1 := fun ρ' => withS_peek (ρ' := ρ') (s1 := .lst (t1.set i (.cst x))) hzA (peek_noLz hzA pA ρ5) rfl
    have s8 : R K I c _ (c1 :: tA'.withS (.lst (t1.set i (.cst x))) :: .lst acc :: tm') _ (x :: .ref a :: .ref D :: vs) F3 W3 _ := s7.set rfl (fun y hy => by
      rcases List.mem_cons.mp hy with rfl | hy
      · exact real_noLz c1r
      · rcases List.mem_cons.mp hy with rfl | hy
        · exact (pA1 ρ5).2
        · rcases List.mem_cons.mp hy with rfl | hy
          · rfl
          · exact hz y hy) (hp b0 h0)
    have s9 : R K I c _ (tA'.withS (.lst (t1.set i (.cst x))) :: .lst acc :: tm') _ (.ref a :: .ref D :: vs) F3 W3 _ := s8.set c1r (fun y hy => by
      rcases List.mem_cons.mp hy with rfl | hy
      · exact (pA1 ρ5).2
      · rcases List.mem_cons.mp hy with rfl | hy
        · rfl
        · exact hz y hy) (hp b1 h1)
    obtain ⟨c', ec, s10, bk⟩ := s9.rebase [b1]
    have hx' : XOk K (I.more [b1]) c' E Qx := fun C t ρ σ v d F W H r => hx C t ρ σ v d F W H (bk r)
    have close : ∀ {ρ6 : Rho} {acc' : List T} {σ6 : L2.St} {F6 : Hp} {W6 : List Addr} {H6 : Hp},
        R K (I.more [b1]) c' ρ6 (tA'.withS (.lst (t1.set i (.cst x))) :: .lst acc' :: tm') σ6 (.ref a :: .ref D :: vs) F6 W6 H6 → L2.wipe σ6 wv = L2.wipe σ wv → ρ6[b1]? = some (some c1) → Iv (i + 1) acc' (wipeR ρ6 wv) →
        ∃ ρ F W acc, R K I c ρ (.lst acc :: tA' :: tm') (L2.wipe σ wv) (.ref D :: .ref a :: vs) F W H6 ∧ (∀ j ∈ wv, (ρ[j]?).join = none) ∧ Iv (i + 1) acc ρ := fun {ρ6 acc' σ6 F6 W6 H6} z ew6 g1 q6 => by
      have p1 := z.pr b1 (List.mem_append_left _ (by simp))
      rw [ec] at p1
      obtain ⟨u1, k1, z1⟩ := (bk z).grab g1
      have eu1 : u1 = x := by
        rw [k1] at p1
        rw [List.getElem?_set] at p1
        by_cases hl : b1 < ((L2.wipe σ wv).set b0 (some (.int (i : Nat)))).length
        · rw [if_pos rfl, if_pos hl] at p1; cases p1; rfl
        · rw [if_pos rfl, if_neg hl] at p1; cases p1
      subst eu1
      have hk1' : (t1.set i (.cst u1))[i]? = some (.cst u1) := List.getElem?_set_self hi1
      have z4 := R.unhole z1 (pA1 ρ5).2 (pA1 _).1 hk1' c1r
      rw [withS_withS hzA (peek_noLz hzA pA ρ5) rfl, List.set_set, show t1.set i c1 = t1 by obtain ⟨hh1, hh2⟩ := List.getElem?_eq_some_iff.mp hk1; rw [← hh2]; exact List.set_getElem_self hh1, withS_self hzA (peek_noLz hzA pA ρ5)] at z4
      have z7 : R K I c _ (.lst acc' :: tA' :: tm') _ (.ref D :: .ref a :: vs) _ _ _ := R.mid (ts := [tA']) (us := [.ref a]) z4 rfl
      have z8 := R.wipe z7 (fun y hy => (List.mem_cons.mp hy).elim (fun e => by rw [e]; rfl) (hz' y)) hp
      rw [ew6, wipeR_set h1] at z8
      exact ⟨_, _, _, acc', z8, fun j hj => wipeR_none hj, q6⟩
    refine ht c' _ _ _ _ F3 W3 _ s10 Qx _ hx' (it i acc ρ5 c1 hk1 iv) _ fun k' ρ6 F6 W6 H6 z q6 => ?_
    cases k' with
    | false =>
      obtain ⟨g1, q7⟩ := q6
      exact close z ew g1 q7
    | true =>
      refine he c' ρ6 _ _ _ F6 W6 H6 z Qx _ hx' q6 _ fun t ρ7 v F7 W7 H7 z1 ⟨s, ρ8, ho, hla, g1, q8⟩ => ?_
      obtain ⟨z2, hsr⟩ := z1.opn ho
      have z3 : R K (I.more [b1]) c' ρ8 (s :: .lst acc :: tA'.withS (.lst (t1.set i (.cst x))) :: tm') _ (v :: .ref D :: .ref a :: vs) F7 W7 H7 :=
        R.unmid (ts := [s]) (us := [v]) (R.mid (ts := [s, tA'.withS (.lst (t1.set i (.cst x)))]) (us := [v, .ref a]) z2 rfl) rfl
      obtain ⟨a', us', e, hH, hlen, z4⟩ := z3.push hsr
      cases e
      have z5 := R.unmid (ts := [tA'.withS (.lst (t1.set i (.cst x)))]) (us := [.ref a]) z4 rfl
      exact ⟨us', hH, Nat.lt_of_lt_of_le (by omega) (line_of (n := 1000000) (Nat.le_refl _)), close z5 ew g1 q8⟩
  · have e : i = n := by omega
    subst e
    refine .inl ⟨⟨us, SqL.of hA, by omega⟩, ?_⟩
    have z1 := R.unwipe r7 (fun x hx => (List.mem_cons.mp hx).elim (fun e => by rw [e]; rfl) (hz' x)) hp hw
    have z2 : R K I c ρ5 (tA' :: .lst acc :: tm') σ (.ref a :: .ref D :: vs) F3 W3 H3 := R.unmid (ts := [tA']) (us := [.ref a]) z1 rfl
    exact k _ _ _ _ _ _ (back z2.dropT) (iE acc ρ5 iv)
end
end Hz
/-! Hz50: while loops by some slots alone; dict comprehensions by what they make. -/
namespace Hz
open PySem L2
theorem onRm {idx : List Nat} {I : Nat → List (Option T) → Prop} {ρ : Rho} {vs : List (Option T)} (m : Nat) (h : I m vs) (e : setsR ρ idx vs = ρ) : OnR idx I ρ m ρ := ⟨vs, h, e.symm⟩
section
variable {wg : WG} {wt : WT} {wk we : WE} {wv : List Nat} {Qx : Hz.WX} {ρ0 : Rho} {n : Nat} {it : Nat → T} {Fin : DKv → Rho → Prop} {α : Type}
/-- what a dict comprehension makes of the items x of xs: at kf x stands v x, where p x -/
theorem dcD (xs : List α) (F : α → T) (p : α → Prop) [DecidablePred p] (kf : α → Key) (v : α → PyData) (hn : n = xs.length) (hit : ∀ i x, xs[i]? = some x → it i = F x) (hz : xs.length ≤ 1000000)
    (nd : ((xs.filter fun x => decide (p x)).map kf).Nodup)
    (step : ∀ x ∈ xs, ∀ (q : Prop) (k : Option (Key × PyData) → Rho → Prop), q → (p x → k (some (kf x, v x)) ρ0) → (¬ p x → k none ρ0) →
      wg (F x) ρ0 Qx fun ρ3 => wt ρ3 Qx fun b ρ4 => if b = true then wk ρ4 Qx fun t ρ5 => (wFz we) ρ5 Qx fun u ρ6 => ∃ d k' e, t = .dat d ∧ keyOf d = some k' ∧ u = .dat e ∧ q ∧ k (some (k', e)) (wipeR ρ6 wv) else k none (wipeR ρ4 wv))
    (fin : Fin ((xs.filter fun x => decide (p x)).map fun x => (kf x, v x)) ρ0) :
    Inv1 fun Iv : Nat → DKv → Rho → Prop => Iv 0 [] ρ0 ∧ (∀ i acc ρ2, i < n → Iv i acc ρ2 → wg (it i) ρ2 Qx fun ρ3 => wt ρ3 Qx fun b ρ4 => if b = true then wk ρ4 Qx fun t ρ5 => (wFz we) ρ5 Qx fun u ρ6 => ∃ d k' e, t = .dat d ∧ keyOf d = some k' ∧ u = .dat e ∧ acc.length < 1000000 ∧ Iv (i + 1) (putA acc k' e) (wipeR ρ6 wv) else Iv (i + 1) acc (wipeR ρ4 wv)) ∧ ∀ acc ρ2, Iv n acc ρ2 → Fin acc ρ2 := by
  subst hn
  have putNew : ∀ {acc : DKv} {k : Key} {e : PyData}, k ∉ acc.map (·.1) → putA acc k e = acc ++ [(k, e)] := fun {acc k e} h => by
    unfold putA
    rw [if_neg]
    rw [List.any_eq_true]
    rintro ⟨kv, hkv, hk⟩
    exact h (List.mem_map.mpr ⟨kv, hkv, of_decide_eq_true hk⟩)
  refine ⟨fun i acc ρ => acc = (((xs.take i).filter fun x => decide (p x)).map fun x => (kf x, v x)) ∧ ρ = ρ0, ⟨rfl, rfl⟩, ?_, ?_⟩
  · rintro i acc ρ hi ⟨rfl, rfl⟩
    obtain ⟨x, hx⟩ := at_lt hi
    rw [hit i x hx]
    have et : xs.take (i + 1) = xs.take i ++ [x] := by rw [List.take_succ, hx]; rfl
    have hl : (((xs.take i).filter fun x => decide (p x)).map fun x => (kf x, v x)).length < 1000000 := by
      rw [List.length_map]
      refine Nat.lt_of_le_of_lt (List.length_filter_le _ _) ?_
      rw [List.length_take]
      omega
    refine step x (List.mem_of_getElem? hx) _ (fun o ρ' => match o with
      | some (k', e) => putA (((xs.take i).filter fun x => decide (p x)).map fun x => (kf x, v x)) k' e = (((xs.take (i + 1)).filter fun x => decide (p x)).map fun x => (kf x, v x)) ∧ ρ' = ρ
      | none => (((xs.take i).filter fun x => decide (p x)).map fun x => (kf x, v x)) = (((xs.take (i + 1)).filter fun x => decide (p x)).map fun x => (kf x, v x)) ∧ ρ' = ρ) hl (fun c => ⟨?_, rfl⟩) fun c => ⟨?_, rfl⟩
    · rw [et, List.filter_append, List.map_append, List.filter_cons, if_pos (decide_eq_true c), List.filter_nil]
      refine putNew fun hm => ?_
      rw [List.map_map] at hm
      have nd2 : (((xs.take (i + 1)).filter fun x => decide (p x)).map kf).Nodup := by
        refine List.Nodup.sublist (List.Sublist.map kf (List.Sublist.filter _ (List.take_sublist _ _))) nd
      rw [et, List.filter_append, List.map_append, List.filter_cons, if_pos (decide_eq_true c), List.filter_nil] at nd2
      exact (List.nodup_append.mp nd2).2.2 _ hm _ List.mem_cons_self rfl
    · rw [et, List.filter_append, List.filter_cons, if_neg (by simpa using c), List.filter_nil, List.append_nil]
  · rintro acc ρ ⟨rfl, rfl⟩
    rw [List.take_length]
    exact fin
end
end Hz
/-! Hz51: x in a tuple of data. -/
namespace L2
open PySem PySem.Spec PyProof.Rows
section
variable {X : Cx}
def rInT (neg : Bool) (K : PySem.W.Frag) : R2 := fun x y H Q => ∃ d ds, Dp K H x d ∧ Dp K H y (.tuple ds) ∧ SeqAt.shaped d = true ∧ SeqAt.shaped (.tuple ds) = true ∧ Q (.bl (if neg then !(List.any ds fun z => PyData.eqv z d) else List.any ds fun z => PyData.eqv z d)) H
theorem op_inT (hu : X.A.units + 65 < cLine) : OpR X (compareOp .In) (rInT false X.K) := by
  intro pins s σ H x y v u Q I rx ry h
  obtain ⟨d, ds, hd, he, sd, se, q⟩ := h
  obtain ⟨as, r1⟩ := Dp.reads I d x v hd rx
  obtain ⟨bs, r2⟩ := Dp.reads I (.tuple ds) y u he ry
  exact SeqAt.in_tuple_reads r2 r1 (SeqAt.canLay_of_shaped se) (SeqAt.canLay_of_shaped sd) (room_in_shaped sd hu) ⟨.bl _, H, I, rfl, q⟩
theorem op_notInT (hu : X.A.units + 65 < cLine) : OpR X (compareOp .NotIn) (rInT true X.K) := by
  intro pins s σ H x y v u Q I rx ry h
  obtain ⟨d, ds, hd, he, sd, se, q⟩ := h
  obtain ⟨as, r1⟩ := Dp.reads I d x v hd rx
  obtain ⟨bs, r2⟩ := Dp.reads I (.tuple ds) y u he ry
  exact SeqAt.notIn_tuple_reads r2 r1 (SeqAt.canLay_of_shaped se) (SeqAt.canLay_of_shaped sd) (room_in_shaped sd hu) ⟨.bl _, H, I, rfl, q⟩
end
end L2
namespace Hz
open PySem L2 PySem.W PyProof.Rows
def wInT (neg : Bool) (a b : WE) : WE := fun ρ Qx Q => a ρ Qx fun ta ρ1 => b ρ1 Qx fun tb ρ2 => ∃ s1 s2 d ds, ta.peek ρ2 = some s1 ∧ tb.peek ρ2 = some s2 ∧ s1.py = some d ∧ s2.py = some (.tuple ds) ∧
  SeqAt.shaped d = true ∧ SeqAt.shaped (.tuple ds) = true ∧ Q (tBo (if neg then !(List.any ds fun z => PyData.eqv z d) else List.any ds fun z => PyData.eqv z d)) (ta.drop (tb.drop ρ2))
section
variable {K : PySem.W.Frag} {I : Sg} {E : XS} {ta tb : TE} {wa wb : WE}
theorem ev_inT {neg : Bool} (ha : EvW K I E ta wa) (hb : EvW K I E tb wb) : EvW K I E (tOp (rInT neg K) ta tb) (wInT neg wa wb) :=
  fun c ρ tm σ vs F W H r Qx Qv hx hw Q k => ha c ρ tm σ vs F W H r Qx _ hx hw _ fun t ρ' v F' W' H' r' hw' => hb c ρ' (t :: tm) σ (v :: vs) F' W' H' r' Qx _ hx hw' _ fun t2 ρ2 v2 F2 W2 H2 r2 ⟨s1, s2, d1, d2, e1, e2, p1, p2, z1, z2, q⟩ => by
    obtain ⟨f2, h2, _⟩ := r2.peek e2
    obtain ⟨f1, h1, _⟩ := r2.drop.peek e1
    exact ⟨d1, d2, dp_of h1 r2.sub p1, dp_of h2 r2.sub p2, z1, z2, k _ _ _ _ _ _ (r2.dropT.dropT.dat (.bl _)) q⟩
end
theorem bt_divmod : bootBuiltins "divmod" = some (.builtin "divmod") := by decide +kernel
theorem any_is : ∀ {ns : List Int} {i : Int}, ((ns.map PyData.int).any fun z => PyData.eqv z (.int i)) = decide (i ∈ ns) := any_int
theorem any_II {a b i : Int} : (List.any [PyData.int a, PyData.int b] fun z => PyData.eqv z (.int i)) = decide (i = a ∨ i = b) := by
  rw [show [PyData.int a, PyData.int b] = [a, b].map PyData.int from rfl, any_int]
  simp
theorem nInT {b : Bool} {B : Bool} : (if true = true then !b else B) = !b := rfl
theorem cutL_mid {α : Type} {xs : List α} {i k : Int} (h0 : 0 ≤ i) (h : i ≤ xs.length) (hk : 0 ≤ k) : cutL xs (some i) (some (i + k)) = (xs.drop i.toNat).take k.toNat := by
  unfold cutL HT.sIx
  simp only []
  rw [if_neg (by omega), if_neg (by omega)]
  rw [show min i.toNat xs.length = i.toNat by omega]
  by_cases c : (i + k).toNat ≤ xs.length
  · rw [Nat.min_eq_left c]
    congr 1
    omega
  · rw [Nat.min_eq_right (by omega), List.take_of_length_le (by rw [List.length_drop]; omega), List.take_of_length_le (by rw [List.length_drop]; omega)]
theorem cutT_from {xs : List T} {i : Int} (h0 : 0 ≤ i) : cutT xs (some i) none = xs.drop i.toNat := by
  by_cases h : i ≤ xs.length
  · exact cutT_suf h0 h
  · unfold cutT HT.sIx
    simp only [if_neg (show ¬ i < 0 by omega)]
    rw [Nat.min_eq_right (by omega), List.drop_of_length_le (Nat.le_refl _), List.drop_of_length_le (show xs.length ≤ i.toNat by omega), List.take_nil]
end Hz
/-! Hz52: a dict that is walked and read meanwhile: locked, owned by its slot. -/
namespace Hz
open PySem L2 PyProof.Rows
section
variable {K : PySem.W.Frag} {I : Sg} {c : Ct} {ρ : Rho} {tm : List T} {σ : L2.St} {x u : V} {vs : List V} {F : Hp} {W : List Addr} {H : Hp} {kvs : DKv} {s : T} {i : Nat} {d : Addr} {o : Obj} {xs : List (Key × V)}
theorem R.dclOn (h : R K I c ρ (dicD kvs :: tm) σ (x :: vs) F W H) : ∃ d xs, x = .ref d ∧ H d = some (.dK xs) ∧ xs.length = kvs.length ∧ ∀ o, R K I c ρ (.dcl d o xs kvs :: tm) σ (x :: vs) F W (upd H d (.frz o (.dK xs))) := by
  obtain ⟨fA, hA, nd, wf, q⟩ := R.loc (ts := [dicD kvs]) (us := [x]) h rfl
  cases hA with
  | cons h1 h2 p =>
    cases h2
    obtain ⟨a, xs, rfl, ha, hx, pa⟩ := rep_dic (h1.real rfl)
    refine ⟨a, xs, rfl, ha, hx.len, fun o => ?_⟩
    have pm : _ := p.trans (pa.append_right [])
    have hm : a ∈ fA := pm.mem_iff.mpr (List.mem_append_left _ List.mem_cons_self)
    exact q (us' := [.ref a]) (ts' := [.dcl a o xs kvs]) (fB := [a]) ((Step.upd (o := .frz o (.dK xs)) wf hm).less fun b hb => by rw [List.mem_singleton.mp hb]; exact hm) (List.nodup_cons.mpr ⟨fun z => (nomatch z), .nil⟩) (.one (.of (.dcl upd_same hx (.refl _))))
theorem R.dclOff (h : R K I c ρ (.dcl d o xs kvs :: tm) σ (x :: vs) F W H) : x = .ref d ∧ H d = some (.frz o (.dK xs)) ∧ R K I c ρ (dicD kvs :: tm) σ (x :: vs) F W (upd H d (.dK xs)) := by
  obtain ⟨fA, hA, nd, wf, q⟩ := R.loc (ts := [.dcl d o xs kvs]) (us := [x]) h rfl
  cases hA with
  | cons h1 h2 p =>
    cases h2
    cases h1.real rfl with
    | dcl ha hx pa =>
      refine ⟨rfl, ha, ?_⟩
      have pm : _ := p.trans (pa.append_right [])
      have hm : d ∈ fA := pm.mem_iff.mpr (List.mem_append_left _ List.mem_cons_self)
      exact q (us' := [.ref d]) (ts' := [dicD kvs]) (fB := [d]) ((Step.upd (o := .dK xs) wf hm).less fun b hb => by rw [List.mem_singleton.mp hb]; exact hm) (List.nodup_cons.mpr ⟨fun z => (nomatch z), .nil⟩) (.one (.of (rep_dic_mk upd_same hx)))
theorem putAt_set {ρ : Rho} {i : Nat} {u : V} {s : T} (hi : i < ρ.length) : Hz.putAt (ρ.set i (some (.cst u))) i [] u s = ρ.set i (some s) := by
  unfold Hz.putAt
  rw [List.getElem?_set_self hi]
  simp [get_nil, put_nil, List.set_set]
theorem R.lockS (h : R K I c ρ tm σ vs F W H) (hi : ρ[i]? = some (some (dicD kvs))) : ∃ d xs, H d = some (.dK xs) ∧ xs.length = kvs.length ∧ ∀ o, R K I c (ρ.set i (some (.dcl d o xs kvs))) tm σ vs F W (upd H d (.frz o (.dK xs))) := by
  obtain ⟨u, r, _⟩ := h.take hi (p := []) get_nil
  rw [put_nil] at r
  obtain ⟨d, xs, e, hd, hl, k⟩ := r.dclOn
  refine ⟨d, xs, hd, hl, fun o => ?_⟩
  have r2 := (k o).putAt (j := i) (p := []) rfl
  rw [putAt_set (List.getElem?_eq_some_iff.mp hi).1] at r2
  exact r2
theorem R.unlockS (h : R K I c ρ tm σ vs F W H) (hi : ρ[i]? = some (some (.dcl d o xs kvs))) : H d = some (.frz o (.dK xs)) ∧ R K I c (ρ.set i (some (dicD kvs))) tm σ vs F W (upd H d (.dK xs)) := by
  obtain ⟨u, r, _⟩ := h.take hi (p := []) get_nil
  rw [put_nil] at r
  obtain ⟨e, hd, k⟩ := r.dclOff
  refine ⟨hd, ?_⟩
  have r2 := k.putAt (j := i) (p := []) rfl
  rw [putAt_set (List.getElem?_eq_some_iff.mp hi).1] at r2
  exact r2
end
/-- a dict that can be read: owned, or locked -/
def DkT (s : T) (kvs : DKv) : Prop := s = dicD kvs ∨ ∃ d o xs, s = .dcl d o xs kvs
theorem dk_dic {kvs : DKv} : DkT (dicD kvs) kvs := .inl rfl
theorem dk_dcl {d : Addr} {o : Obj} {xs : List (Key × V)} {kvs : DKv} : DkT (.dcl d o xs kvs) kvs := .inr ⟨_, _, _, rfl⟩
theorem dget_rd {H : Hp} {a : Addr} {xs : List (Key × V)} {k : Key} (e : Rd H a (.dK xs)) : DGet H a (kV k) (valV xs k) := .inl ⟨xs, k, e, rfl, rfl⟩
def wDGetK (wd wy : WE) : WE := fun ρ Qx Q => wd ρ Qx fun t ρ1 => wy ρ1 Qx fun u ρ2 => ∃ s kvs d k e, t.peek ρ2 = some s ∧ DkT s kvs ∧ u = .dat d ∧ keyOf d = some k ∧ valA kvs k = some e ∧ Q (.dat e) (t.drop ρ2)
def wDInK (neg : Bool) (wy wd : WE) : WE := fun ρ Qx Q => wy ρ Qx fun u ρ1 => wd ρ1 Qx fun t ρ2 => ∃ s kvs d k, t.peek ρ2 = some s ∧ DkT s kvs ∧ u = .dat d ∧ keyOf d = some k ∧ Q (tBo (if neg then !(valA kvs k).isSome else (valA kvs k).isSome)) (t.drop ρ2)
section
variable {K : PySem.W.Frag} {I : Sg} {E : XS} {td ty : TE} {wd wy : WE}
theorem rep_dk {F : Hp} {W : List Addr} {H : Hp} {v : V} {s : T} {kvs : DKv} {f : List Addr} (h : Rep K F W H v s f) (e : DkT s kvs) : ∃ a xs, v = .ref a ∧ Rd H a (.dK xs) ∧ PD K F xs kvs := by
  rcases e with rfl | ⟨d, o, xs, rfl⟩
  · obtain ⟨a, xs, e, ha, hx, _⟩ := rep_dic h
    exact ⟨a, xs, e, .inl ha, hx⟩
  · cases h with
    | dcl ha hx _ => exact ⟨d, xs, rfl, .inr ⟨o, ha⟩, hx⟩
theorem ev_dgetK (hd : EvW K I E td wd) (hy : EvW K I E ty wy) : EvW K I E (tDGet td ty) (wDGetK wd wy) := fun c ρ tm σ vs F W H r Qx Qv hx hw Q kk =>
  hd c ρ tm σ vs F W H r Qx _ hx hw _ fun t ρ1 x F1 W1 H1 r1 q1 => hy c ρ1 (t :: tm) σ (x :: vs) F1 W1 H1 r1 Qx _ hx q1 _ fun u ρ2 y F2 W2 H2 r2 ⟨s, kvs, d, k, e, hp, hs, hu, hk, he, q⟩ => by
    subst hu
    have ey := key_dp r2.topDat hk
    subst ey
    have r3 := r2.drop
    obtain ⟨f, hr, _⟩ := r3.peek hp
    obtain ⟨a, xs, rfl, ha, hx'⟩ := rep_dk hr hs
    rcases hx'.val (k := k) with ⟨_, z⟩ | ⟨v, d', z1, z2, z3⟩
    · rw [z] at he; cases he
    · rw [z2] at he
      cases he
      exact ⟨a, v, rfl, by rw [← z1]; exact dget_rd ha, kk _ _ _ _ _ _ (r3.dropT.dat z3) q⟩
theorem ev_dinK (hy : EvW K I E ty wy) (hd : EvW K I E td wd) : EvW K I E (tDIn ty td) (wDInK false wy wd) := fun c ρ tm σ vs F W H r Qx Qv hx hw Q kk =>
  hy c ρ tm σ vs F W H r Qx _ hx hw _ fun u ρ1 y F1 W1 H1 r1 q1 => hd c ρ1 (u :: tm) σ (y :: vs) F1 W1 H1 r1 Qx _ hx q1 _ fun t ρ2 x F2 W2 H2 r2 ⟨s, kvs, d, k, hp, hs, hu, hk, q⟩ => by
    subst hu
    obtain ⟨f, hr, _⟩ := r2.peek hp
    obtain ⟨a, xs, rfl, ha, hx'⟩ := rep_dk hr hs
    have r3 := r2.dropT
    have ey := key_dp r3.topDat hk
    subst ey
    refine ⟨a, _, rfl, dget_rd ha, ?_⟩
    rw [isSome_val hx']
    exact kk _ _ _ _ _ _ (r3.drop.dat (.bl _)) q
theorem ev_dnotinK (hy : EvW K I E ty wy) (hd : EvW K I E td wd) : EvW K I E (tDNotIn ty td) (wDInK true wy wd) := fun c ρ tm σ vs F W H r Qx Qv hx hw Q kk =>
  hy c ρ tm σ vs F W H r Qx _ hx hw _ fun u ρ1 y F1 W1 H1 r1 q1 => hd c ρ1 (u :: tm) σ (y :: vs) F1 W1 H1 r1 Qx _ hx q1 _ fun t ρ2 x F2 W2 H2 r2 ⟨s, kvs, d, k, hp, hs, hu, hk, q⟩ => by
    subst hu
    obtain ⟨f, hr, _⟩ := r2.peek hp
    obtain ⟨a, xs, rfl, ha, hx'⟩ := rep_dk hr hs
    have r3 := r2.dropT
    have ey := key_dp r3.topDat hk
    subst ey
    refine ⟨a, _, rfl, dget_rd ha, ?_⟩
    rw [isSome_val hx']
    exact kk _ _ _ _ _ _ (r3.drop.dat (.bl _)) q
/-- for x in NAME (slot i: a dict that is owned), the dict being read meanwhile -/
def sForK (i : Nat) (g : WG) (b : WS) : WS := fun O Qx ρ => ∃ kvs, ρ[i]? = some (some (dicD kvs)) ∧ ∀ d o xs, Inv1 fun Iv : Nat → Rho → Prop => Iv 0 (ρ.set i (some (.dcl d o xs kvs))) ∧
  (∀ n ρ2, n ≤ kvs.length → Iv n ρ2 → ρ2[i]? = some (some (.dcl d o xs kvs))) ∧
  (∀ n ρ2 k e, kvs[n]? = some (k, e) → Iv n ρ2 → g (.dat (keyD k)) ρ2 Qx fun ρ3 => b ⟨Iv (n + 1), fun t ρ4 => ρ4[i]? = some (some (.dcl d o xs kvs)) ∧ O.rt t (ρ4.set i (some (dicD kvs))), fun ρ4 => ρ4[i]? = some (some (.dcl d o xs kvs)) ∧ O.nx (ρ4.set i (some (dicD kvs))), Iv (n + 1)⟩ Qx ρ3) ∧
  ∀ ρ2, Iv kvs.length ρ2 → O.nx (ρ2.set i (some (dicD kvs)))
theorem sv_forK {i : Nat} {as : List Nat} {g : TG} {wg : WG} {tb : TS} {wb : WS} (hg : GvW K I E as g wg) (hb : SvW K I E tb wb) : SvW K I E (tLock (tFor (iKeys (tVar i)) g tb)) (sForK i wg wb) := fun c ρ tm σ vs F W H r hz O Qx D hx dk ⟨kvs, hi, q⟩ => by
  obtain ⟨d, xs, hd, hl, lk⟩ := r.lockS hi
  refine ⟨d, .dK xs, hd, trivial, fun od => ?_⟩
  have r1 := lk od
  obtain ⟨Iv, i0, ii, it, iE⟩ := q d od xs
  have hlt : i < ρ.length := (List.getElem?_eq_some_iff.mp hi).1
  obtain ⟨u, f, hu, hrep, _⟩ := r1.slot (j := i) (List.getElem?_set_self hlt)
  have eu : u = .ref d := by cases hrep; rfl
  subst eu
  refine ⟨_, hu, d, od, rfl, .inl ⟨xs, by rw [upd_same], fun n m σ H => m = kvs.length - n ∧ n ≤ kvs.length ∧ ∃ ρ F W, R K I c ρ tm σ vs F W H ∧ Iv n ρ, ⟨kvs.length, by omega, Nat.zero_le _, _, F, W, r1, i0⟩, ?_⟩⟩
  rintro n m σ2 H2 ⟨rfl, hle, ρ2, F2, W2, r2, iv⟩
  have hi2 := ii n ρ2 hle iv
  obtain ⟨hlk, ru⟩ := r2.unlockS hi2
  by_cases hlt2 : n < kvs.length
  · refine .inr ⟨⟨hlk, by omega⟩, fun σ H => ∃ ρ F W, R K I c ρ tm σ vs F W H ∧ Iv (n + 1) ρ, fun σ' H' h => ⟨kvs.length - (n + 1), by omega, rfl, hlt2, h⟩, fun y H' yl => ?_⟩
    obtain ⟨eH, k, v, hk, ey⟩ := yl
    subst eH; subst ey
    obtain ⟨u2, f2, hu2, hrep2, _⟩ := r2.slot hi2
    have hpd : PD K F2 xs kvs := by cases hrep2 with | dcl _ h _ => exact h
    obtain ⟨e, he, _⟩ := pd_at hpd hk
    have r3 := r2.dat (dp_key (K := K) (F := F2) k)
    refine hg c ρ2 (.dat (keyD k)) tm σ2 (kV k) vs F2 W2 _ r3 rfl hz Qx _ _ hx (fun ρ4 σ4 F4 W4 H4 r4 _ q4 => ?_) (it n ρ2 k e he iv)
    refine hb c ρ4 tm σ4 vs F4 W4 H4 r4 hz _ Qx _ hx ⟨?_, ?_, ?_, ?_⟩ q4
    · exact fun ρ σ F W H r q => ⟨ρ, F, W, r, q⟩
    · exact fun t ρ σ v F W H r ht q => ⟨(r.unlockS q.1).1, dk.rt _ _ _ _ _ _ _ (r.unlockS q.1).2 ht q.2⟩
    · exact fun ρ σ F W H r q => ⟨(r.unlockS q.1).1, dk.nx _ _ _ _ _ (r.unlockS q.1).2 q.2⟩
    · exact fun ρ σ F W H r q => ⟨ρ, F, W, r, q⟩
  · have e : n = kvs.length := by omega
    subst e
    exact .inl ⟨⟨hlk, Nat.le_of_eq hl⟩, hlk, dk.nx _ _ _ _ _ ru (iE ρ2 iv)⟩
end
end Hz
/-! Hz53: comprehensions over the keys of a dict that is read meanwhile. -/
namespace Hz
open PySem L2 PyProof.Rows
/-- [te for .. in NAME if tt], NAME in slot i -/
def wLcK (i : Nat) (g : WG) (tt : WT) (te : WE) (wv : List Nat) : WE := fun ρ Qx Q => ∃ kvs, ρ[i]? = some (some (dicD kvs)) ∧ ∀ d o xs, Inv1 fun Iv : Nat → List T → Rho → Prop => Iv 0 [] (wipeR (ρ.set i (some (.dcl d o xs kvs))) wv) ∧
  (∀ n acc ρ2, n ≤ kvs.length → Iv n acc ρ2 → ρ2[i]? = some (some (.dcl d o xs kvs))) ∧
  (∀ n acc ρ2 k e, kvs[n]? = some (k, e) → Iv n acc ρ2 → g (.dat (keyD k)) ρ2 Qx fun ρ3 => tt ρ3 Qx fun b ρ4 => if b = true then te ρ4 Qx fun t ρ5 => ∃ s ρ6, t.opn ρ5 = some (s, ρ6) ∧ acc.length < 1000000 ∧ Iv (n + 1) (acc ++ [s]) (wipeR ρ6 wv) else Iv (n + 1) acc (wipeR ρ4 wv)) ∧
  ∀ acc ρ2, Iv kvs.length acc ρ2 → Q (.lst acc) (ρ2.set i (some (dicD kvs)))
/-- [te for .. in NAME if tt for .. in .. if tt1] -/
def wLc2K (i : Nat) (g : WG) (tt : WT) (wi1 : WI) (g1 : WG) (tt1 : WT) (te : WE) (wv wv1 : List Nat) : WE := fun ρ Qx Q => ∃ kvs, ρ[i]? = some (some (dicD kvs)) ∧ ∀ d o xs, Inv1 fun Iv : Nat → List T → Rho → Prop => Iv 0 [] (wipeR (ρ.set i (some (.dcl d o xs kvs))) wv) ∧
  (∀ n acc ρ2, n ≤ kvs.length → Iv n acc ρ2 → ρ2[i]? = some (some (.dcl d o xs kvs))) ∧
  (∀ n acc ρ2 k e, kvs[n]? = some (k, e) → Iv n acc ρ2 → g (.dat (keyD k)) ρ2 Qx fun ρ3 => tt ρ3 Qx fun b ρ4 => if b = true then wi1 ρ4 Qx fun src1 ρ5 => Inv1 fun Jv : Nat → List T → Rho → Prop => Jv 0 acc (wipeR ρ5 wv1) ∧
    (∀ j acc' ρ6, j < src1.n → Jv j acc' ρ6 → g1 (src1.it j) ρ6 Qx fun ρ7 => tt1 ρ7 Qx fun b ρ8 => if b = true then te ρ8 Qx fun t ρ9 => ∃ s ρ10, t.opn ρ9 = some (s, ρ10) ∧ acc'.length < 1000000 ∧ Jv (j + 1) (acc' ++ [s]) (wipeR ρ10 wv1) else Jv (j + 1) acc' (wipeR ρ8 wv1)) ∧
    ∀ acc' ρ6, Jv src1.n acc' ρ6 → Iv (n + 1) acc' (wipeR (dropsT src1.tmp ρ6) wv)
   else Iv (n + 1) acc (wipeR ρ4 wv)) ∧
  ∀ acc ρ2, Iv kvs.length acc ρ2 → Q (.lst acc) (ρ2.set i (some (dicD kvs)))
section
variable {K : PySem.W.Frag} {I : Sg} {E : XS}
theorem ev_lcK {i : Nat} {as wv : List Nat} {g : TG} {wg : WG} {tt : TT} {wt : WT} {te : TE} {we : WE} (hp : ∀ i ∈ wv, i ∉ I.prot) (has : ∀ i ∈ as, i ∈ wv) (hiw : i ∉ wv) (hg : GvW K I E as g wg) (ht : EvT K I E tt wt) (he : EvW K I E te we) :
    EvW K I E (tLockE (tLc (iKeys (tVar i)) g tt te wv)) (wLcK i wg wt we wv) := fun c ρ tm σ vs F W H r Qx Qv hx ⟨kvs, hi, q⟩ Q k => by
  obtain ⟨tm', hz', r', back⟩ := r.unLz
  obtain ⟨d, xs, hd, hl, lk⟩ := r'.lockS hi
  refine ⟨d, .dK xs, hd, trivial, fun od => ?_⟩
  have r1 := lk od
  obtain ⟨Iv, i0, ii, it, iE⟩ := q d od xs
  have hlt0 : i < ρ.length := (List.getElem?_eq_some_iff.mp hi).1
  obtain ⟨u, f, hu, hrep, _⟩ := r1.slot (j := i) (List.getElem?_set_self hlt0)
  have eu : u = .ref d := by cases hrep; rfl
  subst eu
  refine ⟨_, hu, d, od, rfl, .inl ⟨xs, by rw [upd_same], ?_⟩⟩
  intro D hD
  have r2 := (R.wipe r1 hz' hp).newEmpty hD
  have hzc : ∀ acc : List T, ∀ x ∈ T.lst acc :: tm', x.noLz = true := fun acc x hx => (List.mem_cons.mp hx).elim (fun e => by rw [e]; rfl) (hz' x)
  refine ⟨fun n m H => m = kvs.length - n ∧ n ≤ kvs.length ∧ ∃ ρ F W acc, R K I c ρ (.lst acc :: tm') (L2.wipe σ wv) (.ref D :: vs) F W H ∧ (∀ j ∈ wv, (ρ[j]?).join = none) ∧ Iv n acc ρ,
    ⟨kvs.length, by omega, Nat.zero_le _, _, F, W, [], r2, fun j hj => wipeR_none hj, i0⟩, ?_⟩
  rintro n m H2 ⟨rfl, hle, ρ2, F2, W2, acc, r3, hw, iv⟩
  have hi2 := ii n acc ρ2 hle iv
  obtain ⟨hlk, ru⟩ := r3.unlockS hi2
  by_cases hlt : n < kvs.length
  · have next : ∀ {ρ5 : Rho} {acc' : List T} {σ5 : L2.St} {F5 : Hp} {W5 : List Addr} {H5 : Hp}, R K I c ρ5 (.lst acc' :: tm') σ5 (.ref D :: vs) F5 W5 H5 → L2.wipe σ5 wv = L2.wipe σ wv → Iv (n + 1) acc' (wipeR ρ5 wv) →
        ∃ ρ F W acc, R K I c ρ (.lst acc :: tm') (L2.wipe σ wv) (.ref D :: vs) F W H5 ∧ (∀ j ∈ wv, (ρ[j]?).join = none) ∧ Iv (n + 1) acc ρ := fun {ρ5 acc' σ5 F5 W5 H5} r5 e5 q5 => by
      have r6 := R.wipe r5 (hzc acc') hp
      rw [e5] at r6
      exact ⟨_, F5, W5, acc', r6, fun j hj => wipeR_none hj, q5⟩
    refine .inr ⟨⟨hlk, by omega⟩, fun H => ∃ ρ F W acc, R K I c ρ (.lst acc :: tm') (L2.wipe σ wv) (.ref D :: vs) F W H ∧ (∀ j ∈ wv, (ρ[j]?).join = none) ∧ Iv (n + 1) acc ρ, fun H' h => ⟨kvs.length - (n + 1), by omega, rfl, hlt, h⟩, fun y H' yl => ?_⟩
    obtain ⟨eH, kk, v, hk, ey⟩ := yl
    subst eH; subst ey
    obtain ⟨u2, f2, hu2, hrep2, _⟩ := r3.slot hi2
    have hpd : PD K F2 xs kvs := by cases hrep2 with | dcl _ h _ => exact h
    obtain ⟨e, he0, _⟩ := pd_at hpd hk
    have r5 := r3.dat (dp_key (K := K) (F := F2) kk)
    refine hg c ρ2 (.dat (keyD kk)) (.lst acc :: tm') (L2.wipe σ wv) (kV kk) (.ref D :: vs) F2 W2 _ r5 rfl (hzc acc) Qx _ _ hx (fun ρ4 σ4 F4 W4 H4 r6 sb q4 => ?_) (it n acc ρ2 kk e he0 iv)
    have ew := wipe_same sb has
    refine ⟨ew, ht c ρ4 _ σ4 _ F4 W4 H4 r6 Qx _ hx q4 _ fun b ρ5 F5 W5 H5 r7 q5 => ?_⟩
    cases b with
    | false => exact next r7 ew q5
    | true =>
      refine he c ρ5 _ σ4 _ F5 W5 H5 r7 Qx _ hx q5 _ fun t ρ6 v F6 W6 H6 r8 ⟨s, ρ7, ho, hla, q6⟩ => ?_
      obtain ⟨r9, hsr⟩ := r8.opn ho
      obtain ⟨a, us, e, hH, hlen, r11⟩ := R.push r9 hsr
      cases e
      exact ⟨us, hH, Nat.lt_of_lt_of_le (by omega) (line_of (n := 1000000) (Nat.le_refl _)), next r11 ew q6⟩
  · have e : n = kvs.length := by omega
    subst e
    refine .inl ⟨⟨hlk, Nat.le_of_eq hl⟩, hlk, ?_⟩
    have hset : ∀ j ∈ wv, ((ρ2.set i (some (dicD kvs)))[j]?).join = none := fun j hj => by
      rw [List.getElem?_set_ne (fun e => hiw (by rw [e]; exact hj))]
      exact hw j hj
    have r6 := R.unwipe ru (hzc acc) hp hset
    exact k _ _ _ _ _ _ (back r6) (iE acc ρ2 iv)
theorem ev_lc2K {i : Nat} {as as1 wv wv1 : List Nat} {wi1 : L2.TI} {ww1 : WI} {g g1 : TG} {wg wg1 : WG} {tt tt1 : TT} {wt wt1 : WT} {te : TE} {we : WE} (hp : ∀ i ∈ wv, i ∉ I.prot) (has : ∀ i ∈ as, i ∈ wv) (hp1 : ∀ i ∈ wv1, i ∉ I.prot) (has1 : ∀ i ∈ as1, i ∈ wv1) (hsub : ∀ i ∈ wv1, i ∈ wv) (hiw : i ∉ wv)
    (hg : GvW K I E as g wg) (ht : EvT K I E tt wt) (hi1 : EvI K I E wi1 ww1) (hg1 : GvW K I E as1 g1 wg1) (ht1 : EvT K I E tt1 wt1) (he : EvW K I E te we) :
    EvW K I E (tLockE (tLc2 (iKeys (tVar i)) g tt wi1 g1 tt1 te wv wv1)) (wLc2K i wg wt ww1 wg1 wt1 we wv wv1) := fun c ρ tm σ vs F W H r Qx Qv hx ⟨kvs, hi, q⟩ Q k => by
  obtain ⟨tm', hz', r', back⟩ := r.unLz
  obtain ⟨d, xs, hd, hl, lk⟩ := r'.lockS hi
  refine ⟨d, .dK xs, hd, trivial, fun od => ?_⟩
  have r1 := lk od
  obtain ⟨Iv, i0, ii, it, iE⟩ := q d od xs
  have hlt0 : i < ρ.length := (List.getElem?_eq_some_iff.mp hi).1
  obtain ⟨u, f, hu, hrep, _⟩ := r1.slot (j := i) (List.getElem?_set_self hlt0)
  have eu : u = .ref d := by cases hrep; rfl
  subst eu
  refine ⟨_, hu, d, od, rfl, .inl ⟨xs, by rw [upd_same], ?_⟩⟩
  intro D hD
  have r2 := (R.wipe r1 hz' hp).newEmpty hD
  have hzc : ∀ acc : List T, ∀ x ∈ T.lst acc :: tm', x.noLz = true := fun acc x hx => (List.mem_cons.mp hx).elim (fun e => by rw [e]; rfl) (hz' x)
  refine ⟨fun n m H => m = kvs.length - n ∧ n ≤ kvs.length ∧ ∃ ρ F W acc, R K I c ρ (.lst acc :: tm') (L2.wipe σ wv) (.ref D :: vs) F W H ∧ (∀ j ∈ wv, (ρ[j]?).join = none) ∧ Iv n acc ρ,
    ⟨kvs.length, by omega, Nat.zero_le _, _, F, W, [], r2, fun j hj => wipeR_none hj, i0⟩, ?_⟩
  rintro n m H2 ⟨rfl, hle, ρ2, F2, W2, acc, r3, hw, iv⟩
  have hi2 := ii n acc ρ2 hle iv
  obtain ⟨hlk, ru⟩ := r3.unlockS hi2
  by_cases hlt : n < kvs.length
  · have next : ∀ {ρ5 : Rho} {acc' : List T} {σ5 : L2.St} {F5 : Hp} {W5 : List Addr} {H5 : Hp}, R K I c ρ5 (.lst acc' :: tm') σ5 (.ref D :: vs) F5 W5 H5 → L2.wipe σ5 wv = L2.wipe σ wv → Iv (n + 1) acc' (wipeR ρ5 wv) →
        ∃ ρ F W acc, R K I c ρ (.lst acc :: tm') (L2.wipe σ wv) (.ref D :: vs) F W H5 ∧ (∀ j ∈ wv, (ρ[j]?).join = none) ∧ Iv (n + 1) acc ρ := fun {ρ5 acc' σ5 F5 W5 H5} r5 e5 q5 => by
      have r6 := R.wipe r5 (hzc acc') hp
      rw [e5] at r6
      exact ⟨_, F5, W5, acc', r6, fun j hj => wipeR_none hj, q5⟩
    refine .inr ⟨⟨hlk, by omega⟩, fun H => ∃ ρ F W acc, R K I c ρ (.lst acc :: tm') (L2.wipe σ wv) (.ref D :: vs) F W H ∧ (∀ j ∈ wv, (ρ[j]?).join = none) ∧ Iv (n + 1) acc ρ, fun H' h => ⟨kvs.length - (n + 1), by omega, rfl, hlt, h⟩, fun y H' yl => ?_⟩
    obtain ⟨eH, kk, v, hk, ey⟩ := yl
    subst eH; subst ey
    obtain ⟨u2, f2, hu2, hrep2, _⟩ := r3.slot hi2
    have hpd : PD K F2 xs kvs := by cases hrep2 with | dcl _ h _ => exact h
    obtain ⟨e, he0, _⟩ := pd_at hpd hk
    have r5 := r3.dat (dp_key (K := K) (F := F2) kk)
    refine hg c ρ2 (.dat (keyD kk)) (.lst acc :: tm') (L2.wipe σ wv) (kV kk) (.ref D :: vs) F2 W2 _ r5 rfl (hzc acc) Qx _ _ hx (fun ρ4 σ4 F4 W4 H4 r6 sb q4 => ?_) (it n acc ρ2 kk e he0 iv)
    have ew := wipe_same sb has
    refine ⟨ew, ht c ρ4 _ σ4 _ F4 W4 H4 r6 Qx _ hx q4 _ fun b ρ5 F5 W5 H5 r7 q5 => ?_⟩
    cases b with
    | false => exact next r7 ew q5
    | true =>
      refine hi1 c ρ5 (.lst acc :: tm') σ4 (.ref D :: vs) F5 W5 H5 r7 Qx _ hx q5 _ fun J1 src1 ys ρ6 F6 W6 H6 r8 hl1 hs1 hn1 hr1 ⟨Jv, j0, jt, jE⟩ => ?_
      have hz1 : ∀ acc : List T, ∀ x ∈ src1.tmp ++ T.lst acc :: tm', x.noLz = true := fun acc x hx => (List.mem_append.mp hx).elim (hn1 x) (hzc acc x)
      have r9 := R.wipe r8 (hz1 acc) hp1
      refine ⟨fun j m H => m = src1.n - j ∧ j ≤ src1.n ∧ ∃ ρ F W acc, R K I c ρ (src1.tmp ++ T.lst acc :: tm') (L2.wipe σ4 wv1) (ys ++ .ref D :: vs) F W H ∧ (∀ j ∈ wv1, (ρ[j]?).join = none) ∧ Jv j acc ρ,
        ⟨src1.n, by omega, Nat.zero_le _, _, F6, W6, acc, r9, fun j hj => wipeR_none hj, j0⟩, ?_⟩
      rintro j m1 H7 ⟨rfl, hle1, ρ7, F7, W7, acc1, r10, hw1, jv⟩
      obtain ⟨turns1, stop1⟩ := hs1 c ρ7 (.lst acc1 :: tm') (L2.wipe σ4 wv1) (.ref D :: vs) F7 W7 H7 r10
      by_cases hlt1 : j < src1.n
      · obtain ⟨go1, yld1⟩ := turns1 j hlt1
        have next1 : ∀ {ρ5 : Rho} {acc' : List T} {σ5 : L2.St} {F5 : Hp} {W5 : List Addr} {H5 : Hp}, R K I c ρ5 (src1.tmp ++ .lst acc' :: tm') σ5 (ys ++ .ref D :: vs) F5 W5 H5 → L2.wipe σ5 wv1 = L2.wipe σ4 wv1 → Jv (j + 1) acc' (wipeR ρ5 wv1) →
            ∃ ρ F W acc, R K I c ρ (src1.tmp ++ .lst acc :: tm') (L2.wipe σ4 wv1) (ys ++ .ref D :: vs) F W H5 ∧ (∀ j ∈ wv1, (ρ[j]?).join = none) ∧ Jv (j + 1) acc ρ := fun {ρ5 acc' σ5 F5 W5 H5} r5 e5 q5 => by
          have r6 := R.wipe r5 (hz1 acc') hp1
          rw [e5] at r6
          exact ⟨_, F5, W5, acc', r6, fun j hj => wipeR_none hj, q5⟩
        refine .inr ⟨go1, fun H => ∃ ρ F W acc, R K I c ρ (src1.tmp ++ .lst acc :: tm') (L2.wipe σ4 wv1) (ys ++ .ref D :: vs) F W H ∧ (∀ j ∈ wv1, (ρ[j]?).join = none) ∧ Jv (j + 1) acc ρ, fun H' h => ⟨src1.n - (j + 1), by omega, rfl, hlt1, h⟩, fun x1 H8 y1 => ?_⟩
        obtain ⟨F8, r11⟩ := yld1 x1 H8 y1
        refine hg1 c ρ7 (src1.it j) (src1.tmp ++ .lst acc1 :: tm') (L2.wipe σ4 wv1) x1 (ys ++ .ref D :: vs) F8 W7 H8 r11 (hr1 j hlt1) (hz1 acc1) Qx _ _ hx (fun ρ8 σ8 F9 W9 H9 r12 sb1 q8 => ?_) (jt j acc1 ρ7 hlt1 jv)
        have ew1 := wipe_same sb1 has1
        refine ⟨ew1, ht1 c ρ8 _ σ8 _ F9 W9 H9 r12 Qx _ hx q8 _ fun b ρ9 F10 W10 H10 r13 q9 => ?_⟩
        cases b with
        | false => exact next1 r13 ew1 q9
        | true =>
          refine he c ρ9 _ σ8 _ F10 W10 H10 r13 Qx _ hx q9 _ fun t ρ10 v F11 W11 H11 r14 ⟨s, ρ11, ho, hla, q10⟩ => ?_
          obtain ⟨r15, hsr⟩ := r14.opn ho
          have r16 : R K I c ρ11 (s :: .lst acc1 :: (src1.tmp ++ tm')) σ8 (v :: .ref D :: (ys ++ vs)) F11 W11 H11 := by
            have z := R.unmid (ts := [s]) (us := [v]) (R.mid (ts := s :: src1.tmp) (us := v :: ys) r15 (by rw [List.length_cons, List.length_cons, hl1])) rfl
            exact z
          obtain ⟨a, us, e, hH, hlen, r17⟩ := r16.push hsr
          cases e
          exact ⟨us, hH, Nat.lt_of_lt_of_le (by omega) (line_of (n := 1000000) (Nat.le_refl _)), next1 (R.unmid r17 hl1) ew1 q10⟩
      · have e : j = src1.n := by omega
        subst e
        refine .inl ⟨stop1, ?_⟩
        have r11 := R.unwipe r10 (hz1 acc1) hp1 hw1
        have r12 := R.drops (ts := src1.tmp) (us := ys) r11 hl1
        exact next r12 ew (jE acc1 ρ7 jv)
  · have e : n = kvs.length := by omega
    subst e
    refine .inl ⟨⟨hlk, Nat.le_of_eq hl⟩, hlk, ?_⟩
    have hset : ∀ j ∈ wv, ((ρ2.set i (some (dicD kvs)))[j]?).join = none := fun j hj => by
      rw [List.getElem?_set_ne (fun e => hiw (by rw [e]; exact hj))]
      exact hw j hj
    have r6 := R.unwipe ru (hzc acc) hp hset
    exact k _ _ _ _ _ _ (back r6) (iE acc ρ2 iv)
end
end Hz
/-! Hz54: comprehensions over a locked dict by what they make. -/
namespace Hz
open PySem L2
section
variable {wg wg1 : WG} {wt wt1 : WT} {we : WE} {wi1 : WI} {wv wv1 : List Nat} {Qx : WX} {ρ0 : Rho} {i n : Nat} {it : Nat → T} {kvs : DKv} {dl : T} {Fin : List T → Rho → Prop} {α : Type}
/-- what a comprehension makes of a dict's keys and values, these being kf x for the x of xs: v x, where p x -/
theorem lcKD (xs : List α) (kf : α → Key × PyData) (p : α → Prop) [DecidablePred p] (v : α → T) (hk : kvs = xs.map kf) (hi : ρ0[i]? = some (some dl)) (hz : xs.length ≤ 1000000)
    (step : ∀ x ∈ xs, ∀ (q : Prop) (k : Option T → Rho → Prop), q → (p x → k (some (v x)) ρ0) → (¬ p x → k none ρ0) →
      wg (.dat (keyD (kf x).1)) ρ0 Qx fun ρ3 => wt ρ3 Qx fun b ρ4 => if b = true then we ρ4 Qx fun t ρ5 => ∃ s ρ6, t.opn ρ5 = some (s, ρ6) ∧ q ∧ k (some s) (wipeR ρ6 wv) else k none (wipeR ρ4 wv))
    (fin : Fin ((xs.filter fun x => decide (p x)).map v) ρ0) :
    Inv1 fun Iv : Nat → List T → Rho → Prop => Iv 0 [] ρ0 ∧ (∀ n acc ρ2, n ≤ kvs.length → Iv n acc ρ2 → ρ2[i]? = some (some dl)) ∧
      (∀ n acc ρ2 k e, kvs[n]? = some (k, e) → Iv n acc ρ2 → wg (.dat (keyD k)) ρ2 Qx fun ρ3 => wt ρ3 Qx fun b ρ4 => if b = true then we ρ4 Qx fun t ρ5 => ∃ s ρ6, t.opn ρ5 = some (s, ρ6) ∧ acc.length < 1000000 ∧ Iv (n + 1) (acc ++ [s]) (wipeR ρ6 wv) else Iv (n + 1) acc (wipeR ρ4 wv)) ∧
      ∀ acc ρ2, Iv kvs.length acc ρ2 → Fin acc ρ2 := by
  subst hk
  refine ⟨fun i acc ρ => acc = ((xs.take i).filter fun x => decide (p x)).map v ∧ ρ = ρ0, ⟨rfl, rfl⟩, ?_, ?_, ?_⟩
  · rintro n acc ρ hn ⟨_, rfl⟩
    exact hi
  · rintro n acc ρ k e hke ⟨rfl, rfl⟩
    rw [List.getElem?_map] at hke
    cases hx : xs[n]? with
    | none => rw [hx] at hke; cases hke
    | some x =>
    rw [hx] at hke
    replace hke : kf x = (k, e) := Option.some.inj hke
    have et : xs.take (n + 1) = xs.take n ++ [x] := by rw [List.take_succ, hx]; rfl
    have hl : (((xs.take n).filter fun x => decide (p x)).map v).length < 1000000 := by
      have := (List.getElem?_eq_some_iff.mp hx).1
      rw [List.length_map]
      refine Nat.lt_of_le_of_lt (List.length_filter_le _ _) ?_
      rw [List.length_take]
      omega
    have hs := step x (List.mem_of_getElem? hx) _ (fun o ρ' => match o with
      | some s => ((xs.take n).filter fun x => decide (p x)).map v ++ [s] = ((xs.take (n + 1)).filter fun x => decide (p x)).map v ∧ ρ' = ρ
      | none => ((xs.take n).filter fun x => decide (p x)).map v = ((xs.take (n + 1)).filter fun x => decide (p x)).map v ∧ ρ' = ρ) hl (fun c => ⟨?_, rfl⟩) fun c => ⟨?_, rfl⟩
    · rw [hke] at hs
      exact hs
    · rw [et, List.filter_append, List.map_append, List.filter_cons, if_pos (decide_eq_true c)]
      rfl
    · rw [et, List.filter_append, List.filter_cons, if_neg (by simpa using c), List.filter_nil, List.append_nil]
  · rintro acc ρ ⟨rfl, rfl⟩
    rw [List.length_map, List.take_length]
    exact fin
/-- the inner one of two fors, no test: what stands there already comes ahead -/
theorem lcMA (acc0 : List T) (xs : List α) (F : α → T) (v : α → T) (hn : n = xs.length) (hit : ∀ i x, xs[i]? = some x → it i = F x) (hz : acc0.length + xs.length ≤ 1000000)
    (step : ∀ x ∈ xs, ∀ (q : Prop) (k : Option T → Rho → Prop), q → k (some (v x)) ρ0 →
      wg (F x) ρ0 Qx fun ρ3 => wt ρ3 Qx fun b ρ4 => if b = true then we ρ4 Qx fun t ρ5 => ∃ s ρ6, t.opn ρ5 = some (s, ρ6) ∧ q ∧ k (some s) (wipeR ρ6 wv) else k none (wipeR ρ4 wv))
    (fin : Fin (acc0 ++ xs.map v) ρ0) :
    Inv1 fun Iv : Nat → List T → Rho → Prop => Iv 0 acc0 ρ0 ∧ (∀ i acc ρ2, i < n → Iv i acc ρ2 → wg (it i) ρ2 Qx fun ρ3 => wt ρ3 Qx fun b ρ4 => if b = true then we ρ4 Qx fun t ρ5 => ∃ s ρ6, t.opn ρ5 = some (s, ρ6) ∧ acc.length < 1000000 ∧ Iv (i + 1) (acc ++ [s]) (wipeR ρ6 wv) else Iv (i + 1) acc (wipeR ρ4 wv)) ∧ ∀ acc ρ2, Iv n acc ρ2 → Fin acc ρ2 := by
  subst hn
  refine ⟨fun i acc ρ => acc = acc0 ++ (xs.take i).map v ∧ ρ = ρ0, ⟨(List.append_nil _).symm, rfl⟩, ?_, ?_⟩
  · rintro i acc ρ hi ⟨rfl, rfl⟩
    obtain ⟨x, hx⟩ := at_lt hi
    rw [hit i x hx]
    have hl : (acc0 ++ (xs.take i).map v).length < 1000000 := by
      rw [List.length_append, List.length_map, List.length_take]
      omega
    have et : xs.take (i + 1) = xs.take i ++ [x] := by rw [List.take_succ, hx]; rfl
    refine step x (List.mem_of_getElem? hx) _ (fun o ρ' => match o with
      | some s => acc0 ++ (xs.take i).map v ++ [s] = acc0 ++ (xs.take (i + 1)).map v ∧ ρ' = ρ
      | none => acc0 ++ (xs.take i).map v = acc0 ++ (xs.take (i + 1)).map v ∧ ρ' = ρ) hl ⟨?_, rfl⟩
    rw [et, List.map_append, List.append_assoc]
    rfl
  · rintro acc ρ ⟨rfl, rfl⟩
    rw [List.take_length]
    exact fin
end
section
variable {wg wg1 : WG} {wt wt1 : WT} {we : WE} {wi1 : WI} {wv wv1 : List Nat} {Qx : WX} {ρ0 : Rho} {i n : Nat} {it : Nat → T} {kvs : DKv} {dl : T} {Fin : List T → Rho → Prop} {α : Type}
/-- two fors, the first over a locked dict: what comes of x is g x, where p x -/
theorem lc2KM (xs : List α) (kf : α → Key × PyData) (p : α → Prop) [DecidablePred p] (g : α → List T) (hk : kvs = xs.map kf) (hi : ρ0[i]? = some (some dl)) (hz : (xs.flatMap fun x => if p x then g x else []).length ≤ 1000000)
    (step : ∀ x ∈ xs, ∀ (acc : List T) (k : List T → Rho → Prop), (p x → acc.length + (g x).length ≤ 1000000) → (p x → k (acc ++ g x) ρ0) → (¬ p x → k acc ρ0) →
      wg (.dat (keyD (kf x).1)) ρ0 Qx fun ρ3 => wt ρ3 Qx fun b ρ4 => if b = true then wi1 ρ4 Qx fun src1 ρ5 => Inv1 fun Jv : Nat → List T → Rho → Prop => Jv 0 acc (wipeR ρ5 wv1) ∧
        (∀ j acc' ρ6, j < src1.n → Jv j acc' ρ6 → wg1 (src1.it j) ρ6 Qx fun ρ7 => wt1 ρ7 Qx fun b ρ8 => if b = true then we ρ8 Qx fun t ρ9 => ∃ s ρ10, t.opn ρ9 = some (s, ρ10) ∧ acc'.length < 1000000 ∧ Jv (j + 1) (acc' ++ [s]) (wipeR ρ10 wv1) else Jv (j + 1) acc' (wipeR ρ8 wv1)) ∧
        ∀ acc' ρ6, Jv src1.n acc' ρ6 → k acc' (wipeR (dropsT src1.tmp ρ6) wv)
       else k acc (wipeR ρ4 wv))
    (fin : Fin (xs.flatMap fun x => if p x then g x else []) ρ0) :
    Inv1 fun Iv : Nat → List T → Rho → Prop => Iv 0 [] ρ0 ∧ (∀ n acc ρ2, n ≤ kvs.length → Iv n acc ρ2 → ρ2[i]? = some (some dl)) ∧
      (∀ n acc ρ2 k e, kvs[n]? = some (k, e) → Iv n acc ρ2 → wg (.dat (keyD k)) ρ2 Qx fun ρ3 => wt ρ3 Qx fun b ρ4 => if b = true then wi1 ρ4 Qx fun src1 ρ5 => Inv1 fun Jv : Nat → List T → Rho → Prop => Jv 0 acc (wipeR ρ5 wv1) ∧
        (∀ j acc' ρ6, j < src1.n → Jv j acc' ρ6 → wg1 (src1.it j) ρ6 Qx fun ρ7 => wt1 ρ7 Qx fun b ρ8 => if b = true then we ρ8 Qx fun t ρ9 => ∃ s ρ10, t.opn ρ9 = some (s, ρ10) ∧ acc'.length < 1000000 ∧ Jv (j + 1) (acc' ++ [s]) (wipeR ρ10 wv1) else Jv (j + 1) acc' (wipeR ρ8 wv1)) ∧
        ∀ acc' ρ6, Jv src1.n acc' ρ6 → Iv (n + 1) acc' (wipeR (dropsT src1.tmp ρ6) wv)
       else Iv (n + 1) acc (wipeR ρ4 wv)) ∧
      ∀ acc ρ2, Iv kvs.length acc ρ2 → Fin acc ρ2 := by
  subst hk
  refine ⟨fun i acc ρ => acc = ((xs.take i).flatMap fun x => if p x then g x else []) ∧ ρ = ρ0, ⟨rfl, rfl⟩, ?_, ?_, ?_⟩
  · rintro n acc ρ hn ⟨_, rfl⟩
    exact hi
  · rintro n acc ρ k e hke ⟨rfl, rfl⟩
    rw [List.getElem?_map] at hke
    cases hx : xs[n]? with
    | none => rw [hx] at hke; cases hke
    | some x =>
    rw [hx] at hke
    replace hke : kf x = (k, e) := Option.some.inj hke
    have et : xs.take (n + 1) = xs.take n ++ [x] := by rw [List.take_succ, hx]; rfl
    have ef : ((xs.take (n + 1)).flatMap fun x => if p x then g x else []) = ((xs.take n).flatMap fun x => if p x then g x else []) ++ if p x then g x else [] := by
      rw [et, List.flatMap_append, List.flatMap_cons, List.flatMap_nil, List.append_nil]
    have hl : ((xs.take (n + 1)).flatMap fun x => if p x then g x else []).length ≤ 1000000 := by
      refine Nat.le_trans ?_ hz
      conv => rhs; rw [← List.take_append_drop (n + 1) xs, List.flatMap_append, List.length_append]
      exact Nat.le_add_right _ _
    have hs := step x (List.mem_of_getElem? hx) ((xs.take n).flatMap fun x => if p x then g x else []) (fun acc ρ' => acc = ((xs.take (n + 1)).flatMap fun x => if p x then g x else []) ∧ ρ' = ρ) (fun c => ?_) (fun c => ⟨?_, rfl⟩) fun c => ⟨?_, rfl⟩
    · rw [hke] at hs
      exact hs
    · rw [ef, if_pos c, List.length_append] at hl
      exact hl
    · rw [ef, if_pos c]
    · rw [ef, if_neg c, List.append_nil]
  · rintro acc ρ ⟨rfl, rfl⟩
    rw [List.length_map, List.take_length]
    exact fin
end
section
variable {wg : WG} {wt : WT} {wk we : WE} {wv : List Nat} {Qx : Hz.WX} {ρ0 : Rho} {n : Nat} {it : Nat → T} {Fin : DKv → Rho → Prop} {α : Type}
/-- a dict comprehension without a test -/
theorem dcM (xs : List α) (F : α → T) (kf : α → Key) (v : α → PyData) (hn : n = xs.length) (hit : ∀ i x, xs[i]? = some x → it i = F x) (hz : xs.length ≤ 1000000)
    (nd : (xs.map kf).Nodup)
    (step : ∀ x ∈ xs, ∀ (q : Prop) (k : Option (Key × PyData) → Rho → Prop), q → k (some (kf x, v x)) ρ0 →
      wg (F x) ρ0 Qx fun ρ3 => wt ρ3 Qx fun b ρ4 => if b = true then wk ρ4 Qx fun t ρ5 => (wFz we) ρ5 Qx fun u ρ6 => ∃ d k' e, t = .dat d ∧ keyOf d = some k' ∧ u = .dat e ∧ q ∧ k (some (k', e)) (wipeR ρ6 wv) else k none (wipeR ρ4 wv))
    (fin : Fin (xs.map fun x => (kf x, v x)) ρ0) :
    Inv1 fun Iv : Nat → DKv → Rho → Prop => Iv 0 [] ρ0 ∧ (∀ i acc ρ2, i < n → Iv i acc ρ2 → wg (it i) ρ2 Qx fun ρ3 => wt ρ3 Qx fun b ρ4 => if b = true then wk ρ4 Qx fun t ρ5 => (wFz we) ρ5 Qx fun u ρ6 => ∃ d k' e, t = .dat d ∧ keyOf d = some k' ∧ u = .dat e ∧ acc.length < 1000000 ∧ Iv (i + 1) (putA acc k' e) (wipeR ρ6 wv) else Iv (i + 1) acc (wipeR ρ4 wv)) ∧ ∀ acc ρ2, Iv n acc ρ2 → Fin acc ρ2 := by
  have e : (xs.filter fun x => decide True) = xs := List.filter_eq_self.mpr fun _ _ => rfl
  refine dcD xs F (fun _ => True) kf v hn hit hz ?_ (fun x hx q k hq h1 _ => step x hx q k hq (h1 trivial)) ?_
  · rw [e]; exact nd
  · rw [e]; exact fin
end
theorem lookup_rel {env : Env} : ∀ {names : List (Str × NameKind)} {x : Str} {k0 : NameKind}, names.lookup x = some k0 → k0 = .cell ∨ k0 = .free →
    (names.map fun (n, k) => if (k == NameKind.free && env.scope.kind == .function && env.kindOf n == some .cell) then (n, NameKind.cell) else (n, k)).lookup x = some .cell ∨
    (names.map fun (n, k) => if (k == NameKind.free && env.scope.kind == .function && env.kindOf n == some .cell) then (n, NameKind.cell) else (n, k)).lookup x = some .free
  | [], x, k0, h, _ => by simp at h
  | (n, k) :: r, x, k0, h, hk => by
    have ih := @lookup_rel env r x k0
    rw [List.map_cons]
    rw [List.lookup_cons] at h
    by_cases e : (x == n) = true
    · rw [e] at h
      cases h
      by_cases c : (k == NameKind.free && env.scope.kind == .function && env.kindOf n == some .cell) = true
      · refine .inl ?_
        show List.lookup x ((if _ then _ else _) :: _) = _
        rw [if_pos c, List.lookup_cons, e]
      · have hh : List.lookup x ((if (k == NameKind.free && env.scope.kind == .function && env.kindOf n == some .cell) = true then (n, NameKind.cell) else (n, k)) :: (r.map fun (n, k) => if (k == NameKind.free && env.scope.kind == .function && env.kindOf n == some .cell) then (n, NameKind.cell) else (n, k))) = some k := by
          rw [if_neg c, List.lookup_cons, e]
        rcases hk with rfl | rfl
        · exact .inl hh
        · exact .inr hh
    · have e' : (x == n) = false := by simpa using e
      rw [e'] at h
      have hh := ih h hk
      by_cases c : (k == NameKind.free && env.scope.kind == .function && env.kindOf n == some .cell) = true
      · show List.lookup x ((if _ then _ else _) :: _) = _ ∨ List.lookup x ((if _ then _ else _) :: _) = _
        rw [if_pos c, List.lookup_cons, e']
        exact hh
      · show List.lookup x ((if _ then _ else _) :: _) = _ ∨ List.lookup x ((if _ then _ else _) :: _) = _
        rw [if_neg c, List.lookup_cons, e']
        exact hh
/-- a comprehension in a comprehension -/
theorem blk_relabel {N : List Str} {sc scope : Scope} {own : List (Str × Nat)} {env : Env} (h : BlkOk N sc scope own) : BlkOk N (PySem.relabel sc env) scope own :=
  ⟨h.kind, h.uniq, h.ix, fun y hy e => (h.free y hy e).elim (fun q => lookup_rel q (.inl rfl)) (fun q => lookup_rel q (.inr rfl)), h.own⟩
theorem sw_cell {elt : Expr} {gs : List Comprehension} {scope : Scope} {pos py : Pos} {y : Str} {l : Nat} {env : Env} (hy : env.scope.names.lookup y = some .cell) : swapsWith (.ListComp elt gs scope pos) (some (.Name y py)) l env = pure false := by
  have ky : env.kindOf y = some .cell := hy
  unfold swapsWith
  simp only [ky]
  cases env.blockKind == .function <;> rfl
theorem sw_cellD {kx vx : Expr} {gs : List Comprehension} {scope : Scope} {pos py : Pos} {y : Str} {l : Nat} {env : Env} (hy : env.scope.names.lookup y = some .cell) : swapsWith (.DictComp kx vx gs scope pos) (some (.Name y py)) l env = pure false := by
  have ky : env.kindOf y = some .cell := hy
  unfold swapsWith
  simp only [ky]
  cases env.blockKind == .function <;> rfl
theorem cutL_fromG {α : Type} {xs : List α} {i : Int} (h0 : 0 ≤ i) : cutL xs (some i) none = xs.drop i.toNat := by
  by_cases h : i ≤ xs.length
  · exact cutL_from h0 h
  · unfold cutL HT.sIx
    simp only [if_neg (show ¬ i < 0 by omega)]
    rw [Nat.min_eq_right (by omega), List.drop_of_length_le (Nat.le_refl _), List.drop_of_length_le (show xs.length ≤ i.toNat by omega), List.take_nil]
end Hz
/-! Hz55: a list that is walked and read meanwhile. -/
namespace Hz
open PySem L2
/-- so many slots, whatever they hold -/
def AnyV : Nat → List (Option T) → Prop
  | 0, vs => vs = []
  | n + 1, vs => ∃ x r, vs = x :: r ∧ AnyV n r
theorem any_of : ∀ {n : Nat} {vs : List (Option T)}, vs.length = n → AnyV n vs
  | 0, vs, h => List.eq_nil_of_length_eq_zero h
  | n + 1, [], h => by cases h
  | n + 1, x :: r, h => ⟨x, r, rfl, any_of (Nat.succ.inj h)⟩
/-- for x in NAME (slot i: a list of data), NAME being read meanwhile, not written -/
def sForL (i : Nat) (g : WG) (b : WS) : WS := fun O Qx ρ => ∃ ts, ρ[i]? = some (some (.lst ts)) ∧ ts.all T.copy = true ∧ Inv1 fun Iv : Nat → Rho → Prop => Iv 0 ρ ∧
  (∀ n ρ2, n ≤ ts.length → Iv n ρ2 → ρ2[i]? = some (some (.lst ts))) ∧
  (∀ n ρ2, n < ts.length → Iv n ρ2 → g (ts.getD n tN) ρ2 Qx fun ρ3 => b ⟨Iv (n + 1), O.rt, O.nx, Iv (n + 1)⟩ Qx ρ3) ∧
  ∀ ρ2, Iv ts.length ρ2 → O.nx ρ2
section
variable {K : PySem.W.Frag} {I : Sg} {E : XS}
theorem sv_forL {i : Nat} {as : List Nat} {g : TG} {wg : WG} {tb : TS} {wb : WS} (hg : GvW K (I.more [i]) E as g wg) (hb : SvW K (I.more [i]) E tb wb) : SvW K I E (tFor (iList K (tVar i)) g tb) (sForL i wg wb) := fun c ρ tm σ vs F W H r hz O Qx D hx dk ⟨ts, hi, hc, Iv, i0, ii, it, iE⟩ => by
  obtain ⟨u, f, hu, hrep, _⟩ := r.slot hi
  cases hrep with
  | lst h1 h2 p =>
  rename_i a us fps
  obtain ⟨c', ec, r', bk⟩ := r.rebase [i]
  have hx' : XOk K (I.more [i]) c' E Qx := fun C t ρ σ v d F W H r => hx C t ρ σ v d F W H (bk r)
  refine ⟨_, hu, a, rfl, ⟨us, SqL.of h1⟩, fun n m σ H => m = ts.length - n ∧ n ≤ ts.length ∧ ∃ ρ F W, R K (I.more [i]) c' ρ tm σ vs F W H ∧ Iv n ρ, ⟨ts.length, by omega, Nat.zero_le _, ρ, F, W, r', i0⟩, ?_⟩
  rintro n m σ2 H2 ⟨rfl, hle, ρ2, F2, W2, r2, iv⟩
  have hi2 := ii n ρ2 hle iv
  obtain ⟨u2, f2, hu2, hrep2, _⟩ := r2.slot hi2
  have p1 := r2.pr i (List.mem_append_left _ List.mem_cons_self)
  rw [ec, hu2, hu] at p1
  cases p1
  cases hrep2 with
  | lst k1 k2 q =>
  rename_i us2 fps2
  have hl := repA_len k2
  have kc := repA_copy (F' := F2) (W' := W2) (H' := H2) (.refl _) (fun _ z => z) k2 hc
  by_cases hlt : n < ts.length
  · refine .inr ⟨⟨us2, us2[n]'(by omega), SqL.of k1, List.getElem?_eq_getElem (by omega)⟩, fun σ H => ∃ ρ F W, R K (I.more [i]) c' ρ tm σ vs F W H ∧ Iv (n + 1) ρ, fun σ' H' h => ⟨ts.length - (n + 1), by omega, rfl, hlt, h⟩, fun x H' y => ?_⟩
    obtain ⟨e1, e2⟩ := y
    subst e1
    have hx0 := e2 us2 (SqL.of k1)
    have hk : ts[n]? = some (ts[n]'hlt) := List.getElem?_eq_getElem hlt
    obtain ⟨u', f', e3, e4⟩ := repA_at kc hk
    rw [hx0] at e3
    cases e3
    have hcp := List.all_eq_true.mp hc _ (List.mem_of_getElem? hk)
    have hn := it n ρ2 hlt iv
    rw [getD_of hk] at hn
    refine hg c' ρ2 (ts[n]'hlt) tm σ2 x vs F2 W2 H' (R.dup r2 e4 hcp) (copy_real hcp) hz Qx _ _ hx' (fun ρ4 σ4 F4 W4 H4 r4 _ q4 => ?_) hn
    refine hb c' ρ4 tm σ4 vs F4 W4 H4 r4 hz _ Qx _ hx' ⟨?_, ?_, ?_, ?_⟩ q4
    · exact fun ρ σ F W H r q => ⟨ρ, F, W, r, q⟩
    · exact fun t ρ σ v F W H r ht q => dk.rt _ _ _ _ _ _ _ (bk r) ht q
    · exact fun ρ σ F W H r q => dk.nx _ _ _ _ _ (bk r) q
    · exact fun ρ σ F W H r q => ⟨ρ, F, W, r, q⟩
  · have e : n = ts.length := by omega
    subst e
    exact .inl ⟨⟨us2, SqL.of k1, Nat.le_of_eq hl⟩, dk.nx _ _ _ _ _ (bk r2) (iE ρ2 iv)⟩
/-- slots that are not looked at any more -/
def sForget (is : List Nat) (w : WS) : WS := fun O Qx ρ => w O Qx (wipeR ρ is)
theorem R.forgets {c : Ct} {tm : List T} {σ : L2.St} {vs : List V} {F : Hp} {W : List Addr} {H : Hp} : ∀ (is : List Nat) {ρ : Rho}, R K I c ρ tm σ vs F W H → R K I c (wipeR ρ is) tm σ vs F W H
  | [], ρ, h => h
  | i :: is, ρ, h => (R.forgets is h).forget
theorem sv_forget {tb : TS} {wb : WS} (is : List Nat) (h : SvW K I E tb wb) : SvW K I E tb (sForget is wb) := fun c ρ tm σ vs F W H r hz O Qx D hx dk q => h c (wipeR ρ is) tm σ vs F W H (R.forgets is r) hz O Qx D hx dk q
end
end Hz
/-! Hz56: raise and try. -/
namespace Hz
open PySem L2
section
variable {K : PySem.W.Frag} {I : Sg} {E : XS} {c : Ct} {ρ ρ' : Rho} {t : T} {tm ts : List T} {σ : L2.St} {v : V} {vs us : List V} {F : Hp} {W : List Addr} {H : Hp}
theorem R.newX {d : Addr} {o : HO} (h : R K I c ρ tm σ vs F W H) (hd : H d = none) : ∃ F', F' d = some o ∧ R K I c ρ tm σ vs F' W (upd H d o) := by
  obtain ⟨fA, hA, nd, wf, k⟩ := R.loc (ts := []) (us := []) h rfl
  have s1 := (Step.alloc (o := o) wf hd).less (f2 := [d]) fun b hb => by
    rcases List.mem_singleton.mp hb with rfl
    exact List.mem_cons_self
  exact ⟨joinF F (upd H d o) [d], (joinF_in (List.mem_singleton.mpr rfl)).trans upd_same, k (us' := []) (ts' := []) (fB := []) (s1.trans (Step.join s1.wf)) .nil .nil⟩
/-- the values at hand are set aside -/
theorem R.aside (h : R K I c ρ tm σ vs F W H) (hz : ∀ x ∈ tm, x.noLz = true) : ∃ c', R K I c' ρ [] σ [] F W H ∧
    ∀ ρ' ts σ' us F' W' H', R K I c' ρ' ts σ' us F' W' H' → R K I c ρ' (ts ++ tm) σ' (us ++ vs) F' W' H' := by
  obtain ⟨f1, f2, h1, h2, nd, st⟩ := h.ex
  have pq : (f1 ++ f2).Perm (f2 ++ f1) := List.perm_append_comm
  have st' := st.perm (.refl _) pq
  have nd0 := nodup_of_perm pq nd
  refine ⟨⟨H, F, W, f2, c.σ0⟩, ⟨⟨[], f2, .nil, h2, (List.nodup_append.mp nd).2.1, Step.refl (st.wf.less fun a ha => List.mem_append_right _ ha)⟩, h.pr⟩, fun ρ' ts σ' us F' W' H' r => ⟨?_, r.pr⟩⟩
  obtain ⟨g1, g2, j1, j2, ndg, sg⟩ := r.ex
  obtain ⟨s3, nd3, hk⟩ := sg.frame st'.wf nd0 ndg
  have sig : ∀ {xs : List V} {ys : List T} {f : List Addr}, Lst (RepT K F W H σ) xs ys f → (∀ x ∈ ys, x.noLz = true) → Lst (RepT K F W H σ') xs ys f := by
    intro xs ys f hh
    induction hh with
    | nil => intro _; exact .nil
    | cons k1 _ q ih => intro hn; exact .cons (k1.sig (hn _ List.mem_cons_self)) (ih fun x hx => hn x (List.mem_cons_of_mem _ hx)) q
  have pm : ((g1 ++ g2) ++ f1).Perm ((g1 ++ f1) ++ g2) := by
    rw [List.append_assoc, List.append_assoc]
    exact List.perm_append_comm.append_left g1
  refine ⟨g1 ++ f1, g2, j1.app ((sig h1 hz).mono (f₀ := f1) (fun _ z => z) fun x y g hp hs => hp.keep s3.subF s3.subW fun a ha => hk a (hs a ha)), j2, nodup_of_perm pm nd3, (st'.trans s3).perm (.refl _) pm⟩
def sRaise (C : Addr) (wa : WE) : WS := fun _ Qx ρ => (wFz wa) ρ Qx fun t ρ1 => ∃ d, t = .dat d ∧ Qx C (.dat d) ρ1
theorem sv_raise {C : Addr} {ta : TE} {wa : WE} (ha : EvW K I E ta wa) : SvW K I E (tRaiseErr C (fun cls d σ H => E σ cls d H) (tCons ta tNil)) (sRaise C wa) := fun c ρ tm σ vs F W H r hz O Qx D hx dk q =>
  ev_fz ha c ρ tm σ vs F W H r Qx _ hx q _ fun t ρ1 v F1 W1 H1 r1 ⟨d, e, q1⟩ => by
    subst e
    refine ⟨v, rfl, fun a ha => ?_⟩
    obtain ⟨F2, hF, r2⟩ := r1.only.newX (o := .xd [("value", v)]) ha
    exact hx C (.dat d) ρ1 σ v a F2 W1 _ r2 rfl hF q1
def sTry (K : PySem.W.Frag) (D : Addr) (i : Nat) (wb : WS) (ws : Addr → Addr → Addr → WS) : WS := fun O Qx ρ => wb O (fun C t ρ1 => ∃ b, PySem.W.exmOne K (.ref C) (.ref D) = some b ∧
  (b = true → ∃ e, t = .dat e ∧ ∀ a d, ws a C d { nx := fun ρ2 => O.nx (ρ2.set i none), rt := O.rt, bk := fun ρ2 => O.bk (ρ2.set i none), ct := fun ρ2 => O.ct (ρ2.set i none) } Qx (ρ1.set i (some (.exc a d C e)))) ∧ (b = false → Qx C t ρ1)) ρ
theorem sv_try {D : Addr} {i : Nat} {tb : L2.WX → TS} {ts : Addr → Value → Option Addr → TS} {Wout : L2.WX} {wb : WS} {ws : Addr → Addr → Addr → WS} (hi : i ∉ I.prot) (hb : ∀ W : L2.WX, SvW K I (fun σ cls d H => W cls d σ H) (tb W) wb)
    (hs : ∀ a C d, SvW K I (fun σ cls d H => Wout cls d σ H) (ts a (.ref C) (some d)) (ws a C d)) : SvW K I (fun σ cls d H => Wout cls d σ H) (fun D' σ H => tb (wAs K (.ref D) i ts Wout D') D' σ H) (sTry K D i wb ws) := fun c ρ tm σ vs F W H r hz O Qx Dn hx dk q => by
  obtain ⟨c', r0, back⟩ := r.aside hz
  refine hb (wAs K (.ref D) i ts Wout Dn) c' ρ [] σ [] F W H r0 (fun x hx => nomatch hx) O _ Dn ?_ ?_ q
  · rintro C t ρ1 σ1 v d F1 W1 H1 r1 ht hd ⟨b, e1, hy, hn⟩
    refine ⟨b, e1, fun hb a ha => ?_, fun hb => ?_⟩
    · obtain ⟨e, rfl, q1⟩ := hy hb
      have hv := r1.topDat
      have r2 : R K I c' ρ1 [.exc a d C e] σ1 [.ref a] F1 W1 H1 := by
        obtain ⟨fA, hA, nd, wf, k⟩ := R.loc (ts := [.dat e]) (us := [v]) (tm := []) (vs := []) r1 rfl
        exact k (us' := [.ref a]) (ts' := [.exc a d C e]) (fB := []) ((Step.refl wf).less fun b hb => nomatch hb) .nil (.one (.of (.exc hd hv)))
      have r3 := back _ _ _ _ _ _ _ (r2.set rfl (fun x hx => nomatch hx) hi)
      exact hs a C d c _ tm _ vs F1 W1 H1 r3 hz { nx := fun ρ2 => O.nx (ρ2.set i none), rt := O.rt, bk := fun ρ2 => O.bk (ρ2.set i none), ct := fun ρ2 => O.ct (ρ2.set i none) } Qx _ hx ⟨fun ρ2 σ2 F2 W2 H2 r4 q4 => dk.nx _ _ _ _ _ (r4.unset hz hi) q4, dk.rt, fun ρ2 σ2 F2 W2 H2 r4 q4 => dk.bk _ _ _ _ _ (r4.unset hz hi) q4, fun ρ2 σ2 F2 W2 H2 r4 q4 => dk.ct _ _ _ _ _ (r4.unset hz hi) q4⟩ (q1 a d)
    · exact hx C t ρ1 σ1 v d F1 W1 H1 (R.only (back _ _ _ _ _ _ _ r1)) ht hd (hn hb)
  · exact ⟨fun ρ2 σ2 F2 W2 H2 r4 q4 => dk.nx _ _ _ _ _ (back _ _ _ _ _ _ _ r4) q4, fun t ρ2 σ2 v F2 W2 H2 r4 ht q4 => dk.rt _ _ _ _ _ _ _ (back _ _ _ _ _ _ _ r4) ht q4, fun ρ2 σ2 F2 W2 H2 r4 q4 => dk.bk _ _ _ _ _ (back _ _ _ _ _ _ _ r4) q4, fun ρ2 σ2 F2 W2 H2 r4 q4 => dk.ct _ _ _ _ _ (back _ _ _ _ _ _ _ r4) q4⟩
/-- error.value -/
def wErrVal (K : PySem.W.Frag) (a C d : Addr) (we : WE) : WE := fun ρ Qx Q => we ρ Qx fun t ρ1 => ∃ e, t.peek ρ1 = some (.exc a d C e) ∧ ErrG K C ∧ Q (.dat e) (t.drop ρ1)
theorem ev_errVal {a C d : Addr} {te : TE} {we : WE} (h : EvW K I E te we) : EvW K I E (tErrVal K a (.ref C) (some d) te) (wErrVal K a C d we) := fun c ρ tm σ vs F W H r Qx Qv hx hw Q k =>
  h c ρ tm σ vs F W H r Qx _ hx hw _ fun t ρ1 v F1 W1 H1 r1 ⟨e, hp, hg, q⟩ => by
    obtain ⟨f, hr, wf⟩ := r1.peek hp
    cases hr with
    | exc h1 h2 => exact ⟨rfl, C, d, _, rfl, hg, rfl, r1.sub _ _ h1, k _ _ _ _ _ _ (r1.dropT.dat h2) q⟩
/-- isinstance(error, Cls) -/
def sIsErr (K : PySem.W.Frag) (a C d : Addr) : S2 := fun t u ρ Q => ∃ e c uv b, t.peek ρ = some (.exc a d C e) ∧ u = .cst c ∧ ErrG K C ∧ ClsV c uv ∧ PySem.W.kitOne K (.ref C) uv = some b ∧ Q (tBo b) (t.drop ρ)
theorem op_isErr {a C d : Addr} : Op2 K I (fun v w => rIsErr K a (.ref C) (some d) [v, w]) (sIsErr K a C d) := fun c ρ t u tm σ v w vs F W H r Qv ⟨e, c', uv, b, hp, eu, hg, hc, hk, q⟩ Q kk => by
  subst eu
  have e := r.topCst
  subst e
  have r1 := r.drop
  obtain ⟨f, hr, _⟩ := r1.peek hp
  cases hr with
  | exc h1 h2 => exact ⟨C, d, _, w, uv, b, rfl, hg, rfl, r1.sub _ _ h1, rfl, fun _ => hc.eq, hk, kk _ _ _ _ _ _ (r1.dropT.dat (.bl b)) q⟩
end
theorem FnG.to0 {P : Program} {w : World} {K : PySem.W.Frag} {mg : Str → Option Value} {base : Heap} {k : Nat} {f : Addr} {fd : FuncData} {ps : List Str} {inv : HO → Prop} {W : SpT} (F : FnG P w K mg base (L2.CX P w) k f fd ps (spT K inv W))
    (hW : ∀ ts post ep, W ts post ep → W ts post (fun _ _ _ => False)) : FnG P w K mg base CX0 k f fd ps (spT K inv W) := ⟨F.len, fun A o s H a us vs Q E hr hg he hb hv hs => by
  have hs' : spT K inv W vs H Q (fun _ _ _ => False) := by
    obtain ⟨ts, fp, F', Wl, post, ep, h1, h2, h3, h4, h5, h6⟩ := hs
    exact ⟨ts, fp, F', Wl, post, fun _ _ _ => False, h1, h2, h3, hW _ _ _ h4, h5, fun _ _ _ _ _ _ _ _ _ _ _ _ _ z => z.elim⟩
  refine codeAny_mono (F.run A o s H a us vs Q _ hr hg he hb hv hs') fun r s' h => ?_
  cases r with
  | error e =>
    obtain ⟨_, _, _, _, _, _, _, _, _, _, _, _, z⟩ := h
    exact z.elim
  | ok v => cases v <;> exact h⟩
theorem FnG.void {P : Program} {w : World} {K : PySem.W.Frag} {mg : Str → Option Value} {base : Heap} {CX : CXT} {k : Nat} {f : Addr} {fd : FuncData} {ps : List Str} {inv : HO → Prop} {W : SpT} (h : ∀ ts post ep, ¬ W ts post ep) : FnG P w K mg base CX k f fd ps (spT K inv W) :=
  ⟨fun vs H Q E ⟨ts, fp, F, Wl, post, ep, _, _, _, h4, _⟩ => (h _ _ _ h4).elim, fun A o s H a us vs Q E _ _ _ _ _ ⟨ts, fp, F, Wl, post, ep, _, _, _, h4, _⟩ => (h _ _ _ h4).elim⟩
end Hz
/-! Hz57: a caught exception that is kept behind its suite. -/
namespace Hz
open PySem L2
def keepT (a d C : Addr) : Option T → Option T
  | some (.exc a' d' C' e) => if a' = a ∧ d' = d ∧ C' = C then some (.exk a d C e) else some (.exc a' d' C' e)
  | t => t
theorem keepT_exc {a d C : Addr} {e : PyData} : keepT a d C (some (.exc a d C e)) = some (.exk a d C e) := by
  show (if a = a ∧ d = d ∧ C = C then some (T.exk a d C e) else some (T.exc a d C e)) = _
  rw [if_pos ⟨rfl, rfl, rfl⟩]
section
variable {K : PySem.W.Frag} {I : Sg} {E : XS} {c : Ct} {ρ ρ' : Rho} {t : T} {tm ts : List T} {σ : L2.St} {v : V} {vs us : List V} {F : Hp} {W : List Addr} {H : Hp}
theorem R.keepE {a d C : Addr} (h : R K I c ρ tm σ vs F W H) (ha : F a = some (ExK (.ref C) (some d) a)) : R K I c (ρ.map (keepT a d C)) tm σ vs F W H := by
  obtain ⟨f1, f2, h1, h2, nd, st⟩ := h.ex
  refine ⟨⟨f1, f2, h1, ?_, nd, st⟩, h.pr⟩
  clear st nd h1 h
  induction h2 with
  | nil => exact .nil
  | cons k _ q ih =>
    refine .cons ?_ ih q
    cases k with
    | non => exact .non
    | som k =>
      cases k with
      | exc k1 k2 =>
        rename_i a' d' C' v' e'
        show RepS _ _ _ _ _ (if a' = a ∧ d' = d ∧ C' = C then _ else _) _
        by_cases z : a' = a ∧ d' = d ∧ C' = C
        · rw [if_pos z]
          obtain ⟨rfl, rfl, rfl⟩ := z
          exact .som (.exk k1 k2 ha)
        · rw [if_neg z]
          exact .som (.exc k1 k2)
      | dat k => exact .som (.dat k)
      | cst => exact .som .cst
      | well k => exact .som (.well k)
      | lst a b d => exact .som (.lst a b d)
      | tup a b d => exact .som (.tup a b d)
      | dic a b d e => exact .som (.dic a b d e)
      | ins a b d e => exact .som (.ins a b d e)
      | dcl a b d => exact .som (.dcl a b d)
      | exk a b d => exact .som (.exk a b d)
def sTryK (K : PySem.W.Frag) (D : Addr) (i : Nat) (wb : WS) (ws : Addr → Addr → Addr → WS) : WS := fun O Qx ρ => wb O (fun C t ρ1 => PySem.W.exmOne K (.ref C) (.ref D) = some true ∧ ∃ e, t = .dat e ∧
  ∀ a d, ws a C d { nx := fun ρ2 => O.nx ((ρ2.map (keepT a d C)).set i none), rt := O.rt, bk := fun ρ2 => O.bk (ρ2.set i none), ct := fun ρ2 => O.ct (ρ2.set i none) } Qx (ρ1.set i (some (.exc a d C e)))) ρ
theorem sv_tryK {D : Addr} {i : Nat} {tb : L2.WX → TS} {ts : Addr → Value → Option Addr → TS} {Wout : L2.WX} {wb : WS} {ws : Addr → Addr → Addr → WS} (hi : i ∉ I.prot) (hb : ∀ W : L2.WX, SvW K I (fun σ cls d H => W cls d σ H) (tb W) wb)
    (hs : ∀ a C d, SvW K I (fun σ cls d H => Wout cls d σ H) (ts a (.ref C) (some d)) (ws a C d)) : SvW K I (fun σ cls d H => Wout cls d σ H) (fun D' σ H => tb (wKeep K (.ref D) i ts D') D' σ H) (sTryK K D i wb ws) := fun c ρ tm σ vs F W H r hz O Qx Dn hx dk q => by
  obtain ⟨c', r0, back⟩ := r.aside hz
  refine hb (wKeep K (.ref D) i ts Dn) c' ρ [] σ [] F W H r0 (fun x hx => nomatch hx) O _ Dn ?_ ?_ q
  · rintro C t ρ1 σ1 v d F1 W1 H1 r1 ht hd ⟨e1, e, rfl, q1⟩
    refine ⟨e1, fun a ha => ?_⟩
    have hv := r1.topDat
    have r2 : R K I c' ρ1 [.exc a d C e] σ1 [.ref a] F1 W1 H1 := by
      obtain ⟨fA, hA, nd, wf, k⟩ := R.loc (ts := [.dat e]) (us := [v]) (tm := []) (vs := []) r1 rfl
      exact k (us' := [.ref a]) (ts' := [.exc a d C e]) (fB := []) ((Step.refl wf).less fun b hb => nomatch hb) .nil (.one (.of (.exc hd hv)))
    have r3 := back _ _ _ _ _ _ _ (r2.set rfl (fun x hx => nomatch hx) hi)
    refine hs a C d c _ tm _ vs F1 W1 H1 r3 hz { nx := fun ρ2 => O.nx ((ρ2.map (keepT a d C)).set i none), rt := O.rt, bk := fun ρ2 => O.bk (ρ2.set i none), ct := fun ρ2 => O.ct (ρ2.set i none) } Qx _ hx ⟨fun ρ2 σ2 F2 W2 H2 r4 q4 na => ?_, dk.rt, fun ρ2 σ2 F2 W2 H2 r4 q4 => dk.bk _ _ _ _ _ (r4.unset hz hi) q4, fun ρ2 σ2 F2 W2 H2 r4 q4 => dk.ct _ _ _ _ _ (r4.unset hz hi) q4⟩ (q1 a d)
    obtain ⟨F3, hF, r5⟩ := r4.newX (o := ExK (.ref C) (some d) a) na
    exact dk.nx _ _ _ _ _ ((r5.keepE hF).unset hz hi) q4
  · exact ⟨fun ρ2 σ2 F2 W2 H2 r4 q4 => dk.nx _ _ _ _ _ (back _ _ _ _ _ _ _ r4) q4, fun t ρ2 σ2 v F2 W2 H2 r4 ht q4 => dk.rt _ _ _ _ _ _ _ (back _ _ _ _ _ _ _ r4) ht q4, fun ρ2 σ2 F2 W2 H2 r4 q4 => dk.bk _ _ _ _ _ (back _ _ _ _ _ _ _ r4) q4, fun ρ2 σ2 F2 W2 H2 r4 q4 => dk.ct _ _ _ _ _ (back _ _ _ _ _ _ _ r4) q4⟩
/-- error.value -/
def wKeptVal (K : PySem.W.Frag) (we : WE) : WE := fun ρ Qx Q => we ρ Qx fun t ρ1 => ∃ a d C e, t.peek ρ1 = some (.exk a d C e) ∧ ErrG K C ∧ Q (.dat e) (t.drop ρ1)
theorem ev_keptVal {te : TE} {we : WE} (h : EvW K I E te we) : EvW K I E (tKeptVal K te) (wKeptVal K we) := fun c ρ tm σ vs F W H r Qx Qv hx hw Q k =>
  h c ρ tm σ vs F W H r Qx _ hx hw _ fun t ρ1 v F1 W1 H1 r1 ⟨a, d, C, e, hp, hg, q⟩ => by
    obtain ⟨f, hr, wf⟩ := r1.peek hp
    cases hr with
    | exk h1 h2 h3 => exact ⟨a, C, d, _, rfl, r1.sub _ _ h3, hg, r1.sub _ _ h1, k _ _ _ _ _ _ (r1.dropT.dat h2) q⟩
/-- isinstance(x, Cls) of an error that is kept, or of anything else -/
def sIsiK (K : PySem.W.Frag) : S2 := fun t u ρ Q => match t.peek ρ with
  | some (.exk _ _ C _) => ∃ c uv b, u = .cst c ∧ ErrG K C ∧ ClsV c uv ∧ PySem.W.kitOne K (.ref C) uv = some b ∧ Q (tBo b) (t.drop ρ)
  | _ => sIsi K t u ρ Q
theorem op_isiK : Op2 K I (fun v w H Q => rIsi K [v, w] H Q ∨ rIsKept K [v, w] H Q) (sIsiK K) := fun c ρ t u tm σ v w vs F W H r Qv hs Q kk => by
  by_cases hk : ∃ a d C e, t.peek ρ = some (.exk a d C e)
  · obtain ⟨a, d, C, e, hp⟩ := hk
    unfold sIsiK at hs
    rw [hp] at hs
    obtain ⟨c', uv, b, eu, hg, hc, hk, q⟩ := hs
    subst eu
    have e := r.topCst
    subst e
    have r1 := r.drop
    obtain ⟨f, hr, _⟩ := r1.peek hp
    cases hr with
    | exk h1 h2 h3 => exact .inr ⟨a, C, d, _, w, uv, b, rfl, r1.sub _ _ h3, hg, r1.sub _ _ h1, fun _ => hc.eq, hk, kk _ _ _ _ _ _ (r1.dropT.dat (.bl b)) q⟩
  · refine .inl (op_isi c ρ t u tm σ v w vs F W H r Qv ?_ Q kk)
    unfold sIsiK at hs
    split at hs
    · rename_i a d C e hp
      exact absurd ⟨a, d, C, e, hp⟩ hk
    · exact hs
end
end Hz
namespace Hz
open PySem L2
theorem kit_ref {K : PySem.W.Frag} {C D : Addr} {b : Bool} (h1 : PySem.W.isClsIn K D = true) (h2 : PySem.W.typeIn K (.ref D) = some (.type "type")) (h3 : PySem.W.subIn K (.ref C) (.ref D) = some b) (h4 : PySem.W.subIn K (.ref C) (.ref C) = some true) : PySem.W.kitOne K (.ref C) (.ref D) = some b := by
  unfold PySem.W.isClsIn at h1
  unfold PySem.W.kitOne PySem.W.kitCls
  by_cases e : C = D
  · subst e
    rw [h4] at h3
    cases h3
    rw [if_pos (beq_self_eq_true _)]
  · rw [if_neg (fun z => e (by simpa using z))]
    show (if ((PySem.W.clsIn K D).isSome && PySem.W.typeIn K (.ref D) == some (.type "type")) = true then PySem.W.subIn K (.ref C) (.ref D) else none) = some b
    rw [h1, h2, if_pos (by simp)]
    exact h3
theorem exm_ref {K : PySem.W.Frag} {C D : Addr} (h1 : PySem.W.subIn K (.ref D) (.type "BaseException") = some true) (h2 : PySem.W.isClsIn K D = true) (h3 : PySem.W.typeIn K (.ref D) = some (.type "type")) (h4 : PySem.W.subIn K (.ref C) (.ref D) = some true) : PySem.W.exmOne K (.ref C) (.ref D) = some true := by
  unfold PySem.W.isClsIn at h2
  show (if (PySem.W.subIn K (.ref D) (.type "BaseException") == some true) = true then (if ((PySem.W.clsIn K D).isSome && PySem.W.typeIn K (.ref D) == some (.type "type")) = true then PySem.W.subIn K (.ref C) (.ref D) else none) else none) = some true
  rw [h1, h2, h3, if_pos (by simp), if_pos (by simp)]
  exact h4
theorem isCls_some {K : PySem.W.Frag} {D : Addr} (h : PySem.W.isClsIn K D = true) : ∃ cd, PySem.W.clsIn K D = some cd := Option.isSome_iff_exists.mp h
end Hz
/-! Hz58: sorted(set(a tuple of ints)). -/
namespace Hz
open PySem L2 PySem.Spec PyProof.Rows
def rSetTup (K : PySem.W.Frag) (w : World) : List V → Hp → VK → Prop := fun vs H Q => ∃ (l : Addr) (ns : List Int), vs = [.ref l] ∧ SqT K H l (ns.map V.int) ∧ ns.length < 1000 ∧
  ∀ (p : Addr) (n : Nat), n ≤ ns.length → H p = none → Q (.ref p) (upd H p (SetO w p (fun j => decide (j ∈ ns)) n))
section
variable {X : Cx}
theorem cr_setTup (hc : X.calm = true) : CallR X (.type "set") (rSetTup X.K X.w) := by
  intro pins s σ H vs us Q I r h
  obtain ⟨l, ns, rfl, hq, hl, q⟩ := h
  rw [Vals.ref1 r]
  obtain ⟨its, rv, pt, hz⟩ := I.tuple hq
  refine call_set_tupI ns (I.ok.hd hc) (show s.heap.IsTuple l its.toArray from pt) (ints_of_vals rv) (by unfold scanBound; omega) fun h' tk n R hn k => ?_
  have hno : H s.heap.objs.size = none := I.hok.fresh (Nat.le_refl _)
  exact ⟨.ref s.heap.objs.size, _, I.un (Un.laid k (Nat.le_refl _) hno) (I.hok.laid k (Nat.le_refl _) (setO_new R)), rfl, q _ n hn hno⟩
end
section
variable {K : PySem.W.Frag} {I : Sg} {E : XS} {c : Ct} {ρ ρ' : Rho} {t : T} {tm ts : List T} {σ : L2.St} {v : V} {vs us : List V} {F : Hp} {W : List Addr} {H : Hp}
def sSortSet : S1 := fun t ρ Q => ∃ ns : List Int, t.peek ρ = some (.dat (.tuple (ns.map .int))) ∧ ns.length < 64 ∧ ∀ ms : List Int, ms.Pairwise (· < ·) → (∀ k : Int, k ∈ ms ↔ k ∈ ns) → Q (.lst (ms.map tI)) (t.drop ρ)
theorem ev_sortSet {w : World} {te : TE} {we : WE} (h : EvW K I E te we) : EvW K I E (tCB (rSortedSet w) (tCons (tCB (rSetTup K w) (tCons te tNil)) tNil)) (w1 sSortSet we) := fun c ρ tm σ vs F W H r Qx Qv hx hw Q k =>
  h c ρ tm σ vs F W H r Qx _ hx hw _ fun t ρ1 v F1 W1 H1 r1 ⟨ns, hp, hl, q⟩ => by
    obtain ⟨f, hr, wf⟩ := r1.peek hp
    cases hr with
    | dat hd =>
      cases hd with
      | tup hs ha =>
        have e := dpa_ints ha
        subst e
        refine ⟨_, ns, rfl, sqt_sub r1.sub hs, by omega, fun p n hn hpn => ⟨p, _, n, rfl, upd_same, by omega, fun ms p2 hm1 hm2 hm3 hp2 => ?_⟩⟩
        have r2 := r1.dropT.untracked (o := SetO w p (fun j => decide (j ∈ ns)) n) hpn
        have hA : ∀ (xs : List Int) (H' : Hp), RepA K F1 W1 H' (xs.map V.int) (xs.map tI) [] := fun xs H' => by
          induction xs with
          | nil => exact .nil
          | cons x xs ih => exact .cons (.dat (.int x)) ih (.refl _)
        exact k _ _ _ _ _ _ (r2.newLstC (hA ms _) hp2) (q ms hm1 fun j => (hm2 j).trans (by simp))
end
end Hz
/-! Hz59: xs[::-1] of lists and of tuples. -/
namespace Hz
open PySem L2 PySem.Spec PyProof.Rows
section
variable {prog : Program} {w : World} {A : Around} {E : Value → Shared → Prop} {s : Shared}
theorem back_adjust (n : Nat) : Builtin.Slice.sliceAdjust none none (-1) (n : Int) = ((n : Int) - 1, -1) := by
  unfold Builtin.Slice.sliceAdjust
  simp
theorem back_places (n : Nat) : Builtin.Slice.slicePlaces ((n : Int) - 1) (-1) (-1) = n := by
  unfold Builtin.Slice.slicePlaces
  have h1 : ¬ ((-1 : Int) > 0) := by decide
  simp only [h1, if_false]
  split <;> simp <;> omega
theorem filterMap_same {α β : Type} {f g : α → Option β} : ∀ {l : List α}, (∀ m ∈ l, f m = g m) → l.filterMap f = l.filterMap g
  | [], _ => rfl
  | x :: l, h => by
    rw [List.filterMap_cons, List.filterMap_cons, h x List.mem_cons_self, filterMap_same fun m hm => h m (List.mem_cons_of_mem _ hm)]
theorem back_pick (xs : Array Value) : ((List.range xs.size).filterMap fun (m : Nat) => xs[(((xs.size : Int) - 1) + (m : Int) * (-1)).toNat]?).toArray = xs.toList.reverse.toArray := by
  have e : ((List.range xs.size).filterMap fun (m : Nat) => xs[(((xs.size : Int) - 1) + (m : Int) * (-1)).toNat]?) = ((List.range xs.size).map fun m => xs.size - 1 - m).filterMap (xs[·]?) := by
    rw [List.filterMap_map]
    refine filterMap_same fun m hm => ?_
    have := List.mem_range.mp hm
    show xs[_]? = xs[xs.size - 1 - m]?
    congr 1
    omega
  rw [e, PySem.W.krv_range, List.filterMap_reverse, PySem.W.krv_all]
theorem slice_back {sl : Addr} {vl vu vs : Value} {n : Nat} {Q : Int × Int × Nat → Shared → Prop} (hs : s.heap.IsSliceOf sl vl vu vs) (pl : IsPart vl none) (pu : IsPart vu none) (ps : IsPart vs (some (-1))) (h : Q ((n : Int) - 1, -1, n) s) :
    wpAny (model prog w) A (Builtin.Slice.sliceApplied (.ref sl) (pure (n : Int))) Q E s := by
  obtain ⟨o, e1, e2, e3⟩ := hs
  unfold Builtin.Slice.sliceApplied Builtin.Slice.sliceFields
  refine wpAny_bind (wpAny_bind (wpAny_field e1 e3 (x := vl) rfl (wpAny_bind (wpAny_field e1 e3 (x := vu) rfl (wpAny_bind (wpAny_field e1 e3 (x := vs) rfl (wpAny_pure ?_)))))))
  refine wpAny_bind (HT.slicePart_ ps ?_)
  show wpAny _ _ (if ((-1 : Int) == 0) = true then _ else _) _ _ s
  rw [if_neg (by decide)]
  refine wpAny_bind (HT.slicePart_ pl (wpAny_bind (HT.slicePart_ pu (wpAny_bind (wpAny_pure ?_)))))
  show wpAny _ _ (match Builtin.Slice.sliceAdjust none none (-1) (n : Int) with | (lo, hi) => pure (lo, (-1 : Int), Builtin.Slice.slicePlaces lo hi (-1))) _ _ s
  rw [back_adjust]
  show wpAny _ _ (pure ((n : Int) - 1, (-1 : Int), Builtin.Slice.slicePlaces ((n : Int) - 1) (-1) (-1))) _ _ s
  rw [back_places]
  exact wpAny_pure h
theorem get_back {t sl : Addr} {xs : Array Value} {vl vu vs : Value} {Q : Value → Shared → Prop} (ht : IsTup s.heap t xs) (hs : s.heap.IsSliceOf sl vl vu vs) (pl : IsPart vl none) (pu : IsPart vu none) (ps : IsPart vs (some (-1)))
    (h : Q (.ref s.heap.objs.size) { s with heap := s.heap.push { cls := .type "tuple", data := .seq xs.toList.reverse.toArray } }) (hz : xs.size ≤ sizeLine) : wpAny (model prog w) A (getItem (.ref t) (.ref sl)) Q E s := by
  have ok : sizeOk (.seq xs.toList.reverse.toArray) := by
    show xs.toList.reverse.toArray.size ≤ sizeLine
    simpa using hz
  obtain ⟨o, e1, e2, e3⟩ := id hs
  unfold getItem
  try with_reducible refine wpAny_holding ?_
  first | refine wpAny_bind (wpAny_pure ?_) | skip
  refine wpAny_bind (wpAny_sequenceKey ht.typeIs (by decide) ?_)
  refine wpAny_bind (wpAny_callSpecial?_slot (name := Str.ofString "__getitem__") ht.typeIs slot_tuple_getitem (wpAny_call_entry slot_tuple_getitem ht.typeIs entry_tuple_getitem ?_ (args_tuple_getitem _ _)))
  show wpAny _ _ (Builtin.Tuple.tupleItemsOf (.ref t) >>= _) _ _ s
  refine wpAny_bind (PyProof.Rows.tupleItemsOf_ ht (wpAny_bind (wpAny_typeOf ⟨o, e1, e2⟩ ?_)))
  rw [if_pos (by decide)]
  refine wpAny_bind (slice_back hs pl pu ps ?_)
  have no : ¬ ((((xs.size : Int) - 1) == 0 && (-1 : Int) == 1 && xs.size == xs.size) = true) := by simp
  show wpAny _ _ (if (((xs.size : Int) - 1) == 0 && (-1 : Int) == 1 && xs.size == xs.size) = true then _ else _) _ _ s
  rw [if_neg no, back_pick]
  first
    | exact wpAny_bind (m := Builtin.Tuple.tupleExact _) (wpAny_newObj_type (wpAny_pure ⟨_, rfl, wpAny_pure h⟩) ok)
    | exact wpAny_bind (m := Builtin.Tuple.tupleExact _) (wpAny_newObj_type (wpAny_bind (wpAny_pure (wpAny_pure ⟨_, rfl, wpAny_pure h⟩))) ok)
    | exact wpAny_bind (wpAny_bind (m := Builtin.Tuple.tupleExact _) (wpAny_newObj_type (wpAny_pure (wpAny_pure ⟨_, rfl, wpAny_pure h⟩)) ok))
    | exact wpAny_bind (wpAny_bind (m := Builtin.Tuple.tupleExact _) (wpAny_newObj_type (wpAny_pure ⟨_, rfl, wpAny_pure h⟩) ok))
end
def tRevT (K : PySem.W.Frag) (te : TE) : TE := fun σ H Q => te σ H fun x H1 => ∃ a xs, x = .ref a ∧ SqT K H1 a xs ∧ ∀ p, H1 p = none → Q (.ref p) (upd H1 p (.tup xs.reverse))
theorem pe_revT {X : Cx} {e : Expr} {te : TE} {k : Nat} {p1 p2 p3 pos : Pos} (he : PE X e te) : PE X (.Subscript e (.Slice none none (some (.UnaryOp .USub (.Constant (.int 1) k p1) p2)) p3) pos) (tRevT X.K te) := by
  constructor
  intro pins s σ H Q I h
  refine Subscript_ (thn (he.run pins s σ H _ I h) fun v s1 ⟨x, H1, I1, r1, q1⟩ => ?_)
  obtain ⟨a, xs, ex, hx, q⟩ := q1
  subst ex
  cases r1
  have step : PO X (some (.UnaryOp .USub (.Constant (.int 1) k p1) p2)) (tPart (tUn (rU fun i => .int (-i)) (tC (.int 1)))) := po_some (pe_un un_neg pe_int)
  refine wpAny_Slice (thn (po_none.run pins s1 σ H1 (fun o G => o = none ∧ G = H1) I1 ⟨rfl, rfl⟩) ?_)
  rintro vl s2 ⟨_, _, I2, pl, rfl, rfl⟩
  refine thn (po_none.run pins s2 σ _ (fun o G => o = none ∧ G = _) I2 ⟨rfl, rfl⟩) ?_
  rintro vu s3 ⟨_, _, I3, pu, rfl, rfl⟩
  refine thn (step.run pins s3 σ _ (fun o G => o = some (-1) ∧ G = _) I3 ⟨1, rfl, -1, rfl, rfl, rfl⟩) ?_
  rintro vs s4 ⟨_, _, I4, ps, rfl, rfl⟩
  have I5 := I4.kept (t' := s4.toks) (h' := s4.heap.push { cls := .type "slice", data := .fields #[vl, vu, vs] }) fun b ob y => Heap.get?_push_of_some _ y
  obtain ⟨its, r, ht, hz⟩ := I5.tuple hx
  show wpAny (model X.prog X.w) X.A (subscriptTail e (.Slice none none (some (.UnaryOp .USub (.Constant (.int 1) k p1) p2)) p3) (.ref a) (.ref s4.heap.objs.size)) (EP X pins σ Q) X.xe { s4 with heap := s4.heap.push { cls := .type "slice", data := .fields #[vl, vu, vs] } }
  have hl := r.length
  refine tail_any (ops := [.ref a, .ref s4.heap.objs.size]) ht.typeIs slot_tuple_getitem.lookup (get_back ht (Heap.IsSliceOf.new _ vl vu vs) pl pu ps ?_ (by rw [List.size_toArray]; omega)) (by with_unfolding_all rfl)
  refine ⟨.ref _, _, I5.laid (t' := s4.toks) (o := .tup xs.reverse) (fun b ob y => Heap.get?_push_of_some _ y) (Nat.le_refl _) ?_, rfl, q _ (I5.hok.fresh (Nat.le_refl _))⟩
  exact ⟨by rw [List.length_reverse]; exact hz, its.reverse, r.reverse, IsTup.new _ _⟩
section
variable {K : PySem.W.Frag} {I : Sg} {E : XS} {te : TE} {we : WE}
theorem dpa_rev {H : Hp} : ∀ {us : List V} {ds : List PyData}, DpAll K H us ds → DpAll K H us.reverse ds.reverse
  | _, _, .nil => .nil
  | _, _, .cons h1 h2 => by
    rw [List.reverse_cons, List.reverse_cons]
    exact dpa_app (dpa_rev h2) (.cons h1 .nil)
def sRevT : S1 := fun t ρ Q => ∃ ds, t.peek ρ = some (.dat (.tuple ds)) ∧ Q (.dat (.tuple ds.reverse)) (t.drop ρ)
def sRevL : S1 := fun t ρ Q => ∃ s ts, t.peek ρ = some s ∧ s.isL = true ∧ s.items = some ts ∧ ts.all T.copy = true ∧ Q (.lst ts.reverse) (t.drop ρ)
theorem ev_revT (h : EvW K I E te we) : EvW K I E (tRevT K te) (w1 sRevT we) := fun c ρ tm σ vs F W H r Qx Qv hx hw Q k =>
  h c ρ tm σ vs F W H r Qx _ hx hw _ fun t ρ1 v F1 W1 H1 r1 ⟨ds, hp, q⟩ => by
    obtain ⟨f, hr, _⟩ := r1.peek hp
    cases hr with
    | dat h1 =>
      cases h1 with
      | tup s1 a1 =>
        refine ⟨_, _, rfl, sqt_sub r1.sub s1, fun p hpn => ?_⟩
        obtain ⟨F4, r4⟩ := r1.dropT.newTupD (dpa_rev a1) hpn
        exact k _ _ _ _ _ _ r4 q
theorem repA_rev {F : Hp} {W : List Addr} {H : Hp} : ∀ {us : List V} {ts : List T}, RepA K F W H us ts [] → RepA K F W H us.reverse ts.reverse []
  | us, ts, h => by
    have key : ∀ {us : List V} {ts : List T} {f : List Addr}, Lst (Rep K F W H) us ts f → f = [] → Lst (Rep K F W H) us.reverse ts.reverse [] := by
      intro us ts f h
      induction h with
      | nil => intro _; exact .nil
      | cons k1 _ q ih =>
        intro e
        subst e
        have e0 := List.perm_nil.mp q.symm
        rw [List.append_eq_nil_iff] at e0
        rw [List.reverse_cons, List.reverse_cons]
        obtain ⟨e1, e2⟩ := e0
        subst e1
        have := (ih e2).app (Lst.one k1)
        exact this
    exact repA_iff.mpr (key (repA_iff.mp h) rfl)
theorem ev_revL (h : EvW K I E te we) : EvW K I E (tRevL K te) (w1 sRevL we) := fun c ρ tm σ vs F W H r Qx Qv hx hw Q k =>
  h c ρ tm σ vs F W H r Qx _ hx hw _ fun t ρ1 v F1 W1 H1 r1 ⟨s, ts, hp, hL, hi, hc, q⟩ => by
    obtain ⟨f, hr, _⟩ := r1.peek hp
    obtain ⟨a, us, g, rfl, hA, _, h4, _, _⟩ := rep_seq hr r1.sub hi
    refine ⟨a, us, rfl, h4 hL, fun p hpn => k _ _ _ _ _ _ (r1.dropT.newLstC (repA_rev (repA_copy (.refl _) (fun _ z => z) hA hc)) hpn) q⟩
end
end Hz
/-! Hz60: what is shown can be compared as a text. -/
namespace Hz
open PySem PyProof.Rows
/-- signs that are signs -/
def CpOk (s : Str) : Prop := ∀ c ∈ s.cps.toList, c < 0x110000
theorem cp_ofString (s : String) : CpOk (Str.ofString s) := fun c hc => by
  rw [signs_ofString] at hc
  obtain ⟨x, _, rfl⟩ := List.mem_map.mp hc
  have := x.valid
  rcases this with h | ⟨_, h⟩
  · exact Nat.lt_trans h (by decide)
  · exact h
theorem cp_app {a b : Str} (h1 : CpOk a) (h2 : CpOk b) : CpOk (a ++ b) := fun c hc => (mem_cps_append.mp hc).elim (h1 c) (h2 c)
theorem cp_join {sep : Str} {ts : List Str} (h1 : CpOk sep) (h2 : ∀ t ∈ ts, CpOk t) : CpOk (Str.join sep ts) := fun c hc => by
  rcases (mem_join sep c ts).mp hc with ⟨t, ht, h⟩ | ⟨_, h⟩
  · exact h2 t ht c h
  · exact h1 c h
theorem cp_lay {s : Str} : (PyData.str s).canLay0 = true ↔ CpOk s := by
  show (s.cps.all (· < 0x110000)) = true ↔ _
  rw [← Array.all_toList, List.all_eq_true]
  exact ⟨fun h c hc => of_decide_eq_true (h c hc), fun h c hc => decide_eq_true (h c hc)⟩
theorem cp_char {q c : Nat} (hc : c < 0x110000) : ∀ x ∈ PySem.Builtin.Str.reprChar q c, x < 0x110000 := by
  have hex : ∀ w : Nat, ∀ x ∈ List.replicate (w - ((Nat.toDigits 16 c).map Char.toNat).length) 48 ++ (Nat.toDigits 16 c).map Char.toNat, x < 0x110000 := fun w x hx => by
    rcases List.mem_append.mp hx with h | h
    · rw [(List.mem_replicate.mp h).2]
      decide
    · obtain ⟨y, _, rfl⟩ := List.mem_map.mp h
      rcases y.valid with h | ⟨_, h⟩
      · exact Nat.lt_trans h (by decide)
      · exact h
  have two : ∀ a b : Nat, a < 0x110000 → b < 0x110000 → ∀ x ∈ [a, b], x < 0x110000 := fun a b ha hb x hx => by
    rcases List.mem_cons.mp hx with rfl | hx
    · exact ha
    · rw [List.mem_singleton.mp hx]
      exact hb
  have app : ∀ a b w : Nat, a < 0x110000 → b < 0x110000 → ∀ x ∈ [a, b] ++ (List.replicate (w - ((Nat.toDigits 16 c).map Char.toNat).length) 48 ++ (Nat.toDigits 16 c).map Char.toNat), x < 0x110000 := fun a b w ha hb x hx =>
    (List.mem_append.mp hx).elim (two a b ha hb x) (hex w x)
  unfold PySem.Builtin.Str.reprChar
  dsimp only
  split
  · exact two _ _ (by decide) hc
  · split
    · exact two _ _ (by decide) (by decide)
    · split
      · exact two _ _ (by decide) (by decide)
      · split
        · exact two _ _ (by decide) (by decide)
        · split
          · intro x hx
            rw [List.mem_singleton.mp hx]
            exact hc
          · split
            · exact app _ _ _ (by decide) (by decide)
            · split
              · exact app _ _ _ (by decide) (by decide)
              · exact app _ _ _ (by decide) (by decide)
theorem cp_fold {q : Nat} : ∀ (l : List Nat) (acc : Array Nat), (∀ c ∈ l, c < 0x110000) → (∀ c ∈ acc.toList, c < 0x110000) → ∀ c ∈ (l.foldl (fun out c => out ++ (PySem.Builtin.Str.reprChar q c).toArray) acc).toList, c < 0x110000
  | [], acc, _, h => h
  | x :: l, acc, h1, h2 => by
    rw [List.foldl_cons]
    refine cp_fold l _ (fun c hc => h1 c (List.mem_cons_of_mem _ hc)) fun c hc => ?_
    rw [Array.toList_append] at hc
    rcases List.mem_append.mp hc with h | h
    · exact h2 c h
    · exact cp_char (h1 x List.mem_cons_self) c h
theorem cp_reprText {x : Str} (h : CpOk x) : CpOk (reprText x) := fun c hc => by
  have hq : reprQuote x < 0x110000 := by
    unfold reprQuote
    split <;> decide
  unfold reprText at hc
  rw [Array.toList_push] at hc
  rcases List.mem_append.mp hc with hc | hc
  · rw [← Array.foldl_toList] at hc
    refine cp_fold _ _ h (fun c hc => ?_) c hc
    rw [List.mem_singleton.mp hc]
    exact hq
  · rw [List.mem_singleton.mp hc]
    exact hq
mutual
theorem cp_shown : ∀ d : PyData, d.canLay0 = true → CpOk d.shown
  | .none, _ => cp_ofString _
  | .bool b, _ => by cases b <;> exact cp_ofString _
  | .int i, _ => cp_ofString _
  | .str x, h => cp_reprText (cp_lay.mp h)
  | .list ds, h => by
    show CpOk (listText (PyData.shownAll ds))
    rw [listText_eq_join]
    exact cp_app (cp_app (cp_ofString _) (cp_join (cp_ofString _) (cp_shownAll ds h))) (cp_ofString _)
  | .tuple ds, h => by
    show CpOk (tupleText (PyData.shownAll ds))
    unfold tupleText
    refine cp_app (cp_app (cp_ofString _) (cp_join (cp_ofString _) (cp_shownAll ds h))) ?_
    split <;> exact cp_ofString _
  | .dict _, h => by cases h
theorem cp_shownAll : ∀ ds : List PyData, PyData.canLayAll0 ds = true → ∀ t ∈ PyData.shownAll ds, CpOk t
  | [], _, t, ht => nomatch ht
  | d :: ds, h, t, ht => by
    have h' : (d.canLay0 && PyData.canLayAll0 ds) = true := h
    rw [Bool.and_eq_true] at h'
    rcases List.mem_cons.mp ht with rfl | ht
    · exact cp_shown d h'.1
    · exact cp_shownAll ds h'.2 t ht
end
theorem shown_lay {d : PyData} (h : d.canLay0 = true) : (PyData.str d.shown).canLay0 = true := cp_lay.mpr (cp_shown d h)
end Hz
/-! Hz61: tuple * int. -/
namespace Hz
open PySem L2
section
variable {K : PySem.W.Frag} {I : Sg}
theorem dpa_rep {H : Hp} {us : List V} {ds : List PyData} (h : DpAll K H us ds) : ∀ n : Nat, DpAll K H (List.replicate n us).flatten (List.replicate n ds).flatten
  | 0 => .nil
  | n + 1 => by
    rw [List.replicate_succ, List.replicate_succ, List.flatten_cons, List.flatten_cons]
    exact dpa_app h (dpa_rep h n)
def repD (k : Int) (ds : List PyData) : List PyData := (List.replicate k.toNat ds).flatten
theorem repD_mem {k : Int} {ds : List PyData} {d : PyData} (h : d ∈ repD k ds) : d ∈ ds := by
  obtain ⟨xs, h1, h2⟩ := List.mem_flatten.mp h
  rw [(List.mem_replicate.mp h1).2] at h2
  exact h2
def sRepT : S2 := fun t u ρ Q => ∃ (ds : List PyData) (k : Int), t = .dat (.tuple ds) ∧ u = tI k ∧ ds ≠ [] ∧ 2 ≤ k ∧ k ≤ 1000 ∧ ds.length ≤ 1000 ∧ Q (.dat (.tuple (repD k ds))) ρ
theorem op_repTD : Op2 K I (rRepT K) sRepT := fun c ρ t u tm σ v w vs F W H r Qv ⟨ds, k, e1, e2, h0, h2, h3, hl, q⟩ Q kk => by
  subst e1 e2
  have hk := r.topDat
  cases hk
  have r1 := r.drop
  have hd := r1.topDat
  cases hd with
  | tup s1 a1 =>
    have hlen := dpa_len a1
    refine ⟨_, k, _, rfl, rfl, sqt_sub r1.sub s1, fun z => h0 (by rw [z] at hlen; exact List.eq_nil_of_length_eq_zero hlen.symm), h2, h3, by omega, fun p hpn => ?_⟩
    obtain ⟨F3, r3⟩ := r1.drop.newTupD (dpa_rep a1 k.toNat) hpn
    exact kk _ _ _ _ _ _ r3 q
theorem repT_K {X : Cx} {K : PySem.W.Frag} (h : X.K = K) : OpR X (binaryOp .Mult) (rRepT K) := by
  subst h
  exact op_repT
end
end Hz
/-! Hz62: d[k] += n; sorted(d), a dict with ints as keys; the items of a dict that was just made. -/
namespace L2
open PySem PySem.Spec PySem.W PyProof.Rows PySem.Calls
/-- the value is a thing that is locked from then on -/
def tFrzE (t : TE) : TE := fun σ H Q => t σ H fun v H1 => ∃ d u, v = .ref d ∧ H1 d = some u ∧ Mut (some u) ∧ ∀ o, Q v (upd H1 d (.frz o u))
section
variable {X : Cx}
theorem pe_frz {e : Expr} {t : TE} (h : PE X e t) : PE X e (tFrzE t) := by
  refine ⟨fun pins s σ H Q I hw => ?_⟩
  refine thn (h.run pins s σ H _ I hw) fun v s1 ⟨x, H1, I1, r, d, u, ex, hd, mu, q⟩ => ?_
  obtain ⟨od, I2⟩ := I1.lock hd mu
  exact ⟨x, _, I2, r, q od⟩
end
/-- sorted(d), d a dict with ints as keys -/
def rSortDK : List V → Hp → VK → Prop := fun vs H Q => ∃ (a : Addr) (xs : List (Key × V)) (ns : List Int), vs = [.ref a] ∧ H a = some (.dK xs) ∧ xs.map (·.1) = ns.map Sum.inl ∧
  ∀ (ms : List Int) (p : Addr), ms.Perm ns → ms.Pairwise (· ≤ ·) → H p = none → Q (.ref p) (upd H p (.lst (ms.map V.int)))
theorem ints_by : ∀ {vs : List Value} {ns : List Int}, vs.length = ns.length → (∀ (i : Nat) v n, vs[i]? = some v → ns[i]? = some n → ∃ t, v = Value.int n t) → IntsAre vs ns
  | [], [], _, _ => .nil
  | [], _ :: _, h, _ => by cases h
  | _ :: _, [], h, _ => by cases h
  | v :: vs, n :: ns, h, k => by
    obtain ⟨t, rfl⟩ := k 0 v n rfl rfl
    exact .cons n t (ints_by (Nat.succ.inj h) fun i v n h1 h2 => k (i + 1) v n h1 h2)
theorem kv_keys : ∀ {xs : List (Key × V)} {vs : List (Key × Value)}, KV xs vs → xs.map (·.1) = vs.map (·.1)
  | _, _, .nil => rfl
  | _, _, .cons h1 h2 => by rw [List.map_cons, List.map_cons, kv_keys h2, h1.1]
section
variable {X : Cx}
/-- what is collected of a source, the heap having grown meanwhile -/
theorem collectG {prog : Program} {w : World} {A : Around} {E : Value → Shared → Prop} {s : Shared} {T : String} {r d : Addr} {n : Nat} {P : Nat → Value → Prop} {OK : Heap → Prop} {R : List Value → Shared → Prop} (K : KdlSrc prog w T r d n P OK) (hh : A.handled = none) (hok : OK s.heap) (hn : n ≤ sizeLine)
    (h : ∀ (h' : Heap) (tk : Nat) (acc : Array Value), (∀ b o, s.heap.get? b = some o → h'.get? b = some o) → s.heap.objs.size < h'.objs.size → ItemsOf P acc n → R acc.toList { s with heap := h', toks := tk }) :
    wpAny (model prog w) A (collect (.ref r)) R E s := by
  have hlt := K.there _ hok
  have hS₁ : (s.heap.push { cls := .type "list", data := .seq ([] : List Value).toArray }).get? s.heap.objs.size = some { cls := .type "list", data := .seq #[] } := Heap.get?_push_size _ rfl
  have ext := kdl_extend (A := A) (s := { s with heap := s.heap.push { cls := .type "list", data := .seq ([] : List Value).toArray } })
    (R := fun (q : Result) (s' : Shared) => ∃ (h' : Heap) (tk : Nat) (acc : Array Value) (c : Nat), q = .ok (.ret (.ref s.heap.objs.size)) ∧ s' = { s with heap := h', toks := tk } ∧
      (∀ b o, s.heap.get? b = some o → h'.get? b = some o) ∧ h'.get? s.heap.objs.size = some { cls := .type "list", dict := none, data := .seq acc c, slots := #[] } ∧ ItemsOf P acc n)
    K hh (K.keep _ _ hok fun b _ o e => Heap.get?_push_of_some _ e) s.heap.objs.size (Nat.ne_of_gt hlt.1) (Nat.ne_of_gt hlt.2) (.ref s.heap.objs.size) 0 hS₁
    (fun h' tk acc c hk hS hacc => ⟨h', tk, acc, c, rfl, rfl, fun b o e => hk b o (Nat.ne_of_lt (Heap.lt_size e)) (Heap.get?_push_of_some _ e), hS, hacc⟩) hn
  have last : ∀ (q : Result) (s' : Shared), (∃ (h' : Heap) (tk : Nat) (acc : Array Value) (c : Nat), q = .ok (.ret (.ref s.heap.objs.size)) ∧ s' = { s with heap := h', toks := tk } ∧
      (∀ b o, s.heap.get? b = some o → h'.get? b = some o) ∧ h'.get? s.heap.objs.size = some { cls := .type "list", dict := none, data := .seq acc c, slots := #[] } ∧ ItemsOf P acc n) → ∃ (h' : Heap) (tk : Nat) (acc : Array Value) (c : Nat), q = .ok (.ret (.ref s.heap.objs.size)) ∧ s' = { s with heap := h', toks := tk } ∧
      h'.get? s.heap.objs.size = some { cls := .type "list", dict := none, data := .seq acc c, slots := #[] } ∧ R acc.toList { s with heap := h', toks := tk } := fun q s' ⟨h', tk, acc, c, e1, e2, hk, hS, hacc⟩ => ⟨h', tk, acc, c, e1, e2, hS, h h' tk acc hk (Heap.lt_size hS) hacc⟩
  unfold collect
  refine wpAny_bind (wpAny_runValue (codeAny_builtin entry_proto_collect' ?_))
  rw [Around.under_plainId PySem.F.plain_proto_collect _]
  show wpAny _ A.in1 (newList [] >>= fun l => again (.builtin "list.__iadd__" ⟨[l, .ref r], []⟩)) _ _ s
  refine wpAny_bind (wpAny_newObj_type ?_)
  refine wpAny_pure ⟨plainId_quiet PySem.F.plain_list_iadd _, codeAny_builtin entry_list_iadd' ?_⟩
  rw [Around.under_plainId PySem.F.plain_list_iadd _]
  show wpAny _ A.in1 (Builtin.List.listExtendWith (.ref s.heap.objs.size) (.ref r) (.ref s.heap.objs.size)) _ _ _
  refine wpAny_mono ext (fun fin s' x => ?_) fun e s' x => ?_
  · cases fin with
    | done f =>
      obtain ⟨h', tk, acc, c, e, rfl, hS, hR⟩ := last _ _ x
      cases e
      show wpAny _ A (load s.heap.objs.size >>= _) _ _ _
      exact wpAny_bind (wpAny_load hS (wpAny_pure hR))
    | again c₁ =>
      refine ⟨x.1, codeAny_mono x.2 fun q s₂ y => ?_⟩
      obtain ⟨h', tk, acc, c, rfl, rfl, hS, hR⟩ := last _ _ y
      show wpAny _ A (load s.heap.objs.size >>= _) _ _ _
      exact wpAny_bind (wpAny_load hS (wpAny_pure hR))
  · obtain ⟨_, _, _, _, e', _⟩ := x
    cases e'
theorem cr_sortDK {k : Nat} (hr : Room k X.A) : CallR X (.builtin "sorted") rSortDK := by
  have hh : X.A.handled = none := hr.hd
  intro pins s σ H vs us Q I r h
  obtain ⟨a, xs, ns, rfl, ha, he, q⟩ := h
  obtain rfl := Vals.ref1 r
  obtain ⟨z, hd, ws, rel, hD⟩ := dk_of I.hok ha
  obtain ⟨ep, hat⟩ := hD.dictAt
  have l1 : xs.length = ws.length := Paired.length rel
  have l2 : ns.length = ws.length := by
    have := congrArg List.length he
    rw [List.length_map, List.length_map] at this
    omega
  refine call_function_entry kind_sorted plain_sorted entry_sorted (args_sorted1 _) ?_
  unfold Builtin.«sorted»
  refine wpAny_bind (m := checkCount "sorted" 1 1 _) (wpAny_pure ?_)
  refine wpAny_bind (collectG (A := X.A.in1) (kdl_dict (knd := mixKind X.prog X.w) (kvs := ws) (ep := ep) hd) hh hat (by omega) fun h' tk acc hk hgr hacc => ?_)
  have hl : acc.toList.length = ws.length := by rw [Array.length_toList]; exact hacc.1
  have hz : acc.toList.length ≤ sizeLine := by omega
  refine wpAny_bind (wpAny_newList ?_ hz)
  have hob : (h'.push { cls := .type "list", data := .seq acc.toList.toArray }).get? h'.objs.size = some (seqObj "list" acc.toList.toArray 0) := Heap.get?_push_size _ rfl
  have hi : IntsAre acc.toList ns := ints_by (by omega) fun i v n h1 h2 => by
    obtain ⟨k, x, e1, e2⟩ := hacc.2 i v (by rw [← Array.getElem?_toList]; exact h1)
    have e3 : (ws.map (·.1))[i]? = some k := by rw [List.getElem?_map, e1]; rfl
    rw [← kv_keys rel, he, List.getElem?_map, h2] at e3
    cases e3
    rcases keyIs_shape (show keyIs (Sum.inl n) v = true from e2) with ⟨j, t, e4, rfl⟩ | ⟨j, t, e4, rfl⟩
    · cases e4; exact ⟨t, rfl⟩
    · cases e4
  have kS : ∀ b o, s.heap.get? b = some o → (h'.push { cls := .type "list", data := .seq acc.toList.toArray }).get? b = some o := fun b o e => Heap.get?_push_of_some _ (hk b o e)
  have ne0 : ∀ b o, s.heap.get? b = some o → b ≠ h'.objs.size := fun b o e => Nat.ne_of_lt (Heap.lt_size (hk b o e))
  have hge : s.heap.objs.size ≤ h'.objs.size := Nat.le_of_lt hgr
  show wpAny _ _ _ _ _ { s with heap := h'.push { cls := .type "list", data := .seq acc.toList.toArray }, toks := tk }
  generalize hh2 : h'.push { cls := .type "list", data := .seq acc.toList.toArray } = h2 at hob kS ⊢
  refine wpAny_bind (wpAny_holding (wpAny_call_entry PyProof.Rows.slot_list_sort ⟨_, hob, rfl⟩ PyProof.Rows.entry_list_sort
    (SrtO.list_sort_ord SrtO.swo_int hob hz (fun h2 => SrtO.ints_sortable hi h2) fun out h1 h2 => ⟨_, rfl, ?_⟩) (PyProof.Rows.args_list_sort _)))
  refine wpAny_pure ⟨_, rfl, ?_⟩
  obtain ⟨k1, k2, k3⟩ := SrtO.ints_out hi h1 h2
  obtain ⟨e2, he'⟩ := PyProof.Rows.sortedHeap_at (vs := acc.toList) (out := out.toArray) hob
  have hlen : ((out.map SrtO.iv).map V.int).length ≤ sizeLine := by
    rw [List.length_map, k2.length_eq]
    omega
  exact ⟨.ref h'.objs.size, upd H h'.objs.size (.lst ((out.map SrtO.iv).map V.int)), I.laid (t' := tk) (fun b o e => (PyProof.Rows.sortedHeap_old (ne0 _ _ e) (Heap.lt_size (kS b o e))).trans (kS b o e)) hge ⟨hlen, out, e2, vals_of_ints k1, he'⟩, rfl, q _ _ k2 k3 (I.hok.fresh hge)⟩
end
end L2
namespace Hz
open PySem L2 PySem.Spec PyProof.Rows
/-- d[k] op= v, ints -/
def sDaI (g : Int → Int → Int) (wd wy wv : WE) : WS := fun O Qx ρ => wd ρ Qx fun t ρ1 => wy ρ1 Qx fun u ρ2 => ∃ kvs d k i, t.peek ρ2 = some (dicD kvs) ∧ u = .dat d ∧ keyOf d = some k ∧ valA kvs k = some (.int i) ∧
  wv ρ2 Qx fun z ρ3 => ∃ j kvs2 ρ4, z = tI j ∧ t.opn ρ3 = some (dicD kvs2, ρ4) ∧ kvs2.length < 1000000 ∧ O.nx (t.cls (dicD (putA kvs2 k (.int (g i j)))) ρ4)
def sSortDK : S1 := fun t ρ Q => ∃ (kvs : DKv) (ns : List Int), t.peek ρ = some (dicD kvs) ∧ kvs.map (·.1) = ns.map Sum.inl ∧ ∀ ms : List Int, ms.Perm ns → ms.Pairwise (· ≤ ·) → Q (.lst (ms.map tI)) (t.drop ρ)
theorem pd_keys {K : PySem.W.Frag} {F : Hp} : ∀ {xs : List (Key × V)} {kvs : DKv}, PD K F xs kvs → xs.map (·.1) = kvs.map (·.1)
  | _, _, .nil => rfl
  | _, _, .cons _ h2 => by rw [List.map_cons, List.map_cons, pd_keys h2]
/-- an item of a dict, as a pair -/
def kvT (p : Key × PyData) : T := .dat (.tuple [keyD p.1, p.2])
def iItT (wd : WE) : WI := fun ρ Qx Q => wd ρ Qx fun t ρ1 => ∃ kvs, t = dicD kvs ∧ ∀ d o xs, Q ⟨[.dcl d o xs kvs], kvs.length, fun i => (kvs.map kvT).getD i tN⟩ ρ1
section
variable {K : PySem.W.Frag} {I : Sg} {E : XS} {td ty tv : TE} {wd wy wv : WE}
theorem sv_daug {g : Int → Int → Int} {rd : V → V → Hp → VK → Prop} (hrd : ∀ i j H Q, Q (.int (g i j)) H → rd (.int i) (.int j) H Q) (hd : EvW K I E td wd) (hy : EvW K I E ty wy) (hv : EvW K I E tv wv) : SvW K I E (sDAug td ty tv rd) (sDaI g wd wy wv) := fun c ρ tm σ vs F W H r hzz O Qx D hx dd q =>
  hd c ρ tm σ vs F W H r Qx _ hx q _ fun t ρ1 x F1 W1 H1 r1 q1 => hy c ρ1 (t :: tm) σ (x :: vs) F1 W1 H1 r1 Qx _ hx q1 _ fun u ρ2 y F2 W2 H2 r2 ⟨kvs, d, k, i, hp, hu, hk, he, q2⟩ => by
    subst hu
    have ey := key_dp r2.topDat hk
    subst ey
    have r3 := r2.drop
    obtain ⟨a, xs, rfl, ha, hx'⟩ := r3.peekDic hp
    rcases hx'.val (k := k) with ⟨_, z⟩ | ⟨v, d', z1, z2, z3⟩
    · rw [z] at he; cases he
    · rw [z2] at he
      cases he
      cases z3
      refine ⟨a, _, rfl, by rw [← z1]; exact DGet.k ha, hv c ρ2 (t :: tm) σ (.ref a :: vs) F2 W2 H2 r3 Qx _ hx q2 _ fun z ρ3 w F3 W3 H3 r4 ⟨j, kvs2, ρ4, hz, ho, hl, q3⟩ => ?_⟩
      subst hz
      have ew : w = .int j := by
        have := r4.topDat
        cases this
        rfl
      subst ew
      refine hrd i j H3 _ ?_
      have r5 := r4.drop
      have hor := r5.orig
      obtain ⟨r6, _⟩ := r5.opn ho
      obtain ⟨b, ys, eb, hb, hy', hm⟩ := r6.modDic
      cases eb
      have r7 := R.clsT (t := t) (hm (hy'.put (k := k) (.int (g i j)))) rfl hor
      exact ⟨_, DPut.k hb (Nat.lt_of_lt_of_le (by rw [hy'.len]; exact hl) (line_of (n := 1000000) (Nat.le_refl _))), dd.nx _ _ _ _ _ r7 q3⟩
theorem ev_sortDK (hd : EvW K I E td wd) : EvW K I E (tCB rSortDK (tCons td tNil)) (w1 sSortDK wd) := fun c ρ tm σ vs F W H r Qx Qv hx hw Q k =>
  hd c ρ tm σ vs F W H r Qx _ hx hw _ fun t ρ1 v F1 W1 H1 r1 ⟨kvs, ns, hp, he, q⟩ => by
    obtain ⟨a, xs, rfl, ha, hxs⟩ := r1.peekDic hp
    refine ⟨a, xs, ns, rfl, ha, by rw [pd_keys hxs, he], fun ms p h1 h2 hpn => ?_⟩
    have hA : ∀ (xs : List Int) (H' : Hp), RepA K F1 W1 H' (xs.map V.int) (xs.map tI) [] := fun xs H' => by
      induction xs with
      | nil => exact .nil
      | cons x xs ih => exact .cons (.dat (.int x)) ih (.refl _)
    exact k _ _ _ _ _ _ (r1.dropT.newLstC (hA ms _) hpn) (q ms h1 h2)
theorem ei_itemsT (hd : EvW K I E td wd) : EvI K I E (iItems (tFrzE td)) (iItT wd) := fun c ρ tm σ vs F W H r Qx Qs hx hw Rr k =>
  hd c ρ tm σ vs F W H r Qx _ hx hw _ fun t ρ1 v F1 W1 H1 r1 ⟨kvs, ht, q⟩ => by
    subst ht
    obtain ⟨d, xs, rfl, hd', hl, lk⟩ := r1.dclOn
    refine ⟨d, .dK xs, rfl, hd', trivial, fun o => ⟨d, o, xs, rfl, by rw [upd_same], k _ ⟨[.dcl d o xs kvs], kvs.length, fun i => (kvs.map kvT).getD i tN⟩ [.ref d] ρ1 F1 W1 _ (lk o) rfl ?_ ?_ ?_ (q d o xs)⟩⟩
    · intro c ρ tm σ vs F W H r
      obtain ⟨f, hr, _⟩ := r.peek (s := .dcl d o xs kvs) rfl
      cases hr with
      | dcl hH hpd _ =>
        refine ⟨fun i hi => ⟨⟨hH, Nat.lt_of_lt_of_eq hi hl.symm⟩, fun x H' yl => ?_⟩, hH, Nat.le_of_eq hl⟩
        obtain ⟨P, k1, v1, hk1, ey, hP, eH⟩ := yl
        subst ey; subst eH
        obtain ⟨d1, hd1, hdd⟩ := pd_at hpd hk1
        obtain ⟨F3, r5⟩ := R.newPair (d := keyD k1) (e := d1) (x := kV k1) (y := v1) r (.dat (dp_key k1)) (.dat hdd) hP
        refine ⟨F3, ?_⟩
        have e : (kvs.map kvT).getD i tN = .dat (.tuple [keyD k1, d1]) := by
          rw [List.getD_eq_getElem?_getD, List.getElem?_map, hd1]
          rfl
        show R K I c ρ ((kvs.map kvT).getD i tN :: _) σ _ F3 W _
        rw [e]
        exact r5
    · intro x hx; rw [List.mem_singleton.mp hx]; rfl
    · intro i hi
      show ((kvs.map kvT).getD i tN).real = true
      rw [List.getD_eq_getElem?_getD, List.getElem?_map, List.getElem?_eq_getElem hi]
      rfl
end
end Hz
/-! Hz63: pools: lists of ints of any length that nobody looks at but the draw (as wells in Hz15). -/
namespace Hz
open PySem L2 PyProof.Rows
def poolO : HO → Prop := fun o => ∃ ns : List Int, o = .lst (ns.map V.int)
def outPool (W : SpT) : SpT := fun ts post ep => ∃ post1, W ts post1 ep ∧ ∀ t os, post1 t os → ∃ ns : List Int, t = .lst (ns.map tI) ∧ post .well os
theorem repA_ints {K : PySem.W.Frag} {F : Hp} {W : List Addr} {H : Hp} : ∀ {ns : List Int} {us : List V} {f : List Addr}, RepA K F W H us (ns.map tI) f → us = ns.map V.int ∧ f = []
  | [], _, _, h => by cases h; exact ⟨rfl, rfl⟩
  | n :: ns, _, _, h => by
    cases h with
    | cons h1 h2 p =>
      obtain ⟨e1, e2⟩ := repA_ints h2
      cases h1 with
      | dat h1 =>
        cases h1
        subst e1; subst e2
        exact ⟨rfl, List.perm_nil.mp p⟩
theorem repA_ofInts {K : PySem.W.Frag} {F : Hp} {W : List Addr} {H : Hp} : ∀ (ns : List Int), RepA K F W H (ns.map V.int) (ns.map tI) []
  | [] => .nil
  | n :: ns => .cons (.dat (.int n)) (repA_ofInts ns) (.refl _)
theorem rep_pool {K : PySem.W.Frag} {F : Hp} {W : List Addr} {H : Hp} {v : V} {f : List Addr} {ns : List Int} (h : Rep K F W H v (.lst (ns.map tI)) f) : ∃ a, v = .ref a ∧ H a = some (.lst (ns.map V.int)) ∧ f.Perm [a] := by
  cases h with
  | lst h1 h2 p =>
    obtain ⟨e1, e2⟩ := repA_ints h2
    subst e1; subst e2
    exact ⟨_, rfl, h1, p⟩
theorem outPool_ok {K : PySem.W.Frag} {W : SpT} {vs : List V} {H : Hp} {Q : VK} {E : XK} (h : spT K poolO (outPool W) vs H Q E) : spT K poolO W vs H Q E := by
  obtain ⟨ts, fp, F, Wl, post, ep, hL, nd, wf, ⟨post1, hW, hp⟩, kk, kx⟩ := h
  refine ⟨ts, fp, F, Wl, post1, ep, hL, nd, wf, hW, fun t os v fp' F' W' H' hL' nd' st hpost => ?_, kx⟩
  obtain ⟨ns, rfl, hq⟩ := hp t os hpost
  cases hL' with
  | cons h1 h2 p =>
    rename_i f1 f2
    cases h1 with
    | som h1 =>
      obtain ⟨a, rfl, ha, pa⟩ := rep_pool h1
      have pm : fp'.Perm (a :: f2) := p.trans (pa.append_right f2)
      have nd2 := List.nodup_cons.mp (nodup_of_perm pm nd')
      have s2 := st.perm (.refl _) pm
      have oa := s2.wf.own a List.mem_cons_self
      refine kk .well os (.ref a) f2 F' (a :: W') H' (.cons (.som (.well List.mem_cons_self)) (h2.mono (f₀ := f2) (fun _ z => z) fun x y g hp _ => hp.keep (.refl _) (fun _ z => List.mem_cons_of_mem _ z) fun _ _ => rfl) (.refl _)) nd2.2 ?_ hq
      refine ⟨⟨s2.wf.sub, fun b hb => ?_, fun x hx => ?_⟩, s2.subF, fun x hx => List.mem_cons_of_mem _ (s2.subW x hx), s2.keep, s2.there, fun b hb => s2.newO b (List.mem_cons_of_mem _ hb), s2.newF, fun x hx => ?_⟩
      · obtain ⟨g1, g2, g3⟩ := s2.wf.own b (List.mem_cons_of_mem _ hb)
        exact ⟨g1, fun z => (List.mem_cons.mp z).elim (fun e => nd2.1 (e ▸ hb)) g2, g3⟩
      · rcases List.mem_cons.mp hx with rfl | hx
        · exact ⟨oa.1, _, ha, ns, rfl⟩
        · exact s2.wf.wel x hx
      · rcases List.mem_cons.mp hx with rfl | hx
        · rcases s2.newO x List.mem_cons_self with q | q
          · exact .inr (.inl q)
          · exact .inr (.inr q)
        · exact s2.newW x hx
/-- a def that takes such a list first, and changes it -/
def inPool (W : SpT) : SpT := fun ts post ep => ∃ tr, ts = .well :: tr ∧ tr.all isDat = true ∧ ∀ ns : List Int, ∃ post1, W (.lst (ns.map tI) :: tr) post1 (fun _ _ _ => False) ∧
  ∀ t os, post1 t os → ∃ (ns' : List Int) (or : Rho), os = some (.lst (ns'.map tI)) :: or ∧ post t (some .well :: or)
theorem inPool_ok {K : PySem.W.Frag} {W : SpT} {vs : List V} {H : Hp} {Q : VK} {E : XK} (h : spT K poolO (inPool W) vs H Q E) : spT K poolO W vs H Q E := by
  obtain ⟨ts, fp, F, Wl, post, ep, hL, nd, wf, ⟨tr, rfl, hd, hW⟩, kk, kx⟩ := h
  cases hL with
  | cons h1 h2 p =>
    rename_i v vr f1 f2
    cases h1 with
    | well hw =>
      rename_i a
      obtain ⟨oF, o, ho, ns, rfl⟩ := wf.wel a hw
      obtain ⟨post1, hW1, hp⟩ := hW ns
      obtain ⟨e, h3⟩ := rep_dats (W' := Wl.filter (fun b => decide (b ≠ a))) h2 hd
      subst e
      have e := List.perm_nil.mp p
      subst e
      have mW : ∀ {b : Addr}, b ∈ Wl.filter (fun b => decide (b ≠ a)) ↔ b ∈ Wl ∧ b ≠ a := fun {b} => by rw [List.mem_filter]; simp
      have wf0 : Hz.Wf poolO F (Wl.filter (fun b => decide (b ≠ a))) H [a] := ⟨wf.sub, fun b hb => by
        cases List.mem_singleton.mp hb
        exact ⟨oF, fun z => (mW.mp z).2 rfl, by rw [ho]; exact Option.some_ne_none _⟩, fun x hx => wf.wel x (mW.mp hx).1⟩
      refine ⟨_, [a], F, _, post1, _, .cons (f1 := [a]) (f2 := []) (.lst ho (repA_ofInts ns) (.refl _)) h3 (.refl _), (List.nodup_cons.mpr ⟨fun z => (nomatch z), .nil⟩), wf0, hW1, fun t os v' fp' F' W' H' hL' nd' st hpost => ?_, fun _ _ _ _ _ _ _ _ _ _ _ _ _ z => z.elim⟩
      obtain ⟨ns', or, rfl, hq⟩ := hp t os hpost
      cases hL' with
      | cons g1 g2 p1 =>
        rename_i e1 e2
        cases g2 with
        | cons g3 g4 p2 =>
          rename_i e3 e4
          cases g3 with
          | som g3 =>
            obtain ⟨a', ea, ha, pa⟩ := rep_pool g3
            cases ea
            have pm : fp'.Perm (a :: (e1 ++ e4)) := by
              refine p1.trans ((p2.append_left e1).trans (((pa.append_right e4).append_left e1).trans ?_))
              exact List.perm_middle
            have nd2 := List.nodup_cons.mp (nodup_of_perm pm nd')
            have s2 := st.perm (.refl _) pm
            have oa := s2.wf.own a List.mem_cons_self
            have kp : ∀ {x : Option V} {y : Option T} {g : List Addr}, RepS K F' W' H' x y g → RepS K F' (a :: W') H' x y g := fun h => h.keep (.refl _) (fun _ z => List.mem_cons_of_mem _ z) fun _ _ => rfl
            refine kk t (some .well :: or) v' (e1 ++ e4) F' (a :: W') H' (.cons (kp g1) (.cons (f1 := []) (.som (.well List.mem_cons_self)) (g4.mono (f₀ := e4) (fun _ z => z) fun x y g hp _ => kp hp) (.refl _)) (.refl _)) nd2.2 ?_ hq
            refine ⟨⟨s2.wf.sub, fun b hb => ?_, fun x hx => ?_⟩, s2.subF, fun x hx => ?_, fun b o hb n1 n2 => ?_, s2.there, fun b hb => ?_, fun b hb => ?_, fun x hx => ?_⟩
            · obtain ⟨q1, q2, q3⟩ := s2.wf.own b (List.mem_cons_of_mem _ hb)
              exact ⟨q1, fun z => (List.mem_cons.mp z).elim (fun e => nd2.1 (e ▸ hb)) q2, q3⟩
            · rcases List.mem_cons.mp hx with rfl | hx
              · exact ⟨oa.1, _, ha, ns', rfl⟩
              · exact s2.wf.wel x hx
            · by_cases e : x = a
              · rw [e]; exact List.mem_cons_self
              · exact List.mem_cons_of_mem _ (s2.subW x (mW.mpr ⟨hx, e⟩))
            · have e : b ≠ a := fun e => n2 (e ▸ hw)
              exact s2.keep b o hb (fun z => e (List.mem_singleton.mp z)) fun z => n2 (mW.mp z).1
            · rcases s2.newO b (List.mem_cons_of_mem _ hb) with q | q
              · cases List.mem_singleton.mp q
                exact (nd2.1 hb).elim
              · exact .inr q
            · rcases s2.newF b hb with q | q | q
              · exact .inl q
              · cases List.mem_singleton.mp q
                exact (hb oa.1).elim
              · exact .inr (.inr q)
            · rcases List.mem_cons.mp hx with rfl | hx
              · exact .inl hw
              · rcases s2.newW x hx with q | q | q
                · exact .inl (mW.mp q).1
                · cases List.mem_singleton.mp q
                  exact .inl hw
                · exact .inr (.inr q)
end Hz
/-! Hz64: what is shown of data without texts and dicts is one-to-one. -/
namespace Hz
open PySem PyProof.Rows
mutual
/-- data without texts and dicts -/
def rj : PyData → Bool
  | .none => true
  | .bool _ => true
  | .int _ => true
  | .list ds => rjA ds
  | .tuple ds => rjA ds
  | _ => false
def rjA : List PyData → Bool
  | [] => true
  | d :: ds => rj d && rjA ds
end
theorem rjA_mem : ∀ {ds : List PyData}, (∀ x ∈ ds, rj x = true) → rjA ds = true
  | [], _ => rfl
  | d :: ds, h => by
    show (rj d && rjA ds) = true
    rw [h d List.mem_cons_self, rjA_mem fun x hx => h x (List.mem_cons_of_mem _ hx)]
    rfl
theorem rjA_map {α : Type} {f : α → PyData} {xs : List α} (h : ∀ x, rj (f x) = true) : rjA (xs.map f) = true := rjA_mem fun d hd => by
  obtain ⟨x, _, rfl⟩ := List.mem_map.mp hd
  exact h x
abbrev tx (d : PyData) : List Nat := d.shown.cps.toList
def txJ : List PyData → List Nat
  | [] => []
  | [d] => tx d
  | d :: e :: ds => tx d ++ 44 :: 32 :: txJ (e :: ds)
theorem txJ_join : ∀ ds : List PyData, (Str.join (", " : String) (PyData.shownAll ds)).cps.toList = txJ ds
  | [] => rfl
  | [d] => rfl
  | d :: e :: ds => by
    show (Str.join (", " : String) (d.shown :: e.shown :: PyData.shownAll ds)).cps.toList = _
    rw [join_cons_cons, cps_toList_append, cps_toList_append, signs_sep, show e.shown :: PyData.shownAll ds = PyData.shownAll (e :: ds) from rfl, txJ_join (e :: ds)]
    show _ = tx d ++ 44 :: 32 :: txJ (e :: ds)
    rw [List.append_assoc]
    rfl
theorem tx_list (ds : List PyData) : tx (.list ds) = 91 :: (txJ ds ++ [93]) := by
  show (listText (PyData.shownAll ds)).cps.toList = _
  rw [listText_eq_join, cps_toList_append, cps_toList_append, signs_lbrack, signs_rbrack, txJ_join]
  rfl
theorem shownAll_len : ∀ ds : List PyData, (PyData.shownAll ds).length = ds.length
  | [] => rfl
  | d :: ds => congrArg (· + 1) (shownAll_len ds)
theorem tx_tup (ds : List PyData) : tx (.tuple ds) = 40 :: (txJ ds ++ if ds.length = 1 then [44, 41] else [41]) := by
  show (tupleText (PyData.shownAll ds)).cps.toList = _
  unfold tupleText
  rw [cps_toList_append, cps_toList_append, signs_lparen, txJ_join, shownAll_len]
  by_cases h : ds.length = 1
  · rw [if_pos h, if_pos (by rw [h]; rfl)]
    rfl
  · rw [if_neg h, if_neg (by simpa using h)]
    rfl
def isNum (c : Nat) : Bool := c == 45 || (decide (48 ≤ c) && decide (c ≤ 57))
theorem tx_int_num (i : Int) : ∀ c ∈ tx (.int i), isNum c = true := fun c hc => by
  have h : ¬ (c ≠ 45 ∧ (c < 48 ∨ 57 < c)) := fun z => shown_int_free' z i hc
  unfold isNum
  rw [Bool.or_eq_true, Bool.and_eq_true, decide_eq_true_eq, decide_eq_true_eq, beq_iff_eq]
  omega
theorem tx_int_ne (i : Int) : tx (.int i) ≠ [] := fun h => by
  have h2 : ((toString i : String) : Str).cps.toList = [] := by
    rw [← PyData.shown_int]
    exact h
  rw [signs_ofString, List.map_eq_nil_iff] at h2
  rw [Int.toString_eq_repr, Int.repr_eq_if] at h2
  split at h2
  · rw [Nat.toList_repr] at h2
    exact absurd h2 (by
      have := @Nat.length_toDigits_pos 10 i.toNat
      intro z
      rw [z] at this
      exact absurd this (by decide))
  · rw [String.toList_append] at h2
    exact absurd h2 (by simp)
theorem tx_none : tx .none = [78, 111, 110, 101] := by decide +kernel
theorem tx_bool (b : Bool) : tx (.bool b) = if b then [84, 114, 117, 101] else [70, 97, 108, 115, 101] := by cases b <;> decide +kernel
/-- an end of an item -/
def Tm : List Nat → Prop
  | [] => True
  | c :: _ => c = 44 ∨ c = 41 ∨ c = 93
theorem tm93 (r : List Nat) : Tm ([93] ++ r) := Or.inr (Or.inr rfl)
theorem tm41 (r : List Nat) : Tm ([41] ++ r) := Or.inr (Or.inl rfl)
/-- the first sign tells the kind -/
def hdC : PyData → Nat → Prop
  | .none, c => c = 78
  | .bool b, c => c = if b then 84 else 70
  | .int _, c => isNum c = true
  | .list _, c => c = 91
  | .tuple _, c => c = 40
  | _, _ => False
theorem hd_tx {d : PyData} (h : rj d = true) : ∃ c r, tx d = c :: r ∧ hdC d c := by
  cases d with
  | none => exact ⟨_, _, tx_none, rfl⟩
  | bool b =>
    cases b with
    | true => exact ⟨_, _, tx_bool true, rfl⟩
    | false => exact ⟨_, _, tx_bool false, rfl⟩
  | int i =>
    cases e : tx (.int i) with
    | nil => exact absurd e (tx_int_ne i)
    | cons c r => exact ⟨c, r, rfl, tx_int_num i c (by rw [e]; exact List.mem_cons_self)⟩
  | list ds => exact ⟨_, _, tx_list ds, rfl⟩
  | tuple ds => exact ⟨_, _, tx_tup ds, rfl⟩
  | str x => cases h
  | dict x => cases h
theorem hdC_not {d : PyData} {c : Nat} (h : hdC d c) : c ≠ 41 ∧ c ≠ 93 ∧ c ≠ 44 := by
  cases d with
  | none => exact (show c = 78 from h) ▸ ⟨by decide, by decide, by decide⟩
  | bool b => exact (show c = _ from h) ▸ (by cases b <;> exact ⟨by decide, by decide, by decide⟩)
  | int i => refine ⟨?_, ?_, ?_⟩ <;> (rintro rfl; exact absurd (show isNum _ = true from h) (by decide))
  | list ds => exact (show c = 91 from h) ▸ ⟨by decide, by decide, by decide⟩
  | tuple ds => exact (show c = 40 from h) ▸ ⟨by decide, by decide, by decide⟩
  | str x => exact h.elim
  | dict x => exact h.elim
theorem num_split : ∀ {a b r s : List Nat}, (∀ c ∈ a, isNum c = true) → (∀ c ∈ b, isNum c = true) → Tm r → Tm s → a ++ r = b ++ s → a = b ∧ r = s
  | [], [], r, s, _, _, _, _, h => ⟨rfl, h⟩
  | [], y :: b, r, s, _, h2, hr, _, h => by
    rw [List.nil_append] at h
    subst h
    have := h2 y List.mem_cons_self
    rcases hr with rfl | rfl | rfl <;> cases this
  | x :: a, [], r, s, h1, _, _, hs, h => by
    rw [List.nil_append] at h
    subst h
    have := h1 x List.mem_cons_self
    rcases hs with rfl | rfl | rfl <;> cases this
  | x :: a, y :: b, r, s, h1, h2, hr, hs, h => by
    rw [List.cons_append, List.cons_append, List.cons.injEq] at h
    obtain ⟨e1, e2⟩ := num_split (fun c hc => h1 c (List.mem_cons_of_mem _ hc)) (fun c hc => h2 c (List.mem_cons_of_mem _ hc)) hr hs h.2
    exact ⟨by rw [h.1, e1], e2⟩
theorem cps_inj {a b : Str} (h : a.cps.toList = b.cps.toList) : a = b := by
  cases a; cases b
  congr 1
  exact Array.toList_inj.mp h
theorem tx_int_inj {i j : Int} (h : tx (.int i) = tx (.int j)) : i = j := shown_int_inj (cps_inj h)
theorem hdC_one {d e : PyData} {c : Nat} (h : hdC d c) (g : hdC e c) : (∃ i j, d = .int i ∧ e = .int j) ∨ (d = .none ∧ e = .none) ∨ (∃ b, d = .bool b ∧ e = .bool b) ∨ (∃ a b, d = .list a ∧ e = .list b) ∨ ∃ a b, d = .tuple a ∧ e = .tuple b := by
  cases d with
  | str x => exact h.elim
  | dict x => exact h.elim
  | none =>
    have h : c = 78 := h
    subst h
    cases e with
    | none => exact .inr (.inl ⟨rfl, rfl⟩)
    | bool b => cases b <;> exact absurd (show 78 = _ from g) (by decide)
    | int i => exact absurd (show isNum 78 = true from g) (by decide)
    | list a => exact absurd (show 78 = 91 from g) (by decide)
    | tuple a => exact absurd (show 78 = 40 from g) (by decide)
    | str x => exact g.elim
    | dict x => exact g.elim
  | bool b =>
    have h : c = if b then 84 else 70 := h
    subst h
    cases e with
    | none => cases b <;> exact absurd (show _ = 78 from g) (by decide)
    | bool b' => cases b <;> cases b' <;> first | exact .inr (.inr (.inl ⟨_, rfl, rfl⟩)) | exact absurd (show 84 = 70 from g) (by decide) | exact absurd (show 70 = 84 from g) (by decide)
    | int i => cases b <;> exact absurd (show isNum _ = true from g) (by decide)
    | list a => cases b <;> exact absurd (show _ = 91 from g) (by decide)
    | tuple a => cases b <;> exact absurd (show _ = 40 from g) (by decide)
    | str x => exact g.elim
    | dict x => exact g.elim
  | int i =>
    cases e with
    | none => have g : c = 78 := g; subst g; exact absurd (show isNum 78 = true from h) (by decide)
    | bool b => have g : c = _ := g; subst g; cases b <;> exact absurd (show isNum _ = true from h) (by decide)
    | int j => exact .inl ⟨_, _, rfl, rfl⟩
    | list a => have g : c = 91 := g; subst g; exact absurd (show isNum _ = true from h) (by decide)
    | tuple a => have g : c = 40 := g; subst g; exact absurd (show isNum _ = true from h) (by decide)
    | str x => exact g.elim
    | dict x => exact g.elim
  | list a =>
    have h : c = 91 := h
    subst h
    cases e with
    | none => exact absurd (show 91 = 78 from g) (by decide)
    | bool b => cases b <;> exact absurd (show 91 = _ from g) (by decide)
    | int i => exact absurd (show isNum 91 = true from g) (by decide)
    | list b => exact .inr (.inr (.inr (.inl ⟨_, _, rfl, rfl⟩)))
    | tuple a => exact absurd (show 91 = 40 from g) (by decide)
    | str x => exact g.elim
    | dict x => exact g.elim
  | tuple a =>
    have h : c = 40 := h
    subst h
    cases e with
    | none => exact absurd (show 40 = 78 from g) (by decide)
    | bool b => cases b <;> exact absurd (show 40 = _ from g) (by decide)
    | int i => exact absurd (show isNum 40 = true from g) (by decide)
    | list b => exact absurd (show 40 = 91 from g) (by decide)
    | tuple a => exact .inr (.inr (.inr (.inr ⟨_, _, rfl, rfl⟩)))
    | str x => exact g.elim
    | dict x => exact g.elim
/-- what follows the first item -/
def tlJ (z : List Nat) : List PyData → List Nat
  | [] => z
  | e :: ds => 44 :: 32 :: (txJ (e :: ds) ++ z)
theorem txJ_cons (d : PyData) (ds : List PyData) (z : List Nat) : txJ (d :: ds) ++ z = tx d ++ tlJ z ds := by
  cases ds with
  | nil => rfl
  | cons e ds =>
    show (tx d ++ 44 :: 32 :: txJ (e :: ds)) ++ z = _
    rw [List.append_assoc]
    rfl
theorem tlJ_tm {z : List Nat} (h : Tm z) : ∀ ds, Tm (tlJ z ds)
  | [] => h
  | _ :: _ => (show _ ∨ _ from .inl rfl)
mutual
theorem tx_inj : ∀ (d e : PyData) (r s : List Nat), rj d = true → rj e = true → Tm r → Tm s → tx d ++ r = tx e ++ s → d = e ∧ r = s
  | d, e, r, s, hd, he, hr, hs, h => by
    obtain ⟨c, p, e1, h1⟩ := hd_tx hd
    obtain ⟨c', p', e2, h2⟩ := hd_tx he
    have ec : c = c' := by
      rw [e1, e2, List.cons_append, List.cons_append, List.cons.injEq] at h
      exact h.1
    subst ec
    match d, e, hdC_one h1 h2, hd, he, h with
    | .int i, .int j, _, _, _, h =>
      obtain ⟨q1, q2⟩ := num_split (tx_int_num i) (tx_int_num j) hr hs h
      exact ⟨by rw [tx_int_inj q1], q2⟩
    | .none, .none, _, _, _, h => exact ⟨rfl, List.append_cancel_left h⟩
    | .bool b, .bool b', hk, _, _, h =>
      have : b = b' := by
        rcases hk with ⟨_, _, z, _⟩ | ⟨z, _⟩ | ⟨_, z1, z2⟩ | ⟨_, _, z, _⟩ | ⟨_, _, z, _⟩
        · cases z
        · cases z
        · cases z1; cases z2; rfl
        · cases z
        · cases z
      subst this
      exact ⟨rfl, List.append_cancel_left h⟩
    | .list a, .list b, _, ha, hb, h =>
      rw [tx_list, tx_list, List.cons_append, List.cons_append, List.cons.injEq, List.append_assoc, List.append_assoc] at h
      obtain ⟨q1, q2⟩ := txJ_inj a b ([93] ++ r) ([93] ++ s) ha hb (tm93 r) (tm93 s) (fun z => nomatch z) (fun z => nomatch z) h.2
      exact ⟨by rw [q1], (List.cons.inj q2).2⟩
    | .tuple a, .tuple b, _, ha, hb, h =>
      rw [tx_tup, tx_tup, List.cons_append, List.cons_append, List.cons.injEq, List.append_assoc, List.append_assoc] at h
      replace h := h.2
      match a, b, ha, hb, h with
      | [], [], _, _, h => exact ⟨rfl, (List.cons.inj h).2⟩
      | [], y :: b, _, hb, h =>
        exfalso
        rw [txJ_cons] at h
        have hb' : (rj y && rjA b) = true := hb
        rw [Bool.and_eq_true] at hb'
        obtain ⟨c, p, e1, h1⟩ := hd_tx hb'.1
        rw [e1] at h
        exact (hdC_not h1).1 (List.cons.inj h).1.symm
      | x :: a, [], ha, _, h =>
        exfalso
        rw [txJ_cons] at h
        have ha' : (rj x && rjA a) = true := ha
        rw [Bool.and_eq_true] at ha'
        obtain ⟨c, p, e1, h1⟩ := hd_tx ha'.1
        rw [e1] at h
        exact (hdC_not h1).1 (List.cons.inj h).1
      | x :: a, y :: b, ha, hb, h =>
        have ha' : (rj x && rjA a) = true := ha
        have hb' : (rj y && rjA b) = true := hb
        rw [Bool.and_eq_true] at ha' hb'
        rw [txJ_cons, txJ_cons] at h
        have t1 : ∀ {xs : List PyData} {x : PyData} {r : List Nat}, Tm ((if (x :: xs).length = 1 then [44, 41] else [41]) ++ r) := fun {xs x r} => by
          split
          · exact (show _ ∨ _ from .inl rfl)
          · exact (show _ ∨ _ from .inr (.inl rfl))
        obtain ⟨q1, q2⟩ := tx_inj x y _ _ ha'.1 hb'.1 (tlJ_tm t1 a) (tlJ_tm t1 b) h
        subst q1
        match a, b, ha'.2, hb'.2, q2 with
        | [], [], _, _, q2 => exact ⟨rfl, by cases q2; rfl⟩
        | [], y2 :: b, _, _, q2 => cases q2
        | x2 :: a, [], _, _, q2 => cases q2
        | x2 :: a, y2 :: b, ha2, hb2, q2 =>
          have q3 := (List.cons.inj (List.cons.inj q2).2).2
          rw [if_neg (by simp), if_neg (by simp)] at q3
          obtain ⟨k1, k2⟩ := txJ_inj (x2 :: a) (y2 :: b) ([41] ++ r) ([41] ++ s) ha2 hb2 (tm41 r) (tm41 s) (fun z => nomatch z) (fun z => nomatch z) q3
          exact ⟨by rw [k1], (List.cons.inj k2).2⟩
theorem txJ_inj : ∀ (a b : List PyData) (r s : List Nat), rjA a = true → rjA b = true → Tm r → Tm s → (∀ {x}, r = 44 :: x → False) → (∀ {x}, s = 44 :: x → False) → txJ a ++ r = txJ b ++ s → a = b ∧ r = s
  | [], [], r, s, _, _, _, _, _, _, h => ⟨rfl, h⟩
  | [], y :: b, r, s, _, hb, hr, _, _, _, h => by
    exfalso
    rw [txJ_cons] at h
    have hb' : (rj y && rjA b) = true := hb
    rw [Bool.and_eq_true] at hb'
    obtain ⟨c, p, e1, h1⟩ := hd_tx hb'.1
    obtain ⟨n1, n2, n3⟩ := hdC_not h1
    have h : r = _ := h
    rw [e1] at h
    subst h
    rcases hr with z | z | z
    · exact n3 z
    · exact n1 z
    · exact n2 z
  | x :: a, [], r, s, ha, _, _, hs, _, _, h => by
    exfalso
    rw [txJ_cons] at h
    have ha' : (rj x && rjA a) = true := ha
    rw [Bool.and_eq_true] at ha'
    obtain ⟨c, p, e1, h1⟩ := hd_tx ha'.1
    obtain ⟨n1, n2, n3⟩ := hdC_not h1
    have h : _ = s := h
    rw [e1] at h
    subst h
    rcases hs with z | z | z
    · exact n3 z
    · exact n1 z
    · exact n2 z
  | x :: a, y :: b, r, s, ha, hb, hr, hs, nr, ns, h => by
    have ha' : (rj x && rjA a) = true := ha
    have hb' : (rj y && rjA b) = true := hb
    rw [Bool.and_eq_true] at ha' hb'
    rw [txJ_cons, txJ_cons] at h
    obtain ⟨q1, q2⟩ := tx_inj x y _ _ ha'.1 hb'.1 (tlJ_tm hr a) (tlJ_tm hs b) h
    subst q1
    match a, b, ha'.2, hb'.2, q2 with
    | [], [], _, _, q2 => exact ⟨rfl, q2⟩
    | [], y2 :: b, _, _, q2 => exact (nr q2).elim
    | x2 :: a, [], _, _, q2 => exact (ns q2.symm).elim
    | x2 :: a, y2 :: b, ha2, hb2, q2 =>
      have q3 := (List.cons.inj (List.cons.inj q2).2).2
      obtain ⟨k1, k2⟩ := txJ_inj (x2 :: a) (y2 :: b) r s ha2 hb2 hr hs nr ns q3
      exact ⟨by rw [k1], k2⟩
end
/-- data without texts is the same if it is shown alike -/
theorem shown_inj {d e : PyData} (hd : rj d = true) (he : rj e = true) (h : d.shown = e.shown) : d = e :=
  (tx_inj d e [] [] hd he trivial trivial (by rw [List.append_nil, List.append_nil, tx, tx, h])).1
theorem shown_iff {d e : PyData} (hd : rj d = true) (he : rj e = true) : d.shown = e.shown ↔ d = e := ⟨shown_inj hd he, fun h => by rw [h]⟩
mutual
theorem lay_rj : ∀ {d : PyData}, rj d = true → d.canLay0 = true
  | .none, _ => rfl
  | .bool _, _ => rfl
  | .int _, _ => rfl
  | .list ds, h => layA_rj (ds := ds) h
  | .tuple ds, h => layA_rj (ds := ds) h
  | .str _, h => by cases h
  | .dict _, h => by cases h
theorem layA_rj : ∀ {ds : List PyData}, rjA ds = true → PyData.canLayAll0 ds = true
  | [], _ => rfl
  | d :: ds, h => by
    have h' : (rj d && rjA ds) = true := h
    rw [Bool.and_eq_true] at h'
    show (d.canLay0 && PyData.canLayAll0 ds) = true
    rw [lay_rj h'.1, layA_rj h'.2]
    rfl
end
theorem gd_rj {d : PyData} {c k : Nat} (h : rj d = true) (b : Bd c k d) (hk : k ≤ 20) : Gd d := ⟨lay_rj h, b.sh, Nat.le_trans b.de hk⟩
end Hz
/-! Hz65: len of a dict; tuples of texts of the module. -/
namespace Hz
open PySem L2
def rLenD : List V → Hp → VK → Prop := fun xs H Q => ∃ a kvs, xs = [V.ref a] ∧ H a = some (.dK kvs) ∧ Q (.int kvs.length) H
theorem call_lenDic {X : Cx} : CallR X (.builtin "len") rLenD := call_lenD
def sLenDic : S1 := fun t ρ Q => ∃ kvs, t.peek ρ = some (dicD kvs) ∧ Q (tI kvs.length) (t.drop ρ)
section
variable {K : PySem.W.Frag} {I : Sg}
theorem op_lenDic : Op1 K I (fun v => rLenD [v]) sLenDic := fun c ρ t tm σ v vs F W H r Qv ⟨kvs, hp, q⟩ Q kk => by
  obtain ⟨f, hr, _⟩ := r.peek hp
  obtain ⟨a, xs, rfl, ha, pd, _⟩ := rep_dic hr
  exact ⟨a, xs, rfl, ha, by rw [pd.len]; exact kk _ _ _ _ _ _ (r.dropT.dat (.int _)) q⟩
end
/-- a tuple of texts that the module's fragment holds -/
theorem dp_strsK {K : PySem.W.Frag} {H : Hp} {a : Addr} {o : Obj} {its : Array Value} {n : Nat} {is : List Str} (h : K.lookup a = some o) (hc : o.cls = .type "tuple") (hd : o.data = .seq its n) (hz : its.size ≤ sizeLine) (hv : Vals (is.map V.str) its.toList) : Dp K H (.ref a) (.tuple (is.map .str)) := by
  refine .tup (.inr ⟨o, its, n, h, hc, hd, hz, hv⟩) ?_
  have : ∀ is : List Str, DpAll K H (is.map V.str) (is.map .str) := by
    intro is
    induction is with
    | nil => exact .nil
    | cons i is ih => exact .cons (.str i) ih
  exact this is
theorem vals_strs : ∀ (zs : List (Str × Tok)), Vals (zs.map fun z => V.str z.1) (zs.map fun z => Value.str z.1 z.2)
  | [] => .nil
  | z :: zs => .cons ⟨z.2, rfl⟩ (vals_strs zs)
end Hz
/-! Hz66: small data: what is to be shown, compared, built anew. -/
namespace Hz
open PySem
theorem log2_lt {i : Nat} {k : Nat} (hk : 0 < k) (h : i < 2 ^ k) : i.log2 < k := by
  by_cases e : i = 0
  · rw [e]
    exact hk
  · exact (Nat.log2_lt e).mpr h
/-- nested data of lists, tuples, texts, ints, all of them small -/
def Sm0 : Nat → PyData → Prop
  | _, .none => True
  | _, .bool _ => True
  | _, .int i => i.natAbs < 2 ^ 190
  | _, .str x => (PyData.str x).canLay0 = true ∧ showB (.str x) = true ∧ x.length ≤ 20
  | k + 1, .list ds => ds.length ≤ 32 ∧ ∀ x ∈ ds, Sm0 k x
  | k + 1, .tuple ds => ds.length ≤ 32 ∧ ∀ x ∈ ds, Sm0 k x
  | _, _ => False
structure Sml (k : Nat) (d : PyData) : Prop where
  s : Sm0 k d
/-- data that anew goes through in fewer than n turns -/
def AnB : Nat → PyData → Prop
  | _ + 1, .none => True
  | _ + 1, .bool _ => True
  | _ + 1, .int _ => True
  | _ + 1, .str _ => True
  | n + 1, .list ds => ds.length ≤ 1000000 ∧ ∀ x ∈ ds, AnB n x
  | n + 1, .tuple ds => ds.length ≤ 1000000 ∧ ∀ x ∈ ds, AnB n x
  | _, _ => False
theorem AnB.pos {n : Nat} {d : PyData} (h : AnB n d) : 0 < n := by
  cases n with
  | zero => exact h.elim
  | succ n => exact Nat.succ_pos n
theorem AnB.mono : ∀ {n m : Nat} {d : PyData}, AnB n d → n ≤ m → AnB m d
  | 0, _, _, h, _ => h.elim
  | n + 1, 0, _, _, h => absurd h (by omega)
  | n + 1, m + 1, d, h, hm => by
    cases d with
    | list ds => exact ⟨h.1, fun x hx => (h.2 x hx).mono (by omega)⟩
    | tuple ds => exact ⟨h.1, fun x hx => (h.2 x hx).mono (by omega)⟩
    | dict xs => exact h.elim
    | _ => trivial
theorem sm0_an : ∀ {k : Nat} {d : PyData}, Sm0 k d → AnB (k + 1) d
  | k, .none, _ => trivial
  | k, .bool _, _ => trivial
  | k, .int _, _ => trivial
  | k, .str _, _ => trivial
  | k + 1, .list ds, h => ⟨by have := h.1; omega, fun x hx => sm0_an (h.2 x hx)⟩
  | k + 1, .tuple ds, h => ⟨by have := h.1; omega, fun x hx => sm0_an (h.2 x hx)⟩
  | 0, .list _, h => h.elim
  | 0, .tuple _, h => h.elim
  | 0, .dict _, h => h.elim
  | k + 1, .dict _, h => h.elim
theorem Sm0.mono : ∀ {k m : Nat} {d : PyData}, Sm0 k d → k ≤ m → Sm0 m d
  | k, m, .none, _, _ => by cases m <;> trivial
  | k, m, .bool _, _, _ => by cases m <;> trivial
  | k, m, .int _, h, _ => by cases k <;> cases m <;> exact h
  | k, m, .str _, h, _ => by cases k <;> cases m <;> exact h
  | k + 1, m + 1, .list ds, h, hm => ⟨h.1, fun x hx => (h.2 x hx).mono (by omega)⟩
  | k + 1, m + 1, .tuple ds, h, hm => ⟨h.1, fun x hx => (h.2 x hx).mono (by omega)⟩
  | k + 1, 0, _, _, hm => absurd hm (by omega)
  | 0, _, .list _, h, _ => h.elim
  | 0, _, .tuple _, h, _ => h.elim
  | 0, _, .dict _, h, _ => h.elim
  | k + 1, m + 1, .dict _, h, _ => h.elim
def smC : Nat → Nat
  | 0 => 202
  | k + 1 => (smC k + 2) * 32 + 3
theorem smC_pos : ∀ k, 202 ≤ smC k
  | 0 => Nat.le_refl _
  | k + 1 => by
    have := smC_pos k
    show 202 ≤ (smC k + 2) * 32 + 3
    omega
theorem costs_le {c : Nat} : ∀ {ds : List PyData}, (∀ x ∈ ds, cost x ≤ c) → costs ds ≤ (c + 2) * ds.length
  | [], _ => Nat.zero_le _
  | d :: ds, h => by
    have h1 := h d List.mem_cons_self
    have h2 := costs_le fun x hx => h x (List.mem_cons_of_mem _ hx)
    show cost d + 2 + costs ds ≤ (c + 2) * (ds.length + 1)
    rw [Nat.mul_succ]
    omega
theorem sm0_bd : ∀ {k : Nat} {d : PyData}, Sm0 k d → d.canLay0 = true ∧ Bd (smC k) k d
  | k, .none, _ => ⟨rfl, rfl, by have := smC_pos k; show 5 ≤ _; omega, Nat.zero_le _⟩
  | k, .bool _, _ => ⟨rfl, rfl, by have := smC_pos k; show 5 ≤ _; omega, Nat.zero_le _⟩
  | k, .int i, h => by
    have h' : i.natAbs < 2 ^ 190 := by cases k <;> exact h
    have h2 := log2_lt (by decide) h'
    have := smC_pos k
    exact ⟨rfl, decide_eq_true (by omega), by show i.natAbs.log2 + 4 ≤ _; omega, Nat.zero_le _⟩
  | k, .str x, h => by
    have h' : (PyData.str x).canLay0 = true ∧ showB (.str x) = true ∧ x.length ≤ 20 := by cases k <;> exact h
    have := smC_pos k
    exact ⟨h'.1, h'.2.1, by show 10 * x.length + 2 ≤ _; omega, Nat.zero_le _⟩
  | k + 1, .list ds, h => by
    have hz := fun x hx => sm0_bd (h.2 x hx)
    refine ⟨lay_all.mpr fun x hx => (hz x hx).1, shw_all.mpr fun x hx => (hz x hx).2.sh, ?_, Nat.succ_le_succ (dep_all.mpr fun x hx => (hz x hx).2.de)⟩
    have := costs_le fun x hx => (hz x hx).2.co
    have h3 := Nat.mul_le_mul_left (smC k + 2) h.1
    show costs ds + 3 ≤ (smC k + 2) * 32 + 3
    omega
  | k + 1, .tuple ds, h => by
    have hz := fun x hx => sm0_bd (h.2 x hx)
    refine ⟨lay_all.mpr fun x hx => (hz x hx).1, shw_all.mpr fun x hx => (hz x hx).2.sh, ?_, Nat.succ_le_succ (dep_all.mpr fun x hx => (hz x hx).2.de)⟩
    have := costs_le fun x hx => (hz x hx).2.co
    have h3 := Nat.mul_le_mul_left (smC k + 2) h.1
    show costs ds + 3 ≤ (smC k + 2) * 32 + 3
    omega
  | 0, .list _, h => h.elim
  | 0, .tuple _, h => h.elim
  | 0, .dict _, h => h.elim
  | k + 1, .dict _, h => h.elim
theorem sml_bd {k : Nat} {d : PyData} (h : Sml k d) : d.canLay0 = true ∧ Bd (smC k) k d := sm0_bd h.s
theorem sml_an {k : Nat} {d : PyData} (h : Sml k d) : AnB (k + 1) d := sm0_an h.s
theorem Sml.mono {k m : Nat} {d : PyData} (h : Sml k d) (hk : k ≤ m) : Sml m d := ⟨h.s.mono hk⟩
theorem Sml.gd {k : Nat} {d : PyData} (h : Sml k d) (hk : k ≤ 20) : Gd d := ⟨(sml_bd h).1, (sml_bd h).2.sh, Nat.le_trans (sml_bd h).2.de hk⟩
theorem smC3 : smC 3 ≤ 16000000 := by decide
theorem Sml.rok {d : PyData} (h : Sml 3 d) : ReprOk d := rok_bd (sml_bd h).2 smC3 (by decide)
theorem Sml.tup1 {k : Nat} {ds : List PyData} (h : Sml (k + 1) (.tuple ds)) : ds.length ≤ 32 ∧ ∀ x ∈ ds, Sml k x := by
  obtain ⟨h⟩ := h
  have h : ds.length ≤ 32 ∧ ∀ x ∈ ds, Sm0 k x := h
  exact ⟨h.1, fun x hx => ⟨h.2 x hx⟩⟩
theorem Sml.lst1 {k : Nat} {ds : List PyData} (h : Sml (k + 1) (.list ds)) : ds.length ≤ 32 ∧ ∀ x ∈ ds, Sml k x := by
  obtain ⟨h⟩ := h
  have h : ds.length ≤ 32 ∧ ∀ x ∈ ds, Sm0 k x := h
  exact ⟨h.1, fun x hx => ⟨h.2 x hx⟩⟩
theorem Sml.tup {k : Nat} {ds : List PyData} (h : Sml k (.tuple ds)) : ds.length ≤ 32 ∧ ∀ x ∈ ds, Sml k x := by
  cases k with
  | zero => exact h.s.elim
  | succ k => exact ⟨h.tup1.1, fun x hx => (h.tup1.2 x hx).mono (Nat.le_succ k)⟩
theorem Sml.lst {k : Nat} {ds : List PyData} (h : Sml k (.list ds)) : ds.length ≤ 32 ∧ ∀ x ∈ ds, Sml k x := by
  cases k with
  | zero => exact h.s.elim
  | succ k => exact ⟨h.lst1.1, fun x hx => (h.lst1.2 x hx).mono (Nat.le_succ k)⟩
theorem sml_int {k : Nat} {i : Int} (h : i.natAbs < 2 ^ 190) : Sml k (.int i) := ⟨by cases k <;> exact h⟩
theorem sml_none {k : Nat} : Sml k .none := ⟨by cases k <;> trivial⟩
theorem sml_bool {k : Nat} {b : Bool} : Sml k (.bool b) := ⟨by cases k <;> trivial⟩
theorem sml_str {k : Nat} {x : Str} (h1 : (PyData.str x).canLay0 = true) (h2 : showB (.str x) = true) (h3 : x.length ≤ 20) : Sml k (.str x) := ⟨by cases k <;> exact ⟨h1, h2, h3⟩⟩
theorem sml_tup {k : Nat} {ds : List PyData} (hl : ds.length ≤ 32) (h : ∀ x ∈ ds, Sml k x) : Sml (k + 1) (.tuple ds) := ⟨⟨hl, fun x hx => (h x hx).s⟩⟩
theorem sml_lst {k : Nat} {ds : List PyData} (hl : ds.length ≤ 32) (h : ∀ x ∈ ds, Sml k x) : Sml (k + 1) (.list ds) := ⟨⟨hl, fun x hx => (h x hx).s⟩⟩
theorem sml_ints {k : Nat} {is : List Int} (hl : is.length ≤ 32) (h : ∀ i ∈ is, i.natAbs < 2 ^ 190) : Sml (k + 1) (.tuple (is.map .int)) := sml_tup (by rw [List.length_map]; exact hl) fun x hx => by
  obtain ⟨i, hi, rfl⟩ := List.mem_map.mp hx
  exact sml_int (h i hi)
theorem sml_intsL {k : Nat} {is : List Int} (hl : is.length ≤ 32) (h : ∀ i ∈ is, i.natAbs < 2 ^ 190) : Sml (k + 1) (.list (is.map .int)) := sml_lst (by rw [List.length_map]; exact hl) fun x hx => by
  obtain ⟨i, hi, rfl⟩ := List.mem_map.mp hx
  exact sml_int (h i hi)
theorem sml_w {k : Nat} {x : Str} (h1 : (x.cps.toList.all fun c => decide (c < 0x110000)) = true) (h3 : x.length ≤ 20) : Sml k (.str x) := by
  refine sml_str (cp_lay.mpr fun c hc => of_decide_eq_true (List.all_eq_true.mp h1 c hc)) ?_ h3
  show (x.cps.toList.all fun c => decide (c < 16 ^ 8)) = true
  rw [List.all_eq_true] at h1 ⊢
  exact fun c hc => decide_eq_true (Nat.lt_trans (of_decide_eq_true (h1 c hc)) (by decide))
theorem kT_dat {a d C : Addr} {x : PyData} : keepT a d C (some (.dat x)) = some (.dat x) := rfl
theorem kT_none {a d C : Addr} : keepT a d C none = none := rfl
theorem gN_is {i : Nat} {t : T} {ρ : Rho} {Qx : Hz.WX} {Q : Rho → Prop} (h : Q (ρ.set i (some t))) : gN i t ρ Qx Q := h
/-- rows of small data: one after the other -/
inductive SmlL (k : Nat) : List PyData → Prop
  | nil : SmlL k []
  | cons {d : PyData} {ds : List PyData} : Sml k d → SmlL k ds → SmlL k (d :: ds)
theorem SmlL.all {k : Nat} : ∀ {ds : List PyData}, SmlL k ds → ∀ x ∈ ds, Sml k x
  | _, .nil, _, h => nomatch h
  | _, .cons h1 h2, x, h => (List.mem_cons.mp h).elim (fun e => e ▸ h1) (h2.all x)
end Hz
/-! Hz67: * of great ints; name //= int. -/
namespace Hz
open PySem L2
section
variable {K : PySem.W.Frag} {I : Sg} {E : XS} {ta tb te : TE} {wa wb we : WE}
theorem ev_mulW (ha : EvW K I E ta wa) (hb : EvW K I E tb wb) : EvW K I E (tOp (rI CMulW fun i j => .int (i * j)) ta tb) (wII CMulW iMul wa wb) := ev_II (fun _ _ _ => .int _) ha hb
def ipC (C : Int → Int → Prop) (f : Int → Int → Int) : TIp := fun x y H Q => ∃ i j, x = .int i ∧ y = .int j ∧ C i j ∧ Q (.int (f i j)) H
theorem ip_fdiv {X : Cx} : PIp X .FloorDiv (ipC CDiv fun i j => i / j) := fun pins s σ H x y v u Q I r1 r2 ⟨i, j, e1, e2, hc, q⟩ =>
  iop_fdiv pins s σ H x y v u Q I r1 r2 ⟨i, j, e1, e2, hc, q⟩
/-- name op= int, where the op asks something -/
def sAugC (i : Nat) (C : Int → Int → Prop) (f : Int → Int → Int) (we : WE) : WS := fun O Qx ρ => ∃ a, ρ[i]? = some (some (tI a)) ∧ we ρ Qx fun t ρ1 => ∃ b, t = tI b ∧ C a b ∧ O.nx (ρ1.set i (some (tI (f a b))))
theorem sv_augC {i : Nat} {C : Int → Int → Prop} {f : Int → Int → Int} (hi : i ∉ I.prot) (h : EvW K I E te we) : SvW K I E (tAug i te (ipC C f)) (sAugC i C f we) := fun c ρ tm σ vs F W H r hz O Qx D hx d ⟨a, e, q⟩ => by
  obtain ⟨u, g, e1, e2, _⟩ := r.slot e
  cases e2 with
  | dat e2 =>
    cases e2
    refine ⟨_, e1, h c ρ tm σ vs F W H r Qx _ hx q _ fun t ρ' v F' W' H' r' ⟨b, e3, hc, q'⟩ => ?_⟩
    subst e3
    have dv := r'.topDat
    cases dv
    exact ⟨a, b, rfl, rfl, hc, d.nx _ _ _ _ _ ((r'.drop.dat (.int (f a b))).set rfl hz hi) q'⟩
end
/-- the three ints of a well, behind at most n draws -/
structure Wb (n : Nat) (x y z : Int) : Prop where
  y0 : 0 ≤ y
  y1 : y < 10 ^ 28 + 331
  z0 : 0 ≤ z
  z1 : z ≤ n
theorem Wb.mono {n m : Nat} {x y z : Int} (h : Wb n x y z) (hm : n ≤ m) : Wb m x y z := ⟨h.y0, h.y1, h.z0, by have := h.z1; omega⟩
theorem mulW_of {i j : Int} (a b : Nat) (hi : i.natAbs < 2 ^ a) (hj : j.natAbs < 2 ^ b) (h0 : 0 < a) (h1 : 0 < b) (h : a + b ≤ 1000000) : CMulW i j := wide_mul hi hj h0 h1 h
theorem foldmax : ∀ (l : List Int) (x : Int), l.foldl max x ∈ x :: l ∧ x ≤ l.foldl max x ∧ ∀ y ∈ l, y ≤ l.foldl max x
  | [], x => ⟨List.mem_cons_self, Int.le_refl _, fun y h => nomatch h⟩
  | z :: l, x => by
    obtain ⟨h1, h2, h3⟩ := foldmax l (max x z)
    rw [List.foldl_cons]
    refine ⟨?_, Int.le_trans (Int.le_max_left x z) h2, fun y hy => ?_⟩
    · rcases List.mem_cons.mp h1 with h | h
      · rw [h]
        rcases Int.le_total x z with c | c
        · rw [Int.max_eq_right c]
          exact List.mem_cons_of_mem _ List.mem_cons_self
        · rw [Int.max_eq_left c]
          exact List.mem_cons_self
      · exact List.mem_cons_of_mem _ (List.mem_cons_of_mem _ h)
    · rcases List.mem_cons.mp hy with rfl | hy
      · exact Int.le_trans (Int.le_max_right x y) h2
      · exact h3 y hy
section
variable {α : Type} {l : List α} {t : T} {ρ : Rho} {Q : T → Rho → Prop}
theorem sMaxD_I {f : α → Int} (hp : t.peek ρ = some (.lst (l.map fun x => tI (f x)))) (hne : l ≠ []) (q : ∀ x ∈ l, (∀ y ∈ l, f y ≤ f x) → Q (tI (f x)) (t.drop ρ)) : sMinD PySem.W.maxD t ρ Q := by
  cases l with
  | nil => exact absurd rfl hne
  | cons x l =>
    have e : ∀ l : List α, (l.map fun x => tI (f x)) = (l.map f).map fun x => T.dat (.int x) := fun l => by rw [List.map_map]; rfl
    have ep : T.pys ((x :: l).map fun x => tI (f x)) = some (.int (f x) :: (l.map f).map .int) := by
      rw [e, show ((x :: l).map f).map (fun x => T.dat (.int x)) = (((x :: l).map f).map .int).map T.dat from by simp only [List.map_map]; rfl, pys_datsL]
      rfl
    obtain ⟨h2, h3, h4⟩ := foldmax (l.map f) (f x)
    have h2' : (l.map f).foldl max (f x) ∈ (x :: l).map f := h2
    obtain ⟨y, hy, ey⟩ := List.mem_map.mp h2'
    refine ⟨_, _, _, _, hp, rfl, rfl, ?_, ep, alikeAll_ints ((x :: l).map f), depthA_ints ((x :: l).map f), ?_⟩
    · rw [e]
      exact dats_all
    · rw [PySem.W.maxD_ints, ← ey]
      refine q y hy fun z hz => ?_
      rw [ey]
      rcases List.mem_cons.mp hz with rfl | hz
      · exact h3
      · exact h4 _ (List.mem_map.mpr ⟨z, hz, rfl⟩)
end
end Hz
namespace K43
open PySem L2 Hz
abbrev k_MERGES : PyData := .tuple [.str "at once", .str "late"]
abbrev k_ORDERS : PyData := .tuple [.str "address", .str "latest", .str "classes"]
abbrev k_FITS : PyData := .tuple [.str "first", .str "next", .str "best", .str "worst"]
def top (i : Nat) : Stmt := PySem.Challenge.pw_heapworks_k43_rules_and_regions.main.body.getD i (.Pass ⟨0, 0, 0, 0⟩)
abbrev s_is_integer : Stmt := top 6
abbrev s_is_between : Stmt := top 7
abbrev s_is_tuple : Stmt := top 8
abbrev s_is_word : Stmt := top 9
abbrev s_need_number : Stmt := top 10
abbrev s_anew : Stmt := top 11
abbrev s_is_rule : Stmt := top 21
abbrev s_need_rule : Stmt := top 22
abbrev s_need_size : Stmt := top 23
abbrev s_need_both : Stmt := top 24
abbrev s_cells_for : Stmt := top 25
abbrev s_class_of : Stmt := top 26
abbrev s_lists_for : Stmt := top 27
abbrev s_region_of : Stmt := top 28
abbrev s_needed : Stmt := top 29
abbrev s_list_count : Stmt := top 30
abbrev s_region : Stmt := top 31
abbrev s__law_well : Stmt := top 33
abbrev s__law_draw : Stmt := top 34
abbrev s__law_is_int : Stmt := top 35
abbrev s__law_rule : Stmt := top 36
abbrev s__law_size : Stmt := top 37
abbrev s__law_cells : Stmt := top 38
abbrev s__law_class : Stmt := top 39
abbrev s__law_many : Stmt := top 40
abbrev s__law_region : Stmt := top 41
abbrev s__law_is_rule : Stmt := top 42
abbrev s__law_bent : Stmt := top 43
abbrev s__law_call : Stmt := top 44
abbrev s__law_told : Stmt := top 45
abbrev s_law : Stmt := top 46
/-- where things stand -/
structure Ad where
  P : Program
  C_HeapError : Addr
  C_InvalidNumber : Addr
  C_InvalidRule : Addr
  C_InvalidSize : Addr
  f_HeapError : Addr
  f_is_integer : Addr
  d_is_integer : FuncData
  f_is_between : Addr
  d_is_between : FuncData
  f_is_tuple : Addr
  d_is_tuple : FuncData
  f_is_word : Addr
  d_is_word : FuncData
  f_need_number : Addr
  d_need_number : FuncData
  f_anew : Addr
  d_anew : FuncData
  f_is_rule : Addr
  d_is_rule : FuncData
  f_need_rule : Addr
  d_need_rule : FuncData
  f_need_size : Addr
  d_need_size : FuncData
  f_need_both : Addr
  d_need_both : FuncData
  f_cells_for : Addr
  d_cells_for : FuncData
  f_class_of : Addr
  d_class_of : FuncData
  f_lists_for : Addr
  d_lists_for : FuncData
  f_region_of : Addr
  d_region_of : FuncData
  f_needed : Addr
  d_needed : FuncData
  f_list_count : Addr
  d_list_count : FuncData
  f_region : Addr
  d_region : FuncData
  f__law_well : Addr
  d__law_well : FuncData
  f__law_draw : Addr
  d__law_draw : FuncData
  f__law_is_int : Addr
  d__law_is_int : FuncData
  f__law_rule : Addr
  d__law_rule : FuncData
  f__law_size : Addr
  d__law_size : FuncData
  f__law_cells : Addr
  d__law_cells : FuncData
  f__law_class : Addr
  d__law_class : FuncData
  f__law_many : Addr
  d__law_many : FuncData
  f__law_region : Addr
  d__law_region : FuncData
  f__law_is_rule : Addr
  d__law_is_rule : FuncData
  f__law_bent : Addr
  d__law_bent : FuncData
  f__law_call : Addr
  d__law_call : FuncData
  f__law_told : Addr
  d__law_told : FuncData
  f_law : Addr
  d_law : FuncData
  v_LEAST_SIZE : Value
  v_MOST_SIZE : Value
  v_LEAST : Value
  v_MOST_SPARE : Value
  v_MOST_STEP : Value
  v_FITS : Addr
  v_ORDERS : Addr
  v_MERGES : Addr
/-- what the walk asks of the top -/
structure Tx (K : PySem.W.Frag) (mg : Str → Option Value) (a : Ad) : Prop where
  g_HeapError : mg "HeapError" = some (.ref a.C_HeapError)
  g_InvalidNumber : mg "InvalidNumber" = some (.ref a.C_InvalidNumber)
  g_InvalidRule : mg "InvalidRule" = some (.ref a.C_InvalidRule)
  g_InvalidSize : mg "InvalidSize" = some (.ref a.C_InvalidSize)
  e_InvalidNumber : PySem.ErrX.ErrTxt a.P K a.C_InvalidNumber a.C_HeapError a.f_HeapError
  h_InvalidNumber : L2.ErrG K a.C_InvalidNumber
  e_InvalidRule : PySem.ErrX.ErrTxt a.P K a.C_InvalidRule a.C_HeapError a.f_HeapError
  h_InvalidRule : L2.ErrG K a.C_InvalidRule
  e_InvalidSize : PySem.ErrX.ErrTxt a.P K a.C_InvalidSize a.C_HeapError a.f_HeapError
  h_InvalidSize : L2.ErrG K a.C_InvalidSize
  q_None_InvalidSize : PySem.W.kitOne K (.type "NoneType") (.ref a.C_InvalidSize) = some false
  q_None_InvalidRule : PySem.W.kitOne K (.type "NoneType") (.ref a.C_InvalidRule) = some false
  q_None_InvalidNumber : PySem.W.kitOne K (.type "NoneType") (.ref a.C_InvalidNumber) = some false
  q_InvalidNumber_InvalidNumber : PySem.W.kitOne K (.ref a.C_InvalidNumber) (.ref a.C_InvalidNumber) = some true
  q_InvalidNumber_InvalidRule : PySem.W.kitOne K (.ref a.C_InvalidNumber) (.ref a.C_InvalidRule) = some false
  q_InvalidNumber_InvalidSize : PySem.W.kitOne K (.ref a.C_InvalidNumber) (.ref a.C_InvalidSize) = some false
  q_InvalidRule_InvalidNumber : PySem.W.kitOne K (.ref a.C_InvalidRule) (.ref a.C_InvalidNumber) = some false
  q_InvalidRule_InvalidRule : PySem.W.kitOne K (.ref a.C_InvalidRule) (.ref a.C_InvalidRule) = some true
  q_InvalidRule_InvalidSize : PySem.W.kitOne K (.ref a.C_InvalidRule) (.ref a.C_InvalidSize) = some false
  q_InvalidSize_InvalidNumber : PySem.W.kitOne K (.ref a.C_InvalidSize) (.ref a.C_InvalidNumber) = some false
  q_InvalidSize_InvalidRule : PySem.W.kitOne K (.ref a.C_InvalidSize) (.ref a.C_InvalidRule) = some false
  q_InvalidSize_InvalidSize : PySem.W.kitOne K (.ref a.C_InvalidSize) (.ref a.C_InvalidSize) = some true
  F_is_integer : Fun K "is_integer" "is_integer" s_is_integer a.f_is_integer a.d_is_integer
  g_is_integer : mg "is_integer" = some (.ref a.f_is_integer)
  F_is_between : Fun K "is_between" "is_between" s_is_between a.f_is_between a.d_is_between
  g_is_between : mg "is_between" = some (.ref a.f_is_between)
  F_is_tuple : Fun K "is_tuple" "is_tuple" s_is_tuple a.f_is_tuple a.d_is_tuple
  g_is_tuple : mg "is_tuple" = some (.ref a.f_is_tuple)
  F_is_word : Fun K "is_word" "is_word" s_is_word a.f_is_word a.d_is_word
  g_is_word : mg "is_word" = some (.ref a.f_is_word)
  F_need_number : Fun K "need_number" "need_number" s_need_number a.f_need_number a.d_need_number
  g_need_number : mg "need_number" = some (.ref a.f_need_number)
  F_anew : Fun K "anew" "anew" s_anew a.f_anew a.d_anew
  g_anew : mg "anew" = some (.ref a.f_anew)
  F_is_rule : Fun K "is_rule" "is_rule" s_is_rule a.f_is_rule a.d_is_rule
  g_is_rule : mg "is_rule" = some (.ref a.f_is_rule)
  F_need_rule : Fun K "need_rule" "need_rule" s_need_rule a.f_need_rule a.d_need_rule
  g_need_rule : mg "need_rule" = some (.ref a.f_need_rule)
  F_need_size : Fun K "need_size" "need_size" s_need_size a.f_need_size a.d_need_size
  g_need_size : mg "need_size" = some (.ref a.f_need_size)
  F_need_both : Fun K "need_both" "need_both" s_need_both a.f_need_both a.d_need_both
  g_need_both : mg "need_both" = some (.ref a.f_need_both)
  F_cells_for : Fun K "cells_for" "cells_for" s_cells_for a.f_cells_for a.d_cells_for
  g_cells_for : mg "cells_for" = some (.ref a.f_cells_for)
  F_class_of : Fun K "class_of" "class_of" s_class_of a.f_class_of a.d_class_of
  g_class_of : mg "class_of" = some (.ref a.f_class_of)
  F_lists_for : Fun K "lists_for" "lists_for" s_lists_for a.f_lists_for a.d_lists_for
  g_lists_for : mg "lists_for" = some (.ref a.f_lists_for)
  F_region_of : Fun K "region_of" "region_of" s_region_of a.f_region_of a.d_region_of
  g_region_of : mg "region_of" = some (.ref a.f_region_of)
  F_needed : Fun K "needed" "needed" s_needed a.f_needed a.d_needed
  g_needed : mg "needed" = some (.ref a.f_needed)
  F_list_count : Fun K "list_count" "list_count" s_list_count a.f_list_count a.d_list_count
  g_list_count : mg "list_count" = some (.ref a.f_list_count)
  F_region : Fun K "region" "region" s_region a.f_region a.d_region
  g_region : mg "region" = some (.ref a.f_region)
  F__law_well : Fun K "_law_well" "_law_well" s__law_well a.f__law_well a.d__law_well
  g__law_well : mg "_law_well" = some (.ref a.f__law_well)
  F__law_draw : Fun K "_law_draw" "_law_draw" s__law_draw a.f__law_draw a.d__law_draw
  g__law_draw : mg "_law_draw" = some (.ref a.f__law_draw)
  F__law_is_int : Fun K "_law_is_int" "_law_is_int" s__law_is_int a.f__law_is_int a.d__law_is_int
  g__law_is_int : mg "_law_is_int" = some (.ref a.f__law_is_int)
  F__law_rule : Fun K "_law_rule" "_law_rule" s__law_rule a.f__law_rule a.d__law_rule
  g__law_rule : mg "_law_rule" = some (.ref a.f__law_rule)
  F__law_size : Fun K "_law_size" "_law_size" s__law_size a.f__law_size a.d__law_size
  g__law_size : mg "_law_size" = some (.ref a.f__law_size)
  F__law_cells : Fun K "_law_cells" "_law_cells" s__law_cells a.f__law_cells a.d__law_cells
  g__law_cells : mg "_law_cells" = some (.ref a.f__law_cells)
  F__law_class : Fun K "_law_class" "_law_class" s__law_class a.f__law_class a.d__law_class
  g__law_class : mg "_law_class" = some (.ref a.f__law_class)
  F__law_many : Fun K "_law_many" "_law_many" s__law_many a.f__law_many a.d__law_many
  g__law_many : mg "_law_many" = some (.ref a.f__law_many)
  F__law_region : Fun K "_law_region" "_law_region" s__law_region a.f__law_region a.d__law_region
  g__law_region : mg "_law_region" = some (.ref a.f__law_region)
  F__law_is_rule : Fun K "_law_is_rule" "_law_is_rule" s__law_is_rule a.f__law_is_rule a.d__law_is_rule
  g__law_is_rule : mg "_law_is_rule" = some (.ref a.f__law_is_rule)
  F__law_bent : Fun K "_law_bent" "_law_bent" s__law_bent a.f__law_bent a.d__law_bent
  g__law_bent : mg "_law_bent" = some (.ref a.f__law_bent)
  F__law_call : Fun K "_law_call" "_law_call" s__law_call a.f__law_call a.d__law_call
  g__law_call : mg "_law_call" = some (.ref a.f__law_call)
  F__law_told : Fun K "_law_told" "_law_told" s__law_told a.f__law_told a.d__law_told
  g__law_told : mg "_law_told" = some (.ref a.f__law_told)
  F_law : Fun K "law" "law" s_law a.f_law a.d_law
  g_LEAST_SIZE : mg "LEAST_SIZE" = some a.v_LEAST_SIZE
  r_LEAST_SIZE : RelV (.int 32) a.v_LEAST_SIZE
  g_MOST_SIZE : mg "MOST_SIZE" = some a.v_MOST_SIZE
  r_MOST_SIZE : RelV (.int 4000) a.v_MOST_SIZE
  g_LEAST : mg "LEAST" = some a.v_LEAST
  r_LEAST : RelV (.int 4) a.v_LEAST
  g_MOST_SPARE : mg "MOST_SPARE" = some a.v_MOST_SPARE
  r_MOST_SPARE : RelV (.int 64) a.v_MOST_SPARE
  g_MOST_STEP : mg "MOST_STEP" = some a.v_MOST_STEP
  r_MOST_STEP : RelV (.int 8) a.v_MOST_STEP
  g_FITS : mg "FITS" = some (.ref a.v_FITS)
  k_FITS : ∀ F : Hp, Dp K F (.ref a.v_FITS) k_FITS
  g_ORDERS : mg "ORDERS" = some (.ref a.v_ORDERS)
  k_ORDERS : ∀ F : Hp, Dp K F (.ref a.v_ORDERS) k_ORDERS
  g_MERGES : mg "MERGES" = some (.ref a.v_MERGES)
  k_MERGES : ∀ F : Hp, Dp K F (.ref a.v_MERGES) k_MERGES
  z_abs : mg "abs" = none
  z_bool : mg "bool" = none
  z_enumerate : mg "enumerate" = none
  z_int : mg "int" = none
  z_isinstance : mg "isinstance" = none
  z_len : mg "len" = none
  z_list : mg "list" = none
  z_max : mg "max" = none
  z_min : mg "min" = none
  z_range : mg "range" = none
  z_repr : mg "repr" = none
  z_str : mg "str" = none
  z_super : mg "super" = none
  z_tuple : mg "tuple" = none
section
variable {K : PySem.W.Frag} {mg : Str → Option Value} {a : Ad}
theorem Tx.b__law_bent_2 (T : Tx K mg a) : BindG K a.d__law_bent ["well", "rule"] 2 [] (fun us _ => us) := bindG_mk T.F__law_bent vals_fst fun _ _ _ _ _ _ us ws h1 h2 => match us, ws, h1, h2 with | [_, _], [], _, _ => rfl
theorem Tx.b__law_call_4 (T : Tx K mg a) : BindG K a.d__law_call ["which", "size", "rule", "k"] 4 [] (fun us _ => us) := bindG_mk T.F__law_call vals_fst fun _ _ _ _ _ _ us ws h1 h2 => match us, ws, h1, h2 with | [_, _, _, _], [], _, _ => rfl
theorem Tx.b__law_cells_2 (T : Tx K mg a) : BindG K a.d__law_cells ["rule", "k"] 2 [] (fun us _ => us) := bindG_mk T.F__law_cells vals_fst fun _ _ _ _ _ _ us ws h1 h2 => match us, ws, h1, h2 with | [_, _], [], _, _ => rfl
theorem Tx.b__law_class_1 (T : Tx K mg a) : BindG K a.d__law_class ["n"] 1 [] (fun us _ => us) := bindG_mk T.F__law_class vals_fst fun _ _ _ _ _ _ us ws h1 h2 => match us, ws, h1, h2 with | [_], [], _, _ => rfl
theorem Tx.b__law_draw_2 (T : Tx K mg a) : BindG K a.d__law_draw ["well", "many"] 2 [] (fun us _ => us) := bindG_mk T.F__law_draw vals_fst fun _ _ _ _ _ _ us ws h1 h2 => match us, ws, h1, h2 with | [_, _], [], _, _ => rfl
theorem Tx.b__law_is_int_3 (T : Tx K mg a) : BindG K a.d__law_is_int ["value", "low", "high"] 3 [] (fun us _ => us) := bindG_mk T.F__law_is_int vals_fst fun _ _ _ _ _ _ us ws h1 h2 => match us, ws, h1, h2 with | [_, _, _], [], _, _ => rfl
theorem Tx.b__law_is_rule_1 (T : Tx K mg a) : BindG K a.d__law_is_rule ["value"] 1 [] (fun us _ => us) := bindG_mk T.F__law_is_rule vals_fst fun _ _ _ _ _ _ us ws h1 h2 => match us, ws, h1, h2 with | [_], [], _, _ => rfl
theorem Tx.b__law_many_2 (T : Tx K mg a) : BindG K a.d__law_many ["size", "rule"] 2 [] (fun us _ => us) := bindG_mk T.F__law_many vals_fst fun _ _ _ _ _ _ us ws h1 h2 => match us, ws, h1, h2 with | [_, _], [], _, _ => rfl
theorem Tx.b__law_region_2 (T : Tx K mg a) : BindG K a.d__law_region ["size", "rule"] 2 [] (fun us _ => us) := bindG_mk T.F__law_region vals_fst fun _ _ _ _ _ _ us ws h1 h2 => match us, ws, h1, h2 with | [_, _], [], _, _ => rfl
theorem Tx.b__law_rule_1 (T : Tx K mg a) : BindG K a.d__law_rule ["well"] 1 [] (fun us _ => us) := bindG_mk T.F__law_rule vals_fst fun _ _ _ _ _ _ us ws h1 h2 => match us, ws, h1, h2 with | [_], [], _, _ => rfl
theorem Tx.b__law_size_1 (T : Tx K mg a) : BindG K a.d__law_size ["well"] 1 [] (fun us _ => us) := bindG_mk T.F__law_size vals_fst fun _ _ _ _ _ _ us ws h1 h2 => match us, ws, h1, h2 with | [_], [], _, _ => rfl
theorem Tx.b__law_told_4 (T : Tx K mg a) : BindG K a.d__law_told ["which", "size", "rule", "k"] 4 [] (fun us _ => us) := bindG_mk T.F__law_told vals_fst fun _ _ _ _ _ _ us ws h1 h2 => match us, ws, h1, h2 with | [_, _, _, _], [], _, _ => rfl
theorem Tx.b__law_well_2 (T : Tx K mg a) : BindG K a.d__law_well ["script", "k"] 2 [] (fun us _ => us) := bindG_mk T.F__law_well vals_fst fun _ _ _ _ _ _ us ws h1 h2 => match us, ws, h1, h2 with | [_, _], [], _, _ => rfl
theorem Tx.b_anew_1 (T : Tx K mg a) : BindG K a.d_anew ["value"] 1 [] (fun us _ => us) := bindG_mk T.F_anew vals_fst fun _ _ _ _ _ _ us ws h1 h2 => match us, ws, h1, h2 with | [_], [], _, _ => rfl
theorem Tx.b_cells_for_2 (T : Tx K mg a) : BindG K a.d_cells_for ["rule", "k"] 2 [] (fun us _ => us) := bindG_mk T.F_cells_for vals_fst fun _ _ _ _ _ _ us ws h1 h2 => match us, ws, h1, h2 with | [_, _], [], _, _ => rfl
theorem Tx.b_class_of_1 (T : Tx K mg a) : BindG K a.d_class_of ["cells"] 1 [] (fun us _ => us) := bindG_mk T.F_class_of vals_fst fun _ _ _ _ _ _ us ws h1 h2 => match us, ws, h1, h2 with | [_], [], _, _ => rfl
theorem Tx.b_is_between_3 (T : Tx K mg a) : BindG K a.d_is_between ["value", "low", "high"] 3 [] (fun us _ => us) := bindG_mk T.F_is_between vals_fst fun _ _ _ _ _ _ us ws h1 h2 => match us, ws, h1, h2 with | [_, _, _], [], _, _ => rfl
theorem Tx.b_is_integer_1 (T : Tx K mg a) : BindG K a.d_is_integer ["value"] 1 [] (fun us _ => us) := bindG_mk T.F_is_integer vals_fst fun _ _ _ _ _ _ us ws h1 h2 => match us, ws, h1, h2 with | [_], [], _, _ => rfl
theorem Tx.b_is_rule_0_value (T : Tx K mg a) : BindG K a.d_is_rule ["value"] 0 ["value"] (fun us zs => us ++ zs) := bindG_mk T.F_is_rule vals_app fun _ _ _ _ _ _ us ws h1 h2 => match us, ws, h1, h2 with | [], [_], _, _ => rfl
theorem Tx.b_is_rule_1 (T : Tx K mg a) : BindG K a.d_is_rule ["value"] 1 [] (fun us _ => us) := bindG_mk T.F_is_rule vals_fst fun _ _ _ _ _ _ us ws h1 h2 => match us, ws, h1, h2 with | [_], [], _, _ => rfl
theorem Tx.b_is_tuple_3 (T : Tx K mg a) : BindG K a.d_is_tuple ["value", "low", "high"] 3 [] (fun us _ => us) := bindG_mk T.F_is_tuple vals_fst fun _ _ _ _ _ _ us ws h1 h2 => match us, ws, h1, h2 with | [_, _, _], [], _, _ => rfl
theorem Tx.b_is_word_2 (T : Tx K mg a) : BindG K a.d_is_word ["value", "words"] 2 [] (fun us _ => us) := bindG_mk T.F_is_word vals_fst fun _ _ _ _ _ _ us ws h1 h2 => match us, ws, h1, h2 with | [_, _], [], _, _ => rfl
theorem Tx.b_list_count_0_rule_size (T : Tx K mg a) : BindG K a.d_list_count ["size", "rule"] 0 ["rule", "size"] (fun us zs => us ++ arr [1, 0] zs) := bindG_mk T.F_list_count (vals_appArr [1, 0]) fun _ _ _ _ _ _ us ws h1 h2 => match us, ws, h1, h2 with | [], [_, _], _, _ => rfl
theorem Tx.b_list_count_2 (T : Tx K mg a) : BindG K a.d_list_count ["size", "rule"] 2 [] (fun us _ => us) := bindG_mk T.F_list_count vals_fst fun _ _ _ _ _ _ us ws h1 h2 => match us, ws, h1, h2 with | [_, _], [], _, _ => rfl
theorem Tx.b_lists_for_2 (T : Tx K mg a) : BindG K a.d_lists_for ["size", "rule"] 2 [] (fun us _ => us) := bindG_mk T.F_lists_for vals_fst fun _ _ _ _ _ _ us ws h1 h2 => match us, ws, h1, h2 with | [_, _], [], _, _ => rfl
theorem Tx.b_need_both_2 (T : Tx K mg a) : BindG K a.d_need_both ["size", "rule"] 2 [] (fun us _ => us) := bindG_mk T.F_need_both vals_fst fun _ _ _ _ _ _ us ws h1 h2 => match us, ws, h1, h2 with | [_, _], [], _, _ => rfl
theorem Tx.b_need_number_3 (T : Tx K mg a) : BindG K a.d_need_number ["number", "low", "high"] 3 [] (fun us _ => us) := bindG_mk T.F_need_number vals_fst fun _ _ _ _ _ _ us ws h1 h2 => match us, ws, h1, h2 with | [_, _, _], [], _, _ => rfl
theorem Tx.b_need_rule_1 (T : Tx K mg a) : BindG K a.d_need_rule ["rule"] 1 [] (fun us _ => us) := bindG_mk T.F_need_rule vals_fst fun _ _ _ _ _ _ us ws h1 h2 => match us, ws, h1, h2 with | [_], [], _, _ => rfl
theorem Tx.b_need_size_1 (T : Tx K mg a) : BindG K a.d_need_size ["size"] 1 [] (fun us _ => us) := bindG_mk T.F_need_size vals_fst fun _ _ _ _ _ _ us ws h1 h2 => match us, ws, h1, h2 with | [_], [], _, _ => rfl
theorem Tx.b_needed_0_k_rule (T : Tx K mg a) : BindG K a.d_needed ["rule", "k"] 0 ["k", "rule"] (fun us zs => us ++ arr [1, 0] zs) := bindG_mk T.F_needed (vals_appArr [1, 0]) fun _ _ _ _ _ _ us ws h1 h2 => match us, ws, h1, h2 with | [], [_, _], _, _ => rfl
theorem Tx.b_needed_2 (T : Tx K mg a) : BindG K a.d_needed ["rule", "k"] 2 [] (fun us _ => us) := bindG_mk T.F_needed vals_fst fun _ _ _ _ _ _ us ws h1 h2 => match us, ws, h1, h2 with | [_, _], [], _, _ => rfl
theorem Tx.b_region_0_rule_size (T : Tx K mg a) : BindG K a.d_region ["size", "rule"] 0 ["rule", "size"] (fun us zs => us ++ arr [1, 0] zs) := bindG_mk T.F_region (vals_appArr [1, 0]) fun _ _ _ _ _ _ us ws h1 h2 => match us, ws, h1, h2 with | [], [_, _], _, _ => rfl
theorem Tx.b_region_2 (T : Tx K mg a) : BindG K a.d_region ["size", "rule"] 2 [] (fun us _ => us) := bindG_mk T.F_region vals_fst fun _ _ _ _ _ _ us ws h1 h2 => match us, ws, h1, h2 with | [_, _], [], _, _ => rfl
theorem Tx.b_region_of_2 (T : Tx K mg a) : BindG K a.d_region_of ["size", "rule"] 2 [] (fun us _ => us) := bindG_mk T.F_region_of vals_fst fun _ _ _ _ _ _ us ws h1 h2 => match us, ws, h1, h2 with | [_, _], [], _, _ => rfl
end
theorem sc_is_integer : FnScope ["value"] ["value"] (defScope s_is_integer) := ⟨rfl, rfl, rfl, by decide +kernel, rfl, by decide +kernel, by decide +kernel⟩

theorem sc_is_between : FnScope ["value", "low", "high"] ["value", "low", "high"] (defScope s_is_between) := ⟨rfl, rfl, rfl, by decide +kernel, rfl, by decide +kernel, by decide +kernel⟩

theorem sc_is_tuple : FnScope ["value", "low", "high"] ["value", "low", "high"] (defScope s_is_tuple) := ⟨rfl, rfl, rfl, by decide +kernel, rfl, by decide +kernel, by decide +kernel⟩

theorem sc_is_word : FnScope ["value", "words"] ["value", "words"] (defScope s_is_word) := ⟨rfl, rfl, rfl, by decide +kernel, rfl, by decide +kernel, by decide +kernel⟩

theorem sc_need_number : FnScope ["number", "low", "high"] ["number", "low", "high"] (defScope s_need_number) := ⟨rfl, rfl, rfl, by decide +kernel, rfl, by decide +kernel, by decide +kernel⟩

theorem sc_anew : FnScope ["value", "part"] ["value"] (defScope s_anew) := ⟨rfl, rfl, rfl, by decide +kernel, rfl, by decide +kernel, by decide +kernel⟩

theorem sc_is_rule : FnScope ["value", "fit", "order", "merge", "spare", "step"] ["value"] (defScope s_is_rule) := ⟨rfl, rfl, rfl, by decide +kernel, rfl, by decide +kernel, by decide +kernel⟩

theorem sc_need_rule : FnScope ["rule"] ["rule"] (defScope s_need_rule) := ⟨rfl, rfl, rfl, by decide +kernel, rfl, by decide +kernel, by decide +kernel⟩

theorem sc_need_size : FnScope ["size"] ["size"] (defScope s_need_size) := ⟨rfl, rfl, rfl, by decide +kernel, rfl, by decide +kernel, by decide +kernel⟩

theorem sc_need_both : FnScope ["size", "rule"] ["size", "rule"] (defScope s_need_both) := ⟨rfl, rfl, rfl, by decide +kernel, rfl, by decide +kernel, by decide +kernel⟩

theorem sc_cells_for : FnScope ["rule", "k", "step"] ["rule", "k"] (defScope s_cells_for) := ⟨rfl, rfl, rfl, by decide +kernel, rfl, by decide +kernel, by decide +kernel⟩

theorem sc_class_of : FnScope ["cells", "found"] ["cells"] (defScope s_class_of) := ⟨rfl, rfl, rfl, by decide +kernel, rfl, by decide +kernel, by decide +kernel⟩

theorem sc_lists_for : FnScope ["size", "rule"] ["size", "rule"] (defScope s_lists_for) := ⟨rfl, rfl, rfl, by decide +kernel, rfl, by decide +kernel, by decide +kernel⟩

theorem sc_region_of : FnScope ["size", "rule", "begin"] ["size", "rule"] (defScope s_region_of) := ⟨rfl, rfl, rfl, by decide +kernel, rfl, by decide +kernel, by decide +kernel⟩

theorem sc_needed : FnScope ["rule", "k"] ["rule", "k"] (defScope s_needed) := ⟨rfl, rfl, rfl, by decide +kernel, rfl, by decide +kernel, by decide +kernel⟩

theorem sc_list_count : FnScope ["size", "rule"] ["size", "rule"] (defScope s_list_count) := ⟨rfl, rfl, rfl, by decide +kernel, rfl, by decide +kernel, by decide +kernel⟩

theorem sc_region : FnScope ["size", "rule"] ["size", "rule"] (defScope s_region) := ⟨rfl, rfl, rfl, by decide +kernel, rfl, by decide +kernel, by decide +kernel⟩

theorem sc__law_well : FnScope ["script", "k", "cell", "whole", "part", "mixed"] ["script", "k"] (defScope s__law_well) := ⟨rfl, rfl, rfl, by decide +kernel, rfl, by decide +kernel, by decide +kernel⟩

theorem sc__law_draw : FnScope ["well", "many", "found", "step", "mixed"] ["well", "many"] (defScope s__law_draw) := ⟨rfl, rfl, rfl, by decide +kernel, rfl, by decide +kernel, by decide +kernel⟩

theorem sc__law_is_int : FnScope ["value", "low", "high"] ["value", "low", "high"] (defScope s__law_is_int) := ⟨rfl, rfl, rfl, by decide +kernel, rfl, by decide +kernel, by decide +kernel⟩

theorem sc__law_rule : FnScope ["well", "step", "spare", "order", "fit"] ["well"] (defScope s__law_rule) := ⟨rfl, rfl, rfl, by decide +kernel, rfl, by decide +kernel, by decide +kernel⟩

theorem sc__law_size : FnScope ["well"] ["well"] (defScope s__law_size) := ⟨rfl, rfl, rfl, by decide +kernel, rfl, by decide +kernel, by decide +kernel⟩

theorem sc__law_cells : FnScope ["rule", "k", "n"] ["rule", "k"] (defScope s__law_cells) := ⟨rfl, rfl, rfl, by decide +kernel, rfl, by decide +kernel, by decide +kernel⟩

theorem sc__law_class : FnScope ["n", "found", "turn"] ["n"] (defScope s__law_class) := ⟨rfl, rfl, rfl, by decide +kernel, rfl, by decide +kernel, by decide +kernel⟩

theorem sc__law_many : FnScope ["size", "rule"] ["size", "rule"] (defScope s__law_many) := ⟨rfl, rfl, rfl, by decide +kernel, rfl, by decide +kernel, by decide +kernel⟩

theorem sc__law_region : FnScope ["size", "rule", "begin", "n"] ["size", "rule"] (defScope s__law_region) := ⟨rfl, rfl, rfl, by decide +kernel, rfl, by decide +kernel, by decide +kernel⟩

theorem sc__law_is_rule : FnScope ["value", "word", "fit", "order", "merge", "spare", "step"] ["value"] (defScope s__law_is_rule) := ⟨rfl, rfl, rfl, by decide +kernel, rfl, by decide +kernel, by decide +kernel⟩

theorem sc__law_bent : FnScope ["well", "rule", "at", "items", "some"] ["well", "rule"] (defScope s__law_bent) := ⟨rfl, rfl, rfl, by decide +kernel, rfl, by decide +kernel, by decide +kernel⟩

theorem sc__law_call : FnScope ["which", "size", "rule", "k"] ["which", "size", "rule", "k"] (defScope s__law_call) := ⟨rfl, rfl, rfl, by decide +kernel, rfl, by decide +kernel, by decide +kernel⟩

theorem sc__law_told : FnScope ["which", "size", "rule", "k", "caught", "e", "kinds", "at", "is_own"] ["which", "size", "rule", "k"] (defScope s__law_told) := ⟨rfl, rfl, rfl, by decide +kernel, rfl, by decide +kernel, by decide +kernel⟩

theorem sc_law : FnScope ["script", "k", "well", "turn", "rule", "size", "many", "ends", "cells", "due", "far", "bend", "bent", "text", "odd", "number"] ["script"] (defScope s_law) := ⟨rfl, rfl, rfl, by decide +kernel, rfl, by decide +kernel, by decide +kernel⟩



local macro_rules | `(tactic| walk_at "om") => `(tactic| first | omega | (simp only [List.length_map, List.length_append, List.length_cons, List.length_nil, List.length_eraseIdx, Hz.dI_len]; omega))
local macro_rules | `(tactic| walk_at "bv") => `(tactic| first | (simp only [Bool.false_eq_true, if_false, if_true, Hz.isN_n, Hz.isN_i, Hz.isN_b, Hz.isN_s, Hz.isN_t, Hz.isN_l, Hz.isN_lst, Hz.isN_tup, Hz.isN_dic, Hz.isN_ins, List.map_cons, List.map_nil, Hz.eqv_list, Hz.eqv_tuple, Hz.eqvA_nn, Hz.eqvA_cn, Hz.eqvA_xn, Hz.eqvA_nx, List.map_eq_nil_iff, Hz.eqvA_nc, Hz.eqvA_cc, Hz.eqv_ni, Hz.eqv_in, Hz.eqv_int, Hz.eqv_pair, Hz.eqv_bool, Bool.and_eq_true, Bool.or_eq_true, Bool.not_eq_true', Bool.not_eq_false', Bool.and_eq_false_iff, Bool.or_eq_false_iff, decide_eq_true_eq, decide_eq_false_iff_not, Bool.not_true, Bool.not_false, Bool.true_and, Bool.and_true, Bool.false_and, Bool.and_false, Bool.true_or, Bool.or_true, Bool.false_or, Bool.or_false, Int.not_lt, Int.not_le] <;> omega) | omega)
local macro_rules | `(tactic| walk_at "split") => `(tactic| (refine Hz.ifS (fun c => ?_) (fun c => ?_) <;> (try simp only [Bool.false_eq_true, if_false, if_true, Hz.isN_n, Hz.isN_i, Hz.isN_b, Hz.isN_s, Hz.isN_t, Hz.isN_l, Hz.isN_lst, Hz.isN_tup, Hz.isN_dic, Hz.isN_ins, List.map_cons, List.map_nil, Hz.eqv_list, Hz.eqv_tuple, Hz.eqvA_nn, Hz.eqvA_cn, Hz.eqvA_xn, Hz.eqvA_nx, List.map_eq_nil_iff, Hz.eqvA_nc, Hz.eqvA_cc, Hz.eqv_ni, Hz.eqv_in, Hz.eqv_int, Hz.eqv_pair, Hz.eqv_bool, Bool.and_eq_true, Bool.or_eq_true, Bool.not_eq_true', Bool.not_eq_false', Bool.and_eq_false_iff, Bool.or_eq_false_iff, decide_eq_true_eq, decide_eq_false_iff_not, Bool.not_true, Bool.not_false, Bool.true_and, Bool.and_true, Bool.false_and, Bool.and_false, Bool.true_or, Bool.or_true, Bool.false_or, Bool.or_false, Int.not_lt, Int.not_le] at c)))
local macro_rules | `(tactic| walk_at "st") => `(tactic| simp only [give_dat, give_cst, give_well, pys_nil, pys_consE, py_dat, py_lstE, py_tupE, pys_mapI, pys_mapD, dropsT_nil, dropsT_cons, startT, drop_bor, drop_lz, drop_dat, drop_cst, drop_well, drop_lst, drop_tup, drop_dic, drop_ins, opn_bor, opn_lz, opn_dat, opn_cst, opn_well, opn_lst, opn_tup, opn_dic, opn_ins, cls_bor, cls_lz, cls_dat, cls_cst, cls_well, cls_lst, cls_tup, cls_dic, cls_ins, clsAll_nil, clsAll_some, clsAll_none, Hz.putAt, putc_lst, putc_tup, putc_ins, child_lst, child_tup, child_ins, get_nil, get_cons, put_nil, put_cons, putFT, mask, List.getElem?_cons_zero, List.getElem?_cons_succ, List.set_cons_zero, List.set_cons_succ, Option.join_some, Option.map_some, Option.map_none, Option.bind_some, Option.bind_none, ite_true, ite_false, if_true, if_false, eq_self, Int.reduceToNat, Int.toNat_zero, Int.toNat_one, Int.reduceToNat, List.replicate_zero, List.replicate_succ, List.length_cons, List.length_nil, List.map_cons, List.map_nil, List.cons_append, List.nil_append, Nat.reduceSub, Nat.reduceAdd, Nat.zero_add, Hz.pys_dats, List.eraseIdx_cons_zero, List.map_id', List.contains_nil, List.contains_cons, Nat.reduceBEq, Bool.or_false, Bool.false_or, Bool.true_or, Bool.or_true, Bool.false_eq_true, Hz.arr_nil, Hz.arr_cons, Option.toList_some, Hz.setsR_nil, Hz.setsR_cons, Hz.dI_pairs, Hz.sort_pairs, Hz.sort_ints])
local macro_rules | `(tactic| walk_at "hn") => `(tactic| first | rfl | (simp only [List.length_map, List.length_range]; done) | (simp only [List.length_map, List.length_zip]; done) | (simp; done))
local macro_rules | `(tactic| walk_at "hit") => `(tactic| first | exact Hz.getD_map (by assumption) | exact Hz.getD_map2 (by assumption) | exact Hz.zip_at2 (by assumption) | exact Hz.zip_atL (by assumption) | (exact Hz.rng_at (fun i => _) (by assumption)))
local macro_rules | `(tactic| walk_at "hs") => `(tactic| repeat (first | (with_reducible refine Hz.ifY ?hb ?_; case hb => walk_at "bv") | (with_reducible refine Hz.ifN ?hb ?_; case hb => walk_at "bv") | ((fail_if_success (with_reducible refine Hz.ifS ?_ ?_)); first | (refine And.intro ?hl ?_; (case hl => first | exact (Hz.ixN_of (by omega) (by walk_at "om")) | exact Hz.kit_tc | exact Hz.dk_dic | exact Hz.dk_dcl | exact rfl | exact (by assumption) | exact (Nat.le_of_ble_eq_true rfl) | exact (by decide) | exact ⟨_, rfl⟩ | exact ⟨_, _, rfl, rfl⟩ | exact ⟨_, _, rfl, rfl, rfl⟩ | exact (Hz.copy_map _ _) | exact (Hz.all_cut (Hz.copy_map _ _)) | exact (Hz.pys_map _ _) | exact (Hz.real_map _ _) | exact Hz.insNo | exact Hz.shaped_pi | exact (.own _) | exact (.ty _) | exact Hz.kit_self | exact Hz.notFirst_self | exact (show CMul _ _ from .inl ⟨by decide, by decide⟩) | exact (show CMul _ _ from .inr ⟨by decide, by decide⟩) | exact (show CMod _ _ from (by decide : (0 : Int) < _)) | exact (show CDiv _ _ from ⟨by decide, by decide⟩) | exact (show CPow _ _ from ⟨by decide, by decide, by decide⟩) | exact (Hz.rgc_pos (by omega) (by omega) (by omega) (by omega) (by omega) (by omega)) | exact Hz.rok_none | exact Hz.rok_bool | exact (Hz.rok_int (by omega)) | exact (Hz.allAlike_pairs _) | exact (Hz.sortable_pairs _) | exact (Hz.depth_pairs _) | exact (Hz.allAlike_ints _) | exact (Hz.sortable_ints _) | exact (Hz.depth_ints _) | exact (Hz.alikeAll_ints _) | exact (Hz.alikeAll_dT _) | exact (Hz.allAlike_dNR _) | exact (Hz.sortable_dNR _) | exact (Hz.depth_dNRs _) | exact (Hz.depthA_ints _) | exact (Hz.depthA_dT _) | exact Hz.srcT_dat | exact Hz.srcL_dat | exact Hz.srcL_map | exact Hz.srcL_lst | exact Hz.dats_all | exact (Hz.dats_cons Hz.dats_all) | exact (Hz.dats_app Hz.dats_all rfl) | exact (Hz.dats_app Hz.dats_all Hz.dats_all) | exact (by walk_at "om") | exact (show CMod _ _ from (by omega : (0 : Int) < _)) | exact (show CDiv _ _ from ⟨by omega, by omega⟩) | exact (show CPow _ _ from ⟨by omega, by omega, by omega⟩) | exact (show CShr _ _ from (by omega : (0 : Int) ≤ _)) | exact (show CMul _ _ from .inr ⟨by omega, by omega⟩) | exact (show CMul _ _ from .inl ⟨by omega, by omega⟩))) | apply Exists.intro | refine Or.inl (Exists.intro _ (And.intro rfl ?_)) | refine Or.inr (Exists.intro _ (And.intro rfl ?_)) | refine (fun (_ : V) => ?_) | refine (fun (_ : True) => ?_) | refine (fun (_ : List.length _ = _) => ?_) | simp only [give_dat, give_cst, give_well, pys_nil, pys_consE, py_dat, py_lstE, py_tupE, pys_mapI, pys_mapD, dropsT_nil, dropsT_cons, startT, drop_bor, drop_lz, drop_dat, drop_cst, drop_well, drop_lst, drop_tup, drop_dic, drop_ins, opn_bor, opn_lz, opn_dat, opn_cst, opn_well, opn_lst, opn_tup, opn_dic, opn_ins, cls_bor, cls_lz, cls_dat, cls_cst, cls_well, cls_lst, cls_tup, cls_dic, cls_ins, clsAll_nil, clsAll_some, clsAll_none, Hz.putAt, putc_lst, putc_tup, putc_ins, child_lst, child_tup, child_ins, get_nil, get_cons, put_nil, put_cons, putFT, mask, List.getElem?_cons_zero, List.getElem?_cons_succ, List.set_cons_zero, List.set_cons_succ, Option.join_some, Option.map_some, Option.map_none, Option.bind_some, Option.bind_none, ite_true, ite_false, if_true, if_false, eq_self, Int.reduceToNat, Int.toNat_zero, Int.toNat_one, Int.reduceToNat, List.replicate_zero, List.replicate_succ, List.length_cons, List.length_nil, List.map_cons, List.map_nil, List.cons_append, List.nil_append, Nat.reduceSub, Nat.reduceAdd, Nat.zero_add, Hz.pys_dats, List.eraseIdx_cons_zero, List.map_id', List.contains_nil, List.contains_cons, Nat.reduceBEq, Bool.or_false, Bool.false_or, Bool.true_or, Bool.or_true, Bool.false_eq_true, Hz.arr_nil, Hz.arr_cons, Option.toList_some, Hz.setsR_nil, Hz.setsR_cons, Hz.dI_pairs, Hz.sort_pairs, Hz.sort_ints] | exact rfl)))
local macro_rules | `(tactic| walk_at "h1") => `(tactic| (first | (with_reducible refine Hz.ifY ?hb ?_; case hb => walk_at "bv") | (with_reducible refine Hz.ifN ?hb ?_; case hb => walk_at "bv") | ((fail_if_success (with_reducible refine Hz.ifS ?_ ?_)); first | (refine And.intro ?hl ?_; (case hl => first | exact (Hz.ixN_of (by omega) (by walk_at "om")) | exact Hz.kit_tc | exact Hz.dk_dic | exact Hz.dk_dcl | exact rfl | exact (by assumption) | exact (Nat.le_of_ble_eq_true rfl) | exact (by decide) | exact ⟨_, rfl⟩ | exact ⟨_, _, rfl, rfl⟩ | exact ⟨_, _, rfl, rfl, rfl⟩ | exact (Hz.copy_map _ _) | exact (Hz.all_cut (Hz.copy_map _ _)) | exact (Hz.pys_map _ _) | exact (Hz.real_map _ _) | exact Hz.insNo | exact Hz.shaped_pi | exact (.own _) | exact (.ty _) | exact Hz.kit_self | exact Hz.notFirst_self | exact (show CMul _ _ from .inl ⟨by decide, by decide⟩) | exact (show CMul _ _ from .inr ⟨by decide, by decide⟩) | exact (show CMod _ _ from (by decide : (0 : Int) < _)) | exact (show CDiv _ _ from ⟨by decide, by decide⟩) | exact (show CPow _ _ from ⟨by decide, by decide, by decide⟩) | exact (Hz.rgc_pos (by omega) (by omega) (by omega) (by omega) (by omega) (by omega)) | exact Hz.rok_none | exact Hz.rok_bool | exact (Hz.rok_int (by omega)) | exact (Hz.allAlike_pairs _) | exact (Hz.sortable_pairs _) | exact (Hz.depth_pairs _) | exact (Hz.allAlike_ints _) | exact (Hz.sortable_ints _) | exact (Hz.depth_ints _) | exact (Hz.alikeAll_ints _) | exact (Hz.alikeAll_dT _) | exact (Hz.allAlike_dNR _) | exact (Hz.sortable_dNR _) | exact (Hz.depth_dNRs _) | exact (Hz.depthA_ints _) | exact (Hz.depthA_dT _) | exact Hz.srcT_dat | exact Hz.srcL_dat | exact Hz.srcL_map | exact Hz.srcL_lst | exact Hz.dats_all | exact (Hz.dats_cons Hz.dats_all) | exact (Hz.dats_app Hz.dats_all rfl) | exact (Hz.dats_app Hz.dats_all Hz.dats_all) | exact (by walk_at "om") | exact (show CMod _ _ from (by omega : (0 : Int) < _)) | exact (show CDiv _ _ from ⟨by omega, by omega⟩) | exact (show CPow _ _ from ⟨by omega, by omega, by omega⟩) | exact (show CShr _ _ from (by omega : (0 : Int) ≤ _)) | exact (show CMul _ _ from .inr ⟨by omega, by omega⟩) | exact (show CMul _ _ from .inl ⟨by omega, by omega⟩))) | apply Exists.intro | refine Or.inl (Exists.intro _ (And.intro rfl ?_)) | refine Or.inr (Exists.intro _ (And.intro rfl ?_)) | refine (fun (_ : V) => ?_) | refine (fun (_ : True) => ?_) | refine (fun (_ : List.length _ = _) => ?_) | simp only [give_dat, give_cst, give_well, pys_nil, pys_consE, py_dat, py_lstE, py_tupE, pys_mapI, pys_mapD, dropsT_nil, dropsT_cons, startT, drop_bor, drop_lz, drop_dat, drop_cst, drop_well, drop_lst, drop_tup, drop_dic, drop_ins, opn_bor, opn_lz, opn_dat, opn_cst, opn_well, opn_lst, opn_tup, opn_dic, opn_ins, cls_bor, cls_lz, cls_dat, cls_cst, cls_well, cls_lst, cls_tup, cls_dic, cls_ins, clsAll_nil, clsAll_some, clsAll_none, Hz.putAt, putc_lst, putc_tup, putc_ins, child_lst, child_tup, child_ins, get_nil, get_cons, put_nil, put_cons, putFT, mask, List.getElem?_cons_zero, List.getElem?_cons_succ, List.set_cons_zero, List.set_cons_succ, Option.join_some, Option.map_some, Option.map_none, Option.bind_some, Option.bind_none, ite_true, ite_false, if_true, if_false, eq_self, Int.reduceToNat, Int.toNat_zero, Int.toNat_one, Int.reduceToNat, List.replicate_zero, List.replicate_succ, List.length_cons, List.length_nil, List.map_cons, List.map_nil, List.cons_append, List.nil_append, Nat.reduceSub, Nat.reduceAdd, Nat.zero_add, Hz.pys_dats, List.eraseIdx_cons_zero, List.map_id', List.contains_nil, List.contains_cons, Nat.reduceBEq, Bool.or_false, Bool.false_or, Bool.true_or, Bool.or_true, Bool.false_eq_true, Hz.arr_nil, Hz.arr_cons, Option.toList_some, Hz.setsR_nil, Hz.setsR_cons, Hz.dI_pairs, Hz.sort_pairs, Hz.sort_ints] | exact rfl)))
local macro_rules | `(tactic| walk_at "ha") => `(tactic| repeat' (first | (with_reducible refine Hz.ifY ?hb ?_; case hb => walk_at "bv") | (with_reducible refine Hz.ifN ?hb ?_; case hb => walk_at "bv") | ((fail_if_success (with_reducible refine Hz.ifS ?_ ?_)); first | (refine And.intro ?hl ?_; (case hl => first | exact (Hz.ixN_of (by omega) (by walk_at "om")) | exact Hz.kit_tc | exact Hz.dk_dic | exact Hz.dk_dcl | exact rfl | exact (by assumption) | exact (Nat.le_of_ble_eq_true rfl) | exact (by decide) | exact ⟨_, rfl⟩ | exact ⟨_, _, rfl, rfl⟩ | exact ⟨_, _, rfl, rfl, rfl⟩ | exact (Hz.copy_map _ _) | exact (Hz.all_cut (Hz.copy_map _ _)) | exact (Hz.pys_map _ _) | exact (Hz.real_map _ _) | exact Hz.insNo | exact Hz.shaped_pi | exact (.own _) | exact (.ty _) | exact Hz.kit_self | exact Hz.notFirst_self | exact (show CMul _ _ from .inl ⟨by decide, by decide⟩) | exact (show CMul _ _ from .inr ⟨by decide, by decide⟩) | exact (show CMod _ _ from (by decide : (0 : Int) < _)) | exact (show CDiv _ _ from ⟨by decide, by decide⟩) | exact (show CPow _ _ from ⟨by decide, by decide, by decide⟩) | exact (Hz.rgc_pos (by omega) (by omega) (by omega) (by omega) (by omega) (by omega)) | exact Hz.rok_none | exact Hz.rok_bool | exact (Hz.rok_int (by omega)) | exact (Hz.allAlike_pairs _) | exact (Hz.sortable_pairs _) | exact (Hz.depth_pairs _) | exact (Hz.allAlike_ints _) | exact (Hz.sortable_ints _) | exact (Hz.depth_ints _) | exact (Hz.alikeAll_ints _) | exact (Hz.alikeAll_dT _) | exact (Hz.allAlike_dNR _) | exact (Hz.sortable_dNR _) | exact (Hz.depth_dNRs _) | exact (Hz.depthA_ints _) | exact (Hz.depthA_dT _) | exact Hz.srcT_dat | exact Hz.srcL_dat | exact Hz.srcL_map | exact Hz.srcL_lst | exact Hz.dats_all | exact (Hz.dats_cons Hz.dats_all) | exact (Hz.dats_app Hz.dats_all rfl) | exact (Hz.dats_app Hz.dats_all Hz.dats_all) | exact (by walk_at "om") | exact (show CMod _ _ from (by omega : (0 : Int) < _)) | exact (show CDiv _ _ from ⟨by omega, by omega⟩) | exact (show CPow _ _ from ⟨by omega, by omega, by omega⟩) | exact (show CShr _ _ from (by omega : (0 : Int) ≤ _)) | exact (show CMul _ _ from .inr ⟨by omega, by omega⟩) | exact (show CMul _ _ from .inl ⟨by omega, by omega⟩))) | apply Exists.intro | refine Or.inl (Exists.intro _ (And.intro rfl ?_)) | refine Or.inr (Exists.intro _ (And.intro rfl ?_)) | refine (fun (_ : V) => ?_) | refine (fun (_ : True) => ?_) | refine (fun (_ : List.length _ = _) => ?_) | simp only [give_dat, give_cst, give_well, pys_nil, pys_consE, py_dat, py_lstE, py_tupE, pys_mapI, pys_mapD, dropsT_nil, dropsT_cons, startT, drop_bor, drop_lz, drop_dat, drop_cst, drop_well, drop_lst, drop_tup, drop_dic, drop_ins, opn_bor, opn_lz, opn_dat, opn_cst, opn_well, opn_lst, opn_tup, opn_dic, opn_ins, cls_bor, cls_lz, cls_dat, cls_cst, cls_well, cls_lst, cls_tup, cls_dic, cls_ins, clsAll_nil, clsAll_some, clsAll_none, Hz.putAt, putc_lst, putc_tup, putc_ins, child_lst, child_tup, child_ins, get_nil, get_cons, put_nil, put_cons, putFT, mask, List.getElem?_cons_zero, List.getElem?_cons_succ, List.set_cons_zero, List.set_cons_succ, Option.join_some, Option.map_some, Option.map_none, Option.bind_some, Option.bind_none, ite_true, ite_false, if_true, if_false, eq_self, Int.reduceToNat, Int.toNat_zero, Int.toNat_one, Int.reduceToNat, List.replicate_zero, List.replicate_succ, List.length_cons, List.length_nil, List.map_cons, List.map_nil, List.cons_append, List.nil_append, Nat.reduceSub, Nat.reduceAdd, Nat.zero_add, Hz.pys_dats, List.eraseIdx_cons_zero, List.map_id', List.contains_nil, List.contains_cons, Nat.reduceBEq, Bool.or_false, Bool.false_or, Bool.true_or, Bool.or_true, Bool.false_eq_true, Hz.arr_nil, Hz.arr_cons, Option.toList_some, Hz.setsR_nil, Hz.setsR_cons, Hz.dI_pairs, Hz.sort_pairs, Hz.sort_ints] | exact rfl) | walk_at "split"))

def w_is_integer (K : PySem.W.Frag) (a : Ad) : WS := (sRt (wAnd (w2 (sIsi K) (wVar 0) (wCst (.ty "int"))) (wNot (w2 (sIsi K) (wVar 0) (wCst (.ty "bool"))))))

def W_is_integer (K : PySem.W.Frag) (a : Ad) : SpT := fun ts post ep => ts.length = 1 ∧ w_is_integer K a (outO [] 1 post) (outX [] 1 ep) (startT 1 ts)
theorem len_is_integer {K : PySem.W.Frag} {a : Ad} {ts : List T} {post : T → Rho → Prop} {ep : Addr → T → Rho → Prop} (h : W_is_integer K a ts post ep) : ts.length = 1 := h.1
theorem law_is_integer {K : PySem.W.Frag} {mg : Str → Option Value} {a : Ad} (tx : Tx K mg a) : ∀ ts post ep, W_is_integer K a ts post ep → ts.length = 1 → w_is_integer K a (outO [] 1 post) (outX [] 1 ep) (startT 1 ts) := fun ts post ep h _ => h.2
theorem ok_is_integer {w : World} {K : PySem.W.Frag} {mg : Str → Option Value} {base : Heap} {a : Ad} (T : Tx K mg a) : FnG a.P w K mg base CX0 1 a.f_is_integer a.d_is_integer ["value"] (spT K wellO (W_is_integer K a)) :=
  fn_T [] T.F_is_integer sc_is_integer (fun ts post ep h => len_is_integer h) (fun cdv A outer s H E hr hg => ⟨_, w_is_integer K a,
  (pss_one (ps_ret (pe_and (pe_callB call_isi (by rfl) (by exact T.z_isinstance) bt_isinstance (pa_cons (pv 0) (pa_cons (pe_bltn (v := .ty "int") (by rfl) (by exact T.z_int) bt_int rfl) pa_nil))) (pe_one (pe_not (pe_callB call_isi (by rfl) (by exact T.z_isinstance) bt_isinstance (pa_cons (pv 0) (pa_cons (pe_bltn (v := .ty "bool") (by rfl) (by exact T.z_bool) bt_bool rfl) pa_nil)))))))),
  (sv_ret (ev_and (ev_call2 op_isi ev_var ev_cst) (ev_not (ev_call2 op_isi ev_var ev_cst)))),
  law_is_integer T⟩)


def W_is_between (K : PySem.W.Frag) (a : Ad) : SpT := fun ts post ep => ts.length = 3 ∧ (∃ (d : PyData) (lo hi : Int), ts = [.dat d, tI lo, tI hi] ∧ Gd d ∧ post (tBo (isBetD lo hi d)) [none, none, none])
theorem len_is_between {K : PySem.W.Frag} {a : Ad} {ts : List T} {post : T → Rho → Prop} {ep : Addr → T → Rho → Prop} (h : W_is_between K a ts post ep) : ts.length = 3 := h.1

def w_is_between (K : PySem.W.Frag) (a : Ad) : WS := (sRt (wAnd (wCall 1 0 (fun us _ => us) (W_is_integer K a) (aCons (wVar 0) aNil) aNil) (wChain (fun i j => decide (i ≤ j)) (fun i j => decide (i ≤ j)) (wVar 1) (wVar 0) (wVar 2))))

theorem law_is_between {K : PySem.W.Frag} {mg : Str → Option Value} {a : Ad} (tx : Tx K mg a) : ∀ ts post ep, W_is_between K a ts post ep → ts.length = 3 → w_is_between K a (outO [] 3 post) (outX [] 3 ep) (startT 3 ts) := by
  intro ts post ep hW hl
  replace hW := hW.2
  obtain ⟨d, lo, hi, rfl, hd, hp⟩ := hW
  cases d with
  | dict xs => exact hd.dict.elim
  | int i =>
    walk_at "hs"
    (walk_at "split" <;> rename_i c)
    · walk_at "hs"
      rw [show isBetD lo hi (.int i) = decide (i ≤ hi) from by unfold isBetD; simp [c]] at hp
      exact hp
    · walk_at "hs"
      rw [show isBetD lo hi (.int i) = false from decide_eq_false (by omega)] at hp
      exact hp
  | none => walk_at "hs"; exact hp
  | bool b => walk_at "hs"; exact hp
  | str x => walk_at "hs"; exact hp
  | list xs => walk_at "hs"; exact hp
  | tuple xs => walk_at "hs"; exact hp
theorem ok_is_between {w : World} {K : PySem.W.Frag} {mg : Str → Option Value} {base : Heap} {a : Ad} (T : Tx K mg a) : FnG a.P w K mg base CX0 2 a.f_is_between a.d_is_between ["value", "low", "high"] (spT K wellO (W_is_between K a)) :=
  fn_T [] T.F_is_between sc_is_between (fun ts post ep h => len_is_between h) (fun cdv A outer s H E hr hg => ⟨_, w_is_between K a,
  (pss_one (ps_ret (pe_and (pg_call (ok_is_integer T) (by exact hr.mono (by decide)) (by exact hg) (by rfl) (by exact T.g_is_integer) (by exact T.F_is_integer.kp) T.b_is_integer_1 passG (pa_cons (pv 0) pa_nil)) (pe_one (pe_chain op_le op_le (pv 1) (pv 0) (pv 2)))))),
  (sv_ret (ev_and (ev_call (Wf := (W_is_integer K a)) (n := 1) (m := 0) mk_pos (ea_cons ev_var ea_nil) ea_nil) (ev_chain (f := (fun i j => decide (i ≤ j))) (g := (fun i j => decide (i ≤ j))) ev_var ev_var ev_var))),
  law_is_between T⟩)

def W_is_tuple (K : PySem.W.Frag) (a : Ad) : SpT := fun ts post ep => ts.length = 3 ∧ (∃ (d : PyData) (lo hi : Int), ts = [.dat d, tI lo, tI hi] ∧ Gd d ∧ post (tBo (isTupD lo hi d)) [none, none, none])
theorem len_is_tuple {K : PySem.W.Frag} {a : Ad} {ts : List T} {post : T → Rho → Prop} {ep : Addr → T → Rho → Prop} (h : W_is_tuple K a ts post ep) : ts.length = 3 := h.1

def w_is_tuple (K : PySem.W.Frag) (a : Ad) : WS := (sRt (wAnd (w2 (sIsi K) (wVar 0) (wCst (.ty "tuple"))) (wChain (fun i j => decide (i ≤ j)) (fun i j => decide (i ≤ j)) (wVar 1) (w1 sLen (wVar 0)) (wVar 2))))

theorem law_is_tuple {K : PySem.W.Frag} {mg : Str → Option Value} {a : Ad} (tx : Tx K mg a) : ∀ ts post ep, W_is_tuple K a ts post ep → ts.length = 3 → w_is_tuple K a (outO [] 3 post) (outX [] 3 ep) (startT 3 ts) := by
  intro ts post ep hW hl
  replace hW := hW.2
  obtain ⟨d, lo, hi, rfl, hd, hp⟩ := hW
  cases d with
  | dict xs => exact hd.dict.elim
  | int i => walk_at "hs"; exact hp
  | none => walk_at "hs"; exact hp
  | bool b => walk_at "hs"; exact hp
  | str x => walk_at "hs"; exact hp
  | list xs => walk_at "hs"; exact hp
  | tuple xs =>
    walk_at "hs"
    (walk_at "split" <;> rename_i c)
    · walk_at "hs"
      rw [List.length_map] at c ⊢
      rw [show isTupD lo hi (.tuple xs) = decide ((xs.length : Int) ≤ hi) from by unfold isTupD; simp [c]] at hp
      exact hp
    · walk_at "hs"
      rw [List.length_map] at c
      rw [show isTupD lo hi (.tuple xs) = false from decide_eq_false (by omega)] at hp
      exact hp
theorem ok_is_tuple {w : World} {K : PySem.W.Frag} {mg : Str → Option Value} {base : Heap} {a : Ad} (T : Tx K mg a) : FnG a.P w K mg base CX0 1 a.f_is_tuple a.d_is_tuple ["value", "low", "high"] (spT K wellO (W_is_tuple K a)) :=
  fn_T [] T.F_is_tuple sc_is_tuple (fun ts post ep h => len_is_tuple h) (fun cdv A outer s H E hr hg => ⟨_, w_is_tuple K a,
  (pss_one (ps_ret (pe_and (pe_callB call_isi (by rfl) (by exact T.z_isinstance) bt_isinstance (pa_cons (pv 0) (pa_cons (pe_bltn (v := .ty "tuple") (by rfl) (by exact T.z_tuple) bt_tuple rfl) pa_nil))) (pe_one (pe_chain op_le op_le (pv 1) (pe_callB (call_lenK (K := K) rfl) (by rfl) (by exact T.z_len) bt_len (pa_cons (pv 0) pa_nil)) (pv 2)))))),
  (sv_ret (ev_and (ev_call2 op_isi ev_var ev_cst) (ev_chain (f := (fun i j => decide (i ≤ j))) (g := (fun i j => decide (i ≤ j))) ev_var (ev_call1 (op_lenK (K := K)) ev_var) ev_var))),
  law_is_tuple T⟩)

--.

def W_is_word (K : PySem.W.Frag) (a : Ad) : SpT := fun ts post ep => ts.length = 2 ∧ (∃ (d : PyData) (ws : List Str), ts = [.dat d, .dat (.tuple (ws.map .str))] ∧ Gd d ∧ SeqAt.shaped (.tuple (ws.map .str)) = true ∧ post (tBo (isWordD ws d)) [none, none])
theorem len_is_word {K : PySem.W.Frag} {a : Ad} {ts : List T} {post : T → Rho → Prop} {ep : Addr → T → Rho → Prop} (h : W_is_word K a ts post ep) : ts.length = 2 := h.1

def w_is_word (K : PySem.W.Frag) (a : Ad) : WS := (sRt (wAnd (w2 (sIsi K) (wVar 0) (wCst (.ty "str"))) (wInT false (wVar 0) (wVar 1))))

theorem law_is_word {K : PySem.W.Frag} {mg : Str → Option Value} {a : Ad} (tx : Tx K mg a) : ∀ ts post ep, W_is_word K a ts post ep → ts.length = 2 → w_is_word K a (outO [] 2 post) (outX [] 2 ep) (startT 2 ts) := by
  intro ts post ep hW hl
  replace hW := hW.2
  obtain ⟨d, ws, rfl, hd, hs, hp⟩ := hW
  have hd' := hd.shaped
  cases d with
  | dict xs => exact hd.dict.elim
  | int i => walk_at "hs"; exact hp
  | none => walk_at "hs"; exact hp
  | bool b => walk_at "hs"; exact hp
  | str x =>
    walk_at "hs"
    rw [any_str]
    exact hp
  | list xs => walk_at "hs"; exact hp
  | tuple xs => walk_at "hs"; exact hp
theorem ok_is_word {w : World} {K : PySem.W.Frag} {mg : Str → Option Value} {base : Heap} {a : Ad} (T : Tx K mg a) : FnG a.P w K mg base CX0 1 a.f_is_word a.d_is_word ["value", "words"] (spT K wellO (W_is_word K a)) :=
  fn_T [] T.F_is_word sc_is_word (fun ts post ep h => len_is_word h) (fun cdv A outer s H E hr hg => ⟨_, w_is_word K a,
  (pss_one (ps_ret (pe_and (pe_callB call_isi (by rfl) (by exact T.z_isinstance) bt_isinstance (pa_cons (pv 0) (pa_cons (pe_bltn (v := .ty "str") (by rfl) (by exact T.z_str) bt_str rfl) pa_nil))) (pe_one (pe_cmpR (op_inT (by have := room65 hr; exact this)) (pv 0) (pv 1) (by with_unfolding_all rfl)))))),
  (sv_ret (ev_and (ev_call2 op_isi ev_var ev_cst) (ev_inT ev_var ev_var))),
  law_is_word T⟩)

--.

def W_anew (K : PySem.W.Frag) (a : Ad) (n : Nat) : SpT := fun ts post ep => ts.length = 1 ∧ 0 < n ∧ (∃ d, ts = [.dat d] ∧ AnB n d ∧ post (.dat d) [none])
theorem len_anew {K : PySem.W.Frag} {a : Ad} {n : Nat} {ts : List T} {post : T → Rho → Prop} {ep : Addr → T → Rho → Prop} (h : W_anew K a n ts post ep) : ts.length = 1 := h.1
/-- return value .. -/
def t_anew_5 (K : PySem.W.Frag) (a : Ad) (n : Nat) : WS := (sRt (wVar 0))
/-- if isinstance(value, tuple): .. -/
def t_anew_3 (K : PySem.W.Frag) (a : Ad) (n : Nat) : WS := (sSq (sIf (bT (w2 (sIsi K) (wVar 0) (wCst (.ty "tuple")))) (sRt (w1 sTuple (wFz (wLc (iSeq false (wVar 0)) (gN 1) bYes (wCall 1 0 (fun us _ => us) (W_anew K a n) (aCons (wVar 1) aNil) aNil) [1])))) sNx) (t_anew_5 K a n))
def w_anew (K : PySem.W.Frag) (a : Ad) (n : Nat) : WS := (sSq (sIf (bT (w2 (sIsi K) (wVar 0) (wCst (.ty "list")))) (sRt (wFz (wLc (iSeq true (wVar 0)) (gN 1) bYes (wCall 1 0 (fun us _ => us) (W_anew K a n) (aCons (wVar 1) aNil) aNil) [1]))) sNx) (t_anew_3 K a n))

theorem law_anew {K : PySem.W.Frag} {mg : Str → Option Value} {a : Ad} (tx : Tx K mg a) : ∀ (n : Nat) ts post ep, W_anew K a (n + 1) ts post ep → ts.length = 1 → w_anew K a n (outO [] 1 post) (outX [] 1 ep) (startT 2 ts) := by
  intro n ts post ep hW hl
  replace hW := hW.2.2
  obtain ⟨d, rfl, h, hp⟩ := hW
  cases d with
  | int i => walk_at "hs"; exact hp
  | none => walk_at "hs"; exact hp
  | bool b => walk_at "hs"; exact hp
  | str x => walk_at "hs"; exact hp
  | dict xs => exact h.elim
  | list ds =>
    obtain ⟨hl, hd⟩ : ds.length ≤ 1000000 ∧ ∀ x ∈ ds, AnB n x := h
    walk_at "hs"
    refine lcM (ds) (fun x => T.dat x) (fun x => T.dat x) (by walk_at "hn") (fun i x hx => by walk_at "hit") (by walk_at "om") (fun x hx q kk hq hk1 => ?_) ?_
    all_goals (try simp only [Hz.wipeL1, Hz.wipeL2, Hz.wipeL3, List.set_cons_succ, List.set_cons_zero])
    · walk_at "hs"
      refine ⟨(hd x hx).pos, x, rfl, hd x hx, fun _ => ?_⟩
      walk_at "hs"
      exact hk1
    · walk_at "hs"
      exact hp
  | tuple ds =>
    obtain ⟨hl, hd⟩ : ds.length ≤ 1000000 ∧ ∀ x ∈ ds, AnB n x := h
    walk_at "hs"
    refine lcM (ds) (fun x => T.dat x) (fun x => T.dat x) (by walk_at "hn") (fun i x hx => by walk_at "hit") (by walk_at "om") (fun x hx q kk hq hk1 => ?_) ?_
    all_goals (try simp only [Hz.wipeL1, Hz.wipeL2, Hz.wipeL3, List.set_cons_succ, List.set_cons_zero])
    · walk_at "hs"
      refine ⟨(hd x hx).pos, x, rfl, hd x hx, fun _ => ?_⟩
      walk_at "hs"
      exact hk1
    · walk_at "hs"
      exact hp
theorem ok_anew {w : World} {K : PySem.W.Frag} {mg : Str → Option Value} {base : Heap} {a : Ad} : ∀ (n : Nat) (T : Tx K mg a), FnG a.P w K mg base CX0 (n + 1) a.f_anew a.d_anew ["value"] (spT K wellO (W_anew K a n))
  | 0, T => Hz.FnG.void fun ts post ep h => absurd h.2.1 (Nat.lt_irrefl 0)
  | n + 1, T => fn_T [] T.F_anew sc_anew (fun ts post ep h => len_anew h) (fun cdv A outer s H E hr hg => ⟨_, w_anew K a n,
  (pss_cons (ps_if (pt_val (pe_callB call_isi (by rfl) (by exact T.z_isinstance) bt_isinstance (pa_cons (pv 0) (pa_cons (pe_bltn (v := .ty "list") (by rfl) (by exact T.z_list) bt_list rfl) pa_nil)))) (pss_one (ps_ret (pe_lc (own := [("part", 1)]) rfl sc_anew.nd (pi_list (pv 0)) (blkOk_by (by show blkC ["value", "part"] (defScope s_anew) _ _ = true; decide +kernel)) (fun _ _ _ _ _ => (pg_name (i := 1) sc_anew.nd rfl (Or.inl rfl))) (fun _ _ _ _ _ => pts_nil) (fun _ _ _ _ _ => (pg_call (ok_anew n T) (by exact hr.mono (Nat.le_refl _)) (by exact hg) (by rfl) (by exact T.g_anew) (by exact T.F_anew.kp) T.b_anew_1 passG (pa_cons (pv 1) pa_nil)))))) pss_nil)
  (pss_cons (ps_if (pt_val (pe_callB call_isi (by rfl) (by exact T.z_isinstance) bt_isinstance (pa_cons (pv 0) (pa_cons (pe_bltn (v := .ty "tuple") (by rfl) (by exact T.z_tuple) bt_tuple rfl) pa_nil)))) (pss_one (ps_ret (pe_callTy (call_tupleK (K := K) rfl) (by rfl) (by exact T.z_tuple) bt_tuple (pa_cons (pe_lc (own := [("part", 1)]) rfl sc_anew.nd (pi_tup (pv 0)) (blkOk_by (by show blkC ["value", "part"] (defScope s_anew) _ _ = true; decide +kernel)) (fun _ _ _ _ _ => (pg_name (i := 1) sc_anew.nd rfl (Or.inl rfl))) (fun _ _ _ _ _ => pts_nil) (fun _ _ _ _ _ => (pg_call (ok_anew n T) (by exact hr.mono (Nat.le_refl _)) (by exact hg) (by rfl) (by exact T.g_anew) (by exact T.F_anew.kp) T.b_anew_1 passG (pa_cons (pv 1) pa_nil)))) pa_nil)))) pss_nil)
  (pss_one (ps_ret (pv 0))))),
  (sv_seq (sv_if (et_B (ev_call2 op_isi ev_var ev_cst)) (sv_ret (ev_fz (ev_lc (wv := [1]) (by decide) (by decide) (ei_list ev_var) (g_name (by decide)) et_yes (ev_call (Wf := (W_anew K a n)) (n := 1) (m := 0) mk_pos (ea_cons ev_var ea_nil) ea_nil)))) sv_next)
  (sv_seq (sv_if (et_B (ev_call2 op_isi ev_var ev_cst)) (sv_ret (ev_call1 (op_tupleK (K := K)) (ev_fz (ev_lc (wv := [1]) (by decide) (by decide) (ei_tup ev_var) (g_name (by decide)) et_yes (ev_call (Wf := (W_anew K a n)) (n := 1) (m := 0) mk_pos (ea_cons ev_var ea_nil) ea_nil))))) sv_next)
  (sv_ret ev_var))),
  law_anew T n⟩)

--.

theorem p28 : (10 : Int) ^ (28 : Int).toNat = 10 ^ 28 := rfl
/-- return [max(0, abs(cell) - 10 ** 18), mixed, 0] .. -/
def t__law_well_6 (K : PySem.W.Frag) (a : Ad) : WS := (sRt (wLst (aCons (w2 (sII iMax) (wC (.int 0)) (wII0 iSub (w1 sAbs (wVar 2)) (wII CPow iPow (wC (.int 10)) (wC (.int 18))))) (aCons (wVar 5) (aCons (wC (.int 0)) aNil)))))
/-- mixed = int(abs(cell) * 7129 + whole * 41 + 3 * int(cell < 0) + 61 * k) % (10 ** 28 + 331) .. -/
def t__law_well_5 (K : PySem.W.Frag) (a : Ad) : WS := (sSq (sAs (wII CMod iMod (w1 sInt (wII0 iAdd (wII0 iAdd (wII0 iAdd (wII CMul iMul (w1 sAbs (wVar 2)) (wC (.int 7129))) (wII CMul iMul (wVar 3) (wC (.int 41)))) (wII CMul iMul (wC (.int 3)) (w1 sInt (wII0 bLt (wVar 2) (wC (.int 0)))))) (wII CMul iMul (wC (.int 61)) (wVar 1)))) (wII0 iAdd (wII CPow iPow (wC (.int 10)) (wC (.int 28))) (wC (.int 331)))) (gN 5)) (sStop (t__law_well_6 K a)))
/-- for part in script: .. -/
def t__law_well_3 (K : PySem.W.Frag) (a : Ad) : WS := (sSq (sFor (iSeq true (wVar 0)) (gN 4)
  (sAs (wII CMod iMod (w1 sInt (wII0 iAdd (wII CMul iMul (wVar 3) (wC (.int 5323))) (wII CMod iMod (w1 sInt (wVar 4)) (wII0 iAdd (wII CPow iPow (wC (.int 10)) (wC (.int 19))) (wC (.int 51)))))) (wII0 iAdd (wII CPow iPow (wC (.int 10)) (wC (.int 25))) (wC (.int 13)))) (gN 3))) (sStop (t__law_well_5 K a)))
/-- whole = 29 + len(script) .. -/
def t__law_well_2 (K : PySem.W.Frag) (a : Ad) : WS := (sSq (sAs (wII0 iAdd (wC (.int 29)) (w1 sLen (wVar 0))) (gN 3)) (sStop (t__law_well_3 K a)))
def w__law_well (K : PySem.W.Frag) (a : Ad) : WS := (sSq (sAs (wIf (bT (wII0 bLt (wVar 1) (w1 sLen (wVar 0)))) (w1 sInt (w2 sIx (wVar 0) (wVar 1))) (wII0 iAdd (wII CMul iMul (wC (.int 71)) (wVar 1)) (wC (.int 37)))) (gN 2)) (t__law_well_2 K a))

section
variable {K : PySem.W.Frag} {mg : Str → Option Value} {a : Ad} {Qx : Hz.WX} {post : T → Rho → Prop} {ns : List Int} {k cell wh : Int} {x4 x5 : Option T}
theorem well6 (tx : Tx K mg a) {m : Int} (m0 : 0 ≤ m) (m1 : m < 10 ^ 28 + 331) (hp : ∀ x y : Int, Wb 0 x y 0 → post (.lst [tI x, tI y, tI 0]) [none, none]) :
    t__law_well_6 K a (outO [] 2 post) Qx [some (.dat (.list (ns.map .int))), some (tI k), some (tI cell), some (tI wh), x4, some (tI m)] := by
  walk_at "hs"
  exact hp _ _ ⟨m0, m1, by decide, by decide⟩
theorem well5 (tx : Tx K mg a) (hp : ∀ x y : Int, Wb 0 x y 0 → post (.lst [tI x, tI y, tI 0]) [none, none]) :
    t__law_well_5 K a (outO [] 2 post) Qx [some (.dat (.list (ns.map .int))), some (tI k), some (tI cell), some (tI wh), x4, x5] := by
  walk_at "hs"
  exact ⟨well6 tx (Int.emod_nonneg _ (by decide)) (Int.emod_lt_of_pos _ (by decide)) hp⟩
theorem well3 (tx : Tx K mg a) (hp : ∀ x y : Int, Wb 0 x y 0 → post (.lst [tI x, tI y, tI 0]) [none, none]) :
    t__law_well_3 K a (outO [] 2 post) Qx [some (.dat (.list (ns.map .int))), some (tI k), some (tI cell), some (tI wh), x4, x5] := by
  walk_at "hs"
  refine ⟨OnR [3, 4] (fun i vs => ∃ (w : Int) (x : Option T), vs = [some (tI w), x]) _, onR0 ⟨_, _, rfl⟩ rfl, ?_, ?_⟩
  · rintro i ρ hi ⟨_, ⟨w, x, rfl⟩, rfl⟩
    obtain ⟨v, _, ex⟩ := dats_ints (getD_mem hi)
    rw [ex]
    walk_at "hs"
    exact gN_is ⟨_, ⟨_, _, rfl⟩, rfl⟩
  · rintro ρ ⟨_, ⟨w, x, rfl⟩, rfl⟩
    exact ⟨well5 tx hp⟩
end
def W__law_well (K : PySem.W.Frag) (a : Ad) : SpT := fun ts post ep => ts.length = 2 ∧ (∃ (ns : List Int) (k : Int), ts = [.dat (.list (ns.map .int)), tI k] ∧ 0 ≤ k ∧ k ≤ 1000000 ∧ ns.length ≤ 63 ∧ ∀ x y : Int, Wb 0 x y 0 → post (.lst [tI x, tI y, tI 0]) [none, none])
theorem len__law_well {K : PySem.W.Frag} {a : Ad} {ts : List T} {post : T → Rho → Prop} {ep : Addr → T → Rho → Prop} (h : W__law_well K a ts post ep) : ts.length = 2 := h.1

theorem law__law_well {K : PySem.W.Frag} {mg : Str → Option Value} {a : Ad} (tx : Tx K mg a) : ∀ ts post ep, W__law_well K a ts post ep → ts.length = 2 → w__law_well K a (outO [] 2 post) (outX [] 2 ep) (startT 6 ts) := by
  intro ts post ep hW hl
  replace hW := hW.2
  obtain ⟨ns, k, rfl, h0, h1, h63, hp⟩ := hW
  by_cases c : k < ns.length
  · have hx : (List.map T.dat (List.map PyData.int ns))[k.toNat]? = some (tI (ns.getD k.toNat 0)) := by
      rw [List.getElem?_map, List.getElem?_map, List.getD_eq_getElem?_getD, List.getElem?_eq_getElem (by omega)]
      rfl
    have l1 : (List.map T.dat (List.map PyData.int ns)).length = ns.length := by rw [List.length_map, List.length_map]
    walk_at "hs"
    exact ⟨well3 tx hp⟩
  · have l1 : (List.map T.dat (List.map PyData.int ns)).length = ns.length := by rw [List.length_map, List.length_map]
    walk_at "hs"
    exact ⟨well3 tx hp⟩
theorem ok__law_well {w : World} {K : PySem.W.Frag} {mg : Str → Option Value} {base : Heap} {a : Ad} (T : Tx K mg a) : FnG a.P w K mg base CX0 1 a.f__law_well a.d__law_well ["script", "k"] (spT K wellO (W__law_well K a)) :=
  fn_T [] T.F__law_well sc__law_well (fun ts post ep h => len__law_well h) (fun cdv A outer s H E hr hg => ⟨_, w__law_well K a,
  (pss_cons (ps_set (i := 2) sc__law_well.nd rfl (Or.inl rfl) (pe_ifExp (pt_cmpR op_lt (pv 1) (pe_callB (call_lenK (K := K) rfl) (by rfl) (by exact T.z_len) bt_len (pa_cons (pv 0) pa_nil)) (nomark _)) (pe_callTy call_int1 (by rfl) (by exact T.z_int) bt_int (pa_cons (pe_ix ix_seq (pv 0) (pv 1) (fun _ _ => rfl)) pa_nil)) (pe_op op_add (pe_op op_mul pe_int (pv 1)) pe_int)))
  (pss_cons (ps_set (i := 3) sc__law_well.nd rfl (Or.inl rfl) (pe_op op_add pe_int (pe_callB (call_lenK (K := K) rfl) (by rfl) (by exact T.z_len) bt_len (pa_cons (pv 0) pa_nil))))
  (pss_cons (ps_for PassesOwn.never rfl (pi_list (pv 0)) (pg_name (i := 4) sc__law_well.nd rfl (Or.inl rfl))
  (pss_one (ps_set (i := 3) sc__law_well.nd rfl (Or.inl rfl) (pe_op op_mod (pe_callTy call_int1 (by rfl) (by exact T.z_int) bt_int (pa_cons (pe_op op_add (pe_op op_mul (pv 3) pe_int) (pe_op op_mod (pe_callTy call_int1 (by rfl) (by exact T.z_int) bt_int (pa_cons (pv 4) pa_nil)) (pe_op op_add (pe_op op_pow pe_int pe_int) pe_int))) pa_nil)) (pe_op op_add (pe_op op_pow pe_int pe_int) pe_int)))))
  (pss_cons (ps_set (i := 5) sc__law_well.nd rfl (Or.inl rfl) (pe_op op_mod (pe_callTy call_int1 (by rfl) (by exact T.z_int) bt_int (pa_cons (pe_op op_add (pe_op op_add (pe_op op_add (pe_op op_mul (pe_callB call_abs (by rfl) (by exact T.z_abs) bt_abs (pa_cons (pv 2) pa_nil)) pe_int) (pe_op op_mul (pv 3) pe_int)) (pe_op op_mul pe_int (pe_callTy call_int1 (by rfl) (by exact T.z_int) bt_int (pa_cons (pe_cmpR op_lt (pv 2) pe_int (nomark _)) pa_nil)))) (pe_op op_mul pe_int (pv 1))) pa_nil)) (pe_op op_add (pe_op op_pow pe_int pe_int) pe_int)))
  (pss_one (ps_ret (pe_lst (pa_cons (pe_callB (call_max2 rfl) (by rfl) (by exact T.z_max) bt_max (pa_cons pe_int (pa_cons (pe_op op_sub (pe_callB call_abs (by rfl) (by exact T.z_abs) bt_abs (pa_cons (pv 2) pa_nil)) (pe_op op_pow pe_int pe_int)) pa_nil))) (pa_cons (pv 5) (pa_cons pe_int pa_nil)))))))))),
  (sv_seq (sv_asg (ev_if (et_test (ev_lt ev_var (ev_call1 (op_lenK (K := K)) ev_var))) (ev_call1 op_int (ev_op2 op_ix ev_var ev_var)) (ev_add (ev_mul ev_int ev_var) ev_int)) (g_name (by decide)))
  (sv_seq (sv_asg (ev_add ev_int (ev_call1 (op_lenK (K := K)) ev_var)) (g_name (by decide)))
  (sv_stop (sv_seq (sv_for (ei_list ev_var) (g_name (by decide))
  (sv_asg (ev_mod (ev_call1 op_int (ev_add (ev_mul ev_var ev_int) (ev_mod (ev_call1 op_int ev_var) (ev_add (ev_pow ev_int ev_int) ev_int)))) (ev_add (ev_pow ev_int ev_int) ev_int)) (g_name (by decide))))
  (sv_stop (sv_seq (sv_asg (ev_mod (ev_call1 op_int (ev_add (ev_add (ev_add (ev_mul (ev_call1 op_abs ev_var) ev_int) (ev_mul ev_var ev_int)) (ev_mul ev_int (ev_call1 op_int (ev_lt ev_var ev_int)))) (ev_mul ev_int ev_var))) (ev_add (ev_pow ev_int ev_int) ev_int)) (g_name (by decide)))
  (sv_stop (sv_ret (ev_lst (ea_cons (ev_call2 op_max2 ev_int (ev_sub (ev_call1 op_abs ev_var) (ev_pow ev_int ev_int))) (ea_cons ev_var (ea_cons ev_int ea_nil)))))))))))),
  law__law_well T⟩)

/-- return found .. -/
def t__law_draw_4 (K : PySem.W.Frag) (a : Ad) : WS := (sRt (wVar 2))
/-- well[0] = well[0] // many .. -/
def t__law_draw_3 (K : PySem.W.Frag) (a : Ad) : WS := (sSq (sAs (wII CDiv iDiv (w2 sIx (wVar 0) (wC (.int 0))) (wVar 1)) (gIx (wVar 0) (wC (.int 0)))) (t__law_draw_4 K a))
/-- return int(mixed // 50021) % many .. -/
def t__law_draw_10 (K : PySem.W.Frag) (a : Ad) : WS := (sRt (wII CMod iMod (w1 sInt (wII CDiv iDiv (wVar 4) (wC (.int 50021)))) (wVar 1)))
/-- mixed = int(mixed * mixed * 3 + mixed * 11) % (10 ** 33 + 603) .. -/
def t__law_draw_9 (K : PySem.W.Frag) (a : Ad) : WS := (sSq (sAs (wII CMod iMod (w1 sInt (wII0 iAdd (wII CMulW iMul (wII CMulW iMul (wVar 4) (wVar 4)) (wC (.int 3))) (wII CMulW iMul (wVar 4) (wC (.int 11))))) (wII0 iAdd (wII CPow iPow (wC (.int 10)) (wC (.int 33))) (wC (.int 603)))) (gN 4)) (sStop (t__law_draw_10 K a)))
/-- mixed = int(mixed * mixed + well[1] * 7 + step) % (10 ** 31 + 33) .. -/
def t__law_draw_8 (K : PySem.W.Frag) (a : Ad) : WS := (sSq (sAs (wII CMod iMod (w1 sInt (wII0 iAdd (wII0 iAdd (wII CMulW iMul (wVar 4) (wVar 4)) (wII CMulW iMul (w2 sIx (wVar 0) (wC (.int 1))) (wC (.int 7)))) (wVar 3))) (wII0 iAdd (wII CPow iPow (wC (.int 10)) (wC (.int 31))) (wC (.int 33)))) (gN 4)) (sStop (t__law_draw_9 K a)))
/-- mixed = int((well[1] + 31) * (step + 5) * 998244353 + step * step * step * 424242427 + 77) % (10 ** 29 + 319) .. -/
def t__law_draw_7 (K : PySem.W.Frag) (a : Ad) : WS := (sSq (sAs (wII CMod iMod (w1 sInt (wII0 iAdd (wII0 iAdd (wII CMulW iMul (wII CMulW iMul (wII0 iAdd (w2 sIx (wVar 0) (wC (.int 1))) (wC (.int 31))) (wII0 iAdd (wVar 3) (wC (.int 5)))) (wC (.int 998244353))) (wII CMulW iMul (wII CMulW iMul (wII CMulW iMul (wVar 3) (wVar 3)) (wVar 3)) (wC (.int 424242427)))) (wC (.int 77)))) (wII0 iAdd (wII CPow iPow (wC (.int 10)) (wC (.int 29))) (wC (.int 319)))) (gN 4)) (sStop (t__law_draw_8 K a)))
/-- step = well[2] .. -/
def t__law_draw_6 (K : PySem.W.Frag) (a : Ad) : WS := (sSq (sAs (w2 sIx (wVar 0) (wC (.int 2))) (gN 3)) (t__law_draw_7 K a))
/-- well[2] = well[2] + 1 .. -/
def t__law_draw_5 (K : PySem.W.Frag) (a : Ad) : WS := (sSq (sAs (wII0 iAdd (w2 sIx (wVar 0) (wC (.int 2))) (wC (.int 1))) (gIx (wVar 0) (wC (.int 2)))) (t__law_draw_6 K a))
def w__law_draw (K : PySem.W.Frag) (a : Ad) : WS := (sSq (sIf (bT (wII0 bGt (w2 sIx (wVar 0) (wC (.int 0))) (wC (.int 0)))) (sSq (sAs (wII CMod iMod (w1 sInt (w2 sIx (wVar 0) (wC (.int 0)))) (wVar 1)) (gN 2)) (t__law_draw_3 K a)) sNx) (t__law_draw_5 K a))

section
variable {K : PySem.W.Frag} {mg : Str → Option Value} {a : Ad} {Qx : Hz.WX} {post : T → Rho → Prop} {x y z m limit : Int} {n : Nat} {x2 x4 : Option T}
theorem draw10 (tx : Tx K mg a) (w : Wb (n + 1) x y z) (h0 : 0 < limit) (h1 : limit < 1073741824) (hp : ∀ x' y' z' r : Int, Wb (n + 1) x' y' z' → 0 ≤ r → r < limit → post (tI r) [some (.lst [tI x', tI y', tI z']), none]) :
    t__law_draw_10 K a (outO [0] 2 post) Qx [some (.lst [tI x, tI y, tI z]), some (tI limit), x2, some (tI z), some (tI m)] := by
  walk_at "hs"
  exact hp _ _ _ _ w (Int.emod_nonneg _ (by omega)) (Int.emod_lt_of_pos _ h0)
theorem draw9 (tx : Tx K mg a) (w : Wb (n + 1) x y z) (hn : n ≤ 1000000) (m0 : 0 ≤ m) (m1 : m < 10 ^ 31 + 33) (h0 : 0 < limit) (h1 : limit < 1073741824) (hp : ∀ x' y' z' r : Int, Wb (n + 1) x' y' z' → 0 ≤ r → r < limit → post (tI r) [some (.lst [tI x', tI y', tI z']), none]) :
    t__law_draw_9 K a (outO [0] 2 post) Qx [some (.lst [tI x, tI y, tI z]), some (tI limit), x2, some (tI z), some (tI m)] := by
  have b1 : m.natAbs < 2 ^ 110 := by omega
  have b2 : (m * m).natAbs < 2 ^ 220 := wide_lt b1 b1
  have c1 : CMulW m m := mulW_of 110 110 b1 b1 (by decide) (by decide) (by decide)
  have c2 : CMulW (m * m) 3 := mulW_of 220 10 b2 (by decide) (by decide) (by decide) (by decide)
  have c3 : CMulW m 11 := mulW_of 110 10 b1 (by decide) (by decide) (by decide) (by decide)
  clear b1 b2 m1 m0
  walk_at "hs"
  exact ⟨draw10 tx w h0 h1 hp⟩
theorem draw8 (tx : Tx K mg a) (w : Wb (n + 1) x y z) (hn : n ≤ 1000000) (m0 : 0 ≤ m) (m1 : m < 10 ^ 29 + 319) (h0 : 0 < limit) (h1 : limit < 1073741824) (hp : ∀ x' y' z' r : Int, Wb (n + 1) x' y' z' → 0 ≤ r → r < limit → post (tI r) [some (.lst [tI x', tI y', tI z']), none]) :
    t__law_draw_8 K a (outO [0] 2 post) Qx [some (.lst [tI x, tI y, tI z]), some (tI limit), x2, some (tI z), some (tI m)] := by
  have b1 : m.natAbs < 2 ^ 110 := by omega
  have b3 : y.natAbs < 2 ^ 110 := by have := w.y0; have := w.y1; omega
  have c1 : CMulW m m := mulW_of 110 110 b1 b1 (by decide) (by decide) (by decide)
  have c2 : CMulW y 7 := mulW_of 110 10 b3 (by decide) (by decide) (by decide) (by decide)
  clear b1 b3 m1 m0
  walk_at "hs"
  exact ⟨draw9 tx w hn (Int.emod_nonneg _ (by decide)) (Int.emod_lt_of_pos _ (by decide)) h0 h1 hp⟩
end
def W__law_draw (K : PySem.W.Frag) (a : Ad) : SpT := fun ts post ep => ts.length = 2 ∧ (∃ (x y z limit : Int) (n : Nat), ts = [.lst [tI x, tI y, tI z], tI limit] ∧ Wb n x y z ∧ n ≤ 1000000 ∧ 0 < limit ∧ limit < 1073741824 ∧ ∀ x' y' z' r : Int, Wb (n + 1) x' y' z' → 0 ≤ r → r < limit → post (tI r) [some (.lst [tI x', tI y', tI z']), none])
theorem len__law_draw {K : PySem.W.Frag} {a : Ad} {ts : List T} {post : T → Rho → Prop} {ep : Addr → T → Rho → Prop} (h : W__law_draw K a ts post ep) : ts.length = 2 := h.1

theorem law__law_draw {K : PySem.W.Frag} {mg : Str → Option Value} {a : Ad} (tx : Tx K mg a) : ∀ ts post ep, W__law_draw K a ts post ep → ts.length = 2 → w__law_draw K a (outO [0] 2 post) (outX [0] 2 ep) (startT 5 ts) := by
  intro ts post ep hW hl
  replace hW := hW.2
  obtain ⟨x, y, z, limit, n, rfl, w, hn, h0, h1, hp⟩ := hW
  by_cases c : 0 < x
  · walk_at "hs"
    exact hp _ _ _ _ ⟨w.y0, w.y1, w.z0, by have := w.z1; omega⟩ (Int.emod_nonneg _ (by omega)) (Int.emod_lt_of_pos _ h0)
  · have z0 := w.z0
    have z1 := w.z1
    have y0 := w.y0
    have y1 := w.y1
    have w' : Wb (n + 1) x y (z + 1) := ⟨y0, y1, by omega, by omega⟩
    have b1 : (y + 31).natAbs < 2 ^ 100 := by omega
    have b2 : (z + 1 + 5).natAbs < 2 ^ 30 := by omega
    have b3 : (z + 1).natAbs < 2 ^ 30 := by omega
    have b4 : ((y + 31) * (z + 1 + 5)).natAbs < 2 ^ 130 := wide_lt b1 b2
    have b5 : ((z + 1) * (z + 1)).natAbs < 2 ^ 60 := wide_lt b3 b3
    have b6 : ((z + 1) * (z + 1) * (z + 1)).natAbs < 2 ^ 90 := wide_lt b5 b3
    have c1 : CMulW (y + 31) (z + 1 + 5) := mulW_of 100 30 b1 b2 (by decide) (by decide) (by decide)
    have c2 : CMulW ((y + 31) * (z + 1 + 5)) 998244353 := mulW_of 130 40 b4 (by decide) (by decide) (by decide) (by decide)
    have c3 : CMulW (z + 1) (z + 1) := mulW_of 30 30 b3 b3 (by decide) (by decide) (by decide)
    have c4 : CMulW ((z + 1) * (z + 1)) (z + 1) := mulW_of 60 30 b5 b3 (by decide) (by decide) (by decide)
    have c5 : CMulW ((z + 1) * (z + 1) * (z + 1)) 424242427 := mulW_of 90 40 b6 (by decide) (by decide) (by decide) (by decide)
    clear b1 b2 b3 b4 b5 b6 z0 z1 y0 y1
    walk_at "hs"
    exact ⟨draw8 tx w' hn (Int.emod_nonneg _ (by decide)) (Int.emod_lt_of_pos _ (by decide)) h0 h1 hp⟩
theorem ok__law_draw {w : World} {K : PySem.W.Frag} {mg : Str → Option Value} {base : Heap} {a : Ad} (T : Tx K mg a) : FnG a.P w K mg base CX0 1 a.f__law_draw a.d__law_draw ["well", "many"] (spT K wellO (W__law_draw K a)) :=
  fn_T [0] T.F__law_draw sc__law_draw (fun ts post ep h => len__law_draw h) (fun cdv A outer s H E hr hg => ⟨_, w__law_draw K a,
  (pss_cons (ps_if (pt_cmpR op_gt (pe_ix ix_seq (pv 0) pe_int (fun _ _ => rfl)) pe_int (nomark _)) (pss_cons (ps_set (i := 2) sc__law_draw.nd rfl (Or.inl rfl) (pe_op op_mod (pe_callTy call_int1 (by rfl) (by exact T.z_int) bt_int (pa_cons (pe_ix ix_seq (pv 0) pe_int (fun _ _ => rfl)) pa_nil)) (pv 1)))
  (pss_cons (ps_asg (pe_op op_fdiv (pe_ix ix_seq (pv 0) pe_int (fun _ _ => rfl)) (pv 1)) (pg_sub (pv 0) pe_int set_list))
  (pss_one (ps_ret (pv 2))))) pss_nil)
  (pss_cons (ps_asg (pe_op op_add (pe_ix ix_seq (pv 0) pe_int (fun _ _ => rfl)) pe_int) (pg_sub (pv 0) pe_int set_list))
  (pss_cons (ps_set (i := 3) sc__law_draw.nd rfl (Or.inl rfl) (pe_ix ix_seq (pv 0) pe_int (fun _ _ => rfl)))
  (pss_cons (ps_set (i := 4) sc__law_draw.nd rfl (Or.inl rfl) (pe_op op_mod (pe_callTy call_int1 (by rfl) (by exact T.z_int) bt_int (pa_cons (pe_op op_add (pe_op op_add (pe_op op_mulW (pe_op op_mulW (pe_op op_add (pe_ix ix_seq (pv 0) pe_int (fun _ _ => rfl)) pe_int) (pe_op op_add (pv 3) pe_int)) pe_int) (pe_op op_mulW (pe_op op_mulW (pe_op op_mulW (pv 3) (pv 3)) (pv 3)) pe_int)) pe_int) pa_nil)) (pe_op op_add (pe_op op_pow pe_int pe_int) pe_int)))
  (pss_cons (ps_set (i := 4) sc__law_draw.nd rfl (Or.inl rfl) (pe_op op_mod (pe_callTy call_int1 (by rfl) (by exact T.z_int) bt_int (pa_cons (pe_op op_add (pe_op op_add (pe_op op_mulW (pv 4) (pv 4)) (pe_op op_mulW (pe_ix ix_seq (pv 0) pe_int (fun _ _ => rfl)) pe_int)) (pv 3)) pa_nil)) (pe_op op_add (pe_op op_pow pe_int pe_int) pe_int)))
  (pss_cons (ps_set (i := 4) sc__law_draw.nd rfl (Or.inl rfl) (pe_op op_mod (pe_callTy call_int1 (by rfl) (by exact T.z_int) bt_int (pa_cons (pe_op op_add (pe_op op_mulW (pe_op op_mulW (pv 4) (pv 4)) pe_int) (pe_op op_mulW (pv 4) pe_int)) pa_nil)) (pe_op op_add (pe_op op_pow pe_int pe_int) pe_int)))
  (pss_one (ps_ret (pe_op op_mod (pe_callTy call_int1 (by rfl) (by exact T.z_int) bt_int (pa_cons (pe_op op_fdiv (pv 4) pe_int) pa_nil)) (pv 1)))))))))),
  (sv_seq (sv_if (et_test (ev_gt (ev_op2 op_ix ev_var ev_int) ev_int)) (sv_seq (sv_asg (ev_mod (ev_call1 op_int (ev_op2 op_ix ev_var ev_int)) ev_var) (g_name (by decide)))
  (sv_seq (sv_asg (ev_fdiv (ev_op2 op_ix ev_var ev_int) ev_var) (g_sub ev_var ev_int))
  (sv_ret ev_var))) sv_next)
  (sv_seq (sv_asg (ev_add (ev_op2 op_ix ev_var ev_int) ev_int) (g_sub ev_var ev_int))
  (sv_seq (sv_asg (ev_op2 op_ix ev_var ev_int) (g_name (by decide)))
  (sv_seq (sv_asg (ev_mod (ev_call1 op_int (ev_add (ev_add (ev_mulW (ev_mulW (ev_add (ev_op2 op_ix ev_var ev_int) ev_int) (ev_add ev_var ev_int)) ev_int) (ev_mulW (ev_mulW (ev_mulW ev_var ev_var) ev_var) ev_int)) ev_int)) (ev_add (ev_pow ev_int ev_int) ev_int)) (g_name (by decide)))
  (sv_stop (sv_seq (sv_asg (ev_mod (ev_call1 op_int (ev_add (ev_add (ev_mulW ev_var ev_var) (ev_mulW (ev_op2 op_ix ev_var ev_int) ev_int)) ev_var)) (ev_add (ev_pow ev_int ev_int) ev_int)) (g_name (by decide)))
  (sv_stop (sv_seq (sv_asg (ev_mod (ev_call1 op_int (ev_add (ev_mulW (ev_mulW ev_var ev_var) ev_int) (ev_mulW ev_var ev_int))) (ev_add (ev_pow ev_int ev_int) ev_int)) (g_name (by decide)))
  (sv_stop (sv_ret (ev_mod (ev_call1 op_int (ev_fdiv ev_var ev_int)) ev_var))))))))))),
  law__law_draw T⟩)

--.

abbrev fitsS : List Str := ["first", "next", "best", "worst"]
abbrev ordS : List Str := ["address", "latest", "classes"]
abbrev merS : List Str := ["at once", "late"]
/-- which orders go with a fit -/
def foD : PyData → PyData → Bool
  | .str f, .str o => !((decide (f = "next") && !decide (o = "address")) || (decide (o = "classes") && !decide (f = "first")))
  | _, _ => false
def spD : PyData → PyData → Bool
  | .int p, .int s => decide (4 ≤ p ∧ p ≤ 64) && decide (p % s = 0)
  | _, _ => false
/-- whether any data is a rule -/
def isRuleD : PyData → Bool
  | .tuple [f, o, m, p, s] => isBetD 1 8 s && (isWordD fitsS f && (isWordD ordS o && (isWordD merS m && (foD f o && spD p s))))
  | _ => false
theorem tup5 {d : PyData} (h : isTupD 5 5 d = true) : ∃ a b c e f, d = .tuple [a, b, c, e, f] := by
  cases d with
  | tuple ds =>
    have h2 := of_decide_eq_true (show decide ((5 : Int) ≤ ds.length ∧ (ds.length : Int) ≤ 5) = true from h)
    match ds, h2 with
    | [a, b, c, e, f], _ => exact ⟨a, b, c, e, f, rfl⟩
    | [], h2 => exact absurd h2.1 (by decide)
    | [_], h2 => exact absurd h2.1 (by simp only [List.length_cons, List.length_nil]; omega)
    | [_, _], h2 => exact absurd h2.1 (by simp only [List.length_cons, List.length_nil]; omega)
    | [_, _, _], h2 => exact absurd h2.1 (by simp only [List.length_cons, List.length_nil]; omega)
    | [_, _, _, _], h2 => exact absurd h2.1 (by simp only [List.length_cons, List.length_nil]; omega)
    | _ :: _ :: _ :: _ :: _ :: _ :: _, h2 => exact absurd h2.2 (by simp only [List.length_cons]; omega)
  | _ => cases h
theorem rule_no {d : PyData} (h : isTupD 5 5 d = false) : isRuleD d = false := by
  unfold isRuleD
  split
  · rename_i a b c e f
    rw [show isTupD 5 5 (.tuple [a, b, c, e, f]) = true from rfl] at h
    cases h
  · rfl
theorem sh_strs (xs : List Str) (h : ∀ x ∈ xs, (PyData.str x).canLay0 = true) : SeqAt.shaped (.tuple (xs.map .str)) = true := shaped_of (lay_all.mpr fun d hd => by
  obtain ⟨x, hx, rfl⟩ := List.mem_map.mp hd
  exact h x hx) (by
  have := (dep_all (k := 0) (ds := xs.map .str)).mpr fun d hd => by obtain ⟨x, _, rfl⟩ := List.mem_map.mp hd; exact Nat.zero_le _
  show PyData.depthAll _ + 1 ≤ 64
  omega)
theorem lay_w {x : Str} (h : (x.cps.toList.all fun c => decide (c < 0x110000)) = true) : (PyData.str x).canLay0 = true := cp_lay.mpr fun c hc => of_decide_eq_true (List.all_eq_true.mp h c hc)
theorem lay_fits : ∀ x ∈ fitsS, (PyData.str x).canLay0 = true := fun x hx => by
  simp only [fitsS, List.mem_cons, List.not_mem_nil, or_false] at hx
  rcases hx with rfl | rfl | rfl | rfl <;> exact lay_w (by decide +kernel)
theorem lay_ord : ∀ x ∈ ordS, (PyData.str x).canLay0 = true := fun x hx => by
  simp only [ordS, List.mem_cons, List.not_mem_nil, or_false] at hx
  rcases hx with rfl | rfl | rfl <;> exact lay_w (by decide +kernel)
theorem lay_mer : ∀ x ∈ merS, (PyData.str x).canLay0 = true := fun x hx => by
  simp only [merS, List.mem_cons, List.not_mem_nil, or_false] at hx
  rcases hx with rfl | rfl <;> exact lay_w (by decide +kernel)
theorem foD_val {f o : Str} {b1 b2 b3 b4 : Bool} (h1 : decide (f = "next") = b1) (h2 : decide (o = "address") = b2) (h3 : decide (o = "classes") = b3) (h4 : decide (f = "first") = b4) : foD (.str f) (.str o) = !((b1 && !b2) || (b3 && !b4)) := by
  rw [← h1, ← h2, ← h3, ← h4]
  rfl
/-- return is_between(spare, LEAST, MOST_SPARE) and spare % step == 0 .. -/
def t_is_rule_8 (K : PySem.W.Frag) (a : Ad) : WS := (sRt (wAnd (wCall 3 0 (fun us _ => us) (W_is_between K a) (aCons (wVar 4) (aCons (wC (.int 4)) (aCons (wC (.int 64)) aNil))) aNil) (wEq false (wII CMod iMod (wVar 4) (wVar 5)) (wC (.int 0)))))
/-- if fit == 'next' and order != 'address' or (order == 'classes' and fit != 'first'): .. -/
def t_is_rule_6 (K : PySem.W.Frag) (a : Ad) : WS := (sSq (sIf (bOr (bAnd (bT (w2 (sEqT false) (wVar 1) (wC (.str "next")))) (bT (w2 (sEqT true) (wVar 2) (wC (.str "address"))))) (bAnd (bT (w2 (sEqT false) (wVar 2) (wC (.str "classes")))) (bT (w2 (sEqT true) (wVar 1) (wC (.str "first")))))) (sRt (wC (.bool false))) sNx) (sStop (t_is_rule_8 K a)))
/-- if not is_word(fit, FITS) or not is_word(order, ORDERS) or (not is_word(merge, MERGES)): .. -/
def t_is_rule_4 (K : PySem.W.Frag) (a : Ad) : WS := (sSq (sIf (bOr (bNot (bT (wCall 2 0 (fun us _ => us) (W_is_word K a) (aCons (wVar 1) (aCons (wC k_FITS) aNil)) aNil))) (bOr (bNot (bT (wCall 2 0 (fun us _ => us) (W_is_word K a) (aCons (wVar 2) (aCons (wC k_ORDERS) aNil)) aNil))) (bNot (bT (wCall 2 0 (fun us _ => us) (W_is_word K a) (aCons (wVar 3) (aCons (wC k_MERGES) aNil)) aNil))))) (sRt (wC (.bool false))) sNx) (sStop (t_is_rule_6 K a)))
/-- fit, order, merge, spare, step = value .. -/
def t_is_rule_3 (K : PySem.W.Frag) (a : Ad) : WS := (sSq (sAs (wVar 0) (gTp 5 (gCn (gN 1) (gCn (gN 2) (gCn (gN 3) (gCn (gN 4) (gCn (gN 5) gNl))))))) (sStop (t_is_rule_4 K a)))
def w_is_rule (K : PySem.W.Frag) (a : Ad) : WS := (sSq (sIf (bOr (bNot (bT (wCall 3 0 (fun us _ => us) (W_is_tuple K a) (aCons (wVar 0) (aCons (wC (.int 5)) (aCons (wC (.int 5)) aNil))) aNil))) (bNot (bT (wCall 3 0 (fun us _ => us) (W_is_between K a) (aCons (w2 sIx (wVar 0) (wC (.int 4))) (aCons (wC (.int 1)) (aCons (wC (.int 8)) aNil))) aNil)))) (sRt (wC (.bool false))) sNx) (t_is_rule_3 K a))

section
variable {K : PySem.W.Frag} {mg : Str → Option Value} {a : Ad} {Qx : Hz.WX} {post : T → Rho → Prop} {d p m : PyData} {f o : Str} {s : Int} {x1 x2 x3 x5 : Option T}
theorem rule8 (tx : Tx K mg a) (gp : Gd p) (s1 : 1 ≤ s) (hq : post (tBo (spD p (.int s))) [none]) :
    t_is_rule_8 K a (outO [] 1 post) Qx [some (.dat d), x1, x2, x3, some (.dat p), some (tI s)] := by
  cases e : isBetD 4 64 p with
  | false =>
    have e2 : spD p (.int s) = false := by
      cases p with
      | int i =>
        show (isBetD 4 64 (.int i) && _) = false
        rw [e]
        rfl
      | _ => rfl
    rw [e2] at hq
    walk_at "hs"
    exact hq
  | true =>
    cases p with
    | int i =>
      replace hq : post (tBo (isBetD 4 64 (.int i) && decide (i % s = 0))) [none] := hq
      rw [e, Bool.true_and] at hq
      walk_at "hs"
      rw [eqv_int]
      exact hq
    | _ => exact absurd e (by intro z; cases z)
theorem rule6 (tx : Tx K mg a) (gp : Gd p) (s1 : 1 ≤ s) (hq : post (tBo (foD (.str f) (.str o) && spD p (.int s))) [none]) :
    t_is_rule_6 K a (outO [] 1 post) Qx [some (.dat d), some (.dat (.str f)), some (.dat (.str o)), some (.dat m), some (.dat p), some (tI s)] := by
  have no : foD (.str f) (.str o) = false → post (tBo false) [none] := fun e => by rw [e, Bool.false_and] at hq; exact hq
  have ys : foD (.str f) (.str o) = true → t_is_rule_8 K a (outO [] 1 post) Qx [some (.dat d), some (.dat (.str f)), some (.dat (.str o)), some (.dat m), some (.dat p), some (tI s)] := fun e => by
    rw [e, Bool.true_and] at hq
    exact rule8 tx gp s1 hq
  have fin : ∀ b : Bool, foD (.str f) (.str o) = b → (b = false → post (tBo false) [none]) ∧ (b = true → t_is_rule_8 K a (outO [] 1 post) Qx [some (.dat d), some (.dat (.str f)), some (.dat (.str o)), some (.dat m), some (.dat p), some (tI s)]) := fun b e => ⟨fun z => no (e.trans z), fun z => ys (e.trans z)⟩
  clear no ys hq
  by_cases c1 : f = "next"
  · by_cases c2 : o = "address"
    · have c3 : ¬ o = "classes" := by rw [c2]; decide +kernel
      have z := (fin true (by rw [foD_val (decide_eq_true c1) (decide_eq_true c2) (decide_eq_false c3) rfl]; rfl)).2 rfl
      clear fin
      walk_at "hs"
      exact sNx_of ⟨z⟩
    · have z := (fin false (by rw [foD_val (decide_eq_true c1) (decide_eq_false c2) rfl rfl]; rfl)).1 rfl
      clear fin
      walk_at "hs"
      exact z
  · by_cases c3 : o = "classes"
    · by_cases c4 : f = "first"
      · have z := (fin true (by rw [foD_val (decide_eq_false c1) rfl (decide_eq_true c3) (decide_eq_true c4), Bool.false_and]; rfl)).2 rfl
        clear fin
        walk_at "hs"
        exact sNx_of ⟨z⟩
      · have z := (fin false (by rw [foD_val (decide_eq_false c1) rfl (decide_eq_true c3) (decide_eq_false c4), Bool.false_and]; rfl)).1 rfl
        clear fin
        walk_at "hs"
        exact z
    · have z := (fin true (by rw [foD_val (decide_eq_false c1) rfl (decide_eq_false c3) rfl, Bool.false_and, Bool.false_and]; rfl)).2 rfl
      clear fin
      walk_at "hs"
      exact sNx_of ⟨z⟩
theorem word_str {ws : List Str} {d : PyData} (h : isWordD ws d = true) : ∃ x, d = .str x := by
  cases d with
  | str x => exact ⟨x, rfl⟩
  | _ => cases h
theorem rule4 (tx : Tx K mg a) {f o : PyData} (gf : Gd f) (go : Gd o) (gm : Gd m) (gp : Gd p) (s1 : 1 ≤ s) (hq : post (tBo (isWordD fitsS f && (isWordD ordS o && (isWordD merS m && (foD f o && spD p (.int s)))))) [none]) :
    t_is_rule_4 K a (outO [] 1 post) Qx [some (.dat d), some (.dat f), some (.dat o), some (.dat m), some (.dat p), some (tI s)] := by
  have w1 := sh_strs fitsS lay_fits
  have w2 := sh_strs ordS lay_ord
  have w3 := sh_strs merS lay_mer
  have hF : ∀ f, [T.dat f, T.dat k_FITS] = [T.dat f, T.dat (.tuple (fitsS.map .str))] := fun f => rfl
  have hO : ∀ f, [T.dat f, T.dat k_ORDERS] = [T.dat f, T.dat (.tuple (ordS.map .str))] := fun f => rfl
  have hM : ∀ f, [T.dat f, T.dat k_MERGES] = [T.dat f, T.dat (.tuple (merS.map .str))] := fun f => rfl
  cases e1 : isWordD fitsS f with
  | false =>
    rw [e1, Bool.false_and] at hq
    walk_at "hs"
    refine And.intro (hF f) ?_
    walk_at "hs"
    exact hq
  | true =>
    rw [e1, Bool.true_and] at hq
    cases e2 : isWordD ordS o with
    | false =>
      rw [e2, Bool.false_and] at hq
      walk_at "hs"
      refine And.intro (hF f) ?_
      walk_at "hs"
      refine And.intro (hO o) ?_
      walk_at "hs"
      exact hq
    | true =>
      rw [e2, Bool.true_and] at hq
      cases e3 : isWordD merS m with
      | false =>
        rw [e3, Bool.false_and] at hq
        walk_at "hs"
        refine And.intro (hF f) ?_
        walk_at "hs"
        refine And.intro (hO o) ?_
        walk_at "hs"
        refine And.intro (hM m) ?_
        walk_at "hs"
        exact hq
      | true =>
        rw [e3, Bool.true_and] at hq
        obtain ⟨f, rfl⟩ := word_str e1
        obtain ⟨o, rfl⟩ := word_str e2
        have z := rule6 (Qx := Qx) (d := d) (m := m) tx gp s1 hq
        clear hq
        walk_at "hs"
        refine And.intro (hF _) ?_
        walk_at "hs"
        refine And.intro (hO _) ?_
        walk_at "hs"
        refine And.intro (hM _) ?_
        walk_at "hs"
        exact sNx_of ⟨z⟩
end
def W_is_rule (K : PySem.W.Frag) (a : Ad) : SpT := fun ts post ep => ts.length = 1 ∧ (∃ d : PyData, ts = [.dat d] ∧ Gd d ∧ post (tBo (isRuleD d)) [none])
theorem len_is_rule {K : PySem.W.Frag} {a : Ad} {ts : List T} {post : T → Rho → Prop} {ep : Addr → T → Rho → Prop} (h : W_is_rule K a ts post ep) : ts.length = 1 := h.1

theorem law_is_rule {K : PySem.W.Frag} {mg : Str → Option Value} {a : Ad} (tx : Tx K mg a) : ∀ ts post ep, W_is_rule K a ts post ep → ts.length = 1 → w_is_rule K a (outO [] 1 post) (outX [] 1 ep) (startT 6 ts) := by
  intro ts post ep hW hl
  replace hW := hW.2
  obtain ⟨d, rfl, gd, hq⟩ := hW
  cases h5 : isTupD 5 5 d with
  | false =>
    rw [rule_no h5] at hq
    walk_at "hs"
    exact hq
  | true =>
    obtain ⟨f, o, m, p, s, rfl⟩ := tup5 h5
    have gf := gd.tup f (by simp)
    have go := gd.tup o (by simp)
    have gm := gd.tup m (by simp)
    have gp := gd.tup p (by simp)
    have gs := gd.tup s (by simp)
    replace hq : post (tBo (isBetD 1 8 s && (isWordD fitsS f && (isWordD ordS o && (isWordD merS m && (foD f o && spD p s)))))) [none] := hq
    cases e : isBetD 1 8 s with
    | false =>
      rw [e, Bool.false_and] at hq
      walk_at "hs"
      exact hq
    | true =>
      rw [e, Bool.true_and] at hq
      cases s with
      | int s =>
        have hs : 1 ≤ s ∧ s ≤ 8 := of_decide_eq_true e
        have z := rule4 (Qx := outX [] 1 ep) (d := .tuple [f, o, m, p, .int s]) tx gf go gm gp hs.1 hq
        clear hq
        walk_at "hs"
        exact ⟨z⟩
      | _ => exact absurd e (by intro z; cases z)
theorem ok_is_rule {w : World} {K : PySem.W.Frag} {mg : Str → Option Value} {base : Heap} {a : Ad} (T : Tx K mg a) : FnG a.P w K mg base CX0 3 a.f_is_rule a.d_is_rule ["value"] (spT K wellO (W_is_rule K a)) :=
  fn_T [] T.F_is_rule sc_is_rule (fun ts post ep h => len_is_rule h) (fun cdv A outer s H E hr hg => ⟨_, w_is_rule K a,
  (pss_cons (ps_if (PW.pt (pw_or (pt_not (pt_val (pg_call (ok_is_tuple T) (by exact hr.mono (by decide)) (by exact hg) (by rfl) (by exact T.g_is_tuple) (by exact T.F_is_tuple.kp) T.b_is_tuple_3 passG (pa_cons (pv 0) (pa_cons pe_int (pa_cons pe_int pa_nil)))))) (pw_or1 (pt_not (pt_val (pg_call (ok_is_between T) (by exact hr.mono (by decide)) (by exact hg) (by rfl) (by exact T.g_is_between) (by exact T.F_is_between.kp) T.b_is_between_3 passG (pa_cons (pe_ix ix_seq (pv 0) pe_int (fun _ _ => rfl)) (pa_cons pe_int (pa_cons (pe_glob (v := .int 8) (by rfl) (by exact T.g_MOST_STEP) T.r_MOST_STEP) pa_nil))))))))) (pss_one (ps_ret pe_bl)) pss_nil)
  (pss_cons (ps_asg (pv 0) (pg_tup rfl (pgs_cons (pg_name (i := 1) sc_is_rule.nd rfl (Or.inl rfl)) (pgs_cons (pg_name (i := 2) sc_is_rule.nd rfl (Or.inl rfl)) (pgs_cons (pg_name (i := 3) sc_is_rule.nd rfl (Or.inl rfl)) (pgs_cons (pg_name (i := 4) sc_is_rule.nd rfl (Or.inl rfl)) (pgs_cons (pg_name (i := 5) sc_is_rule.nd rfl (Or.inl rfl)) pgs_nil)))))))
  (pss_cons (ps_if (PW.pt (pw_or (pt_not (pt_val (pg_call (ok_is_word T) (by exact hr.mono (by decide)) (by exact hg) (by rfl) (by exact T.g_is_word) (by exact T.F_is_word.kp) T.b_is_word_2 passG (pa_cons (pv 1) (pa_cons (pe_glob (v := .ref a.v_FITS) (by rfl) (by exact T.g_FITS) (rref _)) pa_nil))))) (pw_or (pt_not (pt_val (pg_call (ok_is_word T) (by exact hr.mono (by decide)) (by exact hg) (by rfl) (by exact T.g_is_word) (by exact T.F_is_word.kp) T.b_is_word_2 passG (pa_cons (pv 2) (pa_cons (pe_glob (v := .ref a.v_ORDERS) (by rfl) (by exact T.g_ORDERS) (rref _)) pa_nil))))) (pw_or1 (pt_not (pt_val (pg_call (ok_is_word T) (by exact hr.mono (by decide)) (by exact hg) (by rfl) (by exact T.g_is_word) (by exact T.F_is_word.kp) T.b_is_word_2 passG (pa_cons (pv 3) (pa_cons (pe_glob (v := .ref a.v_MERGES) (by rfl) (by exact T.g_MERGES) (rref _)) pa_nil))))))))) (pss_one (ps_ret pe_bl)) pss_nil)
  (pss_cons (ps_if (PW.pt (pw_or (PW.pt (pw_and (pt_cmpR op_eq (pv 1) pe_str (nomark _)) (pw_and1 (pt_cmpR op_ne (pv 2) pe_str (nomark _))))) (pw_or1 (PW.pt (pw_and (pt_cmpR op_eq (pv 2) pe_str (nomark _)) (pw_and1 (pt_cmpR op_ne (pv 1) pe_str (nomark _)))))))) (pss_one (ps_ret pe_bl)) pss_nil)
  (pss_one (ps_ret (pe_and (pg_call (ok_is_between T) (by exact hr.mono (by decide)) (by exact hg) (by rfl) (by exact T.g_is_between) (by exact T.F_is_between.kp) T.b_is_between_3 passG (pa_cons (pv 4) (pa_cons (pe_glob (v := .int 4) (by rfl) (by exact T.g_LEAST) T.r_LEAST) (pa_cons (pe_glob (v := .int 64) (by rfl) (by exact T.g_MOST_SPARE) T.r_MOST_SPARE) pa_nil)))) (pe_one (pe_cmpR (op_eqD (by exact room64 hr)) (pe_op op_mod (pv 4) (pv 5)) pe_int (nomark _)))))))))),
  (sv_seq (sv_if (et_or (et_not (et_B (ev_call (Wf := (W_is_tuple K a)) (n := 3) (m := 0) mk_pos (ea_cons ev_var (ea_cons ev_int (ea_cons ev_int ea_nil))) ea_nil))) (et_not (et_B (ev_call (Wf := (W_is_between K a)) (n := 3) (m := 0) mk_pos (ea_cons (ev_op2 op_ix ev_var ev_int) (ea_cons ev_int (ea_cons (ev_c (fun _ => .int 8)) ea_nil))) ea_nil)))) (sv_ret ev_bl) sv_next)
  (sv_seq (sv_asg ev_var (g_tup (g_cons (g_name (by decide)) (g_cons (g_name (by decide)) (g_cons (g_name (by decide)) (g_cons (g_name (by decide)) (g_cons (g_name (by decide)) g_nil)))))))
  (sv_stop (sv_seq (sv_if (et_or (et_not (et_B (ev_call (Wf := (W_is_word K a)) (n := 2) (m := 0) mk_pos (ea_cons ev_var (ea_cons (ev_c T.k_FITS) ea_nil)) ea_nil))) (et_or (et_not (et_B (ev_call (Wf := (W_is_word K a)) (n := 2) (m := 0) mk_pos (ea_cons ev_var (ea_cons (ev_c T.k_ORDERS) ea_nil)) ea_nil))) (et_not (et_B (ev_call (Wf := (W_is_word K a)) (n := 2) (m := 0) mk_pos (ea_cons ev_var (ea_cons (ev_c T.k_MERGES) ea_nil)) ea_nil))))) (sv_ret ev_bl) sv_next)
  (sv_stop (sv_seq (sv_if (et_or (et_and (et_test (ev_eqT ev_var ev_str)) (et_test (ev_neT ev_var ev_str))) (et_and (et_test (ev_eqT ev_var ev_str)) (et_test (ev_neT ev_var ev_str)))) (sv_ret ev_bl) sv_next)
  (sv_stop (sv_ret (ev_and (ev_call (Wf := (W_is_between K a)) (n := 3) (m := 0) mk_pos (ea_cons ev_var (ea_cons (ev_c (fun _ => .int 4)) (ea_cons (ev_c (fun _ => .int 64)) ea_nil))) ea_nil) (ev_eq (ev_mod ev_var ev_var) ev_int)))))))))),
  law_is_rule T⟩)

--.

abbrev ruT (f o m : Str) (p s : Int) : PyData := .tuple [.str f, .str o, .str m, .int p, .int s]
structure RuOk (f o m : Str) (p s : Int) : Prop where
  r : isRuleD (ruT f o m p s) = true
  s1 : 1 ≤ s
  s8 : s ≤ 8
theorem rule_ok {d : PyData} (h : isRuleD d = true) : ∃ f o m p s, d = ruT f o m p s ∧ RuOk f o m p s := by
  have h0 := h
  unfold isRuleD at h
  split at h
  · rename_i f o m p s
    simp only [Bool.and_eq_true] at h
    obtain ⟨h1, h2, h3, h4, h5, h6⟩ := h
    obtain ⟨f, rfl⟩ := word_str h2
    obtain ⟨o, rfl⟩ := word_str h3
    obtain ⟨m, rfl⟩ := word_str h4
    cases s with
    | int s =>
      cases p with
      | int p =>
        have := of_decide_eq_true (show decide (1 ≤ s ∧ s ≤ 8) = true from h1)
        exact ⟨f, o, m, p, s, rfl, h0, this.1, this.2⟩
      | _ => exact absurd h6 (by intro z; cases z)
    | _ => exact absurd h1 (by intro z; cases z)
  · cases h
def W_need_number (K : PySem.W.Frag) (a : Ad) : SpT := fun ts post ep => ts.length = 3 ∧ (∃ n : Int, ts = [tI n, tI 1, tN] ∧ ((1 ≤ n ∧ post tN [none, none, none]) ∨ (n < 1 ∧ ep a.C_InvalidNumber (.dat (.int n)) [none, none, none])))
theorem len_need_number {K : PySem.W.Frag} {a : Ad} {ts : List T} {post : T → Rho → Prop} {ep : Addr → T → Rho → Prop} (h : W_need_number K a ts post ep) : ts.length = 3 := h.1

def w_need_number (K : PySem.W.Frag) (a : Ad) : WS := (sIf (bOr (bT (wII0 bLt (wVar 0) (wVar 1))) (bAnd (bT (wIsN true (wVar 2))) (bT (wII0 bGt (wVar 0) (wVar 2))))) (sRaise a.C_InvalidNumber (wVar 0)) sNx)

theorem law_need_number {K : PySem.W.Frag} {mg : Str → Option Value} {a : Ad} (tx : Tx K mg a) : ∀ ts post ep, W_need_number K a ts post ep → ts.length = 3 → w_need_number K a (outO [] 3 post) (outX [] 3 ep) (startT 3 ts) := by
  intro ts post ep hW hl
  replace hW := hW.2
  obtain ⟨n, rfl, ⟨h1, hq⟩ | ⟨h1, hq⟩⟩ := hW
  · walk_at "hs"
    exact hq
  · walk_at "hs"
    exact hq
theorem ok_need_number {w : World} {K : PySem.W.Frag} {mg : Str → Option Value} {base : Heap} {a : Ad} (T : Tx K mg a) : FnG a.P w K mg base (L2.CX a.P w) 1 a.f_need_number a.d_need_number ["number", "low", "high"] (spT K wellO (W_need_number K a)) :=
  fn_TX [] T.F_need_number sc_need_number (fun ts post ep h => len_need_number h) (fun cdv A outer s H E hr hg => ⟨_, w_need_number K a,
  (pss_one (ps_if (PW.pt (pw_or (pt_cmpR op_lt (pv 0) (pv 1) (nomark _)) (pw_or1 (PW.pt (pw_and (pt_cmp (pc_notN (pv 2))) (pw_and1 (pt_cmpR op_gt (pv 0) (pv 2) (nomark _)))))))) (pss_one (ps_raiseErr rfl T.e_InvalidNumber (by exact T.g_InvalidNumber) (by exact T.z_super) (by exact hr) (takes_of rfl rfl rfl rfl) (pa_cons (pv 0) pa_nil))) pss_nil)),
  (sv_if (et_or (et_test (ev_lt ev_var ev_var)) (et_and (et_B (ev_notN ev_var)) (et_test (ev_gt ev_var ev_var)))) (sv_raise ev_var) sv_next),
  law_need_number T⟩)

def W_need_rule (K : PySem.W.Frag) (a : Ad) : SpT := fun ts post ep => ts.length = 1 ∧ (∃ d : PyData, ts = [.dat d] ∧ Gd d ∧ ((isRuleD d = true ∧ post tN [none]) ∨ (isRuleD d = false ∧ AnB 6 d ∧ ep a.C_InvalidRule (.dat d) [none])))
theorem len_need_rule {K : PySem.W.Frag} {a : Ad} {ts : List T} {post : T → Rho → Prop} {ep : Addr → T → Rho → Prop} (h : W_need_rule K a ts post ep) : ts.length = 1 := h.1

def w_need_rule (K : PySem.W.Frag) (a : Ad) : WS := (sIf (bNot (bT (wCall 1 0 (fun us _ => us) (W_is_rule K a) (aCons (wVar 0) aNil) aNil))) (sRaise a.C_InvalidRule (wCall 1 0 (fun us _ => us) (W_anew K a 6) (aCons (wVar 0) aNil) aNil)) sNx)

theorem law_need_rule {K : PySem.W.Frag} {mg : Str → Option Value} {a : Ad} (tx : Tx K mg a) : ∀ ts post ep, W_need_rule K a ts post ep → ts.length = 1 → w_need_rule K a (outO [] 1 post) (outX [] 1 ep) (startT 1 ts) := by
  intro ts post ep hW hl
  replace hW := hW.2
  obtain ⟨d, rfl, gd, ⟨h1, hq⟩ | ⟨h1, ha, hq⟩⟩ := hW
  · walk_at "hs"
    exact sNx_of hq
  · walk_at "hs"
    exact hq
theorem ok_need_rule {w : World} {K : PySem.W.Frag} {mg : Str → Option Value} {base : Heap} {a : Ad} (T : Tx K mg a) : FnG a.P w K mg base (L2.CX a.P w) 8 a.f_need_rule a.d_need_rule ["rule"] (spT K wellO (W_need_rule K a)) :=
  fn_TX [] T.F_need_rule sc_need_rule (fun ts post ep h => len_need_rule h) (fun cdv A outer s H E hr hg => ⟨_, w_need_rule K a,
  (pss_one (ps_if (pt_not (pt_val (pg_call (ok_is_rule T) (by exact hr.mono (by decide)) (by exact hg) (by rfl) (by exact T.g_is_rule) (by exact T.F_is_rule.kp) T.b_is_rule_1 passG (pa_cons (pv 0) pa_nil)))) (pss_one (ps_raiseErr rfl T.e_InvalidRule (by exact T.g_InvalidRule) (by exact T.z_super) (by exact hr) (takes_of rfl rfl rfl rfl) (pa_cons (pg_call (ok_anew 6 T) (by exact hr.mono (by decide)) (by exact hg) (by rfl) (by exact T.g_anew) (by exact T.F_anew.kp) T.b_anew_1 passG (pa_cons (pv 0) pa_nil)) pa_nil))) pss_nil)),
  (sv_if (et_not (et_B (ev_call (Wf := (W_is_rule K a)) (n := 1) (m := 0) mk_pos (ea_cons ev_var ea_nil) ea_nil))) (sv_raise (ev_call (Wf := (W_anew K a 6)) (n := 1) (m := 0) mk_pos (ea_cons ev_var ea_nil) ea_nil)) sv_next),
  law_need_rule T⟩)

def W_need_size (K : PySem.W.Frag) (a : Ad) : SpT := fun ts post ep => ts.length = 1 ∧ (∃ d : PyData, ts = [.dat d] ∧ Gd d ∧ ((isBetD 32 4000 d = true ∧ post tN [none]) ∨ (isBetD 32 4000 d = false ∧ AnB 6 d ∧ ep a.C_InvalidSize (.dat d) [none])))
theorem len_need_size {K : PySem.W.Frag} {a : Ad} {ts : List T} {post : T → Rho → Prop} {ep : Addr → T → Rho → Prop} (h : W_need_size K a ts post ep) : ts.length = 1 := h.1

def w_need_size (K : PySem.W.Frag) (a : Ad) : WS := (sIf (bNot (bT (wCall 3 0 (fun us _ => us) (W_is_between K a) (aCons (wVar 0) (aCons (wC (.int 32)) (aCons (wC (.int 4000)) aNil))) aNil))) (sRaise a.C_InvalidSize (wCall 1 0 (fun us _ => us) (W_anew K a 6) (aCons (wVar 0) aNil) aNil)) sNx)

theorem law_need_size {K : PySem.W.Frag} {mg : Str → Option Value} {a : Ad} (tx : Tx K mg a) : ∀ ts post ep, W_need_size K a ts post ep → ts.length = 1 → w_need_size K a (outO [] 1 post) (outX [] 1 ep) (startT 1 ts) := by
  intro ts post ep hW hl
  replace hW := hW.2
  obtain ⟨d, rfl, gd, ⟨h1, hq⟩ | ⟨h1, ha, hq⟩⟩ := hW
  · walk_at "hs"
    exact sNx_of hq
  · walk_at "hs"
    exact hq
theorem ok_need_size {w : World} {K : PySem.W.Frag} {mg : Str → Option Value} {base : Heap} {a : Ad} (T : Tx K mg a) : FnG a.P w K mg base (L2.CX a.P w) 8 a.f_need_size a.d_need_size ["size"] (spT K wellO (W_need_size K a)) :=
  fn_TX [] T.F_need_size sc_need_size (fun ts post ep h => len_need_size h) (fun cdv A outer s H E hr hg => ⟨_, w_need_size K a,
  (pss_one (ps_if (pt_not (pt_val (pg_call (ok_is_between T) (by exact hr.mono (by decide)) (by exact hg) (by rfl) (by exact T.g_is_between) (by exact T.F_is_between.kp) T.b_is_between_3 passG (pa_cons (pv 0) (pa_cons (pe_glob (v := .int 32) (by rfl) (by exact T.g_LEAST_SIZE) T.r_LEAST_SIZE) (pa_cons (pe_glob (v := .int 4000) (by rfl) (by exact T.g_MOST_SIZE) T.r_MOST_SIZE) pa_nil)))))) (pss_one (ps_raiseErr rfl T.e_InvalidSize (by exact T.g_InvalidSize) (by exact T.z_super) (by exact hr) (takes_of rfl rfl rfl rfl) (pa_cons (pg_call (ok_anew 6 T) (by exact hr.mono (by decide)) (by exact hg) (by rfl) (by exact T.g_anew) (by exact T.F_anew.kp) T.b_anew_1 passG (pa_cons (pv 0) pa_nil)) pa_nil))) pss_nil)),
  (sv_if (et_not (et_B (ev_call (Wf := (W_is_between K a)) (n := 3) (m := 0) mk_pos (ea_cons ev_var (ea_cons (ev_c (fun _ => .int 32)) (ea_cons (ev_c (fun _ => .int 4000)) ea_nil))) ea_nil))) (sv_raise (ev_call (Wf := (W_anew K a 6)) (n := 1) (m := 0) mk_pos (ea_cons ev_var ea_nil) ea_nil)) sv_next),
  law_need_size T⟩)

--.
/-- a size and a rule: the size wrong, the rule wrong, or both right -/
def BothW (IS IR : Addr) (e : Addr → T → Prop) (g : Int → Str → Str → Str → Int → Int → Prop) (z d : PyData) : Prop :=
  (isBetD 32 4000 z = false ∧ AnB 6 z ∧ e IS (.dat z)) ∨ (isBetD 32 4000 z = true ∧ isRuleD d = false ∧ AnB 6 d ∧ e IR (.dat d)) ∨ ∃ n f o m p s, z = .int n ∧ 32 ≤ n ∧ n ≤ 4000 ∧ d = ruT f o m p s ∧ RuOk f o m p s ∧ g n f o m p s
theorem BothW.mono {IS IR : Addr} {e e' : Addr → T → Prop} {g g' : Int → Str → Str → Str → Int → Int → Prop} {z d : PyData} (h : BothW IS IR e g z d) (h1 : ∀ C t, e C t → e' C t) (h2 : ∀ n f o m p s, z = .int n → 32 ≤ n → n ≤ 4000 → d = ruT f o m p s → RuOk f o m p s → g n f o m p s → g' n f o m p s) : BothW IS IR e' g' z d := by
  rcases h with ⟨a1, a2, a3⟩ | ⟨a1, a2, a3, a4⟩ | ⟨n, f, o, m, p, s, a1, a2, a3, a4, a5, a6⟩
  · exact .inl ⟨a1, a2, h1 _ _ a3⟩
  · exact .inr (.inl ⟨a1, a2, a3, h1 _ _ a4⟩)
  · exact .inr (.inr ⟨n, f, o, m, p, s, a1, a2, a3, a4, a5, h2 _ _ _ _ _ _ a1 a2 a3 a4 a5 a6⟩)
def W_need_both (K : PySem.W.Frag) (a : Ad) : SpT := fun ts post ep => ts.length = 2 ∧ (∃ z d : PyData, ts = [.dat z, .dat d] ∧ Gd z ∧ Gd d ∧ BothW a.C_InvalidSize a.C_InvalidRule (fun C t => ep C t [none, none]) (fun _ _ _ _ _ _ => post tN [none, none]) z d)
theorem len_need_both {K : PySem.W.Frag} {a : Ad} {ts : List T} {post : T → Rho → Prop} {ep : Addr → T → Rho → Prop} (h : W_need_both K a ts post ep) : ts.length = 2 := h.1
/-- need_rule(rule) .. -/
def t_need_both_2 (K : PySem.W.Frag) (a : Ad) : WS := (sDr (wCall 1 0 (fun us _ => us) (W_need_rule K a) (aCons (wVar 1) aNil) aNil))
def w_need_both (K : PySem.W.Frag) (a : Ad) : WS := (sSq (sDr (wCall 1 0 (fun us _ => us) (W_need_size K a) (aCons (wVar 0) aNil) aNil)) (t_need_both_2 K a))

theorem law_need_both {K : PySem.W.Frag} {mg : Str → Option Value} {a : Ad} (tx : Tx K mg a) : ∀ ts post ep, W_need_both K a ts post ep → ts.length = 2 → w_need_both K a (outO [] 2 post) (outX [] 2 ep) (startT 2 ts) := by
  intro ts post ep hW hl
  replace hW := hW.2
  obtain ⟨z, d, rfl, gz, gd, ⟨a1, a2, a3⟩ | ⟨a1, a2, a3, a4⟩ | ⟨n, f, o, m, p, s, rfl, a2, a3, rfl, a5, a6⟩⟩ := hW
  · walk_at "hs"
    refine .inr ⟨a1, a2, ?_⟩
    exact fun _ => a3
  · walk_at "hs"
    refine .inl ⟨a1, ?_⟩
    walk_at "hs"
    refine .inr ⟨a2, a3, ?_⟩
    exact fun _ => a4
  · walk_at "hs"
    refine .inl ⟨decide_eq_true ⟨a2, a3⟩, ?_⟩
    walk_at "hs"
    refine .inl ⟨a5.r, ?_⟩
    walk_at "hs"
    exact a6
theorem ok_need_both {w : World} {K : PySem.W.Frag} {mg : Str → Option Value} {base : Heap} {a : Ad} (T : Tx K mg a) : FnG a.P w K mg base (L2.CX a.P w) 9 a.f_need_both a.d_need_both ["size", "rule"] (spT K wellO (W_need_both K a)) :=
  fn_TX [] T.F_need_both sc_need_both (fun ts post ep h => len_need_both h) (fun cdv A outer s H E hr hg => ⟨_, w_need_both K a,
  (pss_cons (ps_expr (pg_call (ok_need_size T) (by exact hr.mono (by decide)) (by exact hg) (by rfl) (by exact T.g_need_size) (by exact T.F_need_size.kp) T.b_need_size_1 (fun σ => passAt (takes_of rfl rfl rfl rfl) σ) (pa_cons (pv 0) pa_nil)))
  (pss_one (ps_expr (pg_call (ok_need_rule T) (by exact hr.mono (by decide)) (by exact hg) (by rfl) (by exact T.g_need_rule) (by exact T.F_need_rule.kp) T.b_need_rule_1 (fun σ => passAt (takes_of rfl rfl rfl rfl) σ) (pa_cons (pv 1) pa_nil))))),
  (sv_seq (sv_drop (ev_call (Wf := (W_need_size K a)) (n := 1) (m := 0) mk_pos (ea_cons ev_var ea_nil) ea_nil))
  (sv_drop (ev_call (Wf := (W_need_rule K a)) (n := 1) (m := 0) mk_pos (ea_cons ev_var ea_nil) ea_nil))),
  law_need_both T⟩)

--.
def cellsF (s k : Int) : Int := -((-if k + 2 > 4 then k + 2 else 4) / s) * s
def W_cells_for (K : PySem.W.Frag) (a : Ad) : SpT := fun ts post ep => ts.length = 2 ∧ (∃ (f o m : Str) (p s k : Int), ts = [.dat (ruT f o m p s), tI k] ∧ 1 ≤ s ∧ s ≤ 8 ∧ post (tI (cellsF s k)) [none, none])
theorem len_cells_for {K : PySem.W.Frag} {a : Ad} {ts : List T} {post : T → Rho → Prop} {ep : Addr → T → Rho → Prop} (h : W_cells_for K a ts post ep) : ts.length = 2 := h.1
/-- return -(-max(LEAST, k + 2) // step) * step .. -/
def t_cells_for_2 (K : PySem.W.Frag) (a : Ad) : WS := (sRt (wII CMul iMul (wU iNeg (wII CDiv iDiv (wU iNeg (w2 (sII iMax) (wC (.int 4)) (wII0 iAdd (wVar 1) (wC (.int 2))))) (wVar 2))) (wVar 2)))
def w_cells_for (K : PySem.W.Frag) (a : Ad) : WS := (sSq (sAs (w2 sIx (wVar 0) (wC (.int 4))) (gN 2)) (t_cells_for_2 K a))

theorem law_cells_for {K : PySem.W.Frag} {mg : Str → Option Value} {a : Ad} (tx : Tx K mg a) : ∀ ts post ep, W_cells_for K a ts post ep → ts.length = 2 → w_cells_for K a (outO [] 2 post) (outX [] 2 ep) (startT 3 ts) := by
  intro ts post ep hW hl
  replace hW := hW.2
  obtain ⟨f, o, m, p, s, k, rfl, s1, s8, hq⟩ := hW
  walk_at "hs"
  exact hq
theorem ok_cells_for {w : World} {K : PySem.W.Frag} {mg : Str → Option Value} {base : Heap} {a : Ad} (T : Tx K mg a) : FnG a.P w K mg base CX0 1 a.f_cells_for a.d_cells_for ["rule", "k"] (spT K wellO (W_cells_for K a)) :=
  fn_T [] T.F_cells_for sc_cells_for (fun ts post ep h => len_cells_for h) (fun cdv A outer s H E hr hg => ⟨_, w_cells_for K a,
  (pss_cons (ps_set (i := 2) sc_cells_for.nd rfl (Or.inl rfl) (pe_ix ix_seq (pv 0) pe_int (fun _ _ => rfl)))
  (pss_one (ps_ret (pe_op op_mul (pe_un un_neg (pe_op op_fdiv (pe_un un_neg (pe_callB (call_max2 rfl) (by rfl) (by exact T.z_max) bt_max (pa_cons (pe_glob (v := .int 4) (by rfl) (by exact T.g_LEAST) T.r_LEAST) (pa_cons (pe_op op_add (pv 1) pe_int) pa_nil)))) (pv 2))) (pv 2))))),
  (sv_seq (sv_asg (ev_op2 op_ix ev_var ev_int) (g_name (by decide)))
  (sv_ret (ev_mul (ev_neg (ev_fdiv (ev_neg (ev_call2 op_max2 (ev_c (fun _ => .int 4)) (ev_add ev_var ev_int))) ev_var)) ev_var))),
  law_cells_for T⟩)

--.
def clsF : Nat → Int → Int
  | 0, _ => 0
  | f + 1, n => if 8 ≤ n then clsF f (n / 2) + 1 else 0
def W_class_of (K : PySem.W.Frag) (a : Ad) : SpT := fun ts post ep => ts.length = 1 ∧ (∃ n : Int, ts = [tI n] ∧ 0 ≤ n ∧ n ≤ 4000 ∧ post (tI (clsF 20 n)) [none])
theorem len_class_of {K : PySem.W.Frag} {a : Ad} {ts : List T} {post : T → Rho → Prop} {ep : Addr → T → Rho → Prop} (h : W_class_of K a ts post ep) : ts.length = 1 := h.1
/-- found += 1 .. -/
def t_class_of_4 (K : PySem.W.Frag) (a : Ad) : WS := (sAugI 1 HAdd.hAdd (wC (.int 1)))
/-- return found .. -/
def t_class_of_5 (K : PySem.W.Frag) (a : Ad) : WS := (sRt (wVar 1))
/-- while cells >= 2 * LEAST: .. -/
def t_class_of_2 (K : PySem.W.Frag) (a : Ad) : WS := (sSq (sWh (bT (wII0 bGe (wVar 0) (wII CMul iMul (wC (.int 2)) (wC (.int 4))))) (sSq (sAugC 0 CDiv (fun i j => i / j) (wC (.int 2))) (t_class_of_4 K a))) (t_class_of_5 K a))
def w_class_of (K : PySem.W.Frag) (a : Ad) : WS := (sSq (sAs (wC (.int 0)) (gN 1)) (t_class_of_2 K a))

theorem law_class_of {K : PySem.W.Frag} {mg : Str → Option Value} {a : Ad} (tx : Tx K mg a) : ∀ ts post ep, W_class_of K a ts post ep → ts.length = 1 → w_class_of K a (outO [] 1 post) (outX [] 1 ep) (startT 2 ts) := by
  intro ts post ep hW hl
  replace hW := hW.2
  obtain ⟨n, rfl, n0, n1, hq⟩ := hW
  walk_at "hs"
  refine ⟨OnR [0, 1] (fun m vs => ∃ n' c : Int, vs = [some (tI n'), some (tI c)] ∧ clsF m n' + c = clsF 20 n ∧ 0 ≤ n' ∧ n' < 8 * 2 ^ m) _, ⟨20, onRm 20 ⟨n, 0, rfl, by omega, n0, by omega⟩ rfl⟩, ?_⟩
  rintro m ρ ⟨_, ⟨n', c, rfl, h1, h2, h3⟩, rfl⟩
  by_cases c8 : 8 ≤ n'
  · obtain _ | m := m
    · omega
    · have e : clsF (m + 1) n' = clsF m (n' / 2) + 1 := if_pos c8
      rw [e] at h1
      have h4 : n' / 2 < 8 * 2 ^ m := by
        rw [Int.pow_succ] at h3
        omega
      walk_at "hs"
      exact ⟨m, Nat.lt_succ_self m, _, ⟨_, _, rfl, by omega, by omega, h4⟩, rfl⟩
  · have e : clsF m n' = 0 := by
      cases m with
      | zero => rfl
      | succ m => exact if_neg c8
    rw [e, Int.zero_add] at h1
    rw [← h1] at hq
    walk_at "hs"
    exact hq
theorem ok_class_of {w : World} {K : PySem.W.Frag} {mg : Str → Option Value} {base : Heap} {a : Ad} (T : Tx K mg a) : FnG a.P w K mg base CX0 1 a.f_class_of a.d_class_of ["cells"] (spT K wellO (W_class_of K a)) :=
  fn_T [] T.F_class_of sc_class_of (fun ts post ep h => len_class_of h) (fun cdv A outer s H E hr hg => ⟨_, w_class_of K a,
  (pss_cons (ps_set (i := 1) sc_class_of.nd rfl (Or.inl rfl) pe_int)
  (pss_cons (ps_while PassesOwn.never (pt_cmpR op_ge (pv 0) (pe_op op_mul pe_int (pe_glob (v := .int 4) (by rfl) (by exact T.g_LEAST) T.r_LEAST)) (nomark _)) (pss_cons (ps_aug (i := 0) sc_class_of.nd rfl (Or.inl rfl) pe_int ip_fdiv)
  (pss_one (ps_aug (i := 1) sc_class_of.nd rfl (Or.inl rfl) pe_int ip_add))))
  (pss_one (ps_ret (pv 1))))),
  (sv_seq (sv_asg ev_int (g_name (by decide)))
  (sv_seq (sv_while (et_test (ev_ge ev_var (ev_mul ev_int (ev_c (fun _ => .int 4))))) (sv_seq (sv_augC (by decide) ev_int)
  (sv_augI (by decide) ev_int)))
  (sv_ret ev_var))),
  law_class_of T⟩)

--.
def listsF (n : Int) (o : Str) : Int := if o = "classes" then clsF 20 n + 1 else 1
def W_lists_for (K : PySem.W.Frag) (a : Ad) : SpT := fun ts post ep => ts.length = 2 ∧ (∃ (n : Int) (f o m : Str) (p s : Int), ts = [tI n, .dat (ruT f o m p s)] ∧ 0 ≤ n ∧ n ≤ 4000 ∧ post (tI (listsF n o)) [none, none])
theorem len_lists_for {K : PySem.W.Frag} {a : Ad} {ts : List T} {post : T → Rho → Prop} {ep : Addr → T → Rho → Prop} (h : W_lists_for K a ts post ep) : ts.length = 2 := h.1

def w_lists_for (K : PySem.W.Frag) (a : Ad) : WS := (sRt (wIf (bT (w2 (sEqT false) (w2 sIx (wVar 1) (wC (.int 1))) (wC (.str "classes")))) (wII0 iAdd (wCall 1 0 (fun us _ => us) (W_class_of K a) (aCons (wVar 0) aNil) aNil) (wC (.int 1))) (wC (.int 1))))

theorem law_lists_for {K : PySem.W.Frag} {mg : Str → Option Value} {a : Ad} (tx : Tx K mg a) : ∀ ts post ep, W_lists_for K a ts post ep → ts.length = 2 → w_lists_for K a (outO [] 2 post) (outX [] 2 ep) (startT 2 ts) := by
  intro ts post ep hW hl
  replace hW := hW.2
  obtain ⟨n, f, o, m, p, s, rfl, n0, n1, hq⟩ := hW
  by_cases c : o = "classes"
  · rw [show listsF n o = clsF 20 n + 1 from if_pos c] at hq
    walk_at "hs"
    exact hq
  · rw [show listsF n o = 1 from if_neg c] at hq
    walk_at "hs"
    exact hq
theorem ok_lists_for {w : World} {K : PySem.W.Frag} {mg : Str → Option Value} {base : Heap} {a : Ad} (T : Tx K mg a) : FnG a.P w K mg base CX0 2 a.f_lists_for a.d_lists_for ["size", "rule"] (spT K wellO (W_lists_for K a)) :=
  fn_T [] T.F_lists_for sc_lists_for (fun ts post ep h => len_lists_for h) (fun cdv A outer s H E hr hg => ⟨_, w_lists_for K a,
  (pss_one (ps_ret (pe_ifExp (pt_cmpR op_eq (pe_ix ix_seq (pv 1) pe_int (fun _ _ => rfl)) pe_str (nomark _)) (pe_op op_add (pg_call (ok_class_of T) (by exact hr.mono (by decide)) (by exact hg) (by rfl) (by exact T.g_class_of) (by exact T.F_class_of.kp) T.b_class_of_1 passG (pa_cons (pv 0) pa_nil)) pe_int) pe_int))),
  (sv_ret (ev_if (et_test (ev_eqT (ev_op2 op_ix ev_var ev_int) ev_str)) (ev_add (ev_call (Wf := (W_class_of K a)) (n := 1) (m := 0) mk_pos (ea_cons ev_var ea_nil) ea_nil) ev_int) ev_int)),
  law_lists_for T⟩)

--.
abbrev regD (n : Int) (o : Str) (s : Int) : PyData := .tuple [.int (1 + listsF n o), .int (1 + listsF n o + (n - (1 + listsF n o)) / s * s)]
def W_region_of (K : PySem.W.Frag) (a : Ad) : SpT := fun ts post ep => ts.length = 2 ∧ (∃ (n : Int) (f o m : Str) (p s : Int), ts = [tI n, .dat (ruT f o m p s)] ∧ 0 ≤ n ∧ n ≤ 4000 ∧ 1 ≤ s ∧ s ≤ 8 ∧ post (.dat (regD n o s)) [none, none])
theorem len_region_of {K : PySem.W.Frag} {a : Ad} {ts : List T} {post : T → Rho → Prop} {ep : Addr → T → Rho → Prop} (h : W_region_of K a ts post ep) : ts.length = 2 := h.1
/-- return (begin, begin + (size - begin) // rule[4] * rule[4]) .. -/
def t_region_of_2 (K : PySem.W.Frag) (a : Ad) : WS := (sRt (wTup (aCons (wVar 2) (aCons (wII0 iAdd (wVar 2) (wII CMul iMul (wII CDiv iDiv (wII0 iSub (wVar 0) (wVar 2)) (w2 sIx (wVar 1) (wC (.int 4)))) (w2 sIx (wVar 1) (wC (.int 4))))) aNil))))
def w_region_of (K : PySem.W.Frag) (a : Ad) : WS := (sSq (sAs (wII0 iAdd (wC (.int 1)) (wCall 2 0 (fun us _ => us) (W_lists_for K a) (aCons (wVar 0) (aCons (wVar 1) aNil)) aNil)) (gN 2)) (t_region_of_2 K a))

theorem law_region_of {K : PySem.W.Frag} {mg : Str → Option Value} {a : Ad} (tx : Tx K mg a) : ∀ ts post ep, W_region_of K a ts post ep → ts.length = 2 → w_region_of K a (outO [] 2 post) (outX [] 2 ep) (startT 3 ts) := by
  intro ts post ep hW hl
  replace hW := hW.2
  obtain ⟨n, f, o, m, p, s, rfl, n0, n1, s1, s8, hq⟩ := hW
  walk_at "hs"
  exact hq
theorem ok_region_of {w : World} {K : PySem.W.Frag} {mg : Str → Option Value} {base : Heap} {a : Ad} (T : Tx K mg a) : FnG a.P w K mg base CX0 3 a.f_region_of a.d_region_of ["size", "rule"] (spT K wellO (W_region_of K a)) :=
  fn_T [] T.F_region_of sc_region_of (fun ts post ep h => len_region_of h) (fun cdv A outer s H E hr hg => ⟨_, w_region_of K a,
  (pss_cons (ps_set (i := 2) sc_region_of.nd rfl (Or.inl rfl) (pe_op op_add pe_int (pg_call (ok_lists_for T) (by exact hr.mono (by decide)) (by exact hg) (by rfl) (by exact T.g_lists_for) (by exact T.F_lists_for.kp) T.b_lists_for_2 passG (pa_cons (pv 0) (pa_cons (pv 1) pa_nil)))))
  (pss_one (ps_ret (pe_tup (pa_cons (pv 2) (pa_cons (pe_op op_add (pv 2) (pe_op op_mul (pe_op op_fdiv (pe_op op_sub (pv 0) (pv 2)) (pe_ix ix_seq (pv 1) pe_int (fun _ _ => rfl))) (pe_ix ix_seq (pv 1) pe_int (fun _ _ => rfl)))) pa_nil)))))),
  (sv_seq (sv_asg (ev_add ev_int (ev_call (Wf := (W_lists_for K a)) (n := 2) (m := 0) mk_pos (ea_cons ev_var (ea_cons ev_var ea_nil)) ea_nil)) (g_name (by decide)))
  (sv_ret (ev_tup (ea_cons ev_var (ea_cons (ev_add ev_var (ev_mul (ev_fdiv (ev_sub ev_var ev_var) (ev_op2 op_ix ev_var ev_int)) (ev_op2 op_ix ev_var ev_int))) ea_nil))))),
  law_region_of T⟩)

def W_needed (K : PySem.W.Frag) (a : Ad) : SpT := fun ts post ep => ts.length = 2 ∧ (∃ (d : PyData) (k : Int), ts = [.dat d, tI k] ∧ Gd d ∧ ((isRuleD d = false ∧ AnB 6 d ∧ ep a.C_InvalidRule (.dat d) [none, none]) ∨ ∃ f o m p s, d = ruT f o m p s ∧ RuOk f o m p s ∧ ((k < 1 ∧ ep a.C_InvalidNumber (.dat (.int k)) [none, none]) ∨ (1 ≤ k ∧ post (tI (cellsF s k)) [none, none]))))
theorem len_needed {K : PySem.W.Frag} {a : Ad} {ts : List T} {post : T → Rho → Prop} {ep : Addr → T → Rho → Prop} (h : W_needed K a ts post ep) : ts.length = 2 := h.1
/-- return cells_for(rule, k) .. -/
def t_needed_3 (K : PySem.W.Frag) (a : Ad) : WS := (sRt (wCall 2 0 (fun us _ => us) (W_cells_for K a) (aCons (wVar 0) (aCons (wVar 1) aNil)) aNil))
/-- need_number(k, 1, None) .. -/
def t_needed_2 (K : PySem.W.Frag) (a : Ad) : WS := (sSq (sDr (wCall 3 0 (fun us _ => us) (W_need_number K a) (aCons (wVar 1) (aCons (wC (.int 1)) (aCons (wC .none) aNil))) aNil)) (t_needed_3 K a))
def w_needed (K : PySem.W.Frag) (a : Ad) : WS := (sSq (sDr (wCall 1 0 (fun us _ => us) (W_need_rule K a) (aCons (wVar 0) aNil) aNil)) (t_needed_2 K a))

theorem law_needed {K : PySem.W.Frag} {mg : Str → Option Value} {a : Ad} (tx : Tx K mg a) : ∀ ts post ep, W_needed K a ts post ep → ts.length = 2 → w_needed K a (outO [] 2 post) (outX [] 2 ep) (startT 2 ts) := by
  intro ts post ep hW hl
  replace hW := hW.2
  obtain ⟨d, k, rfl, gd, ⟨h1, h2, h3⟩ | ⟨f, o, m, p, s, rfl, h1, ⟨h2, h3⟩ | ⟨h2, h3⟩⟩⟩ := hW
  · walk_at "hs"
    refine .inr ⟨h1, h2, ?_⟩
    exact fun _ => h3
  · walk_at "hs"
    refine .inl ⟨h1.r, ?_⟩
    walk_at "hs"
    refine .inr ⟨h2, ?_⟩
    exact fun _ => h3
  · have s1 := h1.s1
    have s8 := h1.s8
    walk_at "hs"
    refine .inl ⟨h1.r, ?_⟩
    walk_at "hs"
    refine .inl ⟨h2, ?_⟩
    walk_at "hs"
    exact h3
theorem ok_needed {w : World} {K : PySem.W.Frag} {mg : Str → Option Value} {base : Heap} {a : Ad} (T : Tx K mg a) : FnG a.P w K mg base (L2.CX a.P w) 9 a.f_needed a.d_needed ["rule", "k"] (spT K wellO (W_needed K a)) :=
  fn_TX [] T.F_needed sc_needed (fun ts post ep h => len_needed h) (fun cdv A outer s H E hr hg => ⟨_, w_needed K a,
  (pss_cons (ps_expr (pg_call (ok_need_rule T) (by exact hr.mono (by decide)) (by exact hg) (by rfl) (by exact T.g_need_rule) (by exact T.F_need_rule.kp) T.b_need_rule_1 (fun σ => passAt (takes_of rfl rfl rfl rfl) σ) (pa_cons (pv 0) pa_nil)))
  (pss_cons (ps_expr (pg_call (ok_need_number T) (by exact hr.mono (by decide)) (by exact hg) (by rfl) (by exact T.g_need_number) (by exact T.F_need_number.kp) T.b_need_number_3 (fun σ => passAt (takes_of rfl rfl rfl rfl) σ) (pa_cons (pv 1) (pa_cons pe_int (pa_cons pe_non pa_nil)))))
  (pss_one (ps_ret (pg_call (ok_cells_for T) (by exact hr.mono (by decide)) (by exact hg) (by rfl) (by exact T.g_cells_for) (by exact T.F_cells_for.kp) T.b_cells_for_2 passG (pa_cons (pv 0) (pa_cons (pv 1) pa_nil))))))),
  (sv_seq (sv_drop (ev_call (Wf := (W_need_rule K a)) (n := 1) (m := 0) mk_pos (ea_cons ev_var ea_nil) ea_nil))
  (sv_seq (sv_drop (ev_call (Wf := (W_need_number K a)) (n := 3) (m := 0) mk_pos (ea_cons ev_var (ea_cons ev_int (ea_cons ev_non ea_nil))) ea_nil))
  (sv_ret (ev_call (Wf := (W_cells_for K a)) (n := 2) (m := 0) mk_pos (ea_cons ev_var (ea_cons ev_var ea_nil)) ea_nil)))),
  law_needed T⟩)

def W_list_count (K : PySem.W.Frag) (a : Ad) : SpT := fun ts post ep => ts.length = 2 ∧ (∃ z d : PyData, ts = [.dat z, .dat d] ∧ Gd z ∧ Gd d ∧ BothW a.C_InvalidSize a.C_InvalidRule (fun C t => ep C t [none, none]) (fun n _ o _ _ _ => post (tI (listsF n o)) [none, none]) z d)
theorem len_list_count {K : PySem.W.Frag} {a : Ad} {ts : List T} {post : T → Rho → Prop} {ep : Addr → T → Rho → Prop} (h : W_list_count K a ts post ep) : ts.length = 2 := h.1
/-- return lists_for(size, rule) .. -/
def t_list_count_2 (K : PySem.W.Frag) (a : Ad) : WS := (sRt (wCall 2 0 (fun us _ => us) (W_lists_for K a) (aCons (wVar 0) (aCons (wVar 1) aNil)) aNil))
def w_list_count (K : PySem.W.Frag) (a : Ad) : WS := (sSq (sDr (wCall 2 0 (fun us _ => us) (W_need_both K a) (aCons (wVar 0) (aCons (wVar 1) aNil)) aNil)) (t_list_count_2 K a))

theorem law_list_count {K : PySem.W.Frag} {mg : Str → Option Value} {a : Ad} (tx : Tx K mg a) : ∀ ts post ep, W_list_count K a ts post ep → ts.length = 2 → w_list_count K a (outO [] 2 post) (outX [] 2 ep) (startT 2 ts) := by
  intro ts post ep hW hl
  replace hW := hW.2
  obtain ⟨z, d, rfl, gz, gd, hW⟩ := hW
  walk_at "hs"
  refine hW.mono (fun C t h => ?_) (fun n f o m p s e1 e2 e3 e4 ok h => ?_)
  · exact fun _ => h
  · subst e1; subst e4
    walk_at "hs"
    exact h
theorem ok_list_count {w : World} {K : PySem.W.Frag} {mg : Str → Option Value} {base : Heap} {a : Ad} (T : Tx K mg a) : FnG a.P w K mg base (L2.CX a.P w) 10 a.f_list_count a.d_list_count ["size", "rule"] (spT K wellO (W_list_count K a)) :=
  fn_TX [] T.F_list_count sc_list_count (fun ts post ep h => len_list_count h) (fun cdv A outer s H E hr hg => ⟨_, w_list_count K a,
  (pss_cons (ps_expr (pg_call (ok_need_both T) (by exact hr.mono (by decide)) (by exact hg) (by rfl) (by exact T.g_need_both) (by exact T.F_need_both.kp) T.b_need_both_2 (fun σ => passAt (takes_of rfl rfl rfl rfl) σ) (pa_cons (pv 0) (pa_cons (pv 1) pa_nil))))
  (pss_one (ps_ret (pg_call (ok_lists_for T) (by exact hr.mono (by decide)) (by exact hg) (by rfl) (by exact T.g_lists_for) (by exact T.F_lists_for.kp) T.b_lists_for_2 passG (pa_cons (pv 0) (pa_cons (pv 1) pa_nil)))))),
  (sv_seq (sv_drop (ev_call (Wf := (W_need_both K a)) (n := 2) (m := 0) mk_pos (ea_cons ev_var (ea_cons ev_var ea_nil)) ea_nil))
  (sv_ret (ev_call (Wf := (W_lists_for K a)) (n := 2) (m := 0) mk_pos (ea_cons ev_var (ea_cons ev_var ea_nil)) ea_nil))),
  law_list_count T⟩)

def W_region (K : PySem.W.Frag) (a : Ad) : SpT := fun ts post ep => ts.length = 2 ∧ (∃ z d : PyData, ts = [.dat z, .dat d] ∧ Gd z ∧ Gd d ∧ BothW a.C_InvalidSize a.C_InvalidRule (fun C t => ep C t [none, none]) (fun n _ o _ _ s => post (.dat (regD n o s)) [none, none]) z d)
theorem len_region {K : PySem.W.Frag} {a : Ad} {ts : List T} {post : T → Rho → Prop} {ep : Addr → T → Rho → Prop} (h : W_region K a ts post ep) : ts.length = 2 := h.1
/-- return region_of(size, rule) .. -/
def t_region_2 (K : PySem.W.Frag) (a : Ad) : WS := (sRt (wCall 2 0 (fun us _ => us) (W_region_of K a) (aCons (wVar 0) (aCons (wVar 1) aNil)) aNil))
def w_region (K : PySem.W.Frag) (a : Ad) : WS := (sSq (sDr (wCall 2 0 (fun us _ => us) (W_need_both K a) (aCons (wVar 0) (aCons (wVar 1) aNil)) aNil)) (t_region_2 K a))

theorem law_region {K : PySem.W.Frag} {mg : Str → Option Value} {a : Ad} (tx : Tx K mg a) : ∀ ts post ep, W_region K a ts post ep → ts.length = 2 → w_region K a (outO [] 2 post) (outX [] 2 ep) (startT 2 ts) := by
  intro ts post ep hW hl
  replace hW := hW.2
  obtain ⟨z, d, rfl, gz, gd, hW⟩ := hW
  walk_at "hs"
  refine hW.mono (fun C t h => ?_) (fun n f o m p s e1 e2 e3 e4 ok h => ?_)
  · exact fun _ => h
  · subst e1; subst e4
    have s1 := ok.s1
    have s8 := ok.s8
    walk_at "hs"
    exact h
theorem ok_region {w : World} {K : PySem.W.Frag} {mg : Str → Option Value} {base : Heap} {a : Ad} (T : Tx K mg a) : FnG a.P w K mg base (L2.CX a.P w) 10 a.f_region a.d_region ["size", "rule"] (spT K wellO (W_region K a)) :=
  fn_TX [] T.F_region sc_region (fun ts post ep h => len_region h) (fun cdv A outer s H E hr hg => ⟨_, w_region K a,
  (pss_cons (ps_expr (pg_call (ok_need_both T) (by exact hr.mono (by decide)) (by exact hg) (by rfl) (by exact T.g_need_both) (by exact T.F_need_both.kp) T.b_need_both_2 (fun σ => passAt (takes_of rfl rfl rfl rfl) σ) (pa_cons (pv 0) (pa_cons (pv 1) pa_nil))))
  (pss_one (ps_ret (pg_call (ok_region_of T) (by exact hr.mono (by decide)) (by exact hg) (by rfl) (by exact T.g_region_of) (by exact T.F_region_of.kp) T.b_region_of_2 passG (pa_cons (pv 0) (pa_cons (pv 1) pa_nil)))))),
  (sv_seq (sv_drop (ev_call (Wf := (W_need_both K a)) (n := 2) (m := 0) mk_pos (ea_cons ev_var (ea_cons ev_var ea_nil)) ea_nil))
  (sv_ret (ev_call (Wf := (W_region_of K a)) (n := 2) (m := 0) mk_pos (ea_cons ev_var (ea_cons ev_var ea_nil)) ea_nil))),
  law_region T⟩)

--.

/-- drawn of a row of data -/
inductive PickL (P : PyData → Prop) : List T → Prop
  | nil : PickL P []
  | cons {d : PyData} {ts : List T} : P d → PickL P ts → PickL P (.dat d :: ts)
theorem PickL.at {P : PyData → Prop} : ∀ {ts : List T} {i : Nat}, PickL P ts → i < ts.length → ∃ d, ts[i]? = some (.dat d) ∧ P d
  | _, _, .nil, h => absurd h (Nat.not_lt_zero _)
  | _, 0, .cons (d := d) h1 _, _ => ⟨d, rfl, h1⟩
  | _, i + 1, .cons _ h2, h => h2.at (Nat.lt_of_succ_lt_succ h)
theorem pick_any {P : PyData → Prop} {ts : List T} {t : T} {ρ : Rho} {Q : T → Rho → Prop} {i : Nat} (hi : i < ts.length) (hp : PickL P ts) (h : ∀ d, P d → Q (.dat d) (t.drop ρ)) : ts[i]? = some (.dat ((hp.at hi).choose)) ∧ give t (.ix i) (.dat ((hp.at hi).choose)) ρ Q := by
  obtain ⟨e1, e2⟩ := (hp.at hi).choose_spec
  refine ⟨e1, ?_⟩
  rw [give_dat]
  exact h _ e2

def W__law_is_int (K : PySem.W.Frag) (a : Ad) : SpT := fun ts post ep => ts.length = 3 ∧ (∃ (d : PyData) (lo hi : Int), ts = [.dat d, tI lo, tI hi] ∧ Gd d ∧ post (tBo (isBetD lo hi d)) [none, none, none])
theorem len__law_is_int {K : PySem.W.Frag} {a : Ad} {ts : List T} {post : T → Rho → Prop} {ep : Addr → T → Rho → Prop} (h : W__law_is_int K a ts post ep) : ts.length = 3 := h.1

def w__law_is_int (K : PySem.W.Frag) (a : Ad) : WS := (sRt (wAnd (w2 (sIsi K) (wVar 0) (wCst (.ty "int"))) (wAnd (wNot (w2 (sIsi K) (wVar 0) (wCst (.ty "bool")))) (wChain (fun i j => decide (i ≤ j)) (fun i j => decide (i ≤ j)) (wVar 1) (wVar 0) (wVar 2)))))

theorem law__law_is_int {K : PySem.W.Frag} {mg : Str → Option Value} {a : Ad} (tx : Tx K mg a) : ∀ ts post ep, W__law_is_int K a ts post ep → ts.length = 3 → w__law_is_int K a (outO [] 3 post) (outX [] 3 ep) (startT 3 ts) := by
  intro ts post ep hW hl
  replace hW := hW.2
  obtain ⟨d, lo, hi, rfl, hd, hp⟩ := hW
  cases d with
  | dict xs => exact hd.dict.elim
  | int i =>
    by_cases c : lo ≤ i
    · rw [show isBetD lo hi (.int i) = decide (i ≤ hi) from decide_eq_decide.mpr ⟨fun h => h.2, fun h => ⟨c, h⟩⟩] at hp
      walk_at "hs"
      exact hp
    · rw [show isBetD lo hi (.int i) = false from decide_eq_false fun h => c h.1] at hp
      walk_at "hs"
      exact hp
  | none => walk_at "hs"; exact hp
  | bool b => walk_at "hs"; exact hp
  | str x => walk_at "hs"; exact hp
  | list xs => walk_at "hs"; exact hp
  | tuple xs => walk_at "hs"; exact hp
theorem ok__law_is_int {w : World} {K : PySem.W.Frag} {mg : Str → Option Value} {base : Heap} {a : Ad} (T : Tx K mg a) : FnG a.P w K mg base CX0 1 a.f__law_is_int a.d__law_is_int ["value", "low", "high"] (spT K wellO (W__law_is_int K a)) :=
  fn_T [] T.F__law_is_int sc__law_is_int (fun ts post ep h => len__law_is_int h) (fun cdv A outer s H E hr hg => ⟨_, w__law_is_int K a,
  (pss_one (ps_ret (pe_and (pe_callB call_isi (by rfl) (by exact T.z_isinstance) bt_isinstance (pa_cons (pv 0) (pa_cons (pe_bltn (v := .ty "int") (by rfl) (by exact T.z_int) bt_int rfl) pa_nil))) (pe_and (pe_not (pe_callB call_isi (by rfl) (by exact T.z_isinstance) bt_isinstance (pa_cons (pv 0) (pa_cons (pe_bltn (v := .ty "bool") (by rfl) (by exact T.z_bool) bt_bool rfl) pa_nil)))) (pe_one (pe_chain op_le op_le (pv 1) (pv 0) (pv 2))))))),
  (sv_ret (ev_and (ev_call2 op_isi ev_var ev_cst) (ev_and (ev_not (ev_call2 op_isi ev_var ev_cst)) (ev_chain (f := (fun i j => decide (i ≤ j))) (g := (fun i j => decide (i ≤ j))) ev_var ev_var ev_var)))),
  law__law_is_int T⟩)

--.
abbrev w3T (x y z : Int) : T := .lst [tI x, tI y, tI z]
def Lit (is : List Int) (d : PyData) : Prop := ∃ i : Int, d = .int i ∧ i ∈ is
def LitS (xs : List Str) (d : PyData) : Prop := ∃ x : Str, d = .str x ∧ x ∈ xs
/-- return (fit, order, ['at once', 'late'][_law_draw(well, 2)], min(64, spare), step) .. -/
def t__law_rule_7 (K : PySem.W.Frag) (a : Ad) : WS := (sRt (wTup (aCons (wVar 4) (aCons (wVar 3) (aCons (w2 sIx (wLst (aCons (wC (.str "at once")) (aCons (wC (.str "late")) aNil))) (wCall 2 0 (fun us _ => us) (W__law_draw K a) (aCons (wVar 0) (aCons (wC (.int 2)) aNil)) aNil)) (aCons (w2 (sII iMin) (wC (.int 64)) (wVar 2)) (aCons (wVar 1) aNil)))))))
/-- if fit == 'next': .. -/
def t__law_rule_5 (K : PySem.W.Frag) (a : Ad) : WS := (sSq (sIf (bT (w2 (sEqT false) (wVar 4) (wC (.str "next")))) (sAs (wC (.str "address")) (gN 3)) sNx) (sStop (t__law_rule_7 K a)))
/-- fit = 'first' if order == 'classes' else ['first', 'next', 'best', 'worst'][_law_draw(well, 4)] .. -/
def t__law_rule_4 (K : PySem.W.Frag) (a : Ad) : WS := (sSq (sAs (wIf (bT (w2 (sEqT false) (wVar 3) (wC (.str "classes")))) (wC (.str "first")) (w2 sIx (wLst (aCons (wC (.str "first")) (aCons (wC (.str "next")) (aCons (wC (.str "best")) (aCons (wC (.str "worst")) aNil))))) (wCall 2 0 (fun us _ => us) (W__law_draw K a) (aCons (wVar 0) (aCons (wC (.int 4)) aNil)) aNil))) (gN 4)) (sStop (t__law_rule_5 K a)))
/-- order = ['address', 'latest', 'classes'][_law_draw(well, 3)] .. -/
def t__law_rule_3 (K : PySem.W.Frag) (a : Ad) : WS := (sSq (sAs (w2 sIx (wLst (aCons (wC (.str "address")) (aCons (wC (.str "latest")) (aCons (wC (.str "classes")) aNil)))) (wCall 2 0 (fun us _ => us) (W__law_draw K a) (aCons (wVar 0) (aCons (wC (.int 3)) aNil)) aNil)) (gN 3)) (sStop (t__law_rule_4 K a)))
/-- spare = step * (-(-4 // step) + _law_draw(well, [1, 2, 4][_law_draw(well, 3)])) .. -/
def t__law_rule_2 (K : PySem.W.Frag) (a : Ad) : WS := (sSq (sAs (wII CMul iMul (wVar 1) (wII0 iAdd (wU iNeg (wII CDiv iDiv (wU iNeg (wC (.int 4))) (wVar 1))) (wCall 2 0 (fun us _ => us) (W__law_draw K a) (aCons (wVar 0) (aCons (w2 sIx (wLst (aCons (wC (.int 1)) (aCons (wC (.int 2)) (aCons (wC (.int 4)) aNil)))) (wCall 2 0 (fun us _ => us) (W__law_draw K a) (aCons (wVar 0) (aCons (wC (.int 3)) aNil)) aNil)) aNil)) aNil))) (gN 2)) (sStop (t__law_rule_3 K a)))
def w__law_rule (K : PySem.W.Frag) (a : Ad) : WS := (sSq (sAs (w2 sIx (wLst (aCons (wC (.int 1)) (aCons (wC (.int 1)) (aCons (wC (.int 2)) (aCons (wC (.int 4)) (aCons (wC (.int 3)) (aCons (wC (.int 8)) aNil))))))) (wCall 2 0 (fun us _ => us) (W__law_draw K a) (aCons (wVar 0) (aCons (wC (.int 6)) aNil)) aNil)) (gN 1)) (sStop (t__law_rule_2 K a)))

section
variable {K : PySem.W.Frag} {mg : Str → Option Value} {a : Ad} {Qx : Hz.WX} {post : T → Rho → Prop} {x y z s p : Int} {n : Nat} {f o : Str} {x1 x2 x3 x4 : Option T}
theorem rul7 (tx : Tx K mg a) (w : Wb n x y z) (hn : n ≤ 900000) (hr : ∀ m, m ∈ merS → RuOk f o m p s) (p64 : p ≤ 64) (hq : ∀ x y z f o m p s, Wb (n + 1) x y z → RuOk f o m p s → post (.dat (ruT f o m p s)) [some (w3T x y z)]) :
    t__law_rule_7 K a (outO [0] 1 post) Qx [some (w3T x y z), some (tI s), some (tI p), some (.dat (.str o)), some (.dat (.str f))] := by
  walk_at "hs"
  refine fun x1 y1 z1 r w1 r0 r1 _ => ?_
  walk_at "hs"
  refine pick_any (P := LitS merS) (i := r.toNat) ?hi ?hp ?hd
  case hi => simp only [List.length_cons, List.length_nil]; omega
  case hp => exact .cons ⟨_, rfl, by decide⟩ (.cons ⟨_, rfl, by decide⟩ .nil)
  rintro d ⟨m, rfl, hm⟩
  have em : iMin 64 p = .int p := by
    show PyData.int (if p < 64 then p else 64) = .int p
    congr 1
    split <;> omega
  have z := hq x1 y1 z1 f o m p s w1 (hr m hm)
  unfold ruT at z
  rw [← em] at z
  walk_at "hs"
  exact z
theorem ru_ok {m : Str} (hf : f ∈ fitsS) (ho : o ∈ ordS) (hm : m ∈ merS) (hfo : foD (.str f) (.str o) = true) (s1 : 1 ≤ s) (s8 : s ≤ 8) (p4 : 4 ≤ p) (p64 : p ≤ 64) (hps : p % s = 0) : RuOk f o m p s := by
  refine ⟨?_, s1, s8⟩
  show (decide (1 ≤ s ∧ s ≤ 8) && (decide (f ∈ fitsS) && (decide (o ∈ ordS) && (decide (m ∈ merS) && (foD (.str f) (.str o) && (decide (4 ≤ p ∧ p ≤ 64) && decide (p % s = 0))))))) = true
  rw [decide_eq_true ⟨s1, s8⟩, decide_eq_true hf, decide_eq_true ho, decide_eq_true hm, hfo, decide_eq_true ⟨p4, p64⟩, decide_eq_true hps]
  rfl
theorem rul5 (tx : Tx K mg a) (w : Wb n x y z) (hn : n ≤ 900000) (hf : f ∈ fitsS) (ho : o ∈ ordS) (hfo : o = "classes" → f = "first") (s1 : 1 ≤ s) (s8 : s ≤ 8) (p4 : 4 ≤ p) (p64 : p ≤ 64) (hps : p % s = 0) (hq : ∀ x y z f o m p s, Wb (n + 1) x y z → RuOk f o m p s → post (.dat (ruT f o m p s)) [some (w3T x y z)]) :
    t__law_rule_5 K a (outO [0] 1 post) Qx [some (w3T x y z), some (tI s), some (tI p), some (.dat (.str o)), some (.dat (.str f))] := by
  by_cases c1 : f = "next"
  · have hr : ∀ m, m ∈ merS → RuOk f "address" m p s := fun m hm => ru_ok hf (by decide) hm (by rw [c1]; decide +kernel) s1 s8 p4 p64 hps
    walk_at "hs"
    exact ⟨rul7 tx w hn hr p64 hq⟩
  · have hr : ∀ m, m ∈ merS → RuOk f o m p s := fun m hm => ru_ok hf ho hm (by
      by_cases c3 : o = "classes"
      · rw [foD_val (decide_eq_false c1) rfl rfl (decide_eq_true (hfo c3))]
        simp
      · rw [foD_val (decide_eq_false c1) rfl (decide_eq_false c3) rfl]
        simp) s1 s8 p4 p64 hps
    walk_at "hs"
    exact sNx_of ⟨rul7 tx w hn hr p64 hq⟩
theorem rul4 (tx : Tx K mg a) (w : Wb n x y z) (hn : n ≤ 800000) (ho : o ∈ ordS) (s1 : 1 ≤ s) (s8 : s ≤ 8) (p4 : 4 ≤ p) (p64 : p ≤ 64) (hps : p % s = 0) (hq : ∀ x y z f o m p s, Wb (n + 2) x y z → RuOk f o m p s → post (.dat (ruT f o m p s)) [some (w3T x y z)]) :
    t__law_rule_4 K a (outO [0] 1 post) Qx [some (w3T x y z), some (tI s), some (tI p), some (.dat (.str o)), x4] := by
  by_cases c3 : o = "classes"
  · have z5 := rul5 (Qx := Qx) tx w (by omega) (f := "first") (by decide) ho (fun _ => rfl) s1 s8 p4 p64 hps fun x y z f o m p s w => hq x y z f o m p s (w.mono (by omega))
    walk_at "hs"
    exact ⟨z5⟩
  · walk_at "hs"
    refine fun x1 y1 z1 r w1 r0 r1 _ => ?_
    walk_at "hs"
    refine pick_any (P := LitS fitsS) (i := r.toNat) ?hi ?hp ?hd
    case hi => simp only [List.length_cons, List.length_nil]; omega
    case hp => exact .cons ⟨_, rfl, by decide⟩ (.cons ⟨_, rfl, by decide⟩ (.cons ⟨_, rfl, by decide⟩ (.cons ⟨_, rfl, by decide⟩ .nil)))
    rintro d ⟨f, rfl, hf⟩
    refine ⟨_, _, rfl, ?_⟩
    exact ⟨rul5 tx w1 (by omega) hf ho (fun h => absurd h c3) s1 s8 p4 p64 hps hq⟩
theorem rul3 (tx : Tx K mg a) (w : Wb n x y z) (hn : n ≤ 700000) (s1 : 1 ≤ s) (s8 : s ≤ 8) (p4 : 4 ≤ p) (p64 : p ≤ 64) (hps : p % s = 0) (hq : ∀ x y z f o m p s, Wb (n + 3) x y z → RuOk f o m p s → post (.dat (ruT f o m p s)) [some (w3T x y z)]) :
    t__law_rule_3 K a (outO [0] 1 post) Qx [some (w3T x y z), some (tI s), some (tI p), x3, x4] := by
  walk_at "hs"
  refine fun x1 y1 z1 r w1 r0 r1 _ => ?_
  walk_at "hs"
  refine pick_any (P := LitS ordS) (i := r.toNat) ?hi ?hp ?hd
  case hi => simp only [List.length_cons, List.length_nil]; omega
  case hp => exact .cons ⟨_, rfl, by decide⟩ (.cons ⟨_, rfl, by decide⟩ (.cons ⟨_, rfl, by decide⟩ .nil))
  rintro d ⟨o, rfl, ho⟩
  refine ⟨_, _, rfl, ?_⟩
  exact ⟨rul4 tx w1 (by omega) ho s1 s8 p4 p64 hps hq⟩
theorem rul2 (tx : Tx K mg a) (w : Wb n x y z) (hn : n ≤ 600000) (hs : s ∈ [1, 2, 3, 4, 8]) (hq : ∀ x y z f o m p s, Wb (n + 5) x y z → RuOk f o m p s → post (.dat (ruT f o m p s)) [some (w3T x y z)]) :
    t__law_rule_2 K a (outO [0] 1 post) Qx [some (w3T x y z), some (tI s), x2, x3, x4] := by
  have s1 : 1 ≤ s ∧ s ≤ 8 := by
    simp only [List.mem_cons, List.not_mem_nil, or_false] at hs
    omega
  obtain ⟨s1, s8⟩ := s1
  have hsp : ∀ r : Int, 0 ≤ r → r < 4 → 4 ≤ s * (-(-4 / s) + r) ∧ s * (-(-4 / s) + r) ≤ 64 ∧ s * (-(-4 / s) + r) % s = 0 := fun r r0 r4 => by
    simp only [List.mem_cons, List.not_mem_nil, or_false] at hs
    rcases hs with rfl | rfl | rfl | rfl | rfl <;> omega
  walk_at "hs"
  refine fun x1 y1 z1 r w1 r0 r1 _ => ?_
  walk_at "hs"
  refine pick_any (P := Lit [1, 2, 4]) (i := r.toNat) ?hi ?hp ?hd
  case hi => simp only [List.length_cons, List.length_nil]; omega
  case hp => exact .cons ⟨_, rfl, by decide⟩ (.cons ⟨_, rfl, by decide⟩ (.cons ⟨_, rfl, by decide⟩ .nil))
  rintro d ⟨li, rfl, hli⟩
  have l1 : 1 ≤ li ∧ li ≤ 4 := by
    simp only [List.mem_cons, List.not_mem_nil, or_false] at hli
    omega
  obtain ⟨l1, l4⟩ := l1
  walk_at "hs"
  refine fun x2 y2 z2 q w2 q0 q1 _ => ?_
  obtain ⟨h1, h2, h3⟩ := hsp q q0 (by omega)
  walk_at "hs"
  exact ⟨rul3 tx w2 (by omega) s1 s8 h1 h2 h3 hq⟩
end
def W__law_rule (K : PySem.W.Frag) (a : Ad) : SpT := fun ts post ep => ts.length = 1 ∧ (∃ (x y z : Int) (n : Nat), ts = [w3T x y z] ∧ Wb n x y z ∧ n ≤ 500000 ∧ ∀ x y z f o m p s, Wb (n + 6) x y z → RuOk f o m p s → post (.dat (ruT f o m p s)) [some (w3T x y z)])
theorem len__law_rule {K : PySem.W.Frag} {a : Ad} {ts : List T} {post : T → Rho → Prop} {ep : Addr → T → Rho → Prop} (h : W__law_rule K a ts post ep) : ts.length = 1 := h.1

theorem law__law_rule {K : PySem.W.Frag} {mg : Str → Option Value} {a : Ad} (tx : Tx K mg a) : ∀ ts post ep, W__law_rule K a ts post ep → ts.length = 1 → w__law_rule K a (outO [0] 1 post) (outX [0] 1 ep) (startT 5 ts) := by
  intro ts post ep hW hl
  replace hW := hW.2
  obtain ⟨x, y, z, n, rfl, w, hn, hq⟩ := hW
  walk_at "hs"
  refine fun x1 y1 z1 r w1 r0 r1 _ => ?_
  walk_at "hs"
  refine pick_any (P := Lit [1, 2, 3, 4, 8]) (i := r.toNat) ?hi ?hp ?hd
  case hi => simp only [List.length_cons, List.length_nil]; omega
  case hp => exact .cons ⟨_, rfl, by decide⟩ (.cons ⟨_, rfl, by decide⟩ (.cons ⟨_, rfl, by decide⟩ (.cons ⟨_, rfl, by decide⟩ (.cons ⟨_, rfl, by decide⟩ (.cons ⟨_, rfl, by decide⟩ .nil)))))
  rintro d ⟨s, rfl, hs⟩
  refine ⟨_, _, rfl, ?_⟩
  exact ⟨rul2 tx w1 (by omega) hs hq⟩
theorem ok__law_rule {w : World} {K : PySem.W.Frag} {mg : Str → Option Value} {base : Heap} {a : Ad} (T : Tx K mg a) : FnG a.P w K mg base CX0 2 a.f__law_rule a.d__law_rule ["well"] (spT K wellO (W__law_rule K a)) :=
  fn_T [0] T.F__law_rule sc__law_rule (fun ts post ep h => len__law_rule h) (fun cdv A outer s H E hr hg => ⟨_, w__law_rule K a,
  (pss_cons (ps_set (i := 1) sc__law_rule.nd rfl (Or.inl rfl) (pe_ix ix_seq (pe_lst (pa_cons pe_int (pa_cons pe_int (pa_cons pe_int (pa_cons pe_int (pa_cons pe_int (pa_cons pe_int pa_nil))))))) (pg_call (ok__law_draw T) (by exact hr.mono (by decide)) (by exact hg) (by rfl) (by exact T.g__law_draw) (by exact T.F__law_draw.kp) T.b__law_draw_2 passG (pa_cons (pv 0) (pa_cons pe_int pa_nil))) (fun _ _ => rfl)))
  (pss_cons (ps_set (i := 2) sc__law_rule.nd rfl (Or.inl rfl) (pe_op op_mul (pv 1) (pe_op op_add (pe_un un_neg (pe_op op_fdiv (pe_un un_neg pe_int) (pv 1))) (pg_call (ok__law_draw T) (by exact hr.mono (by decide)) (by exact hg) (by rfl) (by exact T.g__law_draw) (by exact T.F__law_draw.kp) T.b__law_draw_2 passG (pa_cons (pv 0) (pa_cons (pe_ix ix_seq (pe_lst (pa_cons pe_int (pa_cons pe_int (pa_cons pe_int pa_nil)))) (pg_call (ok__law_draw T) (by exact hr.mono (by decide)) (by exact hg) (by rfl) (by exact T.g__law_draw) (by exact T.F__law_draw.kp) T.b__law_draw_2 passG (pa_cons (pv 0) (pa_cons pe_int pa_nil))) (fun _ _ => rfl)) pa_nil))))))
  (pss_cons (ps_set (i := 3) sc__law_rule.nd rfl (Or.inl rfl) (pe_ix ix_seq (pe_lst (pa_cons pe_str (pa_cons pe_str (pa_cons pe_str pa_nil)))) (pg_call (ok__law_draw T) (by exact hr.mono (by decide)) (by exact hg) (by rfl) (by exact T.g__law_draw) (by exact T.F__law_draw.kp) T.b__law_draw_2 passG (pa_cons (pv 0) (pa_cons pe_int pa_nil))) (fun _ _ => rfl)))
  (pss_cons (ps_set (i := 4) sc__law_rule.nd rfl (Or.inl rfl) (pe_ifExp (pt_cmpR op_eq (pv 3) pe_str (nomark _)) pe_str (pe_ix ix_seq (pe_lst (pa_cons pe_str (pa_cons pe_str (pa_cons pe_str (pa_cons pe_str pa_nil))))) (pg_call (ok__law_draw T) (by exact hr.mono (by decide)) (by exact hg) (by rfl) (by exact T.g__law_draw) (by exact T.F__law_draw.kp) T.b__law_draw_2 passG (pa_cons (pv 0) (pa_cons pe_int pa_nil))) (fun _ _ => rfl))))
  (pss_cons (ps_if (pt_cmpR op_eq (pv 4) pe_str (nomark _)) (pss_one (ps_set (i := 3) sc__law_rule.nd rfl (Or.inl rfl) pe_str)) pss_nil)
  (pss_one (ps_ret (pe_tup (pa_cons (pv 4) (pa_cons (pv 3) (pa_cons (pe_ix ix_seq (pe_lst (pa_cons pe_str (pa_cons pe_str pa_nil))) (pg_call (ok__law_draw T) (by exact hr.mono (by decide)) (by exact hg) (by rfl) (by exact T.g__law_draw) (by exact T.F__law_draw.kp) T.b__law_draw_2 passG (pa_cons (pv 0) (pa_cons pe_int pa_nil))) (fun _ _ => rfl)) (pa_cons (pe_callB (call_min2 rfl) (by rfl) (by exact T.z_min) bt_min (pa_cons pe_int (pa_cons (pv 2) pa_nil))) (pa_cons (pv 1) pa_nil))))))))))))),
  (sv_seq (sv_asg (ev_op2 op_ix (ev_lst (ea_cons ev_int (ea_cons ev_int (ea_cons ev_int (ea_cons ev_int (ea_cons ev_int (ea_cons ev_int ea_nil))))))) (ev_call (Wf := (W__law_draw K a)) (n := 2) (m := 0) mk_pos (ea_cons ev_var (ea_cons ev_int ea_nil)) ea_nil)) (g_name (by decide)))
  (sv_stop (sv_seq (sv_asg (ev_mul ev_var (ev_add (ev_neg (ev_fdiv (ev_neg ev_int) ev_var)) (ev_call (Wf := (W__law_draw K a)) (n := 2) (m := 0) mk_pos (ea_cons ev_var (ea_cons (ev_op2 op_ix (ev_lst (ea_cons ev_int (ea_cons ev_int (ea_cons ev_int ea_nil)))) (ev_call (Wf := (W__law_draw K a)) (n := 2) (m := 0) mk_pos (ea_cons ev_var (ea_cons ev_int ea_nil)) ea_nil)) ea_nil)) ea_nil))) (g_name (by decide)))
  (sv_stop (sv_seq (sv_asg (ev_op2 op_ix (ev_lst (ea_cons ev_str (ea_cons ev_str (ea_cons ev_str ea_nil)))) (ev_call (Wf := (W__law_draw K a)) (n := 2) (m := 0) mk_pos (ea_cons ev_var (ea_cons ev_int ea_nil)) ea_nil)) (g_name (by decide)))
  (sv_stop (sv_seq (sv_asg (ev_if (et_test (ev_eqT ev_var ev_str)) ev_str (ev_op2 op_ix (ev_lst (ea_cons ev_str (ea_cons ev_str (ea_cons ev_str (ea_cons ev_str ea_nil))))) (ev_call (Wf := (W__law_draw K a)) (n := 2) (m := 0) mk_pos (ea_cons ev_var (ea_cons ev_int ea_nil)) ea_nil))) (g_name (by decide)))
  (sv_stop (sv_seq (sv_if (et_test (ev_eqT ev_var ev_str)) (sv_asg ev_str (g_name (by decide))) sv_next)
  (sv_stop (sv_ret (ev_tup (ea_cons ev_var (ea_cons ev_var (ea_cons (ev_op2 op_ix (ev_lst (ea_cons ev_str (ea_cons ev_str ea_nil))) (ev_call (Wf := (W__law_draw K a)) (n := 2) (m := 0) mk_pos (ea_cons ev_var (ea_cons ev_int ea_nil)) ea_nil)) (ea_cons (ev_call2 op_min2 ev_int ev_var) (ea_cons ev_var ea_nil))))))))))))))))),
  law__law_rule T⟩)

--.

def W__law_size (K : PySem.W.Frag) (a : Ad) : SpT := fun ts post ep => ts.length = 1 ∧ (∃ (x y z : Int) (n : Nat), ts = [w3T x y z] ∧ Wb n x y z ∧ n ≤ 500000 ∧ ∀ x y z v, Wb (n + 3) x y z → 32 ≤ v → v ≤ 150 → post (tI v) [some (w3T x y z)])
theorem len__law_size {K : PySem.W.Frag} {a : Ad} {ts : List T} {post : T → Rho → Prop} {ep : Addr → T → Rho → Prop} (h : W__law_size K a ts post ep) : ts.length = 1 := h.1

def w__law_size (K : PySem.W.Frag) (a : Ad) : WS := (sRt (w2 sIx (wLst (aCons (wII0 iAdd (wC (.int 32)) (wCall 2 0 (fun us _ => us) (W__law_draw K a) (aCons (wVar 0) (aCons (wC (.int 30)) aNil)) aNil)) (aCons (wII0 iAdd (wC (.int 60)) (wCall 2 0 (fun us _ => us) (W__law_draw K a) (aCons (wVar 0) (aCons (wC (.int 80)) aNil)) aNil)) (aCons (wC (.int 32)) (aCons (wC (.int 150)) aNil))))) (wCall 2 0 (fun us _ => us) (W__law_draw K a) (aCons (wVar 0) (aCons (wC (.int 4)) aNil)) aNil)))

theorem law__law_size {K : PySem.W.Frag} {mg : Str → Option Value} {a : Ad} (tx : Tx K mg a) : ∀ ts post ep, W__law_size K a ts post ep → ts.length = 1 → w__law_size K a (outO [0] 1 post) (outX [0] 1 ep) (startT 1 ts) := by
  intro ts post ep hW hl
  replace hW := hW.2
  obtain ⟨x, y, z, n, rfl, w, hn, hq⟩ := hW
  walk_at "hs"
  refine fun x1 y1 z1 r w1 r0 r1 _ => ?_
  walk_at "hs"
  refine fun x2 y2 z2 q w2 q0 q1 _ => ?_
  walk_at "hs"
  refine fun x3 y3 z3 j w3 j0 j1 _ => ?_
  walk_at "hs"
  refine pick_any (P := fun d => ∃ i : Int, d = .int i ∧ 32 ≤ i ∧ i ≤ 150) (i := j.toNat) ?hi ?hp ?hd
  case hi => simp only [List.length_cons, List.length_nil]; omega
  case hp => exact .cons ⟨_, rfl, by omega, by omega⟩ (.cons ⟨_, rfl, by omega, by omega⟩ (.cons ⟨_, rfl, by omega, by omega⟩ (.cons ⟨_, rfl, by omega, by omega⟩ .nil)))
  rintro d ⟨v, rfl, h1, h2⟩
  refine ⟨_, _, rfl, ?_⟩
  exact hq _ _ _ v w3 h1 h2
theorem ok__law_size {w : World} {K : PySem.W.Frag} {mg : Str → Option Value} {base : Heap} {a : Ad} (T : Tx K mg a) : FnG a.P w K mg base CX0 2 a.f__law_size a.d__law_size ["well"] (spT K wellO (W__law_size K a)) :=
  fn_T [0] T.F__law_size sc__law_size (fun ts post ep h => len__law_size h) (fun cdv A outer s H E hr hg => ⟨_, w__law_size K a,
  (pss_one (ps_ret (pe_ix ix_seq (pe_lst (pa_cons (pe_op op_add pe_int (pg_call (ok__law_draw T) (by exact hr.mono (by decide)) (by exact hg) (by rfl) (by exact T.g__law_draw) (by exact T.F__law_draw.kp) T.b__law_draw_2 passG (pa_cons (pv 0) (pa_cons pe_int pa_nil)))) (pa_cons (pe_op op_add pe_int (pg_call (ok__law_draw T) (by exact hr.mono (by decide)) (by exact hg) (by rfl) (by exact T.g__law_draw) (by exact T.F__law_draw.kp) T.b__law_draw_2 passG (pa_cons (pv 0) (pa_cons pe_int pa_nil)))) (pa_cons pe_int (pa_cons pe_int pa_nil))))) (pg_call (ok__law_draw T) (by exact hr.mono (by decide)) (by exact hg) (by rfl) (by exact T.g__law_draw) (by exact T.F__law_draw.kp) T.b__law_draw_2 passG (pa_cons (pv 0) (pa_cons pe_int pa_nil))) (fun _ _ => rfl)))),
  (sv_ret (ev_op2 op_ix (ev_lst (ea_cons (ev_add ev_int (ev_call (Wf := (W__law_draw K a)) (n := 2) (m := 0) mk_pos (ea_cons ev_var (ea_cons ev_int ea_nil)) ea_nil)) (ea_cons (ev_add ev_int (ev_call (Wf := (W__law_draw K a)) (n := 2) (m := 0) mk_pos (ea_cons ev_var (ea_cons ev_int ea_nil)) ea_nil)) (ea_cons ev_int (ea_cons ev_int ea_nil))))) (ev_call (Wf := (W__law_draw K a)) (n := 2) (m := 0) mk_pos (ea_cons ev_var (ea_cons ev_int ea_nil)) ea_nil))),
  law__law_size T⟩)

--.
theorem filt_first : ∀ {N j : Nat} {p : Nat → Bool}, j < N → p j = true → (∀ i, i < j → p i = false) → ((List.range N).filter p)[0]? = some j
  | 0, j, p, h, _, _ => absurd h (Nat.not_lt_zero j)
  | N + 1, j, p, h, hp, hn => by
    rw [List.range_succ, List.filter_append]
    rcases Nat.lt_or_ge j N with z | z
    · have e := filt_first z hp hn
      rw [List.getElem?_append_left (List.getElem?_eq_some_iff.mp e).1, e]
    · obtain rfl : j = N := by omega
      have e0 : (List.range j).filter p = [] := List.filter_eq_nil_iff.mpr fun x hx => by
        rw [hn x (List.mem_range.mp hx)]
        exact Bool.false_ne_true
      rw [e0, List.nil_append, List.filter_cons, hp]
      rfl
theorem cells_le {s k : Int} (s1 : 1 ≤ s) (s8 : s ≤ 8) (k1 : 1 ≤ k) : 4 ≤ cellsF s k ∧ k + 2 ≤ cellsF s k ∧ cellsF s k < k + 20 ∧ cellsF s k % s = 0 ∧ ∀ m, 4 ≤ m → k + 2 ≤ m → m % s = 0 → cellsF s k ≤ m := by
  unfold cellsF
  generalize hM : (if k + 2 > 4 then k + 2 else 4) = M
  have h1 : 4 ≤ M ∧ k + 2 ≤ M ∧ M ≤ k + 3 := by rw [← hM]; split <;> omega
  have h2 : ∀ m, 4 ≤ m → k + 2 ≤ m → M ≤ m := by rw [← hM]; intro m a b; split <;> omega
  clear hM
  have hs : s = 1 ∨ s = 2 ∨ s = 3 ∨ s = 4 ∨ s = 5 ∨ s = 6 ∨ s = 7 ∨ s = 8 := by omega
  rcases hs with rfl | rfl | rfl | rfl | rfl | rfl | rfl | rfl <;> refine ⟨by omega, by omega, by omega, by omega, fun m a b c => ?_⟩ <;> (have := h2 m a b; omega)
def W__law_cells (K : PySem.W.Frag) (a : Ad) : SpT := fun ts post ep => ts.length = 2 ∧ (∃ (f o m : Str) (p s k : Int), ts = [.dat (ruT f o m p s), tI k] ∧ 1 ≤ s ∧ s ≤ 8 ∧ 1 ≤ k ∧ k ≤ 4000 ∧ post (tI (cellsF s k)) [none, none])
theorem len__law_cells {K : PySem.W.Frag} {a : Ad} {ts : List T} {post : T → Rho → Prop} {ep : Addr → T → Rho → Prop} (h : W__law_cells K a ts post ep) : ts.length = 2 := h.1

def w__law_cells (K : PySem.W.Frag) (a : Ad) : WS := (sRt (w2 sIx (wLc (iR2 (wC (.int 4)) (wII0 iAdd (wVar 1) (wC (.int 20)))) (gN 2) (bAnd (bT (wII0 bGe (wVar 2) (wII0 iAdd (wVar 1) (wC (.int 2))))) (bT (wEq false (wII CMod iMod (w1 sInt (wVar 2)) (w2 sIx (wVar 0) (wC (.int 4)))) (wC (.int 0))))) (wVar 2) [2]) (wC (.int 0))))

theorem law__law_cells {K : PySem.W.Frag} {mg : Str → Option Value} {a : Ad} (tx : Tx K mg a) : ∀ ts post ep, W__law_cells K a ts post ep → ts.length = 2 → w__law_cells K a (outO [] 2 post) (outX [] 2 ep) (startT 3 ts) := by
  intro ts post ep hW hl
  replace hW := hW.2
  obtain ⟨f, o, m, p, s, k, rfl, s1, s8, k1, k4, hq⟩ := hW
  obtain ⟨h4, hk, hlt, hm, hle⟩ := cells_le s1 s8 k1
  have hz : (List.range (k + 20 - 4).toNat).length ≤ 1000000 := by rw [List.length_range]; omega
  have e5 : ((List.range (k + 20 - 4).toNat).filter fun i : Nat => decide (k + 2 ≤ 4 + (i : Int) ∧ (4 + (i : Int)) % s = 0))[0]? = some (cellsF s k - 4).toNat := by
    have ej : (4 : Int) + ((cellsF s k - 4).toNat : Int) = cellsF s k := by omega
    refine filt_first (by omega) (decide_eq_true (by rw [ej]; exact ⟨hk, hm⟩)) fun i hi => decide_eq_false fun h => ?_
    have := hle (4 + (i : Int)) (by omega) h.1 h.2
    omega
  have e6 := at_map (g := fun i : Nat => tI (4 + (i : Int))) e5
  rw [show (4 : Int) + ((cellsF s k - 4).toNat : Int) = cellsF s k by omega] at e6
  have e7 : 0 < (((List.range (k + 20 - 4).toNat).filter fun i : Nat => decide (k + 2 ≤ 4 + (i : Int) ∧ (4 + (i : Int)) % s = 0)).map fun i : Nat => tI (4 + (i : Int))).length := (List.getElem?_eq_some_iff.mp e6).1
  clear hle e5
  walk_at "hs"
  refine lcD (List.range (k + 20 - 4).toNat) (fun i : Nat => tI (4 + (i : Int))) (fun i : Nat => k + 2 ≤ 4 + (i : Int) ∧ (4 + (i : Int)) % s = 0) (fun i : Nat => tI (4 + (i : Int))) (by rw [List.length_range]) (fun i x hx => Hz.rng_at (fun i : Nat => tI (4 + (i : Int))) hx) hz (fun x hx q kk hq hk1 hk0 => ?_) ?_
  all_goals (try simp only [Hz.wipeL1, Hz.wipeL2, Hz.wipeL3, List.set_cons_succ, List.set_cons_zero])
  · by_cases c1 : k + 2 ≤ 4 + (x : Int)
    · by_cases c2 : (4 + (x : Int)) % s = 0
      · have z := hk1 ⟨c1, c2⟩
        walk_at "hs"
        exact z
      · have z := hk0 fun h => c2 h.2
        walk_at "hs"
        exact z
    · have z := hk0 fun h => c1 h.1
      walk_at "hs"
      exact z
  · walk_at "hs"
    exact hq
theorem ok__law_cells {w : World} {K : PySem.W.Frag} {mg : Str → Option Value} {base : Heap} {a : Ad} (T : Tx K mg a) : FnG a.P w K mg base CX0 1 a.f__law_cells a.d__law_cells ["rule", "k"] (spT K wellO (W__law_cells K a)) :=
  fn_T [] T.F__law_cells sc__law_cells (fun ts post ep h => len__law_cells h) (fun cdv A outer s H E hr hg => ⟨_, w__law_cells K a,
  (pss_one (ps_ret (pe_ix ix_seq (pe_lc (own := [("n", 2)]) rfl sc__law_cells.nd (pi_range2 (by rfl) (by exact T.z_range) (pa_cons pe_int (pa_cons (pe_op op_add (pv 1) pe_int) pa_nil))) (blkOk_by (by show blkC ["rule", "k", "n"] (defScope s__law_cells) _ _ = true; decide +kernel)) (fun _ _ _ _ _ => (pg_name (i := 2) sc__law_cells.nd rfl (Or.inl rfl))) (fun _ _ _ _ _ => (pts_one (PW.pt (pw_and (pt_cmpR op_ge (pv 2) (pe_op op_add (pv 1) pe_int) (nomark _)) (pw_and1 (pt_cmpR (op_eqD (by exact room64 hr)) (pe_op op_mod (pe_callTy call_int1 (by rfl) (by exact T.z_int) bt_int (pa_cons (pv 2) pa_nil)) (pe_ix ix_seq (pv 0) pe_int (fun _ _ => rfl))) pe_int (nomark _))))))) (fun _ _ _ _ _ => (pv 2))) pe_int (fun _ _ => rfl)))),
  (sv_ret (ev_op2 op_ix (ev_lc (wv := [2]) (by decide) (by decide) (ei_range2 ev_int (ev_add ev_var ev_int)) (g_name (by decide)) (et_and (et_test (ev_ge ev_var (ev_add ev_var ev_int))) (et_test (ev_eq (ev_mod (ev_call1 op_int ev_var) (ev_op2 op_ix ev_var ev_int)) ev_int))) ev_var) ev_int)),
  law__law_cells T⟩)

--.
def W__law_class (K : PySem.W.Frag) (a : Ad) : SpT := fun ts post ep => ts.length = 1 ∧ (∃ n : Int, ts = [tI n] ∧ 0 ≤ n ∧ n ≤ 4000 ∧ post (tI (clsF 20 n)) [none])
theorem len__law_class {K : PySem.W.Frag} {a : Ad} {ts : List T} {post : T → Rho → Prop} {ep : Addr → T → Rho → Prop} (h : W__law_class K a ts post ep) : ts.length = 1 := h.1
/-- return found .. -/
def t__law_class_5 (K : PySem.W.Frag) (a : Ad) : WS := (sRt (wVar 1))
/-- for turn in range(20): .. -/
def t__law_class_2 (K : PySem.W.Frag) (a : Ad) : WS := (sSq (sFor (iR1 (wC (.int 20))) (gN 2)
  (sIf (bT (wII0 bGe (wVar 0) (wC (.int 8)))) (sPar 0 1 (aCons (wII CDiv iDiv (wVar 0) (wC (.int 2))) (aCons (wII0 iAdd (wVar 1) (wC (.int 1))) aNil))) sNx)) (t__law_class_5 K a))
def w__law_class (K : PySem.W.Frag) (a : Ad) : WS := (sSq (sAs (wC (.int 0)) (gN 1)) (t__law_class_2 K a))

theorem law__law_class {K : PySem.W.Frag} {mg : Str → Option Value} {a : Ad} (tx : Tx K mg a) : ∀ ts post ep, W__law_class K a ts post ep → ts.length = 1 → w__law_class K a (outO [] 1 post) (outX [] 1 ep) (startT 3 ts) := by
  intro ts post ep hW hl
  replace hW := hW.2
  obtain ⟨n, rfl, n0, n1, hq⟩ := hW
  walk_at "hs"
  refine ⟨OnR [0, 1, 2] (fun i vs => ∃ (n' c : Int) (x : Option T), vs = [some (tI n'), some (tI c), x] ∧ clsF (20 - i) n' + c = clsF 20 n) _, onR0 ⟨n, 0, none, rfl, Int.add_zero _⟩ rfl, ?_, ?_⟩
  · rintro i ρ hi ⟨_, ⟨n', c, x, rfl, h1⟩, rfl⟩
    replace hi : i < 20 := hi
    obtain ⟨m, hm⟩ : ∃ m, 20 - i = m + 1 := ⟨19 - i, by omega⟩
    rw [hm] at h1
    have hm2 : 20 - (i + 1) = m := by omega
    by_cases c8 : 8 ≤ n'
    · rw [show clsF (m + 1) n' = clsF m (n' / 2) + 1 from if_pos c8] at h1
      walk_at "hs"
      exact ⟨_, ⟨_, _, _, rfl, by rw [hm2]; omega⟩, rfl⟩
    · have e : clsF m n' = 0 := by
        cases m with
        | zero => rfl
        | succ m => exact if_neg c8
      rw [show clsF (m + 1) n' = 0 from if_neg c8] at h1
      walk_at "hs"
      exact ⟨_, ⟨_, _, _, rfl, by rw [hm2, e]; exact h1⟩, rfl⟩
  · rintro ρ ⟨_, ⟨n', c, x, rfl, h1⟩, rfl⟩
    replace h1 : 0 + c = clsF 20 n := h1
    rw [Int.zero_add] at h1
    rw [← h1] at hq
    walk_at "hs"
    exact hq
theorem ok__law_class {w : World} {K : PySem.W.Frag} {mg : Str → Option Value} {base : Heap} {a : Ad} (T : Tx K mg a) : FnG a.P w K mg base CX0 1 a.f__law_class a.d__law_class ["n"] (spT K wellO (W__law_class K a)) :=
  fn_T [] T.F__law_class sc__law_class (fun ts post ep h => len__law_class h) (fun cdv A outer s H E hr hg => ⟨_, w__law_class K a,
  (pss_cons (ps_set (i := 1) sc__law_class.nd rfl (Or.inl rfl) pe_int)
  (pss_cons (ps_for PassesOwn.never rfl (pi_range1 (by rfl) (by exact T.z_range) (pa_cons pe_int pa_nil)) (pg_name (i := 2) sc__law_class.nd rfl (Or.inl rfl))
  (pss_one (ps_if (pt_cmpR op_ge (pv 0) pe_int (nomark _)) (pss_one (ps_par (i := 0) (j := 1) rfl sc__law_class.nd rfl rfl (by decide) rfl rfl (pa_cons (pe_op op_fdiv (pv 0) pe_int) (pa_cons (pe_op op_add (pv 1) pe_int) pa_nil)) (by rfl))) pss_nil)))
  (pss_one (ps_ret (pv 1))))),
  (sv_seq (sv_asg ev_int (g_name (by decide)))
  (sv_seq (sv_for (ei_range1 ev_int) (g_name (by decide))
  (sv_if (et_test (ev_ge ev_var ev_int)) (sv_par (by decide) (by decide) (ea_cons (ev_fdiv ev_var ev_int) (ea_cons (ev_add ev_var ev_int) ea_nil))) sv_next))
  (sv_ret ev_var))),
  law__law_class T⟩)

def W__law_many (K : PySem.W.Frag) (a : Ad) : SpT := fun ts post ep => ts.length = 2 ∧ (∃ (n : Int) (f o m : Str) (p s : Int), ts = [tI n, .dat (ruT f o m p s)] ∧ 0 ≤ n ∧ n ≤ 4000 ∧ post (tI (listsF n o)) [none, none])
theorem len__law_many {K : PySem.W.Frag} {a : Ad} {ts : List T} {post : T → Rho → Prop} {ep : Addr → T → Rho → Prop} (h : W__law_many K a ts post ep) : ts.length = 2 := h.1

def w__law_many (K : PySem.W.Frag) (a : Ad) : WS := (sRt (wIf (bT (w2 (sEqT false) (w2 sIx (wVar 1) (wC (.int 1))) (wC (.str "classes")))) (wII0 iAdd (wCall 1 0 (fun us _ => us) (W__law_class K a) (aCons (wVar 0) aNil) aNil) (wC (.int 1))) (wC (.int 1))))

theorem law__law_many {K : PySem.W.Frag} {mg : Str → Option Value} {a : Ad} (tx : Tx K mg a) : ∀ ts post ep, W__law_many K a ts post ep → ts.length = 2 → w__law_many K a (outO [] 2 post) (outX [] 2 ep) (startT 2 ts) := by
  intro ts post ep hW hl
  replace hW := hW.2
  obtain ⟨n, f, o, m, p, s, rfl, n0, n1, hq⟩ := hW
  by_cases c : o = "classes"
  · rw [show listsF n o = clsF 20 n + 1 from if_pos c] at hq
    walk_at "hs"
    exact hq
  · rw [show listsF n o = 1 from if_neg c] at hq
    walk_at "hs"
    exact hq
theorem ok__law_many {w : World} {K : PySem.W.Frag} {mg : Str → Option Value} {base : Heap} {a : Ad} (T : Tx K mg a) : FnG a.P w K mg base CX0 2 a.f__law_many a.d__law_many ["size", "rule"] (spT K wellO (W__law_many K a)) :=
  fn_T [] T.F__law_many sc__law_many (fun ts post ep h => len__law_many h) (fun cdv A outer s H E hr hg => ⟨_, w__law_many K a,
  (pss_one (ps_ret (pe_ifExp (pt_cmpR op_eq (pe_ix ix_seq (pv 1) pe_int (fun _ _ => rfl)) pe_str (nomark _)) (pe_op op_add (pg_call (ok__law_class T) (by exact hr.mono (by decide)) (by exact hg) (by rfl) (by exact T.g__law_class) (by exact T.F__law_class.kp) T.b__law_class_1 passG (pa_cons (pv 0) pa_nil)) pe_int) pe_int))),
  (sv_ret (ev_if (et_test (ev_eqT (ev_op2 op_ix ev_var ev_int) ev_str)) (ev_add (ev_call (Wf := (W__law_class K a)) (n := 1) (m := 0) mk_pos (ea_cons ev_var ea_nil) ea_nil) ev_int) ev_int)),
  law__law_many T⟩)

--.
theorem cls_le : ∀ (f : Nat) (n : Int), clsF f n ≤ f ∧ 0 ≤ clsF f n
  | 0, n => ⟨Int.le_refl _, Int.le_refl _⟩
  | f + 1, n => by
    have := cls_le f (n / 2)
    show (if 8 ≤ n then clsF f (n / 2) + 1 else 0) ≤ ((f + 1 : Nat) : Int) ∧ 0 ≤ (if 8 ≤ n then clsF f (n / 2) + 1 else 0)
    split <;> omega
theorem lists_le {n : Int} {o : Str} : listsF n o ≤ 21 ∧ 1 ≤ listsF n o := by
  have := cls_le 20 n
  unfold listsF
  split <;> omega
def W__law_region (K : PySem.W.Frag) (a : Ad) : SpT := fun ts post ep => ts.length = 2 ∧ (∃ (n : Int) (f o m : Str) (p s : Int), ts = [tI n, .dat (ruT f o m p s)] ∧ 32 ≤ n ∧ n ≤ 4000 ∧ 1 ≤ s ∧ s ≤ 8 ∧ post (.dat (regD n o s)) [none, none])
theorem len__law_region {K : PySem.W.Frag} {a : Ad} {ts : List T} {post : T → Rho → Prop} {ep : Addr → T → Rho → Prop} (h : W__law_region K a ts post ep) : ts.length = 2 := h.1
/-- return (begin, begin + max([n for n in range(size - begin + 1) if int(n) % rule[4] == 0])) .. -/
def t__law_region_2 (K : PySem.W.Frag) (a : Ad) : WS := (sRt (wTup (aCons (wVar 2) (aCons (wII0 iAdd (wVar 2) (w1 (sMinD PySem.W.maxD) (wLc (iR1 (wII0 iAdd (wII0 iSub (wVar 0) (wVar 2)) (wC (.int 1)))) (gN 3) (bT (wEq false (wII CMod iMod (w1 sInt (wVar 3)) (w2 sIx (wVar 1) (wC (.int 4)))) (wC (.int 0)))) (wVar 3) [3]))) aNil))))
def w__law_region (K : PySem.W.Frag) (a : Ad) : WS := (sSq (sAs (wII0 iAdd (wC (.int 1)) (wCall 2 0 (fun us _ => us) (W__law_many K a) (aCons (wVar 0) (aCons (wVar 1) aNil)) aNil)) (gN 2)) (t__law_region_2 K a))

theorem law__law_region {K : PySem.W.Frag} {mg : Str → Option Value} {a : Ad} (tx : Tx K mg a) : ∀ ts post ep, W__law_region K a ts post ep → ts.length = 2 → w__law_region K a (outO [] 2 post) (outX [] 2 ep) (startT 4 ts) := by
  intro ts post ep hW hl
  replace hW := hW.2
  obtain ⟨n, f, o, m, p, s, rfl, n0, n1, s1, s8, hq⟩ := hW
  obtain ⟨l1, l2⟩ := lists_le (n := n) (o := o)
  have hz : (List.range (n - (1 + listsF n o) + 1).toNat).length ≤ 1000000 := by rw [List.length_range]; omega
  obtain ⟨t, ht⟩ : ∃ t, t = n - (1 + listsF n o) := ⟨_, rfl⟩
  have t0 : 0 ≤ t := by omega
  have hb : ∀ x : Int, 0 ≤ x → x ≤ t → x % s = 0 → x ≤ t / s * s := fun x x0 x1 x2 => by
    have hs : s = 1 ∨ s = 2 ∨ s = 3 ∨ s = 4 ∨ s = 5 ∨ s = 6 ∨ s = 7 ∨ s = 8 := by omega
    rcases hs with rfl | rfl | rfl | rfl | rfl | rfl | rfl | rfl <;> omega
  have hm : 0 ≤ t / s * s ∧ t / s * s ≤ t ∧ t / s * s % s = 0 := by
    have hs : s = 1 ∨ s = 2 ∨ s = 3 ∨ s = 4 ∨ s = 5 ∨ s = 6 ∨ s = 7 ∨ s = 8 := by omega
    rcases hs with rfl | rfl | rfl | rfl | rfl | rfl | rfl | rfl <;> omega
  replace hq : post (.dat (.tuple [.int (1 + listsF n o), .int (1 + listsF n o + t / s * s)])) [none, none] := by rw [ht]; exact hq
  walk_at "hs"
  rw [← ht]
  rw [← ht] at hz
  refine lcD (List.range (t + 1).toNat) (fun i : Nat => tI (0 + (i : Int))) (fun i : Nat => (0 + (i : Int)) % s = 0) (fun i : Nat => tI (0 + (i : Int))) (by rw [List.length_range]) (fun i x hx => Hz.rng_at (fun i : Nat => tI (0 + (i : Int))) hx) hz (fun x hx q kk hq hk1 hk0 => ?_) ?_
  all_goals (try simp only [Hz.wipeL1, Hz.wipeL2, Hz.wipeL3, List.set_cons_succ, List.set_cons_zero])
  · walk_at "hs"
    rw [eqv_int]
    by_cases c2 : (0 + (x : Int)) % s = 0
    · have z := hk1 c2
      rw [decide_eq_true c2]
      walk_at "hs"
      exact z
    · have z := hk0 c2
      rw [decide_eq_false c2]
      walk_at "hs"
      exact z
  · have hmem : (t / s * s).toNat ∈ (List.range (t + 1).toNat).filter fun i : Nat => decide ((0 + (i : Int)) % s = 0) := List.mem_filter.mpr ⟨List.mem_range.mpr (by omega), decide_eq_true (by rw [show (0 : Int) + ((t / s * s).toNat : Int) = t / s * s by omega]; exact hm.2.2)⟩
    refine sMaxD_I (f := fun i : Nat => 0 + (i : Int)) rfl (List.ne_nil_of_mem hmem) fun x hx hmax => ?_
    obtain ⟨x1, x2⟩ := List.mem_filter.mp hx
    have x3 := List.mem_range.mp x1
    have := hmax _ hmem
    have := hb (0 + (x : Int)) (by omega) (by omega) (of_decide_eq_true x2)
    have ex : (0 : Int) + (x : Int) = t / s * s := by omega
    rw [ex]
    walk_at "hs"
    exact hq
theorem ok__law_region {w : World} {K : PySem.W.Frag} {mg : Str → Option Value} {base : Heap} {a : Ad} (T : Tx K mg a) : FnG a.P w K mg base CX0 3 a.f__law_region a.d__law_region ["size", "rule"] (spT K wellO (W__law_region K a)) :=
  fn_T [] T.F__law_region sc__law_region (fun ts post ep h => len__law_region h) (fun cdv A outer s H E hr hg => ⟨_, w__law_region K a,
  (pss_cons (ps_set (i := 2) sc__law_region.nd rfl (Or.inl rfl) (pe_op op_add pe_int (pg_call (ok__law_many T) (by exact hr.mono (by decide)) (by exact hg) (by rfl) (by exact T.g__law_many) (by exact T.F__law_many.kp) T.b__law_many_2 passG (pa_cons (pv 0) (pa_cons (pv 1) pa_nil)))))
  (pss_one (ps_ret (pe_tup (pa_cons (pv 2) (pa_cons (pe_op op_add (pv 2) (pe_callB (cr_maxD (by exact hr)) (by rfl) (by exact T.z_max) bt_max (pa_cons (pe_lc (own := [("n", 3)]) rfl sc__law_region.nd (pi_range1 (by rfl) (by exact T.z_range) (pa_cons (pe_op op_add (pe_op op_sub (pv 0) (pv 2)) pe_int) pa_nil)) (blkOk_by (by show blkC ["size", "rule", "begin", "n"] (defScope s__law_region) _ _ = true; decide +kernel)) (fun _ _ _ _ _ => (pg_name (i := 3) sc__law_region.nd rfl (Or.inl rfl))) (fun _ _ _ _ _ => (pts_one (pt_cmpR (op_eqD (by exact room64 hr)) (pe_op op_mod (pe_callTy call_int1 (by rfl) (by exact T.z_int) bt_int (pa_cons (pv 3) pa_nil)) (pe_ix ix_seq (pv 1) pe_int (fun _ _ => rfl))) pe_int (nomark _)))) (fun _ _ _ _ _ => (pv 3))) pa_nil))) pa_nil)))))),
  (sv_seq (sv_asg (ev_add ev_int (ev_call (Wf := (W__law_many K a)) (n := 2) (m := 0) mk_pos (ea_cons ev_var (ea_cons ev_var ea_nil)) ea_nil)) (g_name (by decide)))
  (sv_ret (ev_tup (ea_cons ev_var (ea_cons (ev_add ev_var (ev_call1 op_minD (ev_lc (wv := [3]) (by decide) (by decide) (ei_range1 (ev_add (ev_sub ev_var ev_var) ev_int)) (g_name (by decide)) (et_test (ev_eq (ev_mod (ev_call1 op_int ev_var) (ev_op2 op_ix ev_var ev_int)) ev_int)) ev_var))) ea_nil))))),
  law__law_region T⟩)

--.

def isStrD : PyData → Bool
  | .str _ => true
  | _ => false
theorem str_of {d : PyData} (h : isStrD d = true) : ∃ x, d = .str x := by
  cases d with
  | str x => exact ⟨x, rfl⟩
  | _ => cases h
theorem word_no {ws : List Str} {d : PyData} (h : isStrD d = false) : isWordD ws d = false := by
  cases d with
  | str x => cases h
  | _ => rfl
/-- return int(spare) % step == 0 .. -/
def t__law_is_rule_10 (K : PySem.W.Frag) (a : Ad) : WS := (sRt (wEq false (wII CMod iMod (w1 sInt (wVar 5)) (wVar 6)) (wC (.int 0))))
/-- if fit == 'next' and order != 'address' or (order == 'classes' and fit != 'first'): .. -/
def t__law_is_rule_8 (K : PySem.W.Frag) (a : Ad) : WS := (sSq (sIf (bOr (bAnd (bT (w2 (sEqT false) (wVar 2) (wC (.str "next")))) (bT (w2 (sEqT true) (wVar 3) (wC (.str "address"))))) (bAnd (bT (w2 (sEqT false) (wVar 3) (wC (.str "classes")))) (bT (w2 (sEqT true) (wVar 2) (wC (.str "first")))))) (sRt (wC (.bool false))) sNx) (sStop (t__law_is_rule_10 K a)))
/-- if merge not in ['at once', 'late'] or not _law_is_int(step, 1, 8) or (not _law_is_int(spare, 4, 64)): .. -/
def t__law_is_rule_6 (K : PySem.W.Frag) (a : Ad) : WS := (sSq (sIf (bOr (bT (wInD true (wVar 4) (wLst (aCons (wC (.str "at once")) (aCons (wC (.str "late")) aNil))))) (bOr (bNot (bT (wCall 3 0 (fun us _ => us) (W__law_is_int K a) (aCons (wVar 6) (aCons (wC (.int 1)) (aCons (wC (.int 8)) aNil))) aNil))) (bNot (bT (wCall 3 0 (fun us _ => us) (W__law_is_int K a) (aCons (wVar 5) (aCons (wC (.int 4)) (aCons (wC (.int 64)) aNil))) aNil))))) (sRt (wC (.bool false))) sNx) (sStop (t__law_is_rule_8 K a)))
/-- if fit not in ['first', 'next', 'best', 'worst'] or order not in ['address', 'latest', 'classes']: .. -/
def t__law_is_rule_4 (K : PySem.W.Frag) (a : Ad) : WS := (sSq (sIf (bOr (bT (wInD true (wVar 2) (wLst (aCons (wC (.str "first")) (aCons (wC (.str "next")) (aCons (wC (.str "best")) (aCons (wC (.str "worst")) aNil))))))) (bT (wInD true (wVar 3) (wLst (aCons (wC (.str "address")) (aCons (wC (.str "latest")) (aCons (wC (.str "classes")) aNil))))))) (sRt (wC (.bool false))) sNx) (sStop (t__law_is_rule_6 K a)))
/-- fit, order, merge, spare, step = value .. -/
def t__law_is_rule_3 (K : PySem.W.Frag) (a : Ad) : WS := (sSq (sAs (wVar 0) (gTp 5 (gCn (gN 2) (gCn (gN 3) (gCn (gN 4) (gCn (gN 5) (gCn (gN 6) gNl))))))) (sStop (t__law_is_rule_4 K a)))
def w__law_is_rule (K : PySem.W.Frag) (a : Ad) : WS := (sSq (sIf (bOr (bNot (bT (w2 (sIsi K) (wVar 0) (wCst (.ty "tuple"))))) (bOr (bT (wEq true (w1 sLen (wVar 0)) (wC (.int 5)))) (bT (wInD false (wC (.bool false)) (wLc (iSeq false (wSlT (wVar 0) oNone (oSome (wC (.int 3))))) (gN 1) bYes (w2 (sIsi K) (wVar 1) (wCst (.ty "str"))) [1]))))) (sRt (wC (.bool false))) sNx) (sStop (t__law_is_rule_3 K a)))

section
variable {K : PySem.W.Frag} {mg : Str → Option Value} {a : Ad} {Qx : Hz.WX} {post : T → Rho → Prop} {d p s : PyData} {f o m : Str} {x1 x2 x3 x4 x5 x6 : Option T}
theorem isr10 (tx : Tx K mg a) {i j : Int} (j1 : 1 ≤ j) (hq : post (tBo (decide (i % j = 0))) [none]) :
    t__law_is_rule_10 K a (outO [] 1 post) Qx [some (.dat d), x6, x1, x2, x3, some (tI i), some (tI j)] := by
  walk_at "hs"
  rw [eqv_int]
  exact hq
theorem isr8 (tx : Tx K mg a) {i j : Int} (j1 : 1 ≤ j) (hq : post (tBo (foD (.str f) (.str o) && decide (i % j = 0))) [none]) :
    t__law_is_rule_8 K a (outO [] 1 post) Qx [some (.dat d), x6, some (.dat (.str f)), some (.dat (.str o)), x3, some (tI i), some (tI j)] := by
  have no : foD (.str f) (.str o) = false → post (tBo false) [none] := fun e => by rw [e, Bool.false_and] at hq; exact hq
  have ys : foD (.str f) (.str o) = true → t__law_is_rule_10 K a (outO [] 1 post) Qx [some (.dat d), x6, some (.dat (.str f)), some (.dat (.str o)), x3, some (tI i), some (tI j)] := fun e => by
    rw [e, Bool.true_and] at hq
    exact isr10 tx j1 hq
  have fin : ∀ b : Bool, foD (.str f) (.str o) = b → (b = false → post (tBo false) [none]) ∧ (b = true → t__law_is_rule_10 K a (outO [] 1 post) Qx [some (.dat d), x6, some (.dat (.str f)), some (.dat (.str o)), x3, some (tI i), some (tI j)]) := fun b e => ⟨fun z => no (e.trans z), fun z => ys (e.trans z)⟩
  clear no ys hq
  by_cases c1 : f = "next"
  · by_cases c2 : o = "address"
    · have c3 : ¬ o = "classes" := by rw [c2]; decide +kernel
      have z := (fin true (by rw [foD_val (decide_eq_true c1) (decide_eq_true c2) (decide_eq_false c3) rfl]; rfl)).2 rfl
      clear fin
      walk_at "hs"
      exact sNx_of ⟨z⟩
    · have z := (fin false (by rw [foD_val (decide_eq_true c1) (decide_eq_false c2) rfl rfl]; rfl)).1 rfl
      clear fin
      walk_at "hs"
      exact z
  · by_cases c3 : o = "classes"
    · by_cases c4 : f = "first"
      · have z := (fin true (by rw [foD_val (decide_eq_false c1) rfl (decide_eq_true c3) (decide_eq_true c4), Bool.false_and]; rfl)).2 rfl
        clear fin
        walk_at "hs"
        exact sNx_of ⟨z⟩
      · have z := (fin false (by rw [foD_val (decide_eq_false c1) rfl (decide_eq_true c3) (decide_eq_false c4), Bool.false_and]; rfl)).1 rfl
        clear fin
        walk_at "hs"
        exact z
    · have z := (fin true (by rw [foD_val (decide_eq_false c1) rfl (decide_eq_false c3) rfl, Bool.false_and, Bool.false_and]; rfl)).2 rfl
      clear fin
      walk_at "hs"
      exact sNx_of ⟨z⟩
theorem sh_strsL (xs : List Str) (h : ∀ x ∈ xs, (PyData.str x).canLay0 = true) : SeqAt.shaped (.list (xs.map .str)) = true := shaped_of (lay_all.mpr fun d hd => by
  obtain ⟨x, hx, rfl⟩ := List.mem_map.mp hd
  exact h x hx) (by
  have := (dep_all (k := 0) (ds := xs.map .str)).mpr fun d hd => by obtain ⟨x, _, rfl⟩ := List.mem_map.mp hd; exact Nat.zero_le _
  show PyData.depthAll _ + 1 ≤ 64
  omega)
theorem isr6 (tx : Tx K mg a) (gm : Gd (.str m)) (gp : Gd p) (gs : Gd s) (hq : post (tBo (isBetD 1 8 s && (isWordD merS (.str m) && (foD (.str f) (.str o) && spD p s)))) [none]) :
    t__law_is_rule_6 K a (outO [] 1 post) Qx [some (.dat d), x6, some (.dat (.str f)), some (.dat (.str o)), some (.dat (.str m)), some (.dat p), some (.dat s)] := by
  have sm := gm.shaped
  have w3 := sh_strsL merS lay_mer
  have an : (List.any [PyData.str "at once", .str "late"] fun z => PyData.eqv z (.str m)) = decide (m ∈ merS) := any_str (ws := merS)
  have hf : isBetD 1 8 s = false ∨ isWordD merS (.str m) = false ∨ isBetD 4 64 p = false → post (tBo false) [none] := fun h => by
    have e : (isBetD 1 8 s && (isWordD merS (.str m) && (foD (.str f) (.str o) && spD p s))) = false := by
      rcases h with h | h | h
      · rw [h, Bool.false_and]
      · rw [h, Bool.false_and, Bool.and_false]
      · have e2 : spD p s = false := by
          cases p with
          | int i =>
            cases s with
            | int j =>
              show (isBetD 4 64 (.int i) && _) = false
              rw [h]
              rfl
            | _ => rfl
          | _ => rfl
        rw [e2, Bool.and_false, Bool.and_false, Bool.and_false]
    rw [e] at hq
    exact hq
  cases e1 : decide (m ∈ merS) with
  | false =>
    have z := hf (.inr (.inl e1))
    clear hf hq
    walk_at "hs"
    rw [nInT, an, e1, Bool.not_false]
    walk_at "hs"
    exact z
  | true =>
    cases e2 : isBetD 1 8 s with
    | false =>
      have z := hf (.inl e2)
      clear hf hq
      walk_at "hs"
      rw [nInT, an, e1, Bool.not_true]
      walk_at "hs"
      exact z
    | true =>
      cases e3 : isBetD 4 64 p with
      | false =>
        have z := hf (.inr (.inr e3))
        clear hf hq
        walk_at "hs"
        rw [nInT, an, e1, Bool.not_true]
        walk_at "hs"
        exact z
      | true =>
        cases s with
        | int j =>
          cases p with
          | int i =>
            have hj : 1 ≤ j ∧ j ≤ 8 := of_decide_eq_true e2
            have e4 : (isBetD 1 8 (.int j) && (isWordD merS (.str m) && (foD (.str f) (.str o) && spD (.int i) (.int j)))) = (foD (.str f) (.str o) && decide (i % j = 0)) := by
              rw [e2, show isWordD merS (.str m) = true from e1, show spD (.int i) (.int j) = (isBetD 4 64 (.int i) && decide (i % j = 0)) from rfl, e3]
              rfl
            rw [e4] at hq
            have z := isr8 (Qx := Qx) (d := d) (x3 := some (.dat (.str m))) (x6 := x6) tx hj.1 hq
            clear hf hq
            walk_at "hs"
            rw [nInT, an, e1, Bool.not_true]
            walk_at "hs"
            exact sNx_of ⟨z⟩
          | _ => exact absurd e3 (by intro z; cases z)
        | _ => exact absurd e2 (by intro z; cases z)
theorem isr4 (tx : Tx K mg a) (gf : Gd (.str f)) (go : Gd (.str o)) (gm : Gd (.str m)) (gp : Gd p) (gs : Gd s) (hq : post (tBo (isBetD 1 8 s && (isWordD fitsS (.str f) && (isWordD ordS (.str o) && (isWordD merS (.str m) && (foD (.str f) (.str o) && spD p s)))))) [none]) :
    t__law_is_rule_4 K a (outO [] 1 post) Qx [some (.dat d), x6, some (.dat (.str f)), some (.dat (.str o)), some (.dat (.str m)), some (.dat p), some (.dat s)] := by
  have sf := gf.shaped
  have so := go.shaped
  have w1 := sh_strsL fitsS lay_fits
  have w2 := sh_strsL ordS lay_ord
  have a1 : (List.any [PyData.str "first", .str "next", .str "best", .str "worst"] fun z => PyData.eqv z (.str f)) = decide (f ∈ fitsS) := any_str (ws := fitsS)
  have a2 : (List.any [PyData.str "address", .str "latest", .str "classes"] fun z => PyData.eqv z (.str o)) = decide (o ∈ ordS) := any_str (ws := ordS)
  have hf : isWordD fitsS (.str f) = false ∨ isWordD ordS (.str o) = false → post (tBo false) [none] := fun h => by
    rcases h with h | h
    · rw [h, Bool.false_and, Bool.and_false] at hq
      exact hq
    · rw [h, Bool.false_and, Bool.and_false, Bool.and_false] at hq
      exact hq
  cases e1 : decide (f ∈ fitsS) with
  | false =>
    have z := hf (.inl e1)
    clear hf hq
    walk_at "hs"
    rw [nInT, a1, e1, Bool.not_false]
    walk_at "hs"
    exact z
  | true =>
    cases e2 : decide (o ∈ ordS) with
    | false =>
      have z := hf (.inr e2)
      clear hf hq
      walk_at "hs"
      rw [nInT, a1, e1, Bool.not_true]
      walk_at "hs"
      rw [nInT, a2, e2, Bool.not_false]
      walk_at "hs"
      exact z
    | true =>
      rw [show isWordD fitsS (.str f) = true from e1, show isWordD ordS (.str o) = true from e2, Bool.true_and, Bool.true_and] at hq
      have z := isr6 (Qx := Qx) (d := d) (x6 := x6) tx gm gp gs hq
      clear hf hq
      walk_at "hs"
      rw [nInT, a1, e1, Bool.not_true]
      walk_at "hs"
      rw [nInT, a2, e2, Bool.not_true]
      walk_at "hs"
      exact sNx_of ⟨z⟩
theorem isr3 (tx : Tx K mg a) (gf : Gd (.str f)) (go : Gd (.str o)) (gm : Gd (.str m)) (gp : Gd p) (gs : Gd s) (hq : post (tBo (isBetD 1 8 s && (isWordD fitsS (.str f) && (isWordD ordS (.str o) && (isWordD merS (.str m) && (foD (.str f) (.str o) && spD p s)))))) [none]) :
    t__law_is_rule_3 K a (outO [] 1 post) Qx [some (.dat (.tuple [.str f, .str o, .str m, p, s])), x6, x1, x2, x3, x4, x5] := by
  walk_at "hs"
  exact ⟨isr4 tx gf go gm gp gs hq⟩
end
def W__law_is_rule (K : PySem.W.Frag) (a : Ad) : SpT := fun ts post ep => ts.length = 1 ∧ (∃ d : PyData, ts = [.dat d] ∧ Gd d ∧ post (tBo (isRuleD d)) [none])
theorem len__law_is_rule {K : PySem.W.Frag} {a : Ad} {ts : List T} {post : T → Rho → Prop} {ep : Addr → T → Rho → Prop} (h : W__law_is_rule K a ts post ep) : ts.length = 1 := h.1

theorem law__law_is_rule {K : PySem.W.Frag} {mg : Str → Option Value} {a : Ad} (tx : Tx K mg a) : ∀ ts post ep, W__law_is_rule K a ts post ep → ts.length = 1 → w__law_is_rule K a (outO [] 1 post) (outX [] 1 ep) (startT 7 ts) := by
  intro ts post ep hW hl
  replace hW := hW.2
  obtain ⟨d, rfl, gd, hq⟩ := hW
  cases d with
  | dict xs => exact gd.dict.elim
  | none => walk_at "hs"; exact hq
  | bool b => walk_at "hs"; exact hq
  | str x => walk_at "hs"; exact hq
  | list xs => walk_at "hs"; exact hq
  | int i => walk_at "hs"; exact hq
  | tuple ds =>
    cases h5 : isTupD 5 5 (.tuple ds) with
    | false =>
      rw [rule_no h5] at hq
      have hl : ¬ ds.length = 5 := fun z => by
        rw [show isTupD 5 5 (.tuple ds) = true from decide_eq_true ⟨by omega, by omega⟩] at h5
        cases h5
      have el : (PyData.int ((List.map T.dat ds).length : Nat)).eqv (.int 5) = false := by
        rw [eqv_int, List.length_map]
        exact decide_eq_false (by omega)
      walk_at "hs"
      rw [if_pos rfl, el, Bool.not_false]
      walk_at "hs"
      exact hq
    | true =>
      obtain ⟨f, o, m, p, s, e5⟩ := tup5 h5
      cases e5
      have gf := gd.tup f (by simp)
      have go := gd.tup o (by simp)
      have gm := gd.tup m (by simp)
      have gp := gd.tup p (by simp)
      have gs := gd.tup s (by simp)
      have el : (PyData.int ((List.map T.dat [f, o, m, p, s]).length : Nat)).eqv (.int 5) = true := by
        rw [eqv_int]
        exact decide_eq_true rfl
      have hz : [f, o, m].length ≤ 1000000 := by simp only [List.length_cons, List.length_nil]; omega
      walk_at "hs"
      rw [if_pos rfl, el, Bool.not_true]
      walk_at "hs"
      rw [show cutL [f, o, m, p, s] none (some 3) = [f, o, m] from rfl]
      have sb : ∀ b1 b2 b3 : Bool, SeqAt.shaped (.list [.bool b1, .bool b2, .bool b3]) = true := fun b1 b2 b3 => shaped_of (lay_all.mpr fun d hd => by
        simp only [List.mem_cons, List.not_mem_nil, or_false] at hd
        rcases hd with rfl | rfl | rfl <;> rfl) (by show max 0 (max 0 (max 0 0)) + 1 ≤ 64; decide)
      have s0 : SeqAt.shaped (.bool false) = true := rfl
      have an : ∀ b1 b2 b3 : Bool, (List.any [PyData.bool b1, .bool b2, .bool b3] fun z => PyData.eqv z (.bool false)) = !(b1 && (b2 && b3)) := fun b1 b2 b3 => by cases b1 <;> cases b2 <;> cases b3 <;> rfl
      replace hq : post (tBo (isBetD 1 8 s && (isWordD fitsS f && (isWordD ordS o && (isWordD merS m && (foD f o && spD p s)))))) [none] := hq
      refine lcM ([f, o, m]) (.dat) (fun y => tBo (isStrD y)) (by walk_at "hn") (fun i x hx => by walk_at "hit") (by walk_at "om") (fun y hy q kk hq hk1 => ?_) ?_
      all_goals (try simp only [Hz.wipeL1, Hz.wipeL2, Hz.wipeL3, List.set_cons_succ, List.set_cons_zero])
      · have gy : Gd y := by
          simp only [List.mem_cons, List.not_mem_nil, or_false] at hy
          rcases hy with rfl | rfl | rfl <;> assumption
        cases y with
        | dict xs => exact gy.dict.elim
        | int i => walk_at "hs"; exact hk1
        | none => walk_at "hs"; exact hk1
        | bool b => walk_at "hs"; exact hk1
        | str x => walk_at "hs"; exact hk1
        | list xs => walk_at "hs"; exact hk1
        | tuple xs => walk_at "hs"; exact hk1
      · rw [List.map_cons, List.map_cons, List.map_cons, List.map_nil]
        have sb1 := sb (isStrD f) (isStrD o) (isStrD m)
        have an1 := an (isStrD f) (isStrD o) (isStrD m)
        cases e : (isStrD f && (isStrD o && isStrD m)) with
        | false =>
          have en : (isBetD 1 8 s && (isWordD fitsS f && (isWordD ordS o && (isWordD merS m && (foD f o && spD p s))))) = false := by
            cases e1 : isStrD f with
            | false => rw [word_no e1, Bool.false_and, Bool.and_false]
            | true =>
              cases e2 : isStrD o with
              | false => rw [word_no (ws := ordS) e2, Bool.false_and, Bool.and_false, Bool.and_false]
              | true =>
                cases e3 : isStrD m with
                | false => rw [word_no (ws := merS) e3, Bool.false_and, Bool.and_false, Bool.and_false, Bool.and_false]
                | true => rw [e1, e2, e3] at e; cases e
          rw [en] at hq
          rw [e] at an1
          walk_at "hs"
          rw [an1]
          walk_at "hs"
          exact hq
        | true =>
          rw [e] at an1
          simp only [Bool.and_eq_true] at e
          obtain ⟨f, rfl⟩ := str_of e.1
          obtain ⟨o, rfl⟩ := str_of e.2.1
          obtain ⟨m, rfl⟩ := str_of e.2.2
          have z := fun x6 => isr4 (Qx := outX [] 1 ep) (d := .tuple [.str f, .str o, .str m, p, s]) (x6 := x6) tx gf go gm gp gs hq
          walk_at "hs"
          rw [an1]
          walk_at "hs"
          exact sNx_of ⟨isr3 tx gf go gm gp gs hq⟩
theorem ok__law_is_rule {w : World} {K : PySem.W.Frag} {mg : Str → Option Value} {base : Heap} {a : Ad} (T : Tx K mg a) : FnG a.P w K mg base CX0 2 a.f__law_is_rule a.d__law_is_rule ["value"] (spT K wellO (W__law_is_rule K a)) :=
  fn_T [] T.F__law_is_rule sc__law_is_rule (fun ts post ep h => len__law_is_rule h) (fun cdv A outer s H E hr hg => ⟨_, w__law_is_rule K a,
  (pss_cons (ps_if (PW.pt (pw_or (pt_not (pt_val (pe_callB call_isi (by rfl) (by exact T.z_isinstance) bt_isinstance (pa_cons (pv 0) (pa_cons (pe_bltn (v := .ty "tuple") (by rfl) (by exact T.z_tuple) bt_tuple rfl) pa_nil))))) (pw_or (pt_cmpR (op_neD (by exact room64 hr)) (pe_callB (call_lenK (K := K) rfl) (by rfl) (by exact T.z_len) bt_len (pa_cons (pv 0) pa_nil)) pe_int (nomark _)) (pw_or1 (pt_cmpR (op_inD (by have := room65 hr; exact this)) pe_bl (pe_lc (own := [("word", 1)]) rfl sc__law_is_rule.nd (pi_tup (pe_slice (slTupK (K := K) rfl) (pv 0) po_none (po_some pe_int))) (blkOk_by (by show blkC ["value", "word", "fit", "order", "merge", "spare", "step"] (defScope s__law_is_rule) _ _ = true; decide +kernel)) (fun _ _ _ _ _ => (pg_name (i := 1) sc__law_is_rule.nd rfl (Or.inl rfl))) (fun _ _ _ _ _ => pts_nil) (fun _ _ _ _ _ => (pe_callB call_isi (by rfl) (by exact T.z_isinstance) bt_isinstance (pa_cons (pv 1) (pa_cons (pe_bltn (v := .ty "str") (by rfl) (by exact T.z_str) bt_str rfl) pa_nil))))) (by with_unfolding_all rfl)))))) (pss_one (ps_ret pe_bl)) pss_nil)
  (pss_cons (ps_asg (pv 0) (pg_tup rfl (pgs_cons (pg_name (i := 2) sc__law_is_rule.nd rfl (Or.inl rfl)) (pgs_cons (pg_name (i := 3) sc__law_is_rule.nd rfl (Or.inl rfl)) (pgs_cons (pg_name (i := 4) sc__law_is_rule.nd rfl (Or.inl rfl)) (pgs_cons (pg_name (i := 5) sc__law_is_rule.nd rfl (Or.inl rfl)) (pgs_cons (pg_name (i := 6) sc__law_is_rule.nd rfl (Or.inl rfl)) pgs_nil)))))))
  (pss_cons (ps_if (PW.pt (pw_or (pt_cmpR (op_notInD (by have := room65 hr; exact this)) (pv 2) (pe_lst (pa_cons pe_str (pa_cons pe_str (pa_cons pe_str (pa_cons pe_str pa_nil))))) (by with_unfolding_all rfl)) (pw_or1 (pt_cmpR (op_notInD (by have := room65 hr; exact this)) (pv 3) (pe_lst (pa_cons pe_str (pa_cons pe_str (pa_cons pe_str pa_nil)))) (by with_unfolding_all rfl))))) (pss_one (ps_ret pe_bl)) pss_nil)
  (pss_cons (ps_if (PW.pt (pw_or (pt_cmpR (op_notInD (by have := room65 hr; exact this)) (pv 4) (pe_lst (pa_cons pe_str (pa_cons pe_str pa_nil))) (by with_unfolding_all rfl)) (pw_or (pt_not (pt_val (pg_call (ok__law_is_int T) (by exact hr.mono (by decide)) (by exact hg) (by rfl) (by exact T.g__law_is_int) (by exact T.F__law_is_int.kp) T.b__law_is_int_3 passG (pa_cons (pv 6) (pa_cons pe_int (pa_cons pe_int pa_nil)))))) (pw_or1 (pt_not (pt_val (pg_call (ok__law_is_int T) (by exact hr.mono (by decide)) (by exact hg) (by rfl) (by exact T.g__law_is_int) (by exact T.F__law_is_int.kp) T.b__law_is_int_3 passG (pa_cons (pv 5) (pa_cons pe_int (pa_cons pe_int pa_nil)))))))))) (pss_one (ps_ret pe_bl)) pss_nil)
  (pss_cons (ps_if (PW.pt (pw_or (PW.pt (pw_and (pt_cmpR op_eq (pv 2) pe_str (nomark _)) (pw_and1 (pt_cmpR op_ne (pv 3) pe_str (nomark _))))) (pw_or1 (PW.pt (pw_and (pt_cmpR op_eq (pv 3) pe_str (nomark _)) (pw_and1 (pt_cmpR op_ne (pv 2) pe_str (nomark _)))))))) (pss_one (ps_ret pe_bl)) pss_nil)
  (pss_one (ps_ret (pe_cmpR (op_eqD (by exact room64 hr)) (pe_op op_mod (pe_callTy call_int1 (by rfl) (by exact T.z_int) bt_int (pa_cons (pv 5) pa_nil)) (pv 6)) pe_int (nomark _))))))))),
  (sv_seq (sv_if (et_or (et_not (et_B (ev_call2 op_isi ev_var ev_cst))) (et_or (et_test (ev_ne (ev_call1 (op_lenK (K := K)) ev_var) ev_int)) (et_test (ev_inD ev_bl (ev_lc (wv := [1]) (by decide) (by decide) (ei_tup (ev_slT (K := K) ev_var eo_none (eo_some ev_int))) (g_name (by decide)) et_yes (ev_call2 op_isi ev_var ev_cst)))))) (sv_ret ev_bl) sv_next)
  (sv_stop (sv_seq (sv_asg ev_var (g_tup (g_cons (g_name (by decide)) (g_cons (g_name (by decide)) (g_cons (g_name (by decide)) (g_cons (g_name (by decide)) (g_cons (g_name (by decide)) g_nil)))))))
  (sv_stop (sv_seq (sv_if (et_or (et_test (ev_notInD ev_var (ev_lst (ea_cons ev_str (ea_cons ev_str (ea_cons ev_str (ea_cons ev_str ea_nil))))))) (et_test (ev_notInD ev_var (ev_lst (ea_cons ev_str (ea_cons ev_str (ea_cons ev_str ea_nil))))))) (sv_ret ev_bl) sv_next)
  (sv_stop (sv_seq (sv_if (et_or (et_test (ev_notInD ev_var (ev_lst (ea_cons ev_str (ea_cons ev_str ea_nil))))) (et_or (et_not (et_B (ev_call (Wf := (W__law_is_int K a)) (n := 3) (m := 0) mk_pos (ea_cons ev_var (ea_cons ev_int (ea_cons ev_int ea_nil))) ea_nil))) (et_not (et_B (ev_call (Wf := (W__law_is_int K a)) (n := 3) (m := 0) mk_pos (ea_cons ev_var (ea_cons ev_int (ea_cons ev_int ea_nil))) ea_nil))))) (sv_ret ev_bl) sv_next)
  (sv_stop (sv_seq (sv_if (et_or (et_and (et_test (ev_eqT ev_var ev_str)) (et_test (ev_neT ev_var ev_str))) (et_and (et_test (ev_eqT ev_var ev_str)) (et_test (ev_neT ev_var ev_str)))) (sv_ret ev_bl) sv_next)
  (sv_stop (sv_ret (ev_eq (ev_mod (ev_call1 op_int ev_var) ev_var) ev_int)))))))))))),
  law__law_is_rule T⟩)

--.

/-- what is drawn beside a rule -/
def Itm (d : PyData) : Prop := Sml 1 d
theorem cut_le {ds : List PyData} {lo hi : Option Int} : (cutL ds lo hi).length ≤ ds.length := by
  unfold cutL
  rw [List.length_take, List.length_drop]
  omega
theorem cut_sub {ds : List PyData} {lo hi : Option Int} {d : PyData} (h : d ∈ cutL ds lo hi) : d ∈ ds := List.mem_of_mem_drop (List.mem_of_mem_take h)
/-- return some[_law_draw(well, 13)] .. -/
def t__law_bent_7 (K : PySem.W.Frag) (a : Ad) : WS := (sRt (w2 sIx (wVar 4) (wCall 2 0 (fun us _ => us) (W__law_draw K a) (aCons (wVar 0) (aCons (wC (.int 13)) aNil)) aNil)))
/-- some = some + [rule[:4], rule + (1,), list(rule), None, 'rule', rule[::-1], ()] .. -/
def t__law_bent_6 (K : PySem.W.Frag) (a : Ad) : WS := (sSq (sAs (w2 sCat (wVar 4) (wLst (aCons (wSlT (wVar 1) oNone (oSome (wC (.int 4)))) (aCons (w2 sCatD (wVar 1) (wTup (aCons (wC (.int 1)) aNil))) (aCons (wFz (w1 sList (wVar 1))) (aCons (wC .none) (aCons (wC (.str "rule")) (aCons (w1 sRevT (wVar 1)) (aCons (wTup aNil) aNil))))))))) (gN 4)) (t__law_bent_7 K a))
/-- some = [rule[:at] + (items[_law_draw(well, 30)],) + rule[at + 1:]] * 6 .. -/
def t__law_bent_5 (K : PySem.W.Frag) (a : Ad) : WS := (sSq (sAs (w2 sMulL (wLst (aCons (w2 sCatD (w2 sCatD (wSlT (wVar 1) oNone (oSome (wVar 2))) (wTup (aCons (w2 sIx (wVar 3) (wCall 2 0 (fun us _ => us) (W__law_draw K a) (aCons (wVar 0) (aCons (wC (.int 30)) aNil)) aNil)) aNil))) (wSlT (wVar 1) (oSome (wII0 iAdd (wVar 2) (wC (.int 1)))) oNone)) aNil)) (wC (.int 6))) (gN 4)) (sStop (t__law_bent_6 K a)))
/-- items = items + [0, 1, 2, 3, 4, 5, 8, 9, 12, 63, 64, 65, -4, True, '4', (4,), 72] .. -/
def t__law_bent_4 (K : PySem.W.Frag) (a : Ad) : WS := (sSq (sAs (w2 sCat (wVar 3) (wLst (aCons (wC (.int 0)) (aCons (wC (.int 1)) (aCons (wC (.int 2)) (aCons (wC (.int 3)) (aCons (wC (.int 4)) (aCons (wC (.int 5)) (aCons (wC (.int 8)) (aCons (wC (.int 9)) (aCons (wC (.int 12)) (aCons (wC (.int 63)) (aCons (wC (.int 64)) (aCons (wC (.int 65)) (aCons (wU iNeg (wC (.int 4))) (aCons (wC (.bool true)) (aCons (wC (.str "4")) (aCons (wTup (aCons (wC (.int 4)) aNil)) (aCons (wC (.int 72)) aNil))))))))))))))))))) (gN 3)) (t__law_bent_5 K a))
/-- items = items + [['late']] .. -/
def t__law_bent_3 (K : PySem.W.Frag) (a : Ad) : WS := (sSq (sAs (w2 sCat (wVar 3) (wLst (aCons (wFz (wLst (aCons (wC (.str "late")) aNil))) aNil))) (gN 3)) (t__law_bent_4 K a))
/-- items = ['first', 'next', 'best', 'worst', 'address', 'latest', 'classes', 'at once', 'late', '', 'First', None] .. -/
def t__law_bent_2 (K : PySem.W.Frag) (a : Ad) : WS := (sSq (sAs (wLst (aCons (wC (.str "first")) (aCons (wC (.str "next")) (aCons (wC (.str "best")) (aCons (wC (.str "worst")) (aCons (wC (.str "address")) (aCons (wC (.str "latest")) (aCons (wC (.str "classes")) (aCons (wC (.str "at once")) (aCons (wC (.str "late")) (aCons (wC (.str "")) (aCons (wC (.str "First")) (aCons (wC .none) aNil))))))))))))) (gN 3)) (t__law_bent_3 K a))
def w__law_bent (K : PySem.W.Frag) (a : Ad) : WS := (sSq (sAs (wCall 2 0 (fun us _ => us) (W__law_draw K a) (aCons (wVar 0) (aCons (wC (.int 5)) aNil)) aNil) (gN 2)) (t__law_bent_2 K a))

section
variable {K : PySem.W.Frag} {mg : Str → Option Value} {a : Ad} {Qx : Hz.WX} {post : T → Rho → Prop} {x y z : Int} {n : Nat} {f o m : Str} {p s : Int} {e : PyData} {x2 x3 : Option T}
theorem bent6 (tx : Tx K mg a) (w : Wb n x y z) (hn : n ≤ 900000) (sr : Sml 1 (ruT f o m p s)) (se : Sml 2 e) (hq : ∀ x y z d, Wb (n + 1) x y z → Sml 2 d → post (.dat d) [some (w3T x y z), none]) :
    t__law_bent_6 K a (outO [0] 2 post) Qx [some (w3T x y z), some (.dat (ruT f o m p s)), x2, x3, some (.lst [.dat e, .dat e, .dat e, .dat e, .dat e, .dat e])] := by
  have hr := sr.tup1.2
  have r1 : Sml 2 (.tuple (cutL [.str f, .str o, .str m, .int p, .int s] none (some 4))) := sml_tup (Nat.le_trans cut_le (by simp only [List.length_cons, List.length_nil]; omega)) fun x hx => (hr x (cut_sub hx)).mono (by decide)
  have r2 : Sml 2 (.tuple [.str f, .str o, .str m, .int p, .int s, .int 1]) := sml_tup (by simp only [List.length_cons, List.length_nil]; omega) fun x hx => by
    simp only [List.mem_cons, List.not_mem_nil, or_false] at hx
    rcases hx with rfl | rfl | rfl | rfl | rfl | rfl
    · exact (hr _ (by simp)).mono (by decide)
    · exact (hr _ (by simp)).mono (by decide)
    · exact (hr _ (by simp)).mono (by decide)
    · exact (hr _ (by simp)).mono (by decide)
    · exact (hr _ (by simp)).mono (by decide)
    · exact sml_int (by decide)
  have r3 : Sml 2 (.list [.str f, .str o, .str m, .int p, .int s]) := sml_lst (by simp only [List.length_cons, List.length_nil]; omega) fun x hx => (hr x hx).mono (by decide)
  have r4 : Sml 2 (.tuple [.int s, .int p, .str m, .str o, .str f]) := sml_tup (by simp only [List.length_cons, List.length_nil]; omega) fun x hx => by
    simp only [List.mem_cons, List.not_mem_nil, or_false] at hx
    rcases hx with rfl | rfl | rfl | rfl | rfl <;> exact (hr _ (by simp)).mono (by decide)
  have r5 : Sml 2 (.tuple []) := sml_tup (Nat.zero_le _) fun x hx => nomatch hx
  have r6 : Sml 2 (.str "rule") := sml_w (by decide +kernel) (by decide +kernel)
  walk_at "hs"
  refine fun x2 y2 z2 r w2 r0 r1' _ => ?_
  walk_at "hs"
  refine pick_any (P := Sml 2) (i := r.toNat) ?hi ?hp ?hd
  case hi => simp only [List.length_cons, List.length_nil]; omega
  case hp => exact .cons se (.cons se (.cons se (.cons se (.cons se (.cons se (.cons r1 (.cons r2 (.cons r3 (.cons sml_none (.cons r6 (.cons r4 (.cons r5 .nil))))))))))))
  intro d hd
  refine ⟨_, _, rfl, ?_⟩
  exact hq _ _ _ d w2 hd
end
def W__law_bent (K : PySem.W.Frag) (a : Ad) : SpT := fun ts post ep => ts.length = 2 ∧ (∃ (x y z : Int) (n : Nat) (f o m : Str) (p s : Int), ts = [w3T x y z, .dat (ruT f o m p s)] ∧ Wb n x y z ∧ n ≤ 500000 ∧ RuOk f o m p s ∧ Sml 1 (ruT f o m p s) ∧ ∀ x y z d, Wb (n + 3) x y z → Sml 2 d → post (.dat d) [some (w3T x y z), none])
theorem len__law_bent {K : PySem.W.Frag} {a : Ad} {ts : List T} {post : T → Rho → Prop} {ep : Addr → T → Rho → Prop} (h : W__law_bent K a ts post ep) : ts.length = 2 := h.1

theorem law__law_bent {K : PySem.W.Frag} {mg : Str → Option Value} {a : Ad} (tx : Tx K mg a) : ∀ ts post ep, W__law_bent K a ts post ep → ts.length = 2 → w__law_bent K a (outO [0] 2 post) (outX [0] 2 ep) (startT 5 ts) := by
  intro ts post ep hW hl
  replace hW := hW.2
  obtain ⟨x, y, z, n, f, o, m, p, s, rfl, w, hn, ok, sr, hq⟩ := hW
  walk_at "hs"
  refine fun x1 y1 z1 i w1 i0 i1 _ => ?_
  have sw : ∀ x : Str, (x.cps.toList.all fun c => decide (c < 0x110000)) = true → x.length ≤ 20 → Sml 1 (.str x) := fun x h1 h2 => sml_w h1 h2
  have big : ∀ i : Int, i.natAbs < 100 → Sml 1 (.int i) := fun i hi => sml_int (Nat.lt_trans hi (by decide))
  walk_at "hs"
  refine fun x2 y2 z2 r w2 r0 r1 _ => ?_
  walk_at "hs"
  refine pick_any (P := Sml 1) (i := r.toNat) ?hi ?hp ?hd
  case hi => simp only [List.length_cons, List.length_nil]; omega
  case hp =>
    refine .cons (sw _ (by decide +kernel) (by decide +kernel)) (.cons (sw _ (by decide +kernel) (by decide +kernel)) (.cons (sw _ (by decide +kernel) (by decide +kernel)) (.cons (sw _ (by decide +kernel) (by decide +kernel)) (.cons (sw _ (by decide +kernel) (by decide +kernel)) (.cons (sw _ (by decide +kernel) (by decide +kernel)) (.cons (sw _ (by decide +kernel) (by decide +kernel)) (.cons (sw _ (by decide +kernel) (by decide +kernel)) (.cons (sw _ (by decide +kernel) (by decide +kernel)) (.cons (sw _ (by decide +kernel) (by decide +kernel)) (.cons (sw _ (by decide +kernel) (by decide +kernel)) (.cons sml_none (.cons ?_ ?_))))))))))))
    · exact sml_lst (k := 0) (by simp only [List.length_cons, List.length_nil]; omega) (SmlL.all (.cons (sml_w (by decide +kernel) (by decide +kernel)) .nil))
    · refine .cons (big 0 (by decide)) (.cons (big 1 (by decide)) (.cons (big 2 (by decide)) (.cons (big 3 (by decide)) (.cons (big 4 (by decide)) (.cons (big 5 (by decide)) (.cons (big 8 (by decide)) (.cons (big 9 (by decide)) (.cons (big 12 (by decide)) (.cons (big 63 (by decide)) (.cons (big 64 (by decide)) (.cons (big 65 (by decide)) (.cons (big (-4) (by decide)) (.cons sml_bool (.cons (sw _ (by decide +kernel) (by decide +kernel)) (.cons (sml_ints (k := 0) (is := [4]) (by decide) (by decide)) (.cons (big 72 (by decide)) .nil))))))))))))))))
  intro d hd
  have q1 : (cutL [PyData.str f, .str o, .str m, .int p, .int s] none (some i)).length ≤ 5 := cut_le
  have q2 : (cutL [PyData.str f, .str o, .str m, .int p, .int s] (some (i + 1)) none).length ≤ 5 := cut_le
  have hr := sr.tup1.2
  have se : Sml 2 (.tuple (cutL [PyData.str f, .str o, .str m, .int p, .int s] none (some i) ++ [d] ++ cutL [PyData.str f, .str o, .str m, .int p, .int s] (some (i + 1)) none)) := sml_tup (by rw [List.length_append, List.length_append, List.length_singleton]; omega) fun x hx => by
    rcases List.mem_append.mp hx with hx | hx
    · rcases List.mem_append.mp hx with hx | hx
      · exact (hr x (cut_sub hx)).mono (by decide)
      · rw [List.mem_singleton.mp hx]
        exact hd
    · exact (hr x (cut_sub hx)).mono (by decide)
  walk_at "hs"
  exact ⟨bent6 tx w2 (by omega) sr se hq⟩
theorem ok__law_bent {w : World} {K : PySem.W.Frag} {mg : Str → Option Value} {base : Heap} {a : Ad} (T : Tx K mg a) : FnG a.P w K mg base CX0 2 a.f__law_bent a.d__law_bent ["well", "rule"] (spT K wellO (W__law_bent K a)) :=
  fn_T [0] T.F__law_bent sc__law_bent (fun ts post ep h => len__law_bent h) (fun cdv A outer s H E hr hg => ⟨_, w__law_bent K a,
  (pss_cons (ps_set (i := 2) sc__law_bent.nd rfl (Or.inl rfl) (pg_call (ok__law_draw T) (by exact hr.mono (by decide)) (by exact hg) (by rfl) (by exact T.g__law_draw) (by exact T.F__law_draw.kp) T.b__law_draw_2 passG (pa_cons (pv 0) (pa_cons pe_int pa_nil))))
  (pss_cons (ps_set (i := 3) sc__law_bent.nd rfl (Or.inl rfl) (pe_lst (pa_cons pe_str (pa_cons pe_str (pa_cons pe_str (pa_cons pe_str (pa_cons pe_str (pa_cons pe_str (pa_cons pe_str (pa_cons pe_str (pa_cons pe_str (pa_cons pe_str (pa_cons pe_str (pa_cons pe_non pa_nil))))))))))))))
  (pss_cons (ps_set (i := 3) sc__law_bent.nd rfl (Or.inl rfl) (pe_op op_cat (pv 3) (pe_lst (pa_cons (pe_lst (pa_cons pe_str pa_nil)) pa_nil))))
  (pss_cons (ps_set (i := 3) sc__law_bent.nd rfl (Or.inl rfl) (pe_op op_cat (pv 3) (pe_lst (pa_cons pe_int (pa_cons pe_int (pa_cons pe_int (pa_cons pe_int (pa_cons pe_int (pa_cons pe_int (pa_cons pe_int (pa_cons pe_int (pa_cons pe_int (pa_cons pe_int (pa_cons pe_int (pa_cons pe_int (pa_cons (pe_un un_neg pe_int) (pa_cons pe_bl (pa_cons pe_str (pa_cons (pe_tup (pa_cons pe_int pa_nil)) (pa_cons pe_int pa_nil))))))))))))))))))))
  (pss_cons (ps_set (i := 4) sc__law_bent.nd rfl (Or.inl rfl) (pe_op op_rep (pe_lst (pa_cons (pe_op (catAK (K := K) rfl) (pe_op (catAK (K := K) rfl) (pe_slice (slTupK (K := K) rfl) (pv 1) po_none (po_some (pv 2))) (pe_tup (pa_cons (pe_ix ix_seq (pv 3) (pg_call (ok__law_draw T) (by exact hr.mono (by decide)) (by exact hg) (by rfl) (by exact T.g__law_draw) (by exact T.F__law_draw.kp) T.b__law_draw_2 passG (pa_cons (pv 0) (pa_cons pe_int pa_nil))) (fun _ _ => rfl)) pa_nil))) (pe_slice (slTupK (K := K) rfl) (pv 1) (po_some (pe_op op_add (pv 2) pe_int)) po_none)) pa_nil)) pe_int))
  (pss_cons (ps_set (i := 4) sc__law_bent.nd rfl (Or.inl rfl) (pe_op op_cat (pv 4) (pe_lst (pa_cons (pe_slice (slTupK (K := K) rfl) (pv 1) po_none (po_some pe_int)) (pa_cons (pe_op (catAK (K := K) rfl) (pv 1) (pe_tup (pa_cons pe_int pa_nil))) (pa_cons (pe_callTy call_list_of (by rfl) (by exact T.z_list) bt_list (pa_cons (pv 1) pa_nil)) (pa_cons pe_non (pa_cons pe_str (pa_cons (pe_revT (pv 1)) (pa_cons (pe_tup pa_nil) pa_nil))))))))))
  (pss_one (ps_ret (pe_ix ix_seq (pv 4) (pg_call (ok__law_draw T) (by exact hr.mono (by decide)) (by exact hg) (by rfl) (by exact T.g__law_draw) (by exact T.F__law_draw.kp) T.b__law_draw_2 passG (pa_cons (pv 0) (pa_cons pe_int pa_nil))) (fun _ _ => rfl)))))))))),
  (sv_seq (sv_asg (ev_call (Wf := (W__law_draw K a)) (n := 2) (m := 0) mk_pos (ea_cons ev_var (ea_cons ev_int ea_nil)) ea_nil) (g_name (by decide)))
  (sv_seq (sv_asg (ev_lst (ea_cons ev_str (ea_cons ev_str (ea_cons ev_str (ea_cons ev_str (ea_cons ev_str (ea_cons ev_str (ea_cons ev_str (ea_cons ev_str (ea_cons ev_str (ea_cons ev_str (ea_cons ev_str (ea_cons ev_non ea_nil))))))))))))) (g_name (by decide)))
  (sv_seq (sv_asg (ev_op2 Hz.op_cat ev_var (ev_lst (ea_cons (ev_fz (ev_lst (ea_cons ev_str ea_nil))) ea_nil))) (g_name (by decide)))
  (sv_seq (sv_asg (ev_op2 Hz.op_cat ev_var (ev_lst (ea_cons ev_int (ea_cons ev_int (ea_cons ev_int (ea_cons ev_int (ea_cons ev_int (ea_cons ev_int (ea_cons ev_int (ea_cons ev_int (ea_cons ev_int (ea_cons ev_int (ea_cons ev_int (ea_cons ev_int (ea_cons (ev_neg ev_int) (ea_cons ev_bl (ea_cons ev_str (ea_cons (ev_tup (ea_cons ev_int ea_nil)) (ea_cons ev_int ea_nil))))))))))))))))))) (g_name (by decide)))
  (sv_seq (sv_asg (ev_op2 op_repL (ev_lst (ea_cons (ev_op2 (op_catTD (K := K)) (ev_op2 (op_catTD (K := K)) (ev_slT (K := K) ev_var eo_none (eo_some ev_var)) (ev_tup (ea_cons (ev_op2 op_ix ev_var (ev_call (Wf := (W__law_draw K a)) (n := 2) (m := 0) mk_pos (ea_cons ev_var (ea_cons ev_int ea_nil)) ea_nil)) ea_nil))) (ev_slT (K := K) ev_var (eo_some (ev_add ev_var ev_int)) eo_none)) ea_nil)) ev_int) (g_name (by decide)))
  (sv_stop (sv_seq (sv_asg (ev_op2 Hz.op_cat ev_var (ev_lst (ea_cons (ev_slT (K := K) ev_var eo_none (eo_some ev_int)) (ea_cons (ev_op2 (op_catTD (K := K)) ev_var (ev_tup (ea_cons ev_int ea_nil))) (ea_cons (ev_fz (ev_call1 op_list ev_var)) (ea_cons ev_non (ea_cons ev_str (ea_cons (ev_revT ev_var) (ea_cons (ev_tup ea_nil) ea_nil))))))))) (g_name (by decide)))
  (sv_ret (ev_op2 op_ix ev_var (ev_call (Wf := (W__law_draw K a)) (n := 2) (m := 0) mk_pos (ea_cons ev_var (ea_cons ev_int ea_nil)) ea_nil)))))))))),
  law__law_bent T⟩)

--.

/-- the error of a call: the size, the rule, the number wrong -/
def CalR (IS IR IN : Addr) (e : Addr → T → Prop) (w : Int) (z d : PyData) (k : Int) : Prop :=
  ((w = 0 ∨ w = 1) ∧ isBetD 32 4000 z = false ∧ AnB 6 z ∧ e IS (.dat z)) ∨ (0 ≤ w ∧ w ≤ 2 ∧ isBetD 32 4000 z = true ∧ isRuleD d = false ∧ AnB 6 d ∧ e IR (.dat d)) ∨
  (w = 2 ∧ ∃ f o m p s, d = ruT f o m p s ∧ RuOk f o m p s ∧ k < 1 ∧ e IN (.dat (.int k)))
def W__law_call (K : PySem.W.Frag) (a : Ad) : SpT := fun ts post ep => ts.length = 4 ∧ (∃ (w : Int) (z d : PyData) (k : Int), ts = [tI w, .dat z, .dat d, tI k] ∧ Gd z ∧ Gd d ∧ CalR a.C_InvalidSize a.C_InvalidRule a.C_InvalidNumber (fun C t => ep C t [none, none, none, none]) w z d k)
theorem len__law_call {K : PySem.W.Frag} {a : Ad} {ts : List T} {post : T → Rho → Prop} {ep : Addr → T → Rho → Prop} (h : W__law_call K a ts post ep) : ts.length = 4 := h.1
/-- return needed(rule, k) .. -/
def t__law_call_5 (K : PySem.W.Frag) (a : Ad) : WS := (sRt (wCall 2 0 (fun us _ => us) (W_needed K a) (aCons (wVar 2) (aCons (wVar 3) aNil)) aNil))
/-- if which == 1: .. -/
def t__law_call_3 (K : PySem.W.Frag) (a : Ad) : WS := (sSq (sIf (bT (wEq false (wVar 0) (wC (.int 1)))) (sRt (wCall 0 2 (fun us zs => us ++ arr [1, 0] zs) (W_region K a) aNil (aCons (wVar 2) (aCons (wVar 1) aNil)))) sNx) (t__law_call_5 K a))
def w__law_call (K : PySem.W.Frag) (a : Ad) : WS := (sSq (sIf (bT (wEq false (wVar 0) (wC (.int 0)))) (sRt (wCall 2 0 (fun us _ => us) (W_list_count K a) (aCons (wVar 1) (aCons (wVar 2) aNil)) aNil)) sNx) (t__law_call_3 K a))

theorem law__law_call {K : PySem.W.Frag} {mg : Str → Option Value} {a : Ad} (tx : Tx K mg a) : ∀ ts post ep, W__law_call K a ts post ep → ts.length = 4 → w__law_call K a (outO [] 4 post) (outX [] 4 ep) (startT 4 ts) := by
  intro ts post ep hW hl
  replace hW := hW.2
  obtain ⟨w, z, d, k, rfl, gz, gd, ⟨hw, h1, h2, h3⟩ | ⟨w0, w2, h1, h2, h3, h4⟩ | ⟨rfl, f, o, m, p, s, rfl, ok, h1, h2⟩⟩ := hW
  · rcases hw with rfl | rfl
    · walk_at "hs"
      refine .inl ⟨h1, h2, ?_⟩
      exact fun _ => h3
    · walk_at "hs"
      refine .inl ⟨h1, h2, ?_⟩
      exact fun _ => h3
  · rcases (show w = 0 ∨ w = 1 ∨ w = 2 by omega) with rfl | rfl | rfl
    · walk_at "hs"
      refine .inr (.inl ⟨h1, h2, h3, ?_⟩)
      exact fun _ => h4
    · walk_at "hs"
      refine .inr (.inl ⟨h1, h2, h3, ?_⟩)
      exact fun _ => h4
    · walk_at "hs"
      refine .inl ⟨h2, h3, ?_⟩
      exact fun _ => h4
  · walk_at "hs"
    refine .inr ⟨f, o, m, p, s, rfl, ok, .inl ⟨h1, ?_⟩⟩
    exact fun _ => h2
theorem ok__law_call {w : World} {K : PySem.W.Frag} {mg : Str → Option Value} {base : Heap} {a : Ad} (T : Tx K mg a) : FnG a.P w K mg base (L2.CX a.P w) 11 a.f__law_call a.d__law_call ["which", "size", "rule", "k"] (spT K wellO (W__law_call K a)) :=
  fn_TX [] T.F__law_call sc__law_call (fun ts post ep h => len__law_call h) (fun cdv A outer s H E hr hg => ⟨_, w__law_call K a,
  (pss_cons (ps_if (pt_cmpR (op_eqD (by exact room64 hr)) (pv 0) pe_int (nomark _)) (pss_one (ps_ret (pg_call (ok_list_count T) (by exact hr.mono (by decide)) (by exact hg) (by rfl) (by exact T.g_list_count) (by exact T.F_list_count.kp) T.b_list_count_2 (fun σ => passAt (takes_of rfl rfl rfl rfl) σ) (pa_cons (pv 1) (pa_cons (pv 2) pa_nil))))) pss_nil)
  (pss_cons (ps_if (pt_cmpR (op_eqD (by exact room64 hr)) (pv 0) pe_int (nomark _)) (pss_one (ps_ret (pg_callK0 (ok_region T) (by exact hr.mono (by decide)) (by exact hg) (by rfl) (by exact T.g_region) (by exact T.F_region.kp) T.b_region_0_rule_size (fun σ => passAt (takes_of rfl rfl rfl rfl) σ) (pk_cons (pv 2) (pk_cons (pv 1) pk_nil))))) pss_nil)
  (pss_one (ps_ret (pg_call (ok_needed T) (by exact hr.mono (by decide)) (by exact hg) (by rfl) (by exact T.g_needed) (by exact T.F_needed.kp) T.b_needed_2 (fun σ => passAt (takes_of rfl rfl rfl rfl) σ) (pa_cons (pv 2) (pa_cons (pv 3) pa_nil))))))),
  (sv_seq (sv_if (et_test (ev_eq ev_var ev_int)) (sv_ret (ev_call (Wf := (W_list_count K a)) (n := 2) (m := 0) mk_pos (ea_cons ev_var (ea_cons ev_var ea_nil)) ea_nil)) sv_next)
  (sv_seq (sv_if (et_test (ev_eq ev_var ev_int)) (sv_ret (ev_call (Wf := (W_region K a)) (n := 0) (m := 2) (mk_arr (p := [1, 0]) (by decide)) ea_nil (ea_cons ev_var (ea_cons ev_var ea_nil)))) sv_next)
  (sv_ret (ev_call (Wf := (W_needed K a)) (n := 2) (m := 0) mk_pos (ea_cons ev_var (ea_cons ev_var ea_nil)) ea_nil)))),
  law__law_call T⟩)

--.
abbrev tolT (i : Int) (v : PyData) : T := .dat (.tuple [.list [.int i], .str v.shown])
/-- return None if caught is None else ([at for at, is_own in enumerate(kinds) if is_own], repr(caught.value)) .. -/
def t__law_told_7 (K : PySem.W.Frag) (a : Ad) : WS := (sRt (wIf (bT (wIsN false (wVar 4))) (wC .none) (wTup (aCons (wFz (wLc (iEn (wVar 6)) (gTp 2 (gCn (gN 7) (gCn (gN 8) gNl))) (bT (wVar 8)) (wVar 7) [7, 8])) (aCons (w1 sRepr (wKeptVal K (wVar 4))) aNil)))))
/-- kinds = [isinstance(caught, InvalidSize), isinstance(caught, InvalidRule), isinstance(caught, InvalidNumber)] .. -/
def t__law_told_6 (K : PySem.W.Frag) (a : Ad) : WS := (sSq (sAs (wLst (aCons (w2 (sIsiK K) (wVar 4) (wCst (.ref a.C_InvalidSize))) (aCons (w2 (sIsiK K) (wVar 4) (wCst (.ref a.C_InvalidRule))) (aCons (w2 (sIsiK K) (wVar 4) (wCst (.ref a.C_InvalidNumber))) aNil)))) (gN 6)) (t__law_told_7 K a))
/-- try: .. -/
def t__law_told_2 (K : PySem.W.Frag) (a : Ad) : WS := (sSq (sTryK K a.C_HeapError 5 (sDr (wCall 4 0 (fun us _ => us) (W__law_call K a) (aCons (wVar 0) (aCons (wVar 1) (aCons (wVar 2) (aCons (wVar 3) aNil)))) aNil)) (fun ae ce de => (sAs (wVar 5) (gN 4)))) (sStop (t__law_told_6 K a)))
def w__law_told (K : PySem.W.Frag) (a : Ad) : WS := (sSq (sAs (wC .none) (gN 4)) (t__law_told_2 K a))

section
variable {K : PySem.W.Frag} {mg : Str → Option Value} {a : Ad} {Qx : Hz.WX} {post : T → Rho → Prop} {ea ed C : Addr} {v : PyData} {x0 x1 x2 x3 x5 x6 x7 x8 : Option T}
theorem told6 (tx : Tx K mg a) (b0 b1 b2 : Bool) (i : Int) (hb : (b0 = true ∧ b1 = false ∧ b2 = false ∧ i = 0) ∨ (b0 = false ∧ b1 = true ∧ b2 = false ∧ i = 1) ∨ (b0 = false ∧ b1 = false ∧ b2 = true ∧ i = 2))
    (k0 : PySem.W.kitOne K (.ref C) (.ref a.C_InvalidSize) = some b0) (k1 : PySem.W.kitOne K (.ref C) (.ref a.C_InvalidRule) = some b1) (k2 : PySem.W.kitOne K (.ref C) (.ref a.C_InvalidNumber) = some b2) (hg : L2.ErrG K C) (rv : ReprOk v) (hq : post (tolT i v) [none, none, none, none]) :
    t__law_told_6 K a (outO [] 4 post) Qx [x0, x1, x2, x3, some (.exk ea ed C v), x5, x6, x7, x8] := by
  have hz : [((0 : Int), b0), (1, b1), (2, b2)].length ≤ 1000000 := by simp only [List.length_cons, List.length_nil]; omega
  walk_at "hs"
  rw [show (if false = true then !(T.exk ea ed C v).isNon else (T.exk ea ed C v).isNon) = false from rfl]
  walk_at "hs"
  refine lcD [((0 : Int), b0), (1, b1), (2, b2)] (fun x => T.dat (.tuple [.int x.1, .bool x.2])) (fun x => x.2 = true) (fun x => tI x.1) rfl (fun i x hx => ?hit) hz (fun x hx q kk hq' hk1 hk0 => ?_) ?_
  case hit =>
    have hi : i < 3 := (List.getElem?_eq_some_iff.mp hx).1
    rcases (show i = 0 ∨ i = 1 ∨ i = 2 by omega) with rfl | rfl | rfl <;> (cases hx; rfl)
  all_goals (try simp only [Hz.wipeL1, Hz.wipeL2, Hz.wipeL3, List.set_cons_succ, List.set_cons_zero])
  · obtain ⟨j, b⟩ := x
    cases b with
    | true =>
      have z := hk1 rfl
      walk_at "hs"
      exact z
    | false =>
      have z := hk0 Bool.false_ne_true
      walk_at "hs"
      exact z
  · have e : ([((0 : Int), b0), (1, b1), (2, b2)].filter fun x => decide (x.2 = true)).map (fun x => tI x.1) = [tI i] := by
      rcases hb with ⟨rfl, rfl, rfl, rfl⟩ | ⟨rfl, rfl, rfl, rfl⟩ | ⟨rfl, rfl, rfl, rfl⟩ <;> rfl
    rw [e]
    walk_at "hs"
    exact hq
end
--.
/-- the error that is due: its number, its value -/
def CauR (w : Int) (z d : PyData) (k : Int) (i : Int) (v : PyData) : Prop :=
  (i = 0 ∧ (w = 0 ∨ w = 1) ∧ isBetD 32 4000 z = false ∧ v = z) ∨ (i = 1 ∧ 0 ≤ w ∧ w ≤ 2 ∧ isBetD 32 4000 z = true ∧ isRuleD d = false ∧ v = d) ∨
  (i = 2 ∧ w = 2 ∧ (∃ f o m p s, d = ruT f o m p s ∧ RuOk f o m p s) ∧ k < 1 ∧ v = .int k)
def W__law_told (K : PySem.W.Frag) (a : Ad) : SpT := fun ts post ep => ts.length = 4 ∧ (∃ (w : Int) (z d : PyData) (k i : Int) (v : PyData), ts = [tI w, .dat z, .dat d, tI k] ∧ Sml 2 z ∧ Sml 2 d ∧ ReprOk (.int k) ∧ CauR w z d k i v ∧ post (tolT i v) [none, none, none, none])
theorem len__law_told {K : PySem.W.Frag} {a : Ad} {ts : List T} {post : T → Rho → Prop} {ep : Addr → T → Rho → Prop} (h : W__law_told K a ts post ep) : ts.length = 4 := h.1

theorem law__law_told {K : PySem.W.Frag} {mg : Str → Option Value} {a : Ad} (tx : Tx K mg a) : ∀ ts post ep, W__law_told K a ts post ep → ts.length = 4 → w__law_told K a (outO [] 4 post) (outX [] 4 ep) (startT 9 ts) := by
  intro ts post ep hW hl
  replace hW := hW.2
  obtain ⟨w, z, d, k, i, v, rfl, sz, sd, rk, hc, hq⟩ := hW
  have t1 := tx.e_InvalidSize.te
  have t2 := tx.e_InvalidRule.te
  have t3 := tx.e_InvalidNumber.te
  have gz := sz.gd (by decide)
  have gd := sd.gd (by decide)
  have az : AnB 6 z := (sml_an sz).mono (by decide)
  have ad : AnB 6 d := (sml_an sd).mono (by decide)
  have rz : ReprOk z := (sz.mono (by decide : 2 ≤ 3)).rok
  have rd : ReprOk d := (sd.mono (by decide : 2 ≤ 3)).rok
  rcases hc with ⟨rfl, hw, h1, rfl⟩ | ⟨rfl, w0, w2, h1, h2, rfl⟩ | ⟨rfl, rfl, ⟨f, o, m, p, s, rfl, ok⟩, h1, rfl⟩
  · walk_at "hs"
    refine .inl ⟨hw, h1, az, ?_⟩
    walk_at "hs"
    intro ea ed
    walk_at "hs"
    refine gN_is ?_
    simp only [List.set_cons_succ, List.set_cons_zero, List.map_cons, List.map_nil, keepT_exc, kT_dat, kT_none]
    exact ⟨told6 tx true false false 0 (.inl ⟨rfl, rfl, rfl, rfl⟩) tx.q_InvalidSize_InvalidSize tx.q_InvalidSize_InvalidRule tx.q_InvalidSize_InvalidNumber tx.h_InvalidSize rz hq⟩
  · walk_at "hs"
    refine .inr (.inl ⟨w0, w2, h1, h2, ad, ?_⟩)
    walk_at "hs"
    intro ea ed
    walk_at "hs"
    refine gN_is ?_
    simp only [List.set_cons_succ, List.set_cons_zero, List.map_cons, List.map_nil, keepT_exc, kT_dat, kT_none]
    exact ⟨told6 tx false true false 1 (.inr (.inl ⟨rfl, rfl, rfl, rfl⟩)) tx.q_InvalidRule_InvalidSize tx.q_InvalidRule_InvalidRule tx.q_InvalidRule_InvalidNumber tx.h_InvalidRule rd hq⟩
  · walk_at "hs"
    refine .inr (.inr ⟨rfl, f, o, m, p, s, rfl, ok, h1, ?_⟩)
    walk_at "hs"
    intro ea ed
    walk_at "hs"
    refine gN_is ?_
    simp only [List.set_cons_succ, List.set_cons_zero, List.map_cons, List.map_nil, keepT_exc, kT_dat, kT_none]
    exact ⟨told6 tx false false true 2 (.inr (.inr ⟨rfl, rfl, rfl, rfl⟩)) tx.q_InvalidNumber_InvalidSize tx.q_InvalidNumber_InvalidRule tx.q_InvalidNumber_InvalidNumber tx.h_InvalidNumber rk hq⟩
theorem ok__law_told {w : World} {K : PySem.W.Frag} {mg : Str → Option Value} {base : Heap} {a : Ad} (T : Tx K mg a) : FnG a.P w K mg base CX0 12 a.f__law_told a.d__law_told ["which", "size", "rule", "k"] (spT K wellO (W__law_told K a)) :=
  Hz.FnG.to0 (fn_TX [] T.F__law_told sc__law_told (fun ts post ep h => len__law_told h) (fun cdv A outer s H E hr hg => ⟨_, w__law_told K a,
  (pss_cons (ps_set (i := 4) sc__law_told.nd rfl (Or.inl rfl) pe_non)
  (pss_cons (ps_try_keep (i := 5) rfl rfl sc__law_told.nd rfl rfl ⟨rfl, by decide, .inl (by exact T.g_HeapError)⟩ rfl (fun W pn xe tk po =>
  (pss_one (ps_expr (pg_call (ok__law_call T) (by exact hr.mono (by decide)) (by exact hg) (by rfl) (by exact T.g__law_call) (by exact T.F__law_call.kp) T.b__law_call_4 (fun σ => passAt tk σ) (pa_cons (pv 0) (pa_cons (pv 1) (pa_cons (pv 2) (pa_cons (pv 3) pa_nil)))))))) (fun ae oe cls de pn hz hf =>
  (pss_one (ps_set (i := 4) sc__law_told.nd rfl (Or.inl rfl) (pv 5)))))
  (pss_cons (ps_set (i := 6) sc__law_told.nd rfl (Or.inl rfl) (pe_lst (pa_cons (pe_callB (call_or call_isi call_isKept) (by rfl) (by exact T.z_isinstance) bt_isinstance (pa_cons (pv 4) (pa_cons (pe_glob (v := .ref a.C_InvalidSize) (by rfl) (by exact T.g_InvalidSize) (rref _)) pa_nil))) (pa_cons (pe_callB (call_or call_isi call_isKept) (by rfl) (by exact T.z_isinstance) bt_isinstance (pa_cons (pv 4) (pa_cons (pe_glob (v := .ref a.C_InvalidRule) (by rfl) (by exact T.g_InvalidRule) (rref _)) pa_nil))) (pa_cons (pe_callB (call_or call_isi call_isKept) (by rfl) (by exact T.z_isinstance) bt_isinstance (pa_cons (pv 4) (pa_cons (pe_glob (v := .ref a.C_InvalidNumber) (by rfl) (by exact T.g_InvalidNumber) (rref _)) pa_nil))) pa_nil)))))
  (pss_one (ps_ret (pe_ifExp (pt_cmp (pc_isN (pv 4))) pe_non (pe_tup (pa_cons (pe_lc (own := [("at", 7), ("is_own", 8)]) rfl sc__law_told.nd (pi_enum (by rfl) (by exact T.z_enumerate) (pa_cons (pv 6) pa_nil)) (blkOk_by (by show blkC ["which", "size", "rule", "k", "caught", "e", "kinds", "at", "is_own"] (defScope s__law_told) _ _ = true; decide +kernel)) (fun _ _ _ _ _ => (pg_tup rfl (pgs_cons (pg_name (i := 7) sc__law_told.nd rfl (Or.inl rfl)) (pgs_cons (pg_name (i := 8) sc__law_told.nd rfl (Or.inl rfl)) pgs_nil)))) (fun _ _ _ _ _ => (pts_one (pt_val (pv 8)))) (fun _ _ _ _ _ => (pv 7))) (pa_cons (pe_callB (call_repr (by exact hg) (by have := room65 hr; exact this)) (by rfl) (by exact T.z_repr) bt_repr (pa_cons (pe_keptVal (pv 4)) pa_nil)) pa_nil))))))))),
  (sv_seq (sv_asg ev_non (g_name (by decide)))
  (sv_seq (sv_tryK (D := a.C_HeapError) (i := 5) (by decide) (fun W => (sv_drop (ev_call (Wf := (W__law_call K a)) (n := 4) (m := 0) mk_pos (ea_cons ev_var (ea_cons ev_var (ea_cons ev_var (ea_cons ev_var ea_nil)))) ea_nil))) (fun ae ce de => (sv_asg ev_var (g_name (by decide)))))
  (sv_stop (sv_seq (sv_asg (ev_lst (ea_cons (ev_call2 op_isiK ev_var ev_cst) (ea_cons (ev_call2 op_isiK ev_var ev_cst) (ea_cons (ev_call2 op_isiK ev_var ev_cst) ea_nil)))) (g_name (by decide)))
  (sv_ret (ev_if (et_B (ev_isN ev_var)) ev_non (ev_tup (ea_cons (ev_fz (ev_lc (wv := [7, 8]) (by decide) (by decide) (ei_enum ev_var) (g_tup (g_cons (g_name (by decide)) (g_cons (g_name (by decide)) g_nil))) (et_B ev_var) ev_var)) (ea_cons (ev_call1 op_repr (ev_keptVal ev_var)) ea_nil))))))))),
  law__law_told T⟩)) (fun ts post ep h => h)

--.

/-- if not due and _law_told(_law_draw(well, 3), size, bent, 0) != ([1], text): .. -/
def t_law_24 (K : PySem.W.Frag) (a : Ad) : WS := (sIf (bAnd (bNot (bT (wVar 9))) (bT (wEq true (wCall 4 0 (fun us _ => us) (W__law_told K a) (aCons (wCall 2 0 (fun us _ => us) (W__law_draw K a) (aCons (wVar 2) (aCons (wC (.int 3)) aNil)) aNil) (aCons (wVar 5) (aCons (wVar 12) (aCons (wC (.int 0)) aNil)))) aNil) (wTup (aCons (wLst (aCons (wC (.int 1)) aNil)) (aCons (wVar 13) aNil)))))) (sRt (wC (.bool false))) sNx)
/-- if repr([is_rule(bent), is_rule(value=bent)]) != repr([due, due]) or repr(bent) != text: .. -/
def t_law_22 (K : PySem.W.Frag) (a : Ad) : WS := (sSq (sIf (bOr (bT (w2 (sEqT true) (w1 sRepr (wLst (aCons (wCall 1 0 (fun us _ => us) (W_is_rule K a) (aCons (wVar 12) aNil) aNil) (aCons (wCall 0 1 (fun us zs => us ++ zs) (W_is_rule K a) aNil (aCons (wVar 12) aNil)) aNil)))) (w1 sRepr (wLst (aCons (wVar 9) (aCons (wVar 9) aNil)))))) (bT (w2 (sEqT true) (w1 sRepr (wVar 12)) (wVar 13)))) (sRt (wC (.bool false))) sNx) (sStop (t_law_24 K a)))
/-- text, due = (repr(bent), _law_is_rule(bent)) .. -/
def t_law_21 (K : PySem.W.Frag) (a : Ad) : WS := (sSq (sPar 13 9 (aCons (w1 sRepr (wVar 12)) (aCons (wCall 1 0 (fun us _ => us) (W__law_is_rule K a) (aCons (wVar 12) aNil) aNil) aNil))) (t_law_22 K a))
/-- bent = _law_bent(well, rule) .. -/
def b_law_20 (K : PySem.W.Frag) (a : Ad) : WS := (sSq (sAs (wCall 2 0 (fun us _ => us) (W__law_bent K a) (aCons (wVar 2) (aCons (wVar 4) aNil)) aNil) (gN 12)) (t_law_21 K a))
/-- if _law_told(2, size, rule, number) != ([2], repr(number)): .. -/
def t_law_30 (K : PySem.W.Frag) (a : Ad) : WS := (sIf (bT (wEq true (wCall 4 0 (fun us _ => us) (W__law_told K a) (aCons (wC (.int 2)) (aCons (wVar 5) (aCons (wVar 4) (aCons (wVar 15) aNil)))) aNil) (wTup (aCons (wLst (aCons (wC (.int 2)) aNil)) (aCons (w1 sRepr (wVar 15)) aNil))))) (sRt (wC (.bool false))) sNx)
/-- number = [0, -1, -10 ** 9][_law_draw(well, 3)] .. -/
def t_law_29 (K : PySem.W.Frag) (a : Ad) : WS := (sSq (sAs (w2 sIx (wLst (aCons (wC (.int 0)) (aCons (wU iNeg (wC (.int 1))) (aCons (wU iNeg (wII CPow iPow (wC (.int 10)) (wC (.int 9)))) aNil)))) (wCall 2 0 (fun us _ => us) (W__law_draw K a) (aCons (wVar 2) (aCons (wC (.int 3)) aNil)) aNil)) (gN 15)) (sStop (t_law_30 K a)))
/-- if _law_told(_law_draw(well, 2), odd, None, 0) != ([0], repr(odd)): .. -/
def t_law_27 (K : PySem.W.Frag) (a : Ad) : WS := (sSq (sIf (bT (wEq true (wCall 4 0 (fun us _ => us) (W__law_told K a) (aCons (wCall 2 0 (fun us _ => us) (W__law_draw K a) (aCons (wVar 2) (aCons (wC (.int 2)) aNil)) aNil) (aCons (wVar 14) (aCons (wC .none) (aCons (wC (.int 0)) aNil)))) aNil) (wTup (aCons (wLst (aCons (wC (.int 0)) aNil)) (aCons (w1 sRepr (wVar 14)) aNil))))) (sRt (wC (.bool false))) sNx) (sStop (t_law_29 K a)))
/-- odd = [31, 4001, None, True, '32', (32,), [32], -40][_law_draw(well, 8)] .. -/
def t_law_26 (K : PySem.W.Frag) (a : Ad) : WS := (sSq (sAs (w2 sIx (wLst (aCons (wC (.int 31)) (aCons (wC (.int 4001)) (aCons (wC .none) (aCons (wC (.bool true)) (aCons (wC (.str "32")) (aCons (wTup (aCons (wC (.int 32)) aNil)) (aCons (wFz (wLst (aCons (wC (.int 32)) aNil))) (aCons (wU iNeg (wC (.int 40))) aNil))))))))) (wCall 2 0 (fun us _ => us) (W__law_draw K a) (aCons (wVar 2) (aCons (wC (.int 8)) aNil)) aNil)) (gN 14)) (sStop (t_law_27 K a)))
/-- for bend in range(5): .. -/
def t_law_19 (K : PySem.W.Frag) (a : Ad) : WS := (sSq (sFor (iR1 (wC (.int 5))) (gN 11)
  (sStop (b_law_20 K a))) (sStop (t_law_26 K a)))
/-- if int(needed(rule, far)) % rule[4] != 0 or not far + 2 <= needed(rule, far) < far + 2 + rule[4]: .. -/
def t_law_17 (K : PySem.W.Frag) (a : Ad) : WS := (sSq (sIf (bOr (bT (wEq true (wII CMod iMod (w1 sInt (wCall 2 0 (fun us _ => us) (W_needed K a) (aCons (wVar 4) (aCons (wVar 10) aNil)) aNil)) (w2 sIx (wVar 4) (wC (.int 4)))) (wC (.int 0)))) (bNot (bT (wChain (fun i j => decide (i ≤ j)) (fun i j => decide (i < j)) (wII0 iAdd (wVar 10) (wC (.int 2))) (wCall 2 0 (fun us _ => us) (W_needed K a) (aCons (wVar 4) (aCons (wVar 10) aNil)) aNil) (wII0 iAdd (wII0 iAdd (wVar 10) (wC (.int 2))) (w2 sIx (wVar 4) (wC (.int 4)))))))) (sRt (wC (.bool false))) sNx) (sStop (t_law_19 K a)))
/-- far = 10 ** 20 + _law_draw(well, 10 ** 9) .. -/
def t_law_16 (K : PySem.W.Frag) (a : Ad) : WS := (sSq (sAs (wII0 iAdd (wII CPow iPow (wC (.int 10)) (wC (.int 20))) (wCall 2 0 (fun us _ => us) (W__law_draw K a) (aCons (wVar 2) (aCons (wII CPow iPow (wC (.int 10)) (wC (.int 9))) aNil)) aNil)) (gN 10)) (sStop (t_law_17 K a)))
/-- if repr([needed(rule, cells), needed(k=cells, rule=rule)]) != repr([due, due]): .. -/
def t_law_14 (K : PySem.W.Frag) (a : Ad) : WS := (sSq (sIf (bT (w2 (sEqT true) (w1 sRepr (wLst (aCons (wCall 2 0 (fun us _ => us) (W_needed K a) (aCons (wVar 4) (aCons (wVar 8) aNil)) aNil) (aCons (wCall 0 2 (fun us zs => us ++ arr [1, 0] zs) (W_needed K a) aNil (aCons (wVar 8) (aCons (wVar 4) aNil))) aNil)))) (w1 sRepr (wLst (aCons (wVar 9) (aCons (wVar 9) aNil)))))) (sRt (wC (.bool false))) sNx) (sStop (t_law_16 K a)))
/-- due = _law_cells(rule, cells) .. -/
def t_law_13 (K : PySem.W.Frag) (a : Ad) : WS := (sSq (sAs (wCall 2 0 (fun us _ => us) (W__law_cells K a) (aCons (wVar 4) (aCons (wVar 8) aNil)) aNil) (gN 9)) (sStop (t_law_14 K a)))
/-- cells = [1, 2, 3, 1 + _law_draw(well, 100), 4000][_law_draw(well, 5)] .. -/
def t_law_12 (K : PySem.W.Frag) (a : Ad) : WS := (sSq (sAs (w2 sIx (wLst (aCons (wC (.int 1)) (aCons (wC (.int 2)) (aCons (wC (.int 3)) (aCons (wII0 iAdd (wC (.int 1)) (wCall 2 0 (fun us _ => us) (W__law_draw K a) (aCons (wVar 2) (aCons (wC (.int 100)) aNil)) aNil)) (aCons (wC (.int 4000)) aNil)))))) (wCall 2 0 (fun us _ => us) (W__law_draw K a) (aCons (wVar 2) (aCons (wC (.int 5)) aNil)) aNil)) (gN 8)) (sStop (t_law_13 K a)))
/-- if repr([region(size, rule), region(rule=rule, size=size)]) != repr([ends, ends]): .. -/
def t_law_10 (K : PySem.W.Frag) (a : Ad) : WS := (sSq (sIf (bT (w2 (sEqT true) (w1 sRepr (wLst (aCons (wCall 2 0 (fun us _ => us) (W_region K a) (aCons (wVar 5) (aCons (wVar 4) aNil)) aNil) (aCons (wCall 0 2 (fun us zs => us ++ arr [1, 0] zs) (W_region K a) aNil (aCons (wVar 4) (aCons (wVar 5) aNil))) aNil)))) (w1 sRepr (wLst (aCons (wVar 7) (aCons (wVar 7) aNil)))))) (sRt (wC (.bool false))) sNx) (sStop (t_law_12 K a)))
/-- if repr([list_count(size, rule), list_count(rule=rule, size=size)]) != repr([many, many]): .. -/
def t_law_8 (K : PySem.W.Frag) (a : Ad) : WS := (sSq (sIf (bT (w2 (sEqT true) (w1 sRepr (wLst (aCons (wCall 2 0 (fun us _ => us) (W_list_count K a) (aCons (wVar 5) (aCons (wVar 4) aNil)) aNil) (aCons (wCall 0 2 (fun us zs => us ++ arr [1, 0] zs) (W_list_count K a) aNil (aCons (wVar 4) (aCons (wVar 5) aNil))) aNil)))) (w1 sRepr (wLst (aCons (wVar 6) (aCons (wVar 6) aNil)))))) (sRt (wC (.bool false))) sNx) (sStop (t_law_10 K a)))
/-- if is_rule(rule) is not True or not _law_is_rule(rule): .. -/
def t_law_6 (K : PySem.W.Frag) (a : Ad) : WS := (sSq (sIf (bOr (bT (w2 (sIsB true) (wCall 1 0 (fun us _ => us) (W_is_rule K a) (aCons (wVar 4) aNil) aNil) (wC (.bool true)))) (bNot (bT (wCall 1 0 (fun us _ => us) (W__law_is_rule K a) (aCons (wVar 4) aNil) aNil)))) (sRt (wC (.bool false))) sNx) (sStop (t_law_8 K a)))
/-- many, ends = (_law_many(size, rule), _law_region(size, rule)) .. -/
def t_law_5 (K : PySem.W.Frag) (a : Ad) : WS := (sSq (sPar 6 7 (aCons (wCall 2 0 (fun us _ => us) (W__law_many K a) (aCons (wVar 5) (aCons (wVar 4) aNil)) aNil) (aCons (wCall 2 0 (fun us _ => us) (W__law_region K a) (aCons (wVar 5) (aCons (wVar 4) aNil)) aNil) aNil))) (sStop (t_law_6 K a)))
/-- rule, size = (_law_rule(well), [_law_size(well), 32 + _law_draw(well, 3969), 4000][_law_draw(well, 3)]) .. -/
def b_law_4 (K : PySem.W.Frag) (a : Ad) : WS := (sSq (sPar 4 5 (aCons (wCall 1 0 (fun us _ => us) (W__law_rule K a) (aCons (wVar 2) aNil) aNil) (aCons (w2 sIx (wLst (aCons (wCall 1 0 (fun us _ => us) (W__law_size K a) (aCons (wVar 2) aNil) aNil) (aCons (wII0 iAdd (wC (.int 32)) (wCall 2 0 (fun us _ => us) (W__law_draw K a) (aCons (wVar 2) (aCons (wC (.int 3969)) aNil)) aNil)) (aCons (wC (.int 4000)) aNil)))) (wCall 2 0 (fun us _ => us) (W__law_draw K a) (aCons (wVar 2) (aCons (wC (.int 3)) aNil)) aNil)) aNil))) (sStop (t_law_5 K a)))
/-- for turn in range(4): .. -/
def t_law_3 (K : PySem.W.Frag) (a : Ad) : WS := (sFor (iR1 (wC (.int 4))) (gN 3)
  (sStop (b_law_4 K a)))
/-- return True .. -/
def t_law_32 (K : PySem.W.Frag) (a : Ad) : WS := (sRt (wC (.bool true)))
def w_law (K : PySem.W.Frag) (a : Ad) : WS := (sSq (sFor (iR1 (w2 (sII iMax) (wC (.int 1)) (w2 (sII iMin) (wC (.int 4)) (w1 sLen (wVar 0))))) (gN 1)
  (sSq (sAs (wCall 2 0 (fun us _ => us) (W__law_well K a) (aCons (wVar 0) (aCons (wVar 1) aNil)) aNil) (gN 2)) (t_law_3 K a))) (t_law_32 K a))

theorem len_law {ts : List T} {post : T → Rho → Prop} {ep : Addr → T → Rho → Prop} (h : lawW 63 ts post ep) : ts.length = 1 := by
  obtain ⟨n, rfl, _⟩ := h
  rfl
theorem ru_sml {f o m : Str} {p s : Int} (h : RuOk f o m p s) : Sml 1 (ruT f o m p s) := by
  have hr := h.r
  have hr2 : (isBetD 1 8 (.int s) && (isWordD fitsS (.str f) && (isWordD ordS (.str o) && (isWordD merS (.str m) && (foD (.str f) (.str o) && (decide (4 ≤ p ∧ p ≤ 64) && decide (p % s = 0))))))) = true := hr
  simp only [Bool.and_eq_true, decide_eq_true_eq] at hr2
  obtain ⟨h1, h2, h3, h4, h5, h6, h7⟩ := hr2
  have s1 := h.s1
  have s8 := h.s8
  have hf : f ∈ fitsS := of_decide_eq_true h2
  have ho : o ∈ ordS := of_decide_eq_true h3
  have hm : m ∈ merS := of_decide_eq_true h4
  refine sml_tup (by simp only [List.length_cons, List.length_nil]; omega) (SmlL.all (.cons ?_ (.cons ?_ (.cons ?_ (.cons ?_ (.cons ?_ .nil))))))
  · simp only [fitsS, List.mem_cons, List.not_mem_nil, or_false] at hf
    rcases hf with rfl | rfl | rfl | rfl <;> exact sml_w (by decide +kernel) (by decide +kernel)
  · simp only [ordS, List.mem_cons, List.not_mem_nil, or_false] at ho
    rcases ho with rfl | rfl | rfl <;> exact sml_w (by decide +kernel) (by decide +kernel)
  · simp only [merS, List.mem_cons, List.not_mem_nil, or_false] at hm
    rcases hm with rfl | rfl <;> exact sml_w (by decide +kernel) (by decide +kernel)
  · exact sml_int (Nat.lt_trans (show p.natAbs < 100 by omega) (by decide))
  · exact sml_int (Nat.lt_trans (show s.natAbs < 100 by omega) (by decide))
theorem eqv_t1 {i : Int} {s : Str} : PyData.eqv (.tuple [.list [.int i], .str s]) (.tuple [.list [.int i], .str s]) = true := by
  rw [eqv_tuple, eqvA_cc, eqvA_cc, eqvA_nn, eqv_list, eqvA_cc, eqvA_nn, eqv_int, decide_eq_true rfl]
  show (true && ((s == s) && true)) = true
  rw [beq_self_eq_true]
  rfl
theorem sh_t1 {i : Int} {s : Str} (h : (PyData.str s).canLay0 = true) : SeqAt.shaped (.tuple [.list [.int i], .str s]) = true := shaped_of (lay_all.mpr fun d hd => by
  simp only [List.mem_cons, List.not_mem_nil, or_false] at hd
  rcases hd with rfl | rfl
  · rfl
  · exact h) (by show max (max 0 0 + 1) (max 0 0) + 1 ≤ 64; decide)
theorem cells_far {s k : Int} (s1 : 1 ≤ s) (s8 : s ≤ 8) (k1 : 10 ≤ k) : cellsF s k % s = 0 ∧ k + 2 ≤ cellsF s k ∧ cellsF s k < k + 2 + s := by
  unfold cellsF
  rw [if_pos (by omega)]
  have hs : s = 1 ∨ s = 2 ∨ s = 3 ∨ s = 4 ∨ s = 5 ∨ s = 6 ∨ s = 7 ∨ s = 8 := by omega
  rcases hs with rfl | rfl | rfl | rfl | rfl | rfl | rfl | rfl <;> refine ⟨by omega, by omega, by omega⟩
theorem rok_l2 {d : PyData} (h : Sml 2 d) : ReprOk (.list [d, d]) := (sml_lst (k := 2) (by simp only [List.length_cons, List.length_nil]; omega) (SmlL.all (.cons h (.cons h .nil)))).rok
section
variable {K : PySem.W.Frag} {mg : Str → Option Value} {a : Ad} {O : WO} {Qx : Hz.WX} {x y z n p s k : Int} {N : Nat} {f o m : Str} {d : PyData} {s0 s1 x3 x6 x7 x8 x9 x10 x11 x12 x13 x14 x15 : Option T}
theorem law30 (tx : Tx K mg a) (ok : RuOk f o m p s) (n1 : 32 ≤ n) (n2 : n ≤ 4000) (hk : k < 1) (hk2 : -2000000000 ≤ k) (hn : O.nx [s0, s1, some (w3T x y z), x3, some (.dat (ruT f o m p s)), some (tI n), x6, x7, x8, x9, x10, x11, x12, x13, x14, some (tI k)]) :
    t_law_30 K a O Qx [s0, s1, some (w3T x y z), x3, some (.dat (ruT f o m p s)), some (tI n), x6, x7, x8, x9, x10, x11, x12, x13, x14, some (tI k)] := by
  have sr := (ru_sml ok).mono (by decide : 1 ≤ 2)
  have sn : Sml 2 (.int n) := sml_int (Nat.lt_trans (show n.natAbs < 5000 by omega) (by decide))
  have sk : Sml 3 (.int k) := sml_int (Nat.lt_trans (show k.natAbs < 3000000000 by omega) (by decide))
  have rk := sk.rok
  have hc : CauR 2 (.int n) (ruT f o m p s) k 2 (.int k) := .inr (.inr ⟨rfl, rfl, ⟨_, _, _, _, _, rfl, ok⟩, hk, rfl⟩)
  have sh1 : SeqAt.shaped (.tuple [.list [.int 2], .str (PyData.int k).shown]) = true := sh_t1 (shown_lay rfl)
  have ev := eqv_t1 (i := 2) (s := (PyData.int k).shown)
  walk_at "hs"
  rw [ev]
  walk_at "hs"
  exact sNx_of hn
theorem law29 (tx : Tx K mg a) (w : Wb N x y z) (hN : N ≤ 900000) (ok : RuOk f o m p s) (n1 : 32 ≤ n) (n2 : n ≤ 4000) (hn : ∀ x y z x15, Wb (N + 1) x y z → O.nx [s0, s1, some (w3T x y z), x3, some (.dat (ruT f o m p s)), some (tI n), x6, x7, x8, x9, x10, x11, x12, x13, x14, x15]) :
    t_law_29 K a O Qx [s0, s1, some (w3T x y z), x3, some (.dat (ruT f o m p s)), some (tI n), x6, x7, x8, x9, x10, x11, x12, x13, x14, x15] := by
  walk_at "hs"
  refine fun x1 y1 z1 r w1 r0 r1 _ => ?_
  walk_at "hs"
  refine pick_any (P := fun d => ∃ k : Int, d = .int k ∧ k < 1 ∧ -2000000000 ≤ k) (i := r.toNat) ?hi ?hp ?hd
  case hi => simp only [List.length_cons, List.length_nil]; omega
  case hp => exact .cons ⟨_, rfl, by decide, by decide⟩ (.cons ⟨_, rfl, by decide, by decide⟩ (.cons ⟨_, rfl, by decide +kernel, by decide +kernel⟩ .nil))
  rintro d ⟨k, rfl, h1, h2⟩
  refine ⟨_, _, rfl, ?_⟩
  exact ⟨law30 tx ok n1 n2 h1 h2 (hn _ _ _ _ w1)⟩
theorem law27 (tx : Tx K mg a) (w : Wb N x y z) (hN : N ≤ 800000) (sd : Sml 2 d) (hd : isBetD 32 4000 d = false) (ok : RuOk f o m p s) (n1 : 32 ≤ n) (n2 : n ≤ 4000) (hn : ∀ x y z x15, Wb (N + 2) x y z → O.nx [s0, s1, some (w3T x y z), x3, some (.dat (ruT f o m p s)), some (tI n), x6, x7, x8, x9, x10, x11, x12, x13, some (.dat d), x15]) :
    t_law_27 K a O Qx [s0, s1, some (w3T x y z), x3, some (.dat (ruT f o m p s)), some (tI n), x6, x7, x8, x9, x10, x11, x12, x13, some (.dat d), x15] := by
  have gd := sd.gd (by decide)
  have rd := (sd.mono (by decide : 2 ≤ 3)).rok
  have sn : Sml 2 .none := sml_none
  have rk : ReprOk (.int 0) := (sml_int (k := 3) (i := 0) (by decide)).rok
  have sh1 : SeqAt.shaped (.tuple [.list [.int 0], .str d.shown]) = true := sh_t1 (shown_lay gd.lay)
  have ev := eqv_t1 (i := 0) (s := d.shown)
  walk_at "hs"
  refine fun x1 y1 z1 r w1 r0 r1 _ => ?_
  have hc : CauR r d .none 0 0 d := .inl ⟨rfl, by omega, hd, rfl⟩
  walk_at "hs"
  rw [ev]
  walk_at "hs"
  exact sNx_of ⟨law29 tx w1 (by omega) ok n1 n2 hn⟩
theorem law26 (tx : Tx K mg a) (w : Wb N x y z) (hN : N ≤ 700000) (ok : RuOk f o m p s) (n1 : 32 ≤ n) (n2 : n ≤ 4000) (hn : ∀ x y z x14 x15, Wb (N + 3) x y z → O.nx [s0, s1, some (w3T x y z), x3, some (.dat (ruT f o m p s)), some (tI n), x6, x7, x8, x9, x10, x11, x12, x13, x14, x15]) :
    t_law_26 K a O Qx [s0, s1, some (w3T x y z), x3, some (.dat (ruT f o m p s)), some (tI n), x6, x7, x8, x9, x10, x11, x12, x13, x14, x15] := by
  walk_at "hs"
  refine fun x1 y1 z1 r w1 r0 r1 _ => ?_
  walk_at "hs"
  refine pick_any (P := fun d => Sml 2 d ∧ isBetD 32 4000 d = false) (i := r.toNat) ?hi ?hp ?hd
  case hi => simp only [List.length_cons, List.length_nil]; omega
  case hp =>
    exact .cons ⟨sml_int (by decide), by decide⟩ (.cons ⟨sml_int (by decide), by decide⟩ (.cons ⟨sml_none, rfl⟩ (.cons ⟨sml_bool, rfl⟩ (.cons ⟨sml_w (by decide +kernel) (by decide +kernel), rfl⟩ (.cons ⟨sml_ints (is := [32]) (by decide) (by decide), rfl⟩ (.cons ⟨sml_intsL (is := [32]) (by decide) (by decide), rfl⟩ (.cons ⟨sml_int (i := -40) (by decide), by decide⟩ .nil)))))))
  rintro d ⟨sd, hd⟩
  refine ⟨_, _, rfl, ?_⟩
  exact ⟨law27 tx w1 (by omega) sd hd ok n1 n2 fun x y z x15 w => hn _ _ _ _ _ w⟩
theorem law24 (tx : Tx K mg a) (w : Wb N x y z) (hN : N ≤ 900000) (sd : Sml 2 d) (n1 : 32 ≤ n) (n2 : n ≤ 4000) (hn : ∀ x y z, Wb (N + 1) x y z → O.nx [s0, s1, some (w3T x y z), x3, some (.dat (ruT f o m p s)), some (tI n), x6, x7, x8, some (tBo (isRuleD d)), x10, x11, some (.dat d), some (.dat (.str d.shown)), x14, x15]) :
    t_law_24 K a O Qx [s0, s1, some (w3T x y z), x3, some (.dat (ruT f o m p s)), some (tI n), x6, x7, x8, some (tBo (isRuleD d)), x10, x11, some (.dat d), some (.dat (.str d.shown)), x14, x15] := by
  have gd := sd.gd (by decide)
  have sn : Sml 2 (.int n) := sml_int (Nat.lt_trans (show n.natAbs < 5000 by omega) (by decide))
  have rk : ReprOk (.int 0) := (sml_int (k := 3) (i := 0) (by decide)).rok
  have sh1 : SeqAt.shaped (.tuple [.list [.int 1], .str d.shown]) = true := sh_t1 (shown_lay gd.lay)
  have ev := eqv_t1 (i := 1) (s := d.shown)
  cases e : isRuleD d with
  | true =>
    rw [e] at hn
    have z1 := hn x y z (w.mono (by omega))
    walk_at "hs"
    exact sNx_of z1
  | false =>
    rw [e] at hn
    walk_at "hs"
    refine fun x1 y1 z1 r w1 r0 r1 _ => ?_
    have hc : CauR r (.int n) d 0 1 d := .inr (.inl ⟨rfl, by omega, by omega, decide_eq_true ⟨n1, n2⟩, e, rfl⟩)
    walk_at "hs"
    rw [ev]
    walk_at "hs"
    exact sNx_of (hn _ _ _ w1)
theorem law20 (tx : Tx K mg a) (w : Wb N x y z) (hN : N ≤ 400000) (ok : RuOk f o m p s) (n1 : 32 ≤ n) (n2 : n ≤ 4000) (hn : ∀ x y z x9 x12 x13, Wb (N + 4) x y z → O.nx [s0, s1, some (w3T x y z), x3, some (.dat (ruT f o m p s)), some (tI n), x6, x7, x8, x9, x10, x11, x12, x13, x14, x15]) :
    b_law_20 K a O Qx [s0, s1, some (w3T x y z), x3, some (.dat (ruT f o m p s)), some (tI n), x6, x7, x8, x9, x10, x11, x12, x13, x14, x15] := by
  have sr := ru_sml ok
  walk_at "hs"
  refine fun x1 y1 z1 d w1 sd => ?_
  have gd := sd.gd (by decide)
  have rd := (sd.mono (by decide : 2 ≤ 3)).rok
  have rb : ReprOk (.list [.bool (isRuleD d), .bool (isRuleD d)]) := rok_l2 sml_bool
  walk_at "hs"
  exact sNx_of ⟨law24 tx w1 (by omega) sd n1 n2 fun x y z w => hn _ _ _ _ _ _ w⟩
theorem law19 (tx : Tx K mg a) (w : Wb N x y z) (hN : N ≤ 300000) (ok : RuOk f o m p s) (n1 : 32 ≤ n) (n2 : n ≤ 4000) (hn : ∀ x y z x9 x11 x12 x13 x14 x15, Wb (N + 23) x y z → O.nx [s0, s1, some (w3T x y z), x3, some (.dat (ruT f o m p s)), some (tI n), x6, x7, x8, x9, x10, x11, x12, x13, x14, x15]) :
    t_law_19 K a O Qx [s0, s1, some (w3T x y z), x3, some (.dat (ruT f o m p s)), some (tI n), x6, x7, x8, x9, x10, x11, x12, x13, x14, x15] := by
  walk_at "hs"
  refine ⟨OnR [2, 9, 11, 12, 13] (fun i vs => ∃ (x y z : Int) (y1 y2 y3 y4 : Option T), vs = [some (w3T x y z), y1, y2, y3, y4] ∧ Wb (N + 4 * i) x y z) _, onR0 ⟨x, y, z, _, _, _, _, rfl, w⟩ rfl, ?_, ?_⟩
  · rintro i ρ hi ⟨_, ⟨x, y, z, y1, y2, y3, y4, rfl, w⟩, rfl⟩
    replace hi : i < 5 := hi
    walk_at "hs"
    refine ⟨law20 tx w (by omega) ok n1 n2 fun x y z y1 y2 y3 w => ?_⟩
    exact ⟨_, ⟨x, y, z, _, _, _, _, rfl, w.mono (by omega)⟩, rfl⟩
  · rintro ρ ⟨_, ⟨x, y, z, y1, y2, y3, y4, rfl, w⟩, rfl⟩
    replace w : Wb (N + 4 * 5) x y z := w
    walk_at "hs"
    exact ⟨law26 tx w (by omega) ok n1 n2 fun x y z x14 x15 w => hn _ _ _ _ _ _ _ _ _ w⟩
theorem law17 (tx : Tx K mg a) (w : Wb N x y z) (hN : N ≤ 300000) (ok : RuOk f o m p s) (n1 : 32 ≤ n) (n2 : n ≤ 4000) {far : Int} (hf : 10 ≤ far) (hn : ∀ x y z x9 x11 x12 x13 x14 x15, Wb (N + 23) x y z → O.nx [s0, s1, some (w3T x y z), x3, some (.dat (ruT f o m p s)), some (tI n), x6, x7, x8, x9, some (tI far), x11, x12, x13, x14, x15]) :
    t_law_17 K a O Qx [s0, s1, some (w3T x y z), x3, some (.dat (ruT f o m p s)), some (tI n), x6, x7, x8, x9, some (tI far), x11, x12, x13, x14, x15] := by
  obtain ⟨h1, h2, h3⟩ := cells_far ok.s1 ok.s8 hf
  have s1' := ok.s1
  have gr := (ru_sml ok).gd (by decide)
  have z19 := law19 (O := O) (Qx := Qx) (x6 := x6) (x7 := x7) (x8 := x8) (x9 := x9) (x10 := some (tI far)) (x11 := x11) (x12 := x12) (x13 := x13) (x14 := x14) (x15 := x15) (s0 := s0) (s1 := s1) (x3 := x3) tx w hN ok n1 n2 hn
  have hk : 1 ≤ far := by omega
  clear hn w hN n1 n2 hf
  walk_at "hs"
  refine .inr ⟨f, o, m, p, s, rfl, ok, .inr ⟨hk, ?_⟩⟩
  walk_at "hs"
  refine .inr ⟨f, o, m, p, s, rfl, ok, .inr ⟨hk, ?_⟩⟩
  walk_at "hs"
  exact sNx_of ⟨z19⟩
theorem law16 (tx : Tx K mg a) (w : Wb N x y z) (hN : N ≤ 200000) (ok : RuOk f o m p s) (n1 : 32 ≤ n) (n2 : n ≤ 4000) (hn : ∀ x y z x9 x10 x11 x12 x13 x14 x15, Wb (N + 24) x y z → O.nx [s0, s1, some (w3T x y z), x3, some (.dat (ruT f o m p s)), some (tI n), x6, x7, x8, x9, x10, x11, x12, x13, x14, x15]) :
    t_law_16 K a O Qx [s0, s1, some (w3T x y z), x3, some (.dat (ruT f o m p s)), some (tI n), x6, x7, x8, x9, x10, x11, x12, x13, x14, x15] := by
  walk_at "hs"
  refine fun x1 y1 z1 r w1 r0 r1 _ => ?_
  walk_at "hs"
  exact ⟨law17 tx w1 (by omega) ok n1 n2 (by omega) fun x y z x9 x11 x12 x13 x14 x15 w => hn _ _ _ _ _ _ _ _ _ _ (w.mono (by omega))⟩
theorem law14 (tx : Tx K mg a) (w : Wb N x y z) (hN : N ≤ 200000) (ok : RuOk f o m p s) (n1 : 32 ≤ n) (n2 : n ≤ 4000) (k1 : 1 ≤ k) (k4 : k ≤ 4000) (hn : ∀ x y z x8 x9 x10 x11 x12 x13 x14 x15, Wb (N + 24) x y z → O.nx [s0, s1, some (w3T x y z), x3, some (.dat (ruT f o m p s)), some (tI n), x6, x7, x8, x9, x10, x11, x12, x13, x14, x15]) :
    t_law_14 K a O Qx [s0, s1, some (w3T x y z), x3, some (.dat (ruT f o m p s)), some (tI n), x6, x7, some (tI k), some (tI (cellsF s k)), x10, x11, x12, x13, x14, x15] := by
  have gr := (ru_sml ok).gd (by decide)
  obtain ⟨h1, h2, h3, _⟩ := cells_le ok.s1 ok.s8 k1
  have rk : ReprOk (.list [.int (cellsF s k), .int (cellsF s k)]) := rok_l2 (sml_int (Nat.lt_trans (show (cellsF s k).natAbs < 5000 by omega) (by decide)))
  walk_at "hs"
  refine .inr ⟨f, o, m, p, s, rfl, ok, .inr ⟨k1, ?_⟩⟩
  walk_at "hs"
  refine .inr ⟨f, o, m, p, s, rfl, ok, .inr ⟨k1, ?_⟩⟩
  walk_at "hs"
  exact sNx_of ⟨law16 tx w hN ok n1 n2 fun x y z x9 x10 x11 x12 x13 x14 x15 w => hn _ _ _ _ _ _ _ _ _ _ _ w⟩
theorem law13 (tx : Tx K mg a) (w : Wb N x y z) (hN : N ≤ 200000) (ok : RuOk f o m p s) (n1 : 32 ≤ n) (n2 : n ≤ 4000) (k1 : 1 ≤ k) (k4 : k ≤ 4000) (hn : ∀ x y z x8 x9 x10 x11 x12 x13 x14 x15, Wb (N + 24) x y z → O.nx [s0, s1, some (w3T x y z), x3, some (.dat (ruT f o m p s)), some (tI n), x6, x7, x8, x9, x10, x11, x12, x13, x14, x15]) :
    t_law_13 K a O Qx [s0, s1, some (w3T x y z), x3, some (.dat (ruT f o m p s)), some (tI n), x6, x7, some (tI k), x9, x10, x11, x12, x13, x14, x15] := by
  have s1' := ok.s1
  have s8' := ok.s8
  walk_at "hs"
  exact ⟨law14 tx w hN ok n1 n2 k1 k4 hn⟩
theorem law12 (tx : Tx K mg a) (w : Wb N x y z) (hN : N ≤ 100000) (ok : RuOk f o m p s) (n1 : 32 ≤ n) (n2 : n ≤ 4000) (hn : ∀ x y z x8 x9 x10 x11 x12 x13 x14 x15, Wb (N + 26) x y z → O.nx [s0, s1, some (w3T x y z), x3, some (.dat (ruT f o m p s)), some (tI n), x6, x7, x8, x9, x10, x11, x12, x13, x14, x15]) :
    t_law_12 K a O Qx [s0, s1, some (w3T x y z), x3, some (.dat (ruT f o m p s)), some (tI n), x6, x7, x8, x9, x10, x11, x12, x13, x14, x15] := by
  walk_at "hs"
  refine fun x1 y1 z1 r w1 r0 r1 _ => ?_
  walk_at "hs"
  refine fun x2 y2 z2 q w2 q0 q1 _ => ?_
  walk_at "hs"
  refine pick_any (P := fun d => ∃ k : Int, d = .int k ∧ 1 ≤ k ∧ k ≤ 4000) (i := q.toNat) ?hi ?hp ?hd
  case hi => simp only [List.length_cons, List.length_nil]; omega
  case hp => exact .cons ⟨_, rfl, by omega, by omega⟩ (.cons ⟨_, rfl, by omega, by omega⟩ (.cons ⟨_, rfl, by omega, by omega⟩ (.cons ⟨_, rfl, by omega, by omega⟩ (.cons ⟨_, rfl, by omega, by omega⟩ .nil))))
  rintro d ⟨k, rfl, k1, k4⟩
  refine ⟨_, _, rfl, ?_⟩
  exact ⟨law13 tx w2 (by omega) ok n1 n2 k1 k4 hn⟩
theorem law10 (tx : Tx K mg a) (w : Wb N x y z) (hN : N ≤ 100000) (ok : RuOk f o m p s) (n1 : 32 ≤ n) (n2 : n ≤ 4000) (hn : ∀ x y z x7 x8 x9 x10 x11 x12 x13 x14 x15, Wb (N + 26) x y z → O.nx [s0, s1, some (w3T x y z), x3, some (.dat (ruT f o m p s)), some (tI n), x6, x7, x8, x9, x10, x11, x12, x13, x14, x15]) :
    t_law_10 K a O Qx [s0, s1, some (w3T x y z), x3, some (.dat (ruT f o m p s)), some (tI n), x6, some (.dat (regD n o s)), x8, x9, x10, x11, x12, x13, x14, x15] := by
  have gr := (ru_sml ok).gd (by decide)
  have s1' := ok.s1
  have s8' := ok.s8
  have gn : Gd (.int n) := (sml_int (k := 0) (Nat.lt_trans (show n.natAbs < 5000 by omega) (by decide))).gd (by decide)
  obtain ⟨l1, l2⟩ := lists_le (n := n) (o := o)
  have hb : (0 : Int) ≤ (n - (1 + listsF n o)) / s * s ∧ (n - (1 + listsF n o)) / s * s ≤ 5000 := by
    have hs : s = 1 ∨ s = 2 ∨ s = 3 ∨ s = 4 ∨ s = 5 ∨ s = 6 ∨ s = 7 ∨ s = 8 := by omega
    rcases hs with rfl | rfl | rfl | rfl | rfl | rfl | rfl | rfl <;> omega
  have sr : Sml 2 (regD n o s) := sml_tup (by simp only [List.length_cons, List.length_nil]; omega) (SmlL.all (.cons (sml_int (Nat.lt_trans (show (1 + listsF n o).natAbs < 20000 by omega) (by decide))) (.cons (sml_int (Nat.lt_trans (show (1 + listsF n o + (n - (1 + listsF n o)) / s * s).natAbs < 20000 by omega) (by decide))) .nil)))
  have rk : ReprOk (.list [regD n o s, regD n o s]) := rok_l2 sr
  clear hb
  walk_at "hs"
  refine .inr (.inr ⟨n, f, o, m, p, s, rfl, n1, n2, rfl, ok, ?_⟩)
  walk_at "hs"
  refine .inr (.inr ⟨n, f, o, m, p, s, rfl, n1, n2, rfl, ok, ?_⟩)
  walk_at "hs"
  exact sNx_of ⟨law12 tx w hN ok n1 n2 fun x y z x8 x9 x10 x11 x12 x13 x14 x15 w => hn _ _ _ _ _ _ _ _ _ _ _ _ w⟩
theorem law8 (tx : Tx K mg a) (w : Wb N x y z) (hN : N ≤ 100000) (ok : RuOk f o m p s) (n1 : 32 ≤ n) (n2 : n ≤ 4000) (hn : ∀ x y z x6 x7 x8 x9 x10 x11 x12 x13 x14 x15, Wb (N + 26) x y z → O.nx [s0, s1, some (w3T x y z), x3, some (.dat (ruT f o m p s)), some (tI n), x6, x7, x8, x9, x10, x11, x12, x13, x14, x15]) :
    t_law_8 K a O Qx [s0, s1, some (w3T x y z), x3, some (.dat (ruT f o m p s)), some (tI n), some (tI (listsF n o)), some (.dat (regD n o s)), x8, x9, x10, x11, x12, x13, x14, x15] := by
  have gr := (ru_sml ok).gd (by decide)
  have gn : Gd (.int n) := (sml_int (k := 0) (Nat.lt_trans (show n.natAbs < 5000 by omega) (by decide))).gd (by decide)
  obtain ⟨l1, l2⟩ := lists_le (n := n) (o := o)
  have rk : ReprOk (.list [.int (listsF n o), .int (listsF n o)]) := rok_l2 (sml_int (Nat.lt_trans (show (listsF n o).natAbs < 5000 by omega) (by decide)))
  walk_at "hs"
  refine .inr (.inr ⟨n, f, o, m, p, s, rfl, n1, n2, rfl, ok, ?_⟩)
  walk_at "hs"
  refine .inr (.inr ⟨n, f, o, m, p, s, rfl, n1, n2, rfl, ok, ?_⟩)
  walk_at "hs"
  exact sNx_of ⟨law10 tx w hN ok n1 n2 fun x y z x7 x8 x9 x10 x11 x12 x13 x14 x15 w => hn _ _ _ _ _ _ _ _ _ _ _ _ _ w⟩
theorem law6 (tx : Tx K mg a) (w : Wb N x y z) (hN : N ≤ 100000) (ok : RuOk f o m p s) (n1 : 32 ≤ n) (n2 : n ≤ 4000) (hn : ∀ x y z x6 x7 x8 x9 x10 x11 x12 x13 x14 x15, Wb (N + 26) x y z → O.nx [s0, s1, some (w3T x y z), x3, some (.dat (ruT f o m p s)), some (tI n), x6, x7, x8, x9, x10, x11, x12, x13, x14, x15]) :
    t_law_6 K a O Qx [s0, s1, some (w3T x y z), x3, some (.dat (ruT f o m p s)), some (tI n), some (tI (listsF n o)), some (.dat (regD n o s)), x8, x9, x10, x11, x12, x13, x14, x15] := by
  have gr := (ru_sml ok).gd (by decide)
  have hr := ok.r
  have z8 := law8 (O := O) (Qx := Qx) (x8 := x8) (x9 := x9) (x10 := x10) (x11 := x11) (x12 := x12) (x13 := x13) (x14 := x14) (x15 := x15) (s0 := s0) (s1 := s1) (x3 := x3) tx w hN ok n1 n2 hn
  clear hn
  walk_at "hs"
  exact sNx_of ⟨z8⟩
theorem law5 (tx : Tx K mg a) (w : Wb N x y z) (hN : N ≤ 100000) (ok : RuOk f o m p s) (n1 : 32 ≤ n) (n2 : n ≤ 4000) (hn : ∀ x y z x6 x7 x8 x9 x10 x11 x12 x13 x14 x15, Wb (N + 26) x y z → O.nx [s0, s1, some (w3T x y z), x3, some (.dat (ruT f o m p s)), some (tI n), x6, x7, x8, x9, x10, x11, x12, x13, x14, x15]) :
    t_law_5 K a O Qx [s0, s1, some (w3T x y z), x3, some (.dat (ruT f o m p s)), some (tI n), x6, x7, x8, x9, x10, x11, x12, x13, x14, x15] := by
  have s1' := ok.s1
  have s8' := ok.s8
  walk_at "hs"
  exact ⟨law6 tx w hN ok n1 n2 hn⟩
theorem law4 (tx : Tx K mg a) (w : Wb N x y z) (hN : N ≤ 50000) {x4 x5 : Option T} (hn : ∀ x y z x4 x5 x6 x7 x8 x9 x10 x11 x12 x13 x14 x15, Wb (N + 40) x y z → O.nx [s0, s1, some (w3T x y z), x3, x4, x5, x6, x7, x8, x9, x10, x11, x12, x13, x14, x15]) :
    b_law_4 K a O Qx [s0, s1, some (w3T x y z), x3, x4, x5, x6, x7, x8, x9, x10, x11, x12, x13, x14, x15] := by
  walk_at "hs"
  refine fun x1 y1 z1 f o m p s w1 ok => ?_
  walk_at "hs"
  refine fun x2 y2 z2 v w2 v1 v2 => ?_
  walk_at "hs"
  refine fun x3 y3 z3 r w3 r0 r1 _ => ?_
  walk_at "hs"
  refine fun x4 y4 z4 q w4 q0 q1 _ => ?_
  walk_at "hs"
  refine pick_any (P := fun d => ∃ k : Int, d = .int k ∧ 32 ≤ k ∧ k ≤ 4000) (i := q.toNat) ?hi ?hp ?hd
  case hi => simp only [List.length_cons, List.length_nil]; omega
  case hp => exact .cons ⟨_, rfl, by omega, by omega⟩ (.cons ⟨_, rfl, by omega, by omega⟩ (.cons ⟨_, rfl, by omega, by omega⟩ .nil))
  rintro d ⟨k, rfl, k1, k4⟩
  walk_at "hs"
  exact ⟨law5 tx w4 (by omega) ok k1 k4 fun x y z x6 x7 x8 x9 x10 x11 x12 x13 x14 x15 w => hn _ _ _ _ _ _ _ _ _ _ _ _ _ _ _ (w.mono (by omega))⟩
end
theorem law_law {K : PySem.W.Frag} {mg : Str → Option Value} {a : Ad} (tx : Tx K mg a) : ∀ ts post ep, lawW 63 ts post ep → ts.length = 1 → w_law K a (outO [] 1 post) (outX [] 1 ep) (startT 16 ts) := by
  intro ts post ep hW hl
  obtain ⟨ns, rfl, h63, hp⟩ := hW
  walk_at "hs"
  refine ⟨OnR [1, 2, 3, 4, 5, 6, 7, 8, 9, 10, 11, 12, 13, 14, 15] (fun _ vs => (AnyV 15 vs)) _, onR0 (vs := [none, none, none, none, none, none, none, none, none, none, none, none, none, none, none]) ⟨_, _, rfl, _, _, rfl, _, _, rfl, _, _, rfl, _, _, rfl, _, _, rfl, _, _, rfl, _, _, rfl, _, _, rfl, _, _, rfl, _, _, rfl, _, _, rfl, _, _, rfl, _, _, rfl, _, _, rfl, rfl⟩ rfl, ?_, ?_⟩
  · rintro c ρ hc ⟨_, ⟨x1, _, rfl, x2, _, rfl, x3, _, rfl, x4, _, rfl, x5, _, rfl, x6, _, rfl, x7, _, rfl, x8, _, rfl, x9, _, rfl, x10, _, rfl, x11, _, rfl, x12, _, rfl, x13, _, rfl, x14, _, rfl, x15, _, rfl, rfl⟩, rfl⟩
    walk_at "hs"
    refine fun x y w _ => ?_
    walk_at "hs"
    refine ⟨OnR [2, 3, 4, 5, 6, 7, 8, 9, 10, 11, 12, 13, 14, 15] (fun i vs => ∃ x y z : Int, (∃ x1 x2 x3 x4 x5 x6 x7 x8 x9 x10 x11 x12 x13 : Option T, vs = [some (w3T x y z), x1, x2, x3, x4, x5, x6, x7, x8, x9, x10, x11, x12, x13]) ∧ Wb (40 * i) x y z) _, onR0 ⟨x, y, 0, ⟨_, _, _, _, _, _, _, _, _, _, _, _, _, rfl⟩, w⟩ rfl, ?_, ?_⟩
    · rintro i ρ hi ⟨_, ⟨x, y, z, ⟨y3, y4, y5, y6, y7, y8, y9, y10, y11, y12, y13, y14, y15, rfl⟩, w⟩, rfl⟩
      replace hi : i < 4 := hi
      walk_at "hs"
      refine ⟨law4 tx w (by omega) fun x y z y4 y5 y6 y7 y8 y9 y10 y11 y12 y13 y14 y15 w => ?_⟩
      exact ⟨_, ⟨x, y, z, ⟨_, _, _, _, _, _, _, _, _, _, _, _, _, rfl⟩, w.mono (by omega)⟩, rfl⟩
    · rintro ρ ⟨_, ⟨x, y, z, ⟨y3, y4, y5, y6, y7, y8, y9, y10, y11, y12, y13, y14, y15, rfl⟩, w⟩, rfl⟩
      walk_at "hs"
      exact ⟨_, ⟨_, _, rfl, _, _, rfl, _, _, rfl, _, _, rfl, _, _, rfl, _, _, rfl, _, _, rfl, _, _, rfl, _, _, rfl, _, _, rfl, _, _, rfl, _, _, rfl, _, _, rfl, _, _, rfl, _, _, rfl, rfl⟩, rfl⟩
  · rintro ρ ⟨_, ⟨x1, _, rfl, x2, _, rfl, x3, _, rfl, x4, _, rfl, x5, _, rfl, x6, _, rfl, x7, _, rfl, x8, _, rfl, x9, _, rfl, x10, _, rfl, x11, _, rfl, x12, _, rfl, x13, _, rfl, x14, _, rfl, x15, _, rfl, rfl⟩, rfl⟩
    walk_at "hs"
    exact hp
theorem ok_law {w : World} {K : PySem.W.Frag} {mg : Str → Option Value} {base : Heap} {a : Ad} (T : Tx K mg a) : FnG a.P w K mg base CX0 13 a.f_law a.d_law ["script"] (spT K wellO (lawW 63)) :=
  Hz.FnG.to0 (fn_TX [] T.F_law sc_law (fun ts post ep h => len_law h) (fun cdv A outer s H E hr hg => ⟨_, w_law K a,
  (pss_cons (ps_for (passes_of rfl) rfl (pi_range1 (by rfl) (by exact T.z_range) (pa_cons (pe_callB (call_max2 rfl) (by rfl) (by exact T.z_max) bt_max (pa_cons pe_int (pa_cons (pe_callB (call_min2 rfl) (by rfl) (by exact T.z_min) bt_min (pa_cons pe_int (pa_cons (pe_callB (call_lenK (K := K) rfl) (by rfl) (by exact T.z_len) bt_len (pa_cons (pv 0) pa_nil)) pa_nil))) pa_nil))) pa_nil)) (pg_name (i := 1) sc_law.nd rfl (Or.inl rfl))
  (pss_cons (ps_set (i := 2) sc_law.nd rfl (Or.inl rfl) (pg_call (ok__law_well T) (by exact hr.mono (by decide)) (by exact hg) (by rfl) (by exact T.g__law_well) (by exact T.F__law_well.kp) T.b__law_well_2 passG (pa_cons (pv 0) (pa_cons (pv 1) pa_nil))))
  (pss_one (ps_for (passes_of rfl) rfl (pi_range1 (by rfl) (by exact T.z_range) (pa_cons pe_int pa_nil)) (pg_name (i := 3) sc_law.nd rfl (Or.inl rfl))
  (pss_cons (ps_par (i := 4) (j := 5) rfl sc_law.nd rfl rfl (by decide) rfl rfl (pa_cons (pg_call (ok__law_rule T) (by exact hr.mono (by decide)) (by exact hg) (by rfl) (by exact T.g__law_rule) (by exact T.F__law_rule.kp) T.b__law_rule_1 passG (pa_cons (pv 2) pa_nil)) (pa_cons (pe_ix ix_seq (pe_lst (pa_cons (pg_call (ok__law_size T) (by exact hr.mono (by decide)) (by exact hg) (by rfl) (by exact T.g__law_size) (by exact T.F__law_size.kp) T.b__law_size_1 passG (pa_cons (pv 2) pa_nil)) (pa_cons (pe_op op_add pe_int (pg_call (ok__law_draw T) (by exact hr.mono (by decide)) (by exact hg) (by rfl) (by exact T.g__law_draw) (by exact T.F__law_draw.kp) T.b__law_draw_2 passG (pa_cons (pv 2) (pa_cons pe_int pa_nil)))) (pa_cons pe_int pa_nil)))) (pg_call (ok__law_draw T) (by exact hr.mono (by decide)) (by exact hg) (by rfl) (by exact T.g__law_draw) (by exact T.F__law_draw.kp) T.b__law_draw_2 passG (pa_cons (pv 2) (pa_cons pe_int pa_nil))) (fun _ _ => rfl)) pa_nil)) (by rfl))
  (pss_cons (ps_par (i := 6) (j := 7) rfl sc_law.nd rfl rfl (by decide) rfl rfl (pa_cons (pg_call (ok__law_many T) (by exact hr.mono (by decide)) (by exact hg) (by rfl) (by exact T.g__law_many) (by exact T.F__law_many.kp) T.b__law_many_2 passG (pa_cons (pv 5) (pa_cons (pv 4) pa_nil))) (pa_cons (pg_call (ok__law_region T) (by exact hr.mono (by decide)) (by exact hg) (by rfl) (by exact T.g__law_region) (by exact T.F__law_region.kp) T.b__law_region_2 passG (pa_cons (pv 5) (pa_cons (pv 4) pa_nil))) pa_nil)) (by rfl))
  (pss_cons (ps_if (PW.pt (pw_or (pt_cmpR op_notBl (pg_call (ok_is_rule T) (by exact hr.mono (by decide)) (by exact hg) (by rfl) (by exact T.g_is_rule) (by exact T.F_is_rule.kp) T.b_is_rule_1 passG (pa_cons (pv 4) pa_nil)) pe_bl (nomark _)) (pw_or1 (pt_not (pt_val (pg_call (ok__law_is_rule T) (by exact hr.mono (by decide)) (by exact hg) (by rfl) (by exact T.g__law_is_rule) (by exact T.F__law_is_rule.kp) T.b__law_is_rule_1 passG (pa_cons (pv 4) pa_nil))))))) (pss_one (ps_ret pe_bl)) pss_nil)
  (pss_cons (ps_if (pt_cmpR op_ne (pe_callB (call_repr (by exact hg) (by have := room65 hr; exact this)) (by rfl) (by exact T.z_repr) bt_repr (pa_cons (pe_lst (pa_cons (pg_call (ok_list_count T) (by exact hr.mono (by decide)) (by exact hg) (by rfl) (by exact T.g_list_count) (by exact T.F_list_count.kp) T.b_list_count_2 (fun σ => passAt (takes_of rfl rfl rfl rfl) σ) (pa_cons (pv 5) (pa_cons (pv 4) pa_nil))) (pa_cons (pg_callK0 (ok_list_count T) (by exact hr.mono (by decide)) (by exact hg) (by rfl) (by exact T.g_list_count) (by exact T.F_list_count.kp) T.b_list_count_0_rule_size (fun σ => passAt (takes_of rfl rfl rfl rfl) σ) (pk_cons (pv 4) (pk_cons (pv 5) pk_nil))) pa_nil))) pa_nil)) (pe_callB (call_repr (by exact hg) (by have := room65 hr; exact this)) (by rfl) (by exact T.z_repr) bt_repr (pa_cons (pe_lst (pa_cons (pv 6) (pa_cons (pv 6) pa_nil))) pa_nil)) (nomark _)) (pss_one (ps_ret pe_bl)) pss_nil)
  (pss_cons (ps_if (pt_cmpR op_ne (pe_callB (call_repr (by exact hg) (by have := room65 hr; exact this)) (by rfl) (by exact T.z_repr) bt_repr (pa_cons (pe_lst (pa_cons (pg_call (ok_region T) (by exact hr.mono (by decide)) (by exact hg) (by rfl) (by exact T.g_region) (by exact T.F_region.kp) T.b_region_2 (fun σ => passAt (takes_of rfl rfl rfl rfl) σ) (pa_cons (pv 5) (pa_cons (pv 4) pa_nil))) (pa_cons (pg_callK0 (ok_region T) (by exact hr.mono (by decide)) (by exact hg) (by rfl) (by exact T.g_region) (by exact T.F_region.kp) T.b_region_0_rule_size (fun σ => passAt (takes_of rfl rfl rfl rfl) σ) (pk_cons (pv 4) (pk_cons (pv 5) pk_nil))) pa_nil))) pa_nil)) (pe_callB (call_repr (by exact hg) (by have := room65 hr; exact this)) (by rfl) (by exact T.z_repr) bt_repr (pa_cons (pe_lst (pa_cons (pv 7) (pa_cons (pv 7) pa_nil))) pa_nil)) (nomark _)) (pss_one (ps_ret pe_bl)) pss_nil)
  (pss_cons (ps_set (i := 8) sc_law.nd rfl (Or.inl rfl) (pe_ix ix_seq (pe_lst (pa_cons pe_int (pa_cons pe_int (pa_cons pe_int (pa_cons (pe_op op_add pe_int (pg_call (ok__law_draw T) (by exact hr.mono (by decide)) (by exact hg) (by rfl) (by exact T.g__law_draw) (by exact T.F__law_draw.kp) T.b__law_draw_2 passG (pa_cons (pv 2) (pa_cons pe_int pa_nil)))) (pa_cons pe_int pa_nil)))))) (pg_call (ok__law_draw T) (by exact hr.mono (by decide)) (by exact hg) (by rfl) (by exact T.g__law_draw) (by exact T.F__law_draw.kp) T.b__law_draw_2 passG (pa_cons (pv 2) (pa_cons pe_int pa_nil))) (fun _ _ => rfl)))
  (pss_cons (ps_set (i := 9) sc_law.nd rfl (Or.inl rfl) (pg_call (ok__law_cells T) (by exact hr.mono (by decide)) (by exact hg) (by rfl) (by exact T.g__law_cells) (by exact T.F__law_cells.kp) T.b__law_cells_2 passG (pa_cons (pv 4) (pa_cons (pv 8) pa_nil))))
  (pss_cons (ps_if (pt_cmpR op_ne (pe_callB (call_repr (by exact hg) (by have := room65 hr; exact this)) (by rfl) (by exact T.z_repr) bt_repr (pa_cons (pe_lst (pa_cons (pg_call (ok_needed T) (by exact hr.mono (by decide)) (by exact hg) (by rfl) (by exact T.g_needed) (by exact T.F_needed.kp) T.b_needed_2 (fun σ => passAt (takes_of rfl rfl rfl rfl) σ) (pa_cons (pv 4) (pa_cons (pv 8) pa_nil))) (pa_cons (pg_callK0 (ok_needed T) (by exact hr.mono (by decide)) (by exact hg) (by rfl) (by exact T.g_needed) (by exact T.F_needed.kp) T.b_needed_0_k_rule (fun σ => passAt (takes_of rfl rfl rfl rfl) σ) (pk_cons (pv 8) (pk_cons (pv 4) pk_nil))) pa_nil))) pa_nil)) (pe_callB (call_repr (by exact hg) (by have := room65 hr; exact this)) (by rfl) (by exact T.z_repr) bt_repr (pa_cons (pe_lst (pa_cons (pv 9) (pa_cons (pv 9) pa_nil))) pa_nil)) (nomark _)) (pss_one (ps_ret pe_bl)) pss_nil)
  (pss_cons (ps_set (i := 10) sc_law.nd rfl (Or.inl rfl) (pe_op op_add (pe_op op_pow pe_int pe_int) (pg_call (ok__law_draw T) (by exact hr.mono (by decide)) (by exact hg) (by rfl) (by exact T.g__law_draw) (by exact T.F__law_draw.kp) T.b__law_draw_2 passG (pa_cons (pv 2) (pa_cons (pe_op op_pow pe_int pe_int) pa_nil)))))
  (pss_cons (ps_if (PW.pt (pw_or (pt_cmpR (op_neD (by exact room64 hr)) (pe_op op_mod (pe_callTy call_int1 (by rfl) (by exact T.z_int) bt_int (pa_cons (pg_call (ok_needed T) (by exact hr.mono (by decide)) (by exact hg) (by rfl) (by exact T.g_needed) (by exact T.F_needed.kp) T.b_needed_2 (fun σ => passAt (takes_of rfl rfl rfl rfl) σ) (pa_cons (pv 4) (pa_cons (pv 10) pa_nil))) pa_nil)) (pe_ix ix_seq (pv 4) pe_int (fun _ _ => rfl))) pe_int (nomark _)) (pw_or1 (pt_not (pt_chain op_le op_lt (pe_op op_add (pv 10) pe_int) (pg_call (ok_needed T) (by exact hr.mono (by decide)) (by exact hg) (by rfl) (by exact T.g_needed) (by exact T.F_needed.kp) T.b_needed_2 (fun σ => passAt (takes_of rfl rfl rfl rfl) σ) (pa_cons (pv 4) (pa_cons (pv 10) pa_nil))) (pe_op op_add (pe_op op_add (pv 10) pe_int) (pe_ix ix_seq (pv 4) pe_int (fun _ _ => rfl)))))))) (pss_one (ps_ret pe_bl)) pss_nil)
  (pss_cons (ps_for (passes_of rfl) rfl (pi_range1 (by rfl) (by exact T.z_range) (pa_cons pe_int pa_nil)) (pg_name (i := 11) sc_law.nd rfl (Or.inl rfl))
  (pss_cons (ps_set (i := 12) sc_law.nd rfl (Or.inl rfl) (pg_call (ok__law_bent T) (by exact hr.mono (by decide)) (by exact hg) (by rfl) (by exact T.g__law_bent) (by exact T.F__law_bent.kp) T.b__law_bent_2 passG (pa_cons (pv 2) (pa_cons (pv 4) pa_nil))))
  (pss_cons (ps_par (i := 13) (j := 9) rfl sc_law.nd rfl rfl (by decide) rfl rfl (pa_cons (pe_callB (call_repr (by exact hg) (by have := room65 hr; exact this)) (by rfl) (by exact T.z_repr) bt_repr (pa_cons (pv 12) pa_nil)) (pa_cons (pg_call (ok__law_is_rule T) (by exact hr.mono (by decide)) (by exact hg) (by rfl) (by exact T.g__law_is_rule) (by exact T.F__law_is_rule.kp) T.b__law_is_rule_1 passG (pa_cons (pv 12) pa_nil)) pa_nil)) (by rfl))
  (pss_cons (ps_if (PW.pt (pw_or (pt_cmpR op_ne (pe_callB (call_repr (by exact hg) (by have := room65 hr; exact this)) (by rfl) (by exact T.z_repr) bt_repr (pa_cons (pe_lst (pa_cons (pg_call (ok_is_rule T) (by exact hr.mono (by decide)) (by exact hg) (by rfl) (by exact T.g_is_rule) (by exact T.F_is_rule.kp) T.b_is_rule_1 passG (pa_cons (pv 12) pa_nil)) (pa_cons (pg_callK0 (ok_is_rule T) (by exact hr.mono (by decide)) (by exact hg) (by rfl) (by exact T.g_is_rule) (by exact T.F_is_rule.kp) T.b_is_rule_0_value passG (pk_cons (pv 12) pk_nil)) pa_nil))) pa_nil)) (pe_callB (call_repr (by exact hg) (by have := room65 hr; exact this)) (by rfl) (by exact T.z_repr) bt_repr (pa_cons (pe_lst (pa_cons (pv 9) (pa_cons (pv 9) pa_nil))) pa_nil)) (nomark _)) (pw_or1 (pt_cmpR op_ne (pe_callB (call_repr (by exact hg) (by have := room65 hr; exact this)) (by rfl) (by exact T.z_repr) bt_repr (pa_cons (pv 12) pa_nil)) (pv 13) (nomark _))))) (pss_one (ps_ret pe_bl)) pss_nil)
  (pss_one (ps_if (PW.pt (pw_and (pt_not (pt_val (pv 9))) (pw_and1 (pt_cmpR (op_neD (by exact room64 hr)) (pg_call (ok__law_told T) (by exact hr.mono (by decide)) (by exact hg) (by rfl) (by exact T.g__law_told) (by exact T.F__law_told.kp) T.b__law_told_4 passG (pa_cons (pg_call (ok__law_draw T) (by exact hr.mono (by decide)) (by exact hg) (by rfl) (by exact T.g__law_draw) (by exact T.F__law_draw.kp) T.b__law_draw_2 passG (pa_cons (pv 2) (pa_cons pe_int pa_nil))) (pa_cons (pv 5) (pa_cons (pv 12) (pa_cons pe_int pa_nil))))) (pe_tup (pa_cons (pe_lst (pa_cons pe_int pa_nil)) (pa_cons (pv 13) pa_nil))) (nomark _))))) (pss_one (ps_ret pe_bl)) pss_nil))))))
  (pss_cons (ps_set (i := 14) sc_law.nd rfl (Or.inl rfl) (pe_ix ix_seq (pe_lst (pa_cons pe_int (pa_cons pe_int (pa_cons pe_non (pa_cons pe_bl (pa_cons pe_str (pa_cons (pe_tup (pa_cons pe_int pa_nil)) (pa_cons (pe_lst (pa_cons pe_int pa_nil)) (pa_cons (pe_un un_neg pe_int) pa_nil))))))))) (pg_call (ok__law_draw T) (by exact hr.mono (by decide)) (by exact hg) (by rfl) (by exact T.g__law_draw) (by exact T.F__law_draw.kp) T.b__law_draw_2 passG (pa_cons (pv 2) (pa_cons pe_int pa_nil))) (fun _ _ => rfl)))
  (pss_cons (ps_if (pt_cmpR (op_neD (by exact room64 hr)) (pg_call (ok__law_told T) (by exact hr.mono (by decide)) (by exact hg) (by rfl) (by exact T.g__law_told) (by exact T.F__law_told.kp) T.b__law_told_4 passG (pa_cons (pg_call (ok__law_draw T) (by exact hr.mono (by decide)) (by exact hg) (by rfl) (by exact T.g__law_draw) (by exact T.F__law_draw.kp) T.b__law_draw_2 passG (pa_cons (pv 2) (pa_cons pe_int pa_nil))) (pa_cons (pv 14) (pa_cons pe_non (pa_cons pe_int pa_nil))))) (pe_tup (pa_cons (pe_lst (pa_cons pe_int pa_nil)) (pa_cons (pe_callB (call_repr (by exact hg) (by have := room65 hr; exact this)) (by rfl) (by exact T.z_repr) bt_repr (pa_cons (pv 14) pa_nil)) pa_nil))) (nomark _)) (pss_one (ps_ret pe_bl)) pss_nil)
  (pss_cons (ps_set (i := 15) sc_law.nd rfl (Or.inl rfl) (pe_ix ix_seq (pe_lst (pa_cons pe_int (pa_cons (pe_un un_neg pe_int) (pa_cons (pe_un un_neg (pe_op op_pow pe_int pe_int)) pa_nil)))) (pg_call (ok__law_draw T) (by exact hr.mono (by decide)) (by exact hg) (by rfl) (by exact T.g__law_draw) (by exact T.F__law_draw.kp) T.b__law_draw_2 passG (pa_cons (pv 2) (pa_cons pe_int pa_nil))) (fun _ _ => rfl)))
  (pss_one (ps_if (pt_cmpR (op_neD (by exact room64 hr)) (pg_call (ok__law_told T) (by exact hr.mono (by decide)) (by exact hg) (by rfl) (by exact T.g__law_told) (by exact T.F__law_told.kp) T.b__law_told_4 passG (pa_cons pe_int (pa_cons (pv 5) (pa_cons (pv 4) (pa_cons (pv 15) pa_nil))))) (pe_tup (pa_cons (pe_lst (pa_cons pe_int pa_nil)) (pa_cons (pe_callB (call_repr (by exact hg) (by have := room65 hr; exact this)) (by rfl) (by exact T.z_repr) bt_repr (pa_cons (pv 15) pa_nil)) pa_nil))) (nomark _)) (pss_one (ps_ret pe_bl)) pss_nil))))))))))))))))))))
  (pss_one (ps_ret pe_bl))),
  (sv_seq (sv_for (ei_range1 (ev_call2 op_max2 ev_int (ev_call2 op_min2 ev_int (ev_call1 (op_lenK (K := K)) ev_var)))) (g_name (by decide))
  (sv_seq (sv_asg (ev_call (Wf := (W__law_well K a)) (n := 2) (m := 0) mk_pos (ea_cons ev_var (ea_cons ev_var ea_nil)) ea_nil) (g_name (by decide)))
  (sv_for (ei_range1 ev_int) (g_name (by decide))
  (sv_stop (sv_seq (sv_par (by decide) (by decide) (ea_cons (ev_call (Wf := (W__law_rule K a)) (n := 1) (m := 0) mk_pos (ea_cons ev_var ea_nil) ea_nil) (ea_cons (ev_op2 op_ix (ev_lst (ea_cons (ev_call (Wf := (W__law_size K a)) (n := 1) (m := 0) mk_pos (ea_cons ev_var ea_nil) ea_nil) (ea_cons (ev_add ev_int (ev_call (Wf := (W__law_draw K a)) (n := 2) (m := 0) mk_pos (ea_cons ev_var (ea_cons ev_int ea_nil)) ea_nil)) (ea_cons ev_int ea_nil)))) (ev_call (Wf := (W__law_draw K a)) (n := 2) (m := 0) mk_pos (ea_cons ev_var (ea_cons ev_int ea_nil)) ea_nil)) ea_nil)))
  (sv_stop (sv_seq (sv_par (by decide) (by decide) (ea_cons (ev_call (Wf := (W__law_many K a)) (n := 2) (m := 0) mk_pos (ea_cons ev_var (ea_cons ev_var ea_nil)) ea_nil) (ea_cons (ev_call (Wf := (W__law_region K a)) (n := 2) (m := 0) mk_pos (ea_cons ev_var (ea_cons ev_var ea_nil)) ea_nil) ea_nil)))
  (sv_stop (sv_seq (sv_if (et_or (et_test (ev_op2 op_notB (ev_call (Wf := (W_is_rule K a)) (n := 1) (m := 0) mk_pos (ea_cons ev_var ea_nil) ea_nil) ev_bl)) (et_not (et_B (ev_call (Wf := (W__law_is_rule K a)) (n := 1) (m := 0) mk_pos (ea_cons ev_var ea_nil) ea_nil)))) (sv_ret ev_bl) sv_next)
  (sv_stop (sv_seq (sv_if (et_test (ev_neT (ev_call1 op_repr (ev_lst (ea_cons (ev_call (Wf := (W_list_count K a)) (n := 2) (m := 0) mk_pos (ea_cons ev_var (ea_cons ev_var ea_nil)) ea_nil) (ea_cons (ev_call (Wf := (W_list_count K a)) (n := 0) (m := 2) (mk_arr (p := [1, 0]) (by decide)) ea_nil (ea_cons ev_var (ea_cons ev_var ea_nil))) ea_nil)))) (ev_call1 op_repr (ev_lst (ea_cons ev_var (ea_cons ev_var ea_nil)))))) (sv_ret ev_bl) sv_next)
  (sv_stop (sv_seq (sv_if (et_test (ev_neT (ev_call1 op_repr (ev_lst (ea_cons (ev_call (Wf := (W_region K a)) (n := 2) (m := 0) mk_pos (ea_cons ev_var (ea_cons ev_var ea_nil)) ea_nil) (ea_cons (ev_call (Wf := (W_region K a)) (n := 0) (m := 2) (mk_arr (p := [1, 0]) (by decide)) ea_nil (ea_cons ev_var (ea_cons ev_var ea_nil))) ea_nil)))) (ev_call1 op_repr (ev_lst (ea_cons ev_var (ea_cons ev_var ea_nil)))))) (sv_ret ev_bl) sv_next)
  (sv_stop (sv_seq (sv_asg (ev_op2 op_ix (ev_lst (ea_cons ev_int (ea_cons ev_int (ea_cons ev_int (ea_cons (ev_add ev_int (ev_call (Wf := (W__law_draw K a)) (n := 2) (m := 0) mk_pos (ea_cons ev_var (ea_cons ev_int ea_nil)) ea_nil)) (ea_cons ev_int ea_nil)))))) (ev_call (Wf := (W__law_draw K a)) (n := 2) (m := 0) mk_pos (ea_cons ev_var (ea_cons ev_int ea_nil)) ea_nil)) (g_name (by decide)))
  (sv_stop (sv_seq (sv_asg (ev_call (Wf := (W__law_cells K a)) (n := 2) (m := 0) mk_pos (ea_cons ev_var (ea_cons ev_var ea_nil)) ea_nil) (g_name (by decide)))
  (sv_stop (sv_seq (sv_if (et_test (ev_neT (ev_call1 op_repr (ev_lst (ea_cons (ev_call (Wf := (W_needed K a)) (n := 2) (m := 0) mk_pos (ea_cons ev_var (ea_cons ev_var ea_nil)) ea_nil) (ea_cons (ev_call (Wf := (W_needed K a)) (n := 0) (m := 2) (mk_arr (p := [1, 0]) (by decide)) ea_nil (ea_cons ev_var (ea_cons ev_var ea_nil))) ea_nil)))) (ev_call1 op_repr (ev_lst (ea_cons ev_var (ea_cons ev_var ea_nil)))))) (sv_ret ev_bl) sv_next)
  (sv_stop (sv_seq (sv_asg (ev_add (ev_pow ev_int ev_int) (ev_call (Wf := (W__law_draw K a)) (n := 2) (m := 0) mk_pos (ea_cons ev_var (ea_cons (ev_pow ev_int ev_int) ea_nil)) ea_nil)) (g_name (by decide)))
  (sv_stop (sv_seq (sv_if (et_or (et_test (ev_ne (ev_mod (ev_call1 op_int (ev_call (Wf := (W_needed K a)) (n := 2) (m := 0) mk_pos (ea_cons ev_var (ea_cons ev_var ea_nil)) ea_nil)) (ev_op2 op_ix ev_var ev_int)) ev_int)) (et_not (et_test (ev_chain (f := (fun i j => decide (i ≤ j))) (g := (fun i j => decide (i < j))) (ev_add ev_var ev_int) (ev_call (Wf := (W_needed K a)) (n := 2) (m := 0) mk_pos (ea_cons ev_var (ea_cons ev_var ea_nil)) ea_nil) (ev_add (ev_add ev_var ev_int) (ev_op2 op_ix ev_var ev_int)))))) (sv_ret ev_bl) sv_next)
  (sv_stop (sv_seq (sv_for (ei_range1 ev_int) (g_name (by decide))
  (sv_stop (sv_seq (sv_asg (ev_call (Wf := (W__law_bent K a)) (n := 2) (m := 0) mk_pos (ea_cons ev_var (ea_cons ev_var ea_nil)) ea_nil) (g_name (by decide)))
  (sv_seq (sv_par (by decide) (by decide) (ea_cons (ev_call1 op_repr ev_var) (ea_cons (ev_call (Wf := (W__law_is_rule K a)) (n := 1) (m := 0) mk_pos (ea_cons ev_var ea_nil) ea_nil) ea_nil)))
  (sv_seq (sv_if (et_or (et_test (ev_neT (ev_call1 op_repr (ev_lst (ea_cons (ev_call (Wf := (W_is_rule K a)) (n := 1) (m := 0) mk_pos (ea_cons ev_var ea_nil) ea_nil) (ea_cons (ev_call (Wf := (W_is_rule K a)) (n := 0) (m := 1) mk_app ea_nil (ea_cons ev_var ea_nil)) ea_nil)))) (ev_call1 op_repr (ev_lst (ea_cons ev_var (ea_cons ev_var ea_nil)))))) (et_test (ev_neT (ev_call1 op_repr ev_var) ev_var))) (sv_ret ev_bl) sv_next)
  (sv_stop (sv_if (et_and (et_not (et_B ev_var)) (et_test (ev_ne (ev_call (Wf := (W__law_told K a)) (n := 4) (m := 0) mk_pos (ea_cons (ev_call (Wf := (W__law_draw K a)) (n := 2) (m := 0) mk_pos (ea_cons ev_var (ea_cons ev_int ea_nil)) ea_nil) (ea_cons ev_var (ea_cons ev_var (ea_cons ev_int ea_nil)))) ea_nil) (ev_tup (ea_cons (ev_lst (ea_cons ev_int ea_nil)) (ea_cons ev_var ea_nil)))))) (sv_ret ev_bl) sv_next)))))))
  (sv_stop (sv_seq (sv_asg (ev_op2 op_ix (ev_lst (ea_cons ev_int (ea_cons ev_int (ea_cons ev_non (ea_cons ev_bl (ea_cons ev_str (ea_cons (ev_tup (ea_cons ev_int ea_nil)) (ea_cons (ev_fz (ev_lst (ea_cons ev_int ea_nil))) (ea_cons (ev_neg ev_int) ea_nil))))))))) (ev_call (Wf := (W__law_draw K a)) (n := 2) (m := 0) mk_pos (ea_cons ev_var (ea_cons ev_int ea_nil)) ea_nil)) (g_name (by decide)))
  (sv_stop (sv_seq (sv_if (et_test (ev_ne (ev_call (Wf := (W__law_told K a)) (n := 4) (m := 0) mk_pos (ea_cons (ev_call (Wf := (W__law_draw K a)) (n := 2) (m := 0) mk_pos (ea_cons ev_var (ea_cons ev_int ea_nil)) ea_nil) (ea_cons ev_var (ea_cons ev_non (ea_cons ev_int ea_nil)))) ea_nil) (ev_tup (ea_cons (ev_lst (ea_cons ev_int ea_nil)) (ea_cons (ev_call1 op_repr ev_var) ea_nil))))) (sv_ret ev_bl) sv_next)
  (sv_stop (sv_seq (sv_asg (ev_op2 op_ix (ev_lst (ea_cons ev_int (ea_cons (ev_neg ev_int) (ea_cons (ev_neg (ev_pow ev_int ev_int)) ea_nil)))) (ev_call (Wf := (W__law_draw K a)) (n := 2) (m := 0) mk_pos (ea_cons ev_var (ea_cons ev_int ea_nil)) ea_nil)) (g_name (by decide)))
  (sv_stop (sv_if (et_test (ev_ne (ev_call (Wf := (W__law_told K a)) (n := 4) (m := 0) mk_pos (ea_cons ev_int (ea_cons ev_var (ea_cons ev_var (ea_cons ev_var ea_nil)))) ea_nil) (ev_tup (ea_cons (ev_lst (ea_cons ev_int ea_nil)) (ea_cons (ev_call1 op_repr ev_var) ea_nil))))) (sv_ret ev_bl) sv_next)))))))))))))))))))))))))))))))))
  (sv_ret ev_bl)),
  law_law T⟩)) (fun ts post ep h => h)


open PySem L2 Hz PyProof.Rows
theorem all_mk {l : PySem.W.OpenLaw} {w : World} {K : PySem.W.Frag} {h : Heap} {mg : Str → Option Value} {fa : Addr} {C_HeapError : Addr} {C_InvalidNumber : Addr} {C_InvalidRule : Addr} {C_InvalidSize : Addr} {f_is_integer : Addr} {oc_is_integer kV_is_integer dc_is_integer pm_is_integer cd_is_integer ct_is_integer : Value} {od_is_integer an_is_integer : Option Addr} {sl_is_integer : Array (Option Value)} {f_is_between : Addr} {oc_is_between kV_is_between dc_is_between pm_is_between cd_is_between ct_is_between : Value} {od_is_between an_is_between : Option Addr} {sl_is_between : Array (Option Value)} {f_is_tuple : Addr} {oc_is_tuple kV_is_tuple dc_is_tuple pm_is_tuple cd_is_tuple ct_is_tuple : Value} {od_is_tuple an_is_tuple : Option Addr} {sl_is_tuple : Array (Option Value)} {f_is_word : Addr} {oc_is_word kV_is_word dc_is_word pm_is_word cd_is_word ct_is_word : Value} {od_is_word an_is_word : Option Addr} {sl_is_word : Array (Option Value)} {f_need_number : Addr} {oc_need_number kV_need_number dc_need_number pm_need_number cd_need_number ct_need_number : Value} {od_need_number an_need_number : Option Addr} {sl_need_number : Array (Option Value)} {f_anew : Addr} {oc_anew kV_anew dc_anew pm_anew cd_anew ct_anew : Value} {od_anew an_anew : Option Addr} {sl_anew : Array (Option Value)} {f_is_rule : Addr} {oc_is_rule kV_is_rule dc_is_rule pm_is_rule cd_is_rule ct_is_rule : Value} {od_is_rule an_is_rule : Option Addr} {sl_is_rule : Array (Option Value)} {f_need_rule : Addr} {oc_need_rule kV_need_rule dc_need_rule pm_need_rule cd_need_rule ct_need_rule : Value} {od_need_rule an_need_rule : Option Addr} {sl_need_rule : Array (Option Value)} {f_need_size : Addr} {oc_need_size kV_need_size dc_need_size pm_need_size cd_need_size ct_need_size : Value} {od_need_size an_need_size : Option Addr} {sl_need_size : Array (Option Value)} {f_need_both : Addr} {oc_need_both kV_need_both dc_need_both pm_need_both cd_need_both ct_need_both : Value} {od_need_both an_need_both : Option Addr} {sl_need_both : Array (Option Value)} {f_cells_for : Addr} {oc_cells_for kV_cells_for dc_cells_for pm_cells_for cd_cells_for ct_cells_for : Value} {od_cells_for an_cells_for : Option Addr} {sl_cells_for : Array (Option Value)} {f_class_of : Addr} {oc_class_of kV_class_of dc_class_of pm_class_of cd_class_of ct_class_of : Value} {od_class_of an_class_of : Option Addr} {sl_class_of : Array (Option Value)} {f_lists_for : Addr} {oc_lists_for kV_lists_for dc_lists_for pm_lists_for cd_lists_for ct_lists_for : Value} {od_lists_for an_lists_for : Option Addr} {sl_lists_for : Array (Option Value)} {f_region_of : Addr} {oc_region_of kV_region_of dc_region_of pm_region_of cd_region_of ct_region_of : Value} {od_region_of an_region_of : Option Addr} {sl_region_of : Array (Option Value)} {f_needed : Addr} {oc_needed kV_needed dc_needed pm_needed cd_needed ct_needed : Value} {od_needed an_needed : Option Addr} {sl_needed : Array (Option Value)} {f_list_count : Addr} {oc_list_count kV_list_count dc_list_count pm_list_count cd_list_count ct_list_count : Value} {od_list_count an_list_count : Option Addr} {sl_list_count : Array (Option Value)} {f_region : Addr} {oc_region kV_region dc_region pm_region cd_region ct_region : Value} {od_region an_region : Option Addr} {sl_region : Array (Option Value)} {f__law_well : Addr} {oc__law_well kV__law_well dc__law_well pm__law_well cd__law_well ct__law_well : Value} {od__law_well an__law_well : Option Addr} {sl__law_well : Array (Option Value)} {f__law_draw : Addr} {oc__law_draw kV__law_draw dc__law_draw pm__law_draw cd__law_draw ct__law_draw : Value} {od__law_draw an__law_draw : Option Addr} {sl__law_draw : Array (Option Value)} {f__law_is_int : Addr} {oc__law_is_int kV__law_is_int dc__law_is_int pm__law_is_int cd__law_is_int ct__law_is_int : Value} {od__law_is_int an__law_is_int : Option Addr} {sl__law_is_int : Array (Option Value)} {f__law_rule : Addr} {oc__law_rule kV__law_rule dc__law_rule pm__law_rule cd__law_rule ct__law_rule : Value} {od__law_rule an__law_rule : Option Addr} {sl__law_rule : Array (Option Value)} {f__law_size : Addr} {oc__law_size kV__law_size dc__law_size pm__law_size cd__law_size ct__law_size : Value} {od__law_size an__law_size : Option Addr} {sl__law_size : Array (Option Value)} {f__law_cells : Addr} {oc__law_cells kV__law_cells dc__law_cells pm__law_cells cd__law_cells ct__law_cells : Value} {od__law_cells an__law_cells : Option Addr} {sl__law_cells : Array (Option Value)} {f__law_class : Addr} {oc__law_class kV__law_class dc__law_class pm__law_class cd__law_class ct__law_class : Value} {od__law_class an__law_class : Option Addr} {sl__law_class : Array (Option Value)} {f__law_many : Addr} {oc__law_many kV__law_many dc__law_many pm__law_many cd__law_many ct__law_many : Value} {od__law_many an__law_many : Option Addr} {sl__law_many : Array (Option Value)} {f__law_region : Addr} {oc__law_region kV__law_region dc__law_region pm__law_region cd__law_region ct__law_region : Value} {od__law_region an__law_region : Option Addr} {sl__law_region : Array (Option Value)} {f__law_is_rule : Addr} {oc__law_is_rule kV__law_is_rule dc__law_is_rule pm__law_is_rule cd__law_is_rule ct__law_is_rule : Value} {od__law_is_rule an__law_is_rule : Option Addr} {sl__law_is_rule : Array (Option Value)} {f__law_bent : Addr} {oc__law_bent kV__law_bent dc__law_bent pm__law_bent cd__law_bent ct__law_bent : Value} {od__law_bent an__law_bent : Option Addr} {sl__law_bent : Array (Option Value)} {f__law_call : Addr} {oc__law_call kV__law_call dc__law_call pm__law_call cd__law_call ct__law_call : Value} {od__law_call an__law_call : Option Addr} {sl__law_call : Array (Option Value)} {f__law_told : Addr} {oc__law_told kV__law_told dc__law_told pm__law_told cd__law_told ct__law_told : Value} {od__law_told an__law_told : Option Addr} {sl__law_told : Array (Option Value)} {f_law : Addr} {oc_law kV_law dc_law pm_law cd_law ct_law : Value} {od_law an_law : Option Addr} {sl_law : Array (Option Value)} {f_HeapError : Addr} {ocI dcI pmI ctI clI ccI : Value} {odI anI cdI cldI : Option Addr} {slI csI cslI : Array (Option Value)} {cdaI ccaI : Addr} {vsI : Array Value} {fileI : Str} {tfI : Tok} {nm_InvalidNumber qn_InvalidNumber : Str} {N_InvalidNumber : Addr} {bs_InvalidNumber sub_InvalidNumber : List Value} {sn_InvalidNumber : List Str} {ab_InvalidNumber : Bool} {col_InvalidNumber : Option Bool} {dd_InvalidNumber : Option Addr} {m0_InvalidNumber m1_InvalidNumber m2_InvalidNumber m3_InvalidNumber m5_InvalidNumber : Option Value} {nm_InvalidRule qn_InvalidRule : Str} {N_InvalidRule : Addr} {bs_InvalidRule sub_InvalidRule : List Value} {sn_InvalidRule : List Str} {ab_InvalidRule : Bool} {col_InvalidRule : Option Bool} {dd_InvalidRule : Option Addr} {m0_InvalidRule m1_InvalidRule m2_InvalidRule m3_InvalidRule m5_InvalidRule : Option Value} {nm_InvalidSize qn_InvalidSize : Str} {N_InvalidSize : Addr} {bs_InvalidSize sub_InvalidSize : List Value} {sn_InvalidSize : List Str} {ab_InvalidSize : Bool} {col_InvalidSize : Option Bool} {dd_InvalidSize : Option Addr} {m0_InvalidSize m1_InvalidSize m2_InvalidSize m3_InvalidSize m5_InvalidSize : Option Value} {tv_LEAST_SIZE : Tok} {tv_MOST_SIZE : Tok} {tv_LEAST : Tok} {tv_MOST_SPARE : Tok} {tv_MOST_STEP : Tok} {v_FITS : Addr} {td_FITS : Option Addr} {tn_FITS : Nat} {tl_FITS : Array (Option Value)} {tk0_FITS tk1_FITS tk2_FITS tk3_FITS : Tok} {v_ORDERS : Addr} {td_ORDERS : Option Addr} {tn_ORDERS : Nat} {tl_ORDERS : Array (Option Value)} {tk0_ORDERS tk1_ORDERS tk2_ORDERS : Tok} {v_MERGES : Addr} {td_MERGES : Option Addr} {tn_MERGES : Nat} {tl_MERGES : Array (Option Value)} {tk0_MERGES tk1_MERGES : Tok} (X : K.In h) (G : h.Ns mainGlobals mg) (hfa : mg "law" = some (.ref fa))
    (aC_HeapError : PySem.W.nsIn K mainGlobals "HeapError" = some (some (.ref C_HeapError)))
    (aC_InvalidNumber : PySem.W.nsIn K mainGlobals "InvalidNumber" = some (some (.ref C_InvalidNumber)))
    (aC_InvalidRule : PySem.W.nsIn K mainGlobals "InvalidRule" = some (some (.ref C_InvalidRule)))
    (aC_InvalidSize : PySem.W.nsIn K mainGlobals "InvalidSize" = some (some (.ref C_InvalidSize)))
    (a_is_integer : PySem.W.nsIn K mainGlobals "is_integer" = some (some (.ref f_is_integer)))
    (l_is_integer : K.lookup f_is_integer = some ⟨oc_is_integer, od_is_integer, .func (PySem.W.fnOf "is_integer" "is_integer" (defArgs s_is_integer) (defBody s_is_integer) (defScope s_is_integer) .none kV_is_integer dc_is_integer pm_is_integer an_is_integer cd_is_integer ct_is_integer), sl_is_integer⟩)
    (c_is_integer : PySem.W.codeIn K cd_is_integer "is_integer" = true)
    (k_is_integer : PySem.W.keepIn K (.ref f_is_integer) = true)
    (a_is_between : PySem.W.nsIn K mainGlobals "is_between" = some (some (.ref f_is_between)))
    (l_is_between : K.lookup f_is_between = some ⟨oc_is_between, od_is_between, .func (PySem.W.fnOf "is_between" "is_between" (defArgs s_is_between) (defBody s_is_between) (defScope s_is_between) .none kV_is_between dc_is_between pm_is_between an_is_between cd_is_between ct_is_between), sl_is_between⟩)
    (c_is_between : PySem.W.codeIn K cd_is_between "is_between" = true)
    (k_is_between : PySem.W.keepIn K (.ref f_is_between) = true)
    (a_is_tuple : PySem.W.nsIn K mainGlobals "is_tuple" = some (some (.ref f_is_tuple)))
    (l_is_tuple : K.lookup f_is_tuple = some ⟨oc_is_tuple, od_is_tuple, .func (PySem.W.fnOf "is_tuple" "is_tuple" (defArgs s_is_tuple) (defBody s_is_tuple) (defScope s_is_tuple) .none kV_is_tuple dc_is_tuple pm_is_tuple an_is_tuple cd_is_tuple ct_is_tuple), sl_is_tuple⟩)
    (c_is_tuple : PySem.W.codeIn K cd_is_tuple "is_tuple" = true)
    (k_is_tuple : PySem.W.keepIn K (.ref f_is_tuple) = true)
    (a_is_word : PySem.W.nsIn K mainGlobals "is_word" = some (some (.ref f_is_word)))
    (l_is_word : K.lookup f_is_word = some ⟨oc_is_word, od_is_word, .func (PySem.W.fnOf "is_word" "is_word" (defArgs s_is_word) (defBody s_is_word) (defScope s_is_word) .none kV_is_word dc_is_word pm_is_word an_is_word cd_is_word ct_is_word), sl_is_word⟩)
    (c_is_word : PySem.W.codeIn K cd_is_word "is_word" = true)
    (k_is_word : PySem.W.keepIn K (.ref f_is_word) = true)
    (a_need_number : PySem.W.nsIn K mainGlobals "need_number" = some (some (.ref f_need_number)))
    (l_need_number : K.lookup f_need_number = some ⟨oc_need_number, od_need_number, .func (PySem.W.fnOf "need_number" "need_number" (defArgs s_need_number) (defBody s_need_number) (defScope s_need_number) .none kV_need_number dc_need_number pm_need_number an_need_number cd_need_number ct_need_number), sl_need_number⟩)
    (c_need_number : PySem.W.codeIn K cd_need_number "need_number" = true)
    (k_need_number : PySem.W.keepIn K (.ref f_need_number) = true)
    (a_anew : PySem.W.nsIn K mainGlobals "anew" = some (some (.ref f_anew)))
    (l_anew : K.lookup f_anew = some ⟨oc_anew, od_anew, .func (PySem.W.fnOf "anew" "anew" (defArgs s_anew) (defBody s_anew) (defScope s_anew) .none kV_anew dc_anew pm_anew an_anew cd_anew ct_anew), sl_anew⟩)
    (c_anew : PySem.W.codeIn K cd_anew "anew" = true)
    (k_anew : PySem.W.keepIn K (.ref f_anew) = true)
    (a_is_rule : PySem.W.nsIn K mainGlobals "is_rule" = some (some (.ref f_is_rule)))
    (l_is_rule : K.lookup f_is_rule = some ⟨oc_is_rule, od_is_rule, .func (PySem.W.fnOf "is_rule" "is_rule" (defArgs s_is_rule) (defBody s_is_rule) (defScope s_is_rule) .none kV_is_rule dc_is_rule pm_is_rule an_is_rule cd_is_rule ct_is_rule), sl_is_rule⟩)
    (c_is_rule : PySem.W.codeIn K cd_is_rule "is_rule" = true)
    (k_is_rule : PySem.W.keepIn K (.ref f_is_rule) = true)
    (a_need_rule : PySem.W.nsIn K mainGlobals "need_rule" = some (some (.ref f_need_rule)))
    (l_need_rule : K.lookup f_need_rule = some ⟨oc_need_rule, od_need_rule, .func (PySem.W.fnOf "need_rule" "need_rule" (defArgs s_need_rule) (defBody s_need_rule) (defScope s_need_rule) .none kV_need_rule dc_need_rule pm_need_rule an_need_rule cd_need_rule ct_need_rule), sl_need_rule⟩)
    (c_need_rule : PySem.W.codeIn K cd_need_rule "need_rule" = true)
    (k_need_rule : PySem.W.keepIn K (.ref f_need_rule) = true)
    (a_need_size : PySem.W.nsIn K mainGlobals "need_size" = some (some (.ref f_need_size)))
    (l_need_size : K.lookup f_need_size = some ⟨oc_need_size, od_need_size, .func (PySem.W.fnOf "need_size" "need_size" (defArgs s_need_size) (defBody s_need_size) (defScope s_need_size) .none kV_need_size dc_need_size pm_need_size an_need_size cd_need_size ct_need_size), sl_need_size⟩)
    (c_need_size : PySem.W.codeIn K cd_need_size "need_size" = true)
    (k_need_size : PySem.W.keepIn K (.ref f_need_size) = true)
    (a_need_both : PySem.W.nsIn K mainGlobals "need_both" = some (some (.ref f_need_both)))
    (l_need_both : K.lookup f_need_both = some ⟨oc_need_both, od_need_both, .func (PySem.W.fnOf "need_both" "need_both" (defArgs s_need_both) (defBody s_need_both) (defScope s_need_both) .none kV_need_both dc_need_both pm_need_both an_need_both cd_need_both ct_need_both), sl_need_both⟩)
    (c_need_both : PySem.W.codeIn K cd_need_both "need_both" = true)
    (k_need_both : PySem.W.keepIn K (.ref f_need_both) = true)
    (a_cells_for : PySem.W.nsIn K mainGlobals "cells_for" = some (some (.ref f_cells_for)))
    (l_cells_for : K.lookup f_cells_for = some ⟨oc_cells_for, od_cells_for, .func (PySem.W.fnOf "cells_for" "cells_for" (defArgs s_cells_for) (defBody s_cells_for) (defScope s_cells_for) .none kV_cells_for dc_cells_for pm_cells_for an_cells_for cd_cells_for ct_cells_for), sl_cells_for⟩)
    (c_cells_for : PySem.W.codeIn K cd_cells_for "cells_for" = true)
    (k_cells_for : PySem.W.keepIn K (.ref f_cells_for) = true)
    (a_class_of : PySem.W.nsIn K mainGlobals "class_of" = some (some (.ref f_class_of)))
    (l_class_of : K.lookup f_class_of = some ⟨oc_class_of, od_class_of, .func (PySem.W.fnOf "class_of" "class_of" (defArgs s_class_of) (defBody s_class_of) (defScope s_class_of) .none kV_class_of dc_class_of pm_class_of an_class_of cd_class_of ct_class_of), sl_class_of⟩)
    (c_class_of : PySem.W.codeIn K cd_class_of "class_of" = true)
    (k_class_of : PySem.W.keepIn K (.ref f_class_of) = true)
    (a_lists_for : PySem.W.nsIn K mainGlobals "lists_for" = some (some (.ref f_lists_for)))
    (l_lists_for : K.lookup f_lists_for = some ⟨oc_lists_for, od_lists_for, .func (PySem.W.fnOf "lists_for" "lists_for" (defArgs s_lists_for) (defBody s_lists_for) (defScope s_lists_for) .none kV_lists_for dc_lists_for pm_lists_for an_lists_for cd_lists_for ct_lists_for), sl_lists_for⟩)
    (c_lists_for : PySem.W.codeIn K cd_lists_for "lists_for" = true)
    (k_lists_for : PySem.W.keepIn K (.ref f_lists_for) = true)
    (a_region_of : PySem.W.nsIn K mainGlobals "region_of" = some (some (.ref f_region_of)))
    (l_region_of : K.lookup f_region_of = some ⟨oc_region_of, od_region_of, .func (PySem.W.fnOf "region_of" "region_of" (defArgs s_region_of) (defBody s_region_of) (defScope s_region_of) .none kV_region_of dc_region_of pm_region_of an_region_of cd_region_of ct_region_of), sl_region_of⟩)
    (c_region_of : PySem.W.codeIn K cd_region_of "region_of" = true)
    (k_region_of : PySem.W.keepIn K (.ref f_region_of) = true)
    (a_needed : PySem.W.nsIn K mainGlobals "needed" = some (some (.ref f_needed)))
    (l_needed : K.lookup f_needed = some ⟨oc_needed, od_needed, .func (PySem.W.fnOf "needed" "needed" (defArgs s_needed) (defBody s_needed) (defScope s_needed) .none kV_needed dc_needed pm_needed an_needed cd_needed ct_needed), sl_needed⟩)
    (c_needed : PySem.W.codeIn K cd_needed "needed" = true)
    (k_needed : PySem.W.keepIn K (.ref f_needed) = true)
    (a_list_count : PySem.W.nsIn K mainGlobals "list_count" = some (some (.ref f_list_count)))
    (l_list_count : K.lookup f_list_count = some ⟨oc_list_count, od_list_count, .func (PySem.W.fnOf "list_count" "list_count" (defArgs s_list_count) (defBody s_list_count) (defScope s_list_count) .none kV_list_count dc_list_count pm_list_count an_list_count cd_list_count ct_list_count), sl_list_count⟩)
    (c_list_count : PySem.W.codeIn K cd_list_count "list_count" = true)
    (k_list_count : PySem.W.keepIn K (.ref f_list_count) = true)
    (a_region : PySem.W.nsIn K mainGlobals "region" = some (some (.ref f_region)))
    (l_region : K.lookup f_region = some ⟨oc_region, od_region, .func (PySem.W.fnOf "region" "region" (defArgs s_region) (defBody s_region) (defScope s_region) .none kV_region dc_region pm_region an_region cd_region ct_region), sl_region⟩)
    (c_region : PySem.W.codeIn K cd_region "region" = true)
    (k_region : PySem.W.keepIn K (.ref f_region) = true)
    (a__law_well : PySem.W.nsIn K mainGlobals "_law_well" = some (some (.ref f__law_well)))
    (l__law_well : K.lookup f__law_well = some ⟨oc__law_well, od__law_well, .func (PySem.W.fnOf "_law_well" "_law_well" (defArgs s__law_well) (defBody s__law_well) (defScope s__law_well) .none kV__law_well dc__law_well pm__law_well an__law_well cd__law_well ct__law_well), sl__law_well⟩)
    (c__law_well : PySem.W.codeIn K cd__law_well "_law_well" = true)
    (k__law_well : PySem.W.keepIn K (.ref f__law_well) = true)
    (a__law_draw : PySem.W.nsIn K mainGlobals "_law_draw" = some (some (.ref f__law_draw)))
    (l__law_draw : K.lookup f__law_draw = some ⟨oc__law_draw, od__law_draw, .func (PySem.W.fnOf "_law_draw" "_law_draw" (defArgs s__law_draw) (defBody s__law_draw) (defScope s__law_draw) .none kV__law_draw dc__law_draw pm__law_draw an__law_draw cd__law_draw ct__law_draw), sl__law_draw⟩)
    (c__law_draw : PySem.W.codeIn K cd__law_draw "_law_draw" = true)
    (k__law_draw : PySem.W.keepIn K (.ref f__law_draw) = true)
    (a__law_is_int : PySem.W.nsIn K mainGlobals "_law_is_int" = some (some (.ref f__law_is_int)))
    (l__law_is_int : K.lookup f__law_is_int = some ⟨oc__law_is_int, od__law_is_int, .func (PySem.W.fnOf "_law_is_int" "_law_is_int" (defArgs s__law_is_int) (defBody s__law_is_int) (defScope s__law_is_int) .none kV__law_is_int dc__law_is_int pm__law_is_int an__law_is_int cd__law_is_int ct__law_is_int), sl__law_is_int⟩)
    (c__law_is_int : PySem.W.codeIn K cd__law_is_int "_law_is_int" = true)
    (k__law_is_int : PySem.W.keepIn K (.ref f__law_is_int) = true)
    (a__law_rule : PySem.W.nsIn K mainGlobals "_law_rule" = some (some (.ref f__law_rule)))
    (l__law_rule : K.lookup f__law_rule = some ⟨oc__law_rule, od__law_rule, .func (PySem.W.fnOf "_law_rule" "_law_rule" (defArgs s__law_rule) (defBody s__law_rule) (defScope s__law_rule) .none kV__law_rule dc__law_rule pm__law_rule an__law_rule cd__law_rule ct__law_rule), sl__law_rule⟩)
    (c__law_rule : PySem.W.codeIn K cd__law_rule "_law_rule" = true)
    (k__law_rule : PySem.W.keepIn K (.ref f__law_rule) = true)
    (a__law_size : PySem.W.nsIn K mainGlobals "_law_size" = some (some (.ref f__law_size)))
    (l__law_size : K.lookup f__law_size = some ⟨oc__law_size, od__law_size, .func (PySem.W.fnOf "_law_size" "_law_size" (defArgs s__law_size) (defBody s__law_size) (defScope s__law_size) .none kV__law_size dc__law_size pm__law_size an__law_size cd__law_size ct__law_size), sl__law_size⟩)
    (c__law_size : PySem.W.codeIn K cd__law_size "_law_size" = true)
    (k__law_size : PySem.W.keepIn K (.ref f__law_size) = true)
    (a__law_cells : PySem.W.nsIn K mainGlobals "_law_cells" = some (some (.ref f__law_cells)))
    (l__law_cells : K.lookup f__law_cells = some ⟨oc__law_cells, od__law_cells, .func (PySem.W.fnOf "_law_cells" "_law_cells" (defArgs s__law_cells) (defBody s__law_cells) (defScope s__law_cells) .none kV__law_cells dc__law_cells pm__law_cells an__law_cells cd__law_cells ct__law_cells), sl__law_cells⟩)
    (c__law_cells : PySem.W.codeIn K cd__law_cells "_law_cells" = true)
    (k__law_cells : PySem.W.keepIn K (.ref f__law_cells) = true)
    (a__law_class : PySem.W.nsIn K mainGlobals "_law_class" = some (some (.ref f__law_class)))
    (l__law_class : K.lookup f__law_class = some ⟨oc__law_class, od__law_class, .func (PySem.W.fnOf "_law_class" "_law_class" (defArgs s__law_class) (defBody s__law_class) (defScope s__law_class) .none kV__law_class dc__law_class pm__law_class an__law_class cd__law_class ct__law_class), sl__law_class⟩)
    (c__law_class : PySem.W.codeIn K cd__law_class "_law_class" = true)
    (k__law_class : PySem.W.keepIn K (.ref f__law_class) = true)
    (a__law_many : PySem.W.nsIn K mainGlobals "_law_many" = some (some (.ref f__law_many)))
    (l__law_many : K.lookup f__law_many = some ⟨oc__law_many, od__law_many, .func (PySem.W.fnOf "_law_many" "_law_many" (defArgs s__law_many) (defBody s__law_many) (defScope s__law_many) .none kV__law_many dc__law_many pm__law_many an__law_many cd__law_many ct__law_many), sl__law_many⟩)
    (c__law_many : PySem.W.codeIn K cd__law_many "_law_many" = true)
    (k__law_many : PySem.W.keepIn K (.ref f__law_many) = true)
    (a__law_region : PySem.W.nsIn K mainGlobals "_law_region" = some (some (.ref f__law_region)))
    (l__law_region : K.lookup f__law_region = some ⟨oc__law_region, od__law_region, .func (PySem.W.fnOf "_law_region" "_law_region" (defArgs s__law_region) (defBody s__law_region) (defScope s__law_region) .none kV__law_region dc__law_region pm__law_region an__law_region cd__law_region ct__law_region), sl__law_region⟩)
    (c__law_region : PySem.W.codeIn K cd__law_region "_law_region" = true)
    (k__law_region : PySem.W.keepIn K (.ref f__law_region) = true)
    (a__law_is_rule : PySem.W.nsIn K mainGlobals "_law_is_rule" = some (some (.ref f__law_is_rule)))
    (l__law_is_rule : K.lookup f__law_is_rule = some ⟨oc__law_is_rule, od__law_is_rule, .func (PySem.W.fnOf "_law_is_rule" "_law_is_rule" (defArgs s__law_is_rule) (defBody s__law_is_rule) (defScope s__law_is_rule) .none kV__law_is_rule dc__law_is_rule pm__law_is_rule an__law_is_rule cd__law_is_rule ct__law_is_rule), sl__law_is_rule⟩)
    (c__law_is_rule : PySem.W.codeIn K cd__law_is_rule "_law_is_rule" = true)
    (k__law_is_rule : PySem.W.keepIn K (.ref f__law_is_rule) = true)
    (a__law_bent : PySem.W.nsIn K mainGlobals "_law_bent" = some (some (.ref f__law_bent)))
    (l__law_bent : K.lookup f__law_bent = some ⟨oc__law_bent, od__law_bent, .func (PySem.W.fnOf "_law_bent" "_law_bent" (defArgs s__law_bent) (defBody s__law_bent) (defScope s__law_bent) .none kV__law_bent dc__law_bent pm__law_bent an__law_bent cd__law_bent ct__law_bent), sl__law_bent⟩)
    (c__law_bent : PySem.W.codeIn K cd__law_bent "_law_bent" = true)
    (k__law_bent : PySem.W.keepIn K (.ref f__law_bent) = true)
    (a__law_call : PySem.W.nsIn K mainGlobals "_law_call" = some (some (.ref f__law_call)))
    (l__law_call : K.lookup f__law_call = some ⟨oc__law_call, od__law_call, .func (PySem.W.fnOf "_law_call" "_law_call" (defArgs s__law_call) (defBody s__law_call) (defScope s__law_call) .none kV__law_call dc__law_call pm__law_call an__law_call cd__law_call ct__law_call), sl__law_call⟩)
    (c__law_call : PySem.W.codeIn K cd__law_call "_law_call" = true)
    (k__law_call : PySem.W.keepIn K (.ref f__law_call) = true)
    (a__law_told : PySem.W.nsIn K mainGlobals "_law_told" = some (some (.ref f__law_told)))
    (l__law_told : K.lookup f__law_told = some ⟨oc__law_told, od__law_told, .func (PySem.W.fnOf "_law_told" "_law_told" (defArgs s__law_told) (defBody s__law_told) (defScope s__law_told) .none kV__law_told dc__law_told pm__law_told an__law_told cd__law_told ct__law_told), sl__law_told⟩)
    (c__law_told : PySem.W.codeIn K cd__law_told "_law_told" = true)
    (k__law_told : PySem.W.keepIn K (.ref f__law_told) = true)
    (a_law : PySem.W.nsIn K mainGlobals "law" = some (some (.ref f_law)))
    (l_law : K.lookup f_law = some ⟨oc_law, od_law, .func (PySem.W.fnOf "law" "law" (defArgs s_law) (defBody s_law) (defScope s_law) .none kV_law dc_law pm_law an_law cd_law ct_law), sl_law⟩)
    (c_law : PySem.W.codeIn K cd_law "law" = true)
    (k_law : PySem.W.keepIn K (.ref f_law) = true)
    (eI_init : PySem.W.findIn K (.ref C_HeapError) "__init__" = some (some (.ref f_HeapError)))
    (eI_ty : PySem.W.typeIn K (.ref f_HeapError) = some (.type "function"))
    (eI_l : K.lookup f_HeapError = some ⟨ocI, odI, .func (PySem.W.ksFn "__init__" "HeapError.__init__" (PySem.ErrX.iA ⟨4, 17, 4, 21⟩ ⟨4, 23, 4, 28⟩) (PySem.ErrX.iB ⟨5, 8, 5, 13⟩ ⟨5, 8, 5, 15⟩ ⟨5, 8, 5, 24⟩ ⟨5, 25, 5, 36⟩ ⟨5, 8, 5, 37⟩ ⟨5, 8, 5, 37⟩ ⟨6, 8, 6, 12⟩ ⟨6, 8, 6, 18⟩ ⟨6, 21, 6, 26⟩ ⟨6, 8, 6, 26⟩ 0) PySem.ErrX.iS .none .none dcI pmI anI (.ref cdaI) ctI ccaI), slI⟩)
    (eI_c : PySem.W.codeIn K (.ref cdaI) "HeapError.__init__" = true)
    (eI_cda : K.lookup cdaI = some ⟨clI, cdI, .fields vsI, csI⟩)
    (eI_vs : vsI[2]? = some (.str fileI tfI))
    (eI_file : ((l.prog.main.file : Str) == fileI) = true)
    (eI_cc : K.lookup ccaI = some ⟨ccI, cldI, .cell (some (.ref C_HeapError)), cslI⟩)
    (eI_top : (l.prog.main.scope.names.lookup ("super" : Str)).isSome = false)
    (eI_opq : PySem.W.nsIn K PySem.cStatics "thirdparty.any" = some none)
    (eI_isB : PySem.W.isClsIn K C_HeapError = true)
    (eI_tyB : PySem.W.typeIn K (.ref C_HeapError) = some (.type "type"))
    (eI_exB : PySem.W.subIn K (.ref C_HeapError) (.type "BaseException") = some true)
    (eI_kn : PySem.W.specialIn K (.builtin "object.__class__") "__get__" = some (some (.builtin "getset_descriptor.__get__")))
    (eI_kt : PySem.W.takesIn K (.builtin "object.__class__") = some true)
    (xl_InvalidNumber : K.lookup C_InvalidNumber = some (PySem.excClassObj nm_InvalidNumber qn_InvalidNumber C_InvalidNumber N_InvalidNumber bs_InvalidNumber (.ref C_HeapError :: [.type "ValueError", .type "Exception", .type "BaseException", .type "object"]) true sn_InvalidNumber sub_InvalidNumber ab_InvalidNumber col_InvalidNumber dd_InvalidNumber m0_InvalidNumber m1_InvalidNumber m2_InvalidNumber m3_InvalidNumber m5_InvalidNumber "ValueError.__new__"))
    (esa_InvalidNumber : PySem.W.findIn K (.ref C_InvalidNumber) "__setattr__" = some (some (.builtin "object.__setattr__")))
    (ega_InvalidNumber : PySem.W.findIn K (.ref C_InvalidNumber) "__getattribute__" = some (some (.builtin "BaseException.__getattribute__")))
    (egg_InvalidNumber : PySem.W.findIn K (.ref C_InvalidNumber) "__getattr__" = some none)
    (env_InvalidNumber : PySem.W.findIn K (.ref C_InvalidNumber) "value" = some none)
    (ein_InvalidNumber : PySem.W.findIn K (.ref C_InvalidNumber) "__init__" = some (some (.ref f_HeapError)))
    (ekc_InvalidNumber : PySem.W.keepIn K (.ref C_InvalidNumber) = true)
    (eex_InvalidNumber : PySem.W.subIn K (.ref C_InvalidNumber) (.type "BaseException") = some true)
    (eve_InvalidNumber : PySem.W.subIn K (.ref C_InvalidNumber) (.type "ValueError") = some true)
    (ety_InvalidNumber : PySem.W.typeIn K (.ref C_InvalidNumber) = some (.type "type"))
    (ehd_InvalidNumber : PySem.W.hasDictIn K C_InvalidNumber = true)
    (ebb_InvalidNumber : PySem.W.subIn K (.ref C_InvalidNumber) (.ref C_HeapError) = some true)
    (eid_InvalidNumber : PySem.W.mroIn K C_InvalidNumber (.ref C_HeapError) = some true)
    (esu_InvalidNumber : PySem.W.ks_superIn K C_InvalidNumber C_HeapError "__init__" = some (some (.builtin "ValueError.__init__")))
    (ecl_InvalidNumber : PySem.W.findIn K (.ref C_InvalidNumber) "__class__" = some (some (.builtin "object.__class__")))
    (eob_InvalidNumber : PySem.W.mroIn K C_InvalidNumber (.type "object") = some true)
    (xl_InvalidRule : K.lookup C_InvalidRule = some (PySem.excClassObj nm_InvalidRule qn_InvalidRule C_InvalidRule N_InvalidRule bs_InvalidRule (.ref C_HeapError :: [.type "ValueError", .type "Exception", .type "BaseException", .type "object"]) true sn_InvalidRule sub_InvalidRule ab_InvalidRule col_InvalidRule dd_InvalidRule m0_InvalidRule m1_InvalidRule m2_InvalidRule m3_InvalidRule m5_InvalidRule "ValueError.__new__"))
    (esa_InvalidRule : PySem.W.findIn K (.ref C_InvalidRule) "__setattr__" = some (some (.builtin "object.__setattr__")))
    (ega_InvalidRule : PySem.W.findIn K (.ref C_InvalidRule) "__getattribute__" = some (some (.builtin "BaseException.__getattribute__")))
    (egg_InvalidRule : PySem.W.findIn K (.ref C_InvalidRule) "__getattr__" = some none)
    (env_InvalidRule : PySem.W.findIn K (.ref C_InvalidRule) "value" = some none)
    (ein_InvalidRule : PySem.W.findIn K (.ref C_InvalidRule) "__init__" = some (some (.ref f_HeapError)))
    (ekc_InvalidRule : PySem.W.keepIn K (.ref C_InvalidRule) = true)
    (eex_InvalidRule : PySem.W.subIn K (.ref C_InvalidRule) (.type "BaseException") = some true)
    (eve_InvalidRule : PySem.W.subIn K (.ref C_InvalidRule) (.type "ValueError") = some true)
    (ety_InvalidRule : PySem.W.typeIn K (.ref C_InvalidRule) = some (.type "type"))
    (ehd_InvalidRule : PySem.W.hasDictIn K C_InvalidRule = true)
    (ebb_InvalidRule : PySem.W.subIn K (.ref C_InvalidRule) (.ref C_HeapError) = some true)
    (eid_InvalidRule : PySem.W.mroIn K C_InvalidRule (.ref C_HeapError) = some true)
    (esu_InvalidRule : PySem.W.ks_superIn K C_InvalidRule C_HeapError "__init__" = some (some (.builtin "ValueError.__init__")))
    (ecl_InvalidRule : PySem.W.findIn K (.ref C_InvalidRule) "__class__" = some (some (.builtin "object.__class__")))
    (eob_InvalidRule : PySem.W.mroIn K C_InvalidRule (.type "object") = some true)
    (xl_InvalidSize : K.lookup C_InvalidSize = some (PySem.excClassObj nm_InvalidSize qn_InvalidSize C_InvalidSize N_InvalidSize bs_InvalidSize (.ref C_HeapError :: [.type "ValueError", .type "Exception", .type "BaseException", .type "object"]) true sn_InvalidSize sub_InvalidSize ab_InvalidSize col_InvalidSize dd_InvalidSize m0_InvalidSize m1_InvalidSize m2_InvalidSize m3_InvalidSize m5_InvalidSize "ValueError.__new__"))
    (esa_InvalidSize : PySem.W.findIn K (.ref C_InvalidSize) "__setattr__" = some (some (.builtin "object.__setattr__")))
    (ega_InvalidSize : PySem.W.findIn K (.ref C_InvalidSize) "__getattribute__" = some (some (.builtin "BaseException.__getattribute__")))
    (egg_InvalidSize : PySem.W.findIn K (.ref C_InvalidSize) "__getattr__" = some none)
    (env_InvalidSize : PySem.W.findIn K (.ref C_InvalidSize) "value" = some none)
    (ein_InvalidSize : PySem.W.findIn K (.ref C_InvalidSize) "__init__" = some (some (.ref f_HeapError)))
    (ekc_InvalidSize : PySem.W.keepIn K (.ref C_InvalidSize) = true)
    (eex_InvalidSize : PySem.W.subIn K (.ref C_InvalidSize) (.type "BaseException") = some true)
    (eve_InvalidSize : PySem.W.subIn K (.ref C_InvalidSize) (.type "ValueError") = some true)
    (ety_InvalidSize : PySem.W.typeIn K (.ref C_InvalidSize) = some (.type "type"))
    (ehd_InvalidSize : PySem.W.hasDictIn K C_InvalidSize = true)
    (ebb_InvalidSize : PySem.W.subIn K (.ref C_InvalidSize) (.ref C_HeapError) = some true)
    (eid_InvalidSize : PySem.W.mroIn K C_InvalidSize (.ref C_HeapError) = some true)
    (esu_InvalidSize : PySem.W.ks_superIn K C_InvalidSize C_HeapError "__init__" = some (some (.builtin "ValueError.__init__")))
    (ecl_InvalidSize : PySem.W.findIn K (.ref C_InvalidSize) "__class__" = some (some (.builtin "object.__class__")))
    (eob_InvalidSize : PySem.W.mroIn K C_InvalidSize (.type "object") = some true)
    (eic_InvalidSize : PySem.W.isClsIn K C_InvalidSize = true)
    (enn_InvalidSize : PySem.W.subIn K (.type "NoneType") (.ref C_InvalidSize) = some false)
    (eic_InvalidRule : PySem.W.isClsIn K C_InvalidRule = true)
    (enn_InvalidRule : PySem.W.subIn K (.type "NoneType") (.ref C_InvalidRule) = some false)
    (eic_InvalidNumber : PySem.W.isClsIn K C_InvalidNumber = true)
    (enn_InvalidNumber : PySem.W.subIn K (.type "NoneType") (.ref C_InvalidNumber) = some false)
    (ess_InvalidNumber : PySem.W.subIn K (.ref C_InvalidNumber) (.ref C_InvalidNumber) = some true)
    (esb_InvalidNumber_InvalidSize : PySem.W.subIn K (.ref C_InvalidNumber) (.ref C_InvalidSize) = some false)
    (esb_InvalidNumber_InvalidRule : PySem.W.subIn K (.ref C_InvalidNumber) (.ref C_InvalidRule) = some false)
    (ess_InvalidRule : PySem.W.subIn K (.ref C_InvalidRule) (.ref C_InvalidRule) = some true)
    (esb_InvalidRule_InvalidSize : PySem.W.subIn K (.ref C_InvalidRule) (.ref C_InvalidSize) = some false)
    (esb_InvalidRule_InvalidNumber : PySem.W.subIn K (.ref C_InvalidRule) (.ref C_InvalidNumber) = some false)
    (ess_InvalidSize : PySem.W.subIn K (.ref C_InvalidSize) (.ref C_InvalidSize) = some true)
    (esb_InvalidSize_InvalidRule : PySem.W.subIn K (.ref C_InvalidSize) (.ref C_InvalidRule) = some false)
    (esb_InvalidSize_InvalidNumber : PySem.W.subIn K (.ref C_InvalidSize) (.ref C_InvalidNumber) = some false)
    (gv_LEAST_SIZE : PySem.W.nsIn K mainGlobals "LEAST_SIZE" = some (some (.int 32 tv_LEAST_SIZE)))
    (gv_MOST_SIZE : PySem.W.nsIn K mainGlobals "MOST_SIZE" = some (some (.int 4000 tv_MOST_SIZE)))
    (gv_LEAST : PySem.W.nsIn K mainGlobals "LEAST" = some (some (.int 4 tv_LEAST)))
    (gv_MOST_SPARE : PySem.W.nsIn K mainGlobals "MOST_SPARE" = some (some (.int 64 tv_MOST_SPARE)))
    (gv_MOST_STEP : PySem.W.nsIn K mainGlobals "MOST_STEP" = some (some (.int 8 tv_MOST_STEP)))
    (gv_FITS : PySem.W.nsIn K mainGlobals "FITS" = some (some (.ref v_FITS)))
    (kl_FITS : K.lookup v_FITS = some ⟨.type "tuple", td_FITS, .seq #[.str "first" tk0_FITS, .str "next" tk1_FITS, .str "best" tk2_FITS, .str "worst" tk3_FITS] tn_FITS, tl_FITS⟩)
    (gv_ORDERS : PySem.W.nsIn K mainGlobals "ORDERS" = some (some (.ref v_ORDERS)))
    (kl_ORDERS : K.lookup v_ORDERS = some ⟨.type "tuple", td_ORDERS, .seq #[.str "address" tk0_ORDERS, .str "latest" tk1_ORDERS, .str "classes" tk2_ORDERS] tn_ORDERS, tl_ORDERS⟩)
    (gv_MERGES : PySem.W.nsIn K mainGlobals "MERGES" = some (some (.ref v_MERGES)))
    (kl_MERGES : K.lookup v_MERGES = some ⟨.type "tuple", td_MERGES, .seq #[.str "at once" tk0_MERGES, .str "late" tk1_MERGES] tn_MERGES, tl_MERGES⟩)
    (z_abs : PySem.W.nsIn K mainGlobals "abs" = some none)
    (z_bool : PySem.W.nsIn K mainGlobals "bool" = some none)
    (z_enumerate : PySem.W.nsIn K mainGlobals "enumerate" = some none)
    (z_int : PySem.W.nsIn K mainGlobals "int" = some none)
    (z_isinstance : PySem.W.nsIn K mainGlobals "isinstance" = some none)
    (z_len : PySem.W.nsIn K mainGlobals "len" = some none)
    (z_list : PySem.W.nsIn K mainGlobals "list" = some none)
    (z_max : PySem.W.nsIn K mainGlobals "max" = some none)
    (z_min : PySem.W.nsIn K mainGlobals "min" = some none)
    (z_range : PySem.W.nsIn K mainGlobals "range" = some none)
    (z_repr : PySem.W.nsIn K mainGlobals "repr" = some none)
    (z_str : PySem.W.nsIn K mainGlobals "str" = some none)
    (z_super : PySem.W.nsIn K mainGlobals "super" = some none)
    (z_tuple : PySem.W.nsIn K mainGlobals "tuple" = some none) :
    ∃ fd : FuncData, (∀ (s : Shared) (v : Value), BindsTo s fd ⟨[v], []⟩ [("script", v)]) ∧ ∀ base : Heap, K.In base → base.Ns mainGlobals mg → FnG l.prog w K mg base CX0 13 fa fd ["script"] (spT K wellO (lawW 63)) := by
  have e := hfa.symm.trans (PySem.W.mg_of X G a_law)
  cases e
  have T : Tx K mg { C_HeapError := C_HeapError, C_InvalidNumber := C_InvalidNumber, C_InvalidRule := C_InvalidRule, C_InvalidSize := C_InvalidSize, f_is_integer := f_is_integer, d_is_integer := PySem.W.fnOf "is_integer" "is_integer" (defArgs s_is_integer) (defBody s_is_integer) (defScope s_is_integer) .none kV_is_integer dc_is_integer pm_is_integer an_is_integer cd_is_integer ct_is_integer, f_is_between := f_is_between, d_is_between := PySem.W.fnOf "is_between" "is_between" (defArgs s_is_between) (defBody s_is_between) (defScope s_is_between) .none kV_is_between dc_is_between pm_is_between an_is_between cd_is_between ct_is_between, f_is_tuple := f_is_tuple, d_is_tuple := PySem.W.fnOf "is_tuple" "is_tuple" (defArgs s_is_tuple) (defBody s_is_tuple) (defScope s_is_tuple) .none kV_is_tuple dc_is_tuple pm_is_tuple an_is_tuple cd_is_tuple ct_is_tuple, f_is_word := f_is_word, d_is_word := PySem.W.fnOf "is_word" "is_word" (defArgs s_is_word) (defBody s_is_word) (defScope s_is_word) .none kV_is_word dc_is_word pm_is_word an_is_word cd_is_word ct_is_word, f_need_number := f_need_number, d_need_number := PySem.W.fnOf "need_number" "need_number" (defArgs s_need_number) (defBody s_need_number) (defScope s_need_number) .none kV_need_number dc_need_number pm_need_number an_need_number cd_need_number ct_need_number, f_anew := f_anew, d_anew := PySem.W.fnOf "anew" "anew" (defArgs s_anew) (defBody s_anew) (defScope s_anew) .none kV_anew dc_anew pm_anew an_anew cd_anew ct_anew, f_is_rule := f_is_rule, d_is_rule := PySem.W.fnOf "is_rule" "is_rule" (defArgs s_is_rule) (defBody s_is_rule) (defScope s_is_rule) .none kV_is_rule dc_is_rule pm_is_rule an_is_rule cd_is_rule ct_is_rule, f_need_rule := f_need_rule, d_need_rule := PySem.W.fnOf "need_rule" "need_rule" (defArgs s_need_rule) (defBody s_need_rule) (defScope s_need_rule) .none kV_need_rule dc_need_rule pm_need_rule an_need_rule cd_need_rule ct_need_rule, f_need_size := f_need_size, d_need_size := PySem.W.fnOf "need_size" "need_size" (defArgs s_need_size) (defBody s_need_size) (defScope s_need_size) .none kV_need_size dc_need_size pm_need_size an_need_size cd_need_size ct_need_size, f_need_both := f_need_both, d_need_both := PySem.W.fnOf "need_both" "need_both" (defArgs s_need_both) (defBody s_need_both) (defScope s_need_both) .none kV_need_both dc_need_both pm_need_both an_need_both cd_need_both ct_need_both, f_cells_for := f_cells_for, d_cells_for := PySem.W.fnOf "cells_for" "cells_for" (defArgs s_cells_for) (defBody s_cells_for) (defScope s_cells_for) .none kV_cells_for dc_cells_for pm_cells_for an_cells_for cd_cells_for ct_cells_for, f_class_of := f_class_of, d_class_of := PySem.W.fnOf "class_of" "class_of" (defArgs s_class_of) (defBody s_class_of) (defScope s_class_of) .none kV_class_of dc_class_of pm_class_of an_class_of cd_class_of ct_class_of, f_lists_for := f_lists_for, d_lists_for := PySem.W.fnOf "lists_for" "lists_for" (defArgs s_lists_for) (defBody s_lists_for) (defScope s_lists_for) .none kV_lists_for dc_lists_for pm_lists_for an_lists_for cd_lists_for ct_lists_for, f_region_of := f_region_of, d_region_of := PySem.W.fnOf "region_of" "region_of" (defArgs s_region_of) (defBody s_region_of) (defScope s_region_of) .none kV_region_of dc_region_of pm_region_of an_region_of cd_region_of ct_region_of, f_needed := f_needed, d_needed := PySem.W.fnOf "needed" "needed" (defArgs s_needed) (defBody s_needed) (defScope s_needed) .none kV_needed dc_needed pm_needed an_needed cd_needed ct_needed, f_list_count := f_list_count, d_list_count := PySem.W.fnOf "list_count" "list_count" (defArgs s_list_count) (defBody s_list_count) (defScope s_list_count) .none kV_list_count dc_list_count pm_list_count an_list_count cd_list_count ct_list_count, f_region := f_region, d_region := PySem.W.fnOf "region" "region" (defArgs s_region) (defBody s_region) (defScope s_region) .none kV_region dc_region pm_region an_region cd_region ct_region, f__law_well := f__law_well, d__law_well := PySem.W.fnOf "_law_well" "_law_well" (defArgs s__law_well) (defBody s__law_well) (defScope s__law_well) .none kV__law_well dc__law_well pm__law_well an__law_well cd__law_well ct__law_well, f__law_draw := f__law_draw, d__law_draw := PySem.W.fnOf "_law_draw" "_law_draw" (defArgs s__law_draw) (defBody s__law_draw) (defScope s__law_draw) .none kV__law_draw dc__law_draw pm__law_draw an__law_draw cd__law_draw ct__law_draw, f__law_is_int := f__law_is_int, d__law_is_int := PySem.W.fnOf "_law_is_int" "_law_is_int" (defArgs s__law_is_int) (defBody s__law_is_int) (defScope s__law_is_int) .none kV__law_is_int dc__law_is_int pm__law_is_int an__law_is_int cd__law_is_int ct__law_is_int, f__law_rule := f__law_rule, d__law_rule := PySem.W.fnOf "_law_rule" "_law_rule" (defArgs s__law_rule) (defBody s__law_rule) (defScope s__law_rule) .none kV__law_rule dc__law_rule pm__law_rule an__law_rule cd__law_rule ct__law_rule, f__law_size := f__law_size, d__law_size := PySem.W.fnOf "_law_size" "_law_size" (defArgs s__law_size) (defBody s__law_size) (defScope s__law_size) .none kV__law_size dc__law_size pm__law_size an__law_size cd__law_size ct__law_size, f__law_cells := f__law_cells, d__law_cells := PySem.W.fnOf "_law_cells" "_law_cells" (defArgs s__law_cells) (defBody s__law_cells) (defScope s__law_cells) .none kV__law_cells dc__law_cells pm__law_cells an__law_cells cd__law_cells ct__law_cells, f__law_class := f__law_class, d__law_class := PySem.W.fnOf "_law_class" "_law_class" (defArgs s__law_class) (defBody s__law_class) (defScope s__law_class) .none kV__law_class dc__law_class pm__law_class an__law_class cd__law_class ct__law_class, f__law_many := f__law_many, d__law_many := PySem.W.fnOf "_law_many" "_law_many" (defArgs s__law_many) (defBody s__law_many) (defScope s__law_many) .none kV__law_many dc__law_many pm__law_many an__law_many cd__law_many ct__law_many, f__law_region := f__law_region, d__law_region := PySem.W.fnOf "_law_region" "_law_region" (defArgs s__law_region) (defBody s__law_region) (defScope s__law_region) .none kV__law_region dc__law_region pm__law_region an__law_region cd__law_region ct__law_region, f__law_is_rule := f__law_is_rule, d__law_is_rule := PySem.W.fnOf "_law_is_rule" "_law_is_rule" (defArgs s__law_is_rule) (defBody s__law_is_rule) (defScope s__law_is_rule) .none kV__law_is_rule dc__law_is_rule pm__law_is_rule an__law_is_rule cd__law_is_rule ct__law_is_rule, f__law_bent := f__law_bent, d__law_bent := PySem.W.fnOf "_law_bent" "_law_bent" (defArgs s__law_bent) (defBody s__law_bent) (defScope s__law_bent) .none kV__law_bent dc__law_bent pm__law_bent an__law_bent cd__law_bent ct__law_bent, f__law_call := f__law_call, d__law_call := PySem.W.fnOf "_law_call" "_law_call" (defArgs s__law_call) (defBody s__law_call) (defScope s__law_call) .none kV__law_call dc__law_call pm__law_call an__law_call cd__law_call ct__law_call, f__law_told := f__law_told, d__law_told := PySem.W.fnOf "_law_told" "_law_told" (defArgs s__law_told) (defBody s__law_told) (defScope s__law_told) .none kV__law_told dc__law_told pm__law_told an__law_told cd__law_told ct__law_told, f_law := fa, d_law := PySem.W.fnOf "law" "law" (defArgs s_law) (defBody s_law) (defScope s_law) .none kV_law dc_law pm_law an_law cd_law ct_law, P := l.prog, f_HeapError := f_HeapError, v_LEAST_SIZE := .int 32 tv_LEAST_SIZE, v_MOST_SIZE := .int 4000 tv_MOST_SIZE, v_LEAST := .int 4 tv_LEAST, v_MOST_SPARE := .int 64 tv_MOST_SPARE, v_MOST_STEP := .int 8 tv_MOST_STEP, v_FITS := v_FITS, v_ORDERS := v_ORDERS, v_MERGES := v_MERGES } := { F_is_integer := fun_mk (st := s_is_integer) l_is_integer c_is_integer k_is_integer, g_is_integer := PySem.W.mg_of X G a_is_integer, F_is_between := fun_mk (st := s_is_between) l_is_between c_is_between k_is_between, g_is_between := PySem.W.mg_of X G a_is_between, F_is_tuple := fun_mk (st := s_is_tuple) l_is_tuple c_is_tuple k_is_tuple, g_is_tuple := PySem.W.mg_of X G a_is_tuple, F_is_word := fun_mk (st := s_is_word) l_is_word c_is_word k_is_word, g_is_word := PySem.W.mg_of X G a_is_word, F_need_number := fun_mk (st := s_need_number) l_need_number c_need_number k_need_number, g_need_number := PySem.W.mg_of X G a_need_number, F_anew := fun_mk (st := s_anew) l_anew c_anew k_anew, g_anew := PySem.W.mg_of X G a_anew, F_is_rule := fun_mk (st := s_is_rule) l_is_rule c_is_rule k_is_rule, g_is_rule := PySem.W.mg_of X G a_is_rule, F_need_rule := fun_mk (st := s_need_rule) l_need_rule c_need_rule k_need_rule, g_need_rule := PySem.W.mg_of X G a_need_rule, F_need_size := fun_mk (st := s_need_size) l_need_size c_need_size k_need_size, g_need_size := PySem.W.mg_of X G a_need_size, F_need_both := fun_mk (st := s_need_both) l_need_both c_need_both k_need_both, g_need_both := PySem.W.mg_of X G a_need_both, F_cells_for := fun_mk (st := s_cells_for) l_cells_for c_cells_for k_cells_for, g_cells_for := PySem.W.mg_of X G a_cells_for, F_class_of := fun_mk (st := s_class_of) l_class_of c_class_of k_class_of, g_class_of := PySem.W.mg_of X G a_class_of, F_lists_for := fun_mk (st := s_lists_for) l_lists_for c_lists_for k_lists_for, g_lists_for := PySem.W.mg_of X G a_lists_for, F_region_of := fun_mk (st := s_region_of) l_region_of c_region_of k_region_of, g_region_of := PySem.W.mg_of X G a_region_of, F_needed := fun_mk (st := s_needed) l_needed c_needed k_needed, g_needed := PySem.W.mg_of X G a_needed, F_list_count := fun_mk (st := s_list_count) l_list_count c_list_count k_list_count, g_list_count := PySem.W.mg_of X G a_list_count, F_region := fun_mk (st := s_region) l_region c_region k_region, g_region := PySem.W.mg_of X G a_region, F__law_well := fun_mk (st := s__law_well) l__law_well c__law_well k__law_well, g__law_well := PySem.W.mg_of X G a__law_well, F__law_draw := fun_mk (st := s__law_draw) l__law_draw c__law_draw k__law_draw, g__law_draw := PySem.W.mg_of X G a__law_draw, F__law_is_int := fun_mk (st := s__law_is_int) l__law_is_int c__law_is_int k__law_is_int, g__law_is_int := PySem.W.mg_of X G a__law_is_int, F__law_rule := fun_mk (st := s__law_rule) l__law_rule c__law_rule k__law_rule, g__law_rule := PySem.W.mg_of X G a__law_rule, F__law_size := fun_mk (st := s__law_size) l__law_size c__law_size k__law_size, g__law_size := PySem.W.mg_of X G a__law_size, F__law_cells := fun_mk (st := s__law_cells) l__law_cells c__law_cells k__law_cells, g__law_cells := PySem.W.mg_of X G a__law_cells, F__law_class := fun_mk (st := s__law_class) l__law_class c__law_class k__law_class, g__law_class := PySem.W.mg_of X G a__law_class, F__law_many := fun_mk (st := s__law_many) l__law_many c__law_many k__law_many, g__law_many := PySem.W.mg_of X G a__law_many, F__law_region := fun_mk (st := s__law_region) l__law_region c__law_region k__law_region, g__law_region := PySem.W.mg_of X G a__law_region, F__law_is_rule := fun_mk (st := s__law_is_rule) l__law_is_rule c__law_is_rule k__law_is_rule, g__law_is_rule := PySem.W.mg_of X G a__law_is_rule, F__law_bent := fun_mk (st := s__law_bent) l__law_bent c__law_bent k__law_bent, g__law_bent := PySem.W.mg_of X G a__law_bent, F__law_call := fun_mk (st := s__law_call) l__law_call c__law_call k__law_call, g__law_call := PySem.W.mg_of X G a__law_call, F__law_told := fun_mk (st := s__law_told) l__law_told c__law_told k__law_told, g__law_told := PySem.W.mg_of X G a__law_told, F_law := fun_mk (st := s_law) l_law c_law k_law, g_HeapError := PySem.W.mg_of X G aC_HeapError, g_InvalidNumber := PySem.W.mg_of X G aC_InvalidNumber, g_InvalidRule := PySem.W.mg_of X G aC_InvalidRule, g_InvalidSize := PySem.W.mg_of X G aC_InvalidSize, e_InvalidNumber := { cls := ⟨_, _, _, _, _, _, _, _, _, _, _, _, _, _, _, xl_InvalidNumber, (show PySem.HandSPX.refsVE [.type "ValueError", .type "Exception", .type "BaseException", .type "object"] = true by decide +kernel)⟩, sa := esa_InvalidNumber, ga := ega_InvalidNumber, gg := egg_InvalidNumber, noV := env_InvalidNumber, iC := ein_InvalidNumber, tC := eI_ty, kC := ekc_InvalidNumber, exC := eex_InvalidNumber, veC := eve_InvalidNumber, tyC := ety_InvalidNumber, hdC := ehd_InvalidNumber, te := Hz.exm_ref eI_exB eI_isB eI_tyB ebb_InvalidNumber, inD := eid_InvalidNumber, sup := esu_InvalidNumber, opq := eI_opq, noS := z_super, top := eI_top, dc := Hz.isCls_some eI_isB, fn := ⟨_, _, _, _, _, _, _, _, _, _, _, _, _, _, _, _, _, _, _, _, _, _, eI_l, eI_c, rfl, ⟨_, _, _, _, _, _, eI_cda, eI_vs, eI_file⟩, _, _, _, eI_cc⟩ }, h_InvalidNumber := { ga := ega_InvalidNumber, gg := egg_InvalidNumber, exC := eex_InvalidNumber, hdC := ehd_InvalidNumber, noV := env_InvalidNumber, kl := ecl_InvalidNumber, kn := eI_kn, kt := eI_kt, km := eob_InvalidNumber }, e_InvalidRule := { cls := ⟨_, _, _, _, _, _, _, _, _, _, _, _, _, _, _, xl_InvalidRule, (show PySem.HandSPX.refsVE [.type "ValueError", .type "Exception", .type "BaseException", .type "object"] = true by decide +kernel)⟩, sa := esa_InvalidRule, ga := ega_InvalidRule, gg := egg_InvalidRule, noV := env_InvalidRule, iC := ein_InvalidRule, tC := eI_ty, kC := ekc_InvalidRule, exC := eex_InvalidRule, veC := eve_InvalidRule, tyC := ety_InvalidRule, hdC := ehd_InvalidRule, te := Hz.exm_ref eI_exB eI_isB eI_tyB ebb_InvalidRule, inD := eid_InvalidRule, sup := esu_InvalidRule, opq := eI_opq, noS := z_super, top := eI_top, dc := Hz.isCls_some eI_isB, fn := ⟨_, _, _, _, _, _, _, _, _, _, _, _, _, _, _, _, _, _, _, _, _, _, eI_l, eI_c, rfl, ⟨_, _, _, _, _, _, eI_cda, eI_vs, eI_file⟩, _, _, _, eI_cc⟩ }, h_InvalidRule := { ga := ega_InvalidRule, gg := egg_InvalidRule, exC := eex_InvalidRule, hdC := ehd_InvalidRule, noV := env_InvalidRule, kl := ecl_InvalidRule, kn := eI_kn, kt := eI_kt, km := eob_InvalidRule }, e_InvalidSize := { cls := ⟨_, _, _, _, _, _, _, _, _, _, _, _, _, _, _, xl_InvalidSize, (show PySem.HandSPX.refsVE [.type "ValueError", .type "Exception", .type "BaseException", .type "object"] = true by decide +kernel)⟩, sa := esa_InvalidSize, ga := ega_InvalidSize, gg := egg_InvalidSize, noV := env_InvalidSize, iC := ein_InvalidSize, tC := eI_ty, kC := ekc_InvalidSize, exC := eex_InvalidSize, veC := eve_InvalidSize, tyC := ety_InvalidSize, hdC := ehd_InvalidSize, te := Hz.exm_ref eI_exB eI_isB eI_tyB ebb_InvalidSize, inD := eid_InvalidSize, sup := esu_InvalidSize, opq := eI_opq, noS := z_super, top := eI_top, dc := Hz.isCls_some eI_isB, fn := ⟨_, _, _, _, _, _, _, _, _, _, _, _, _, _, _, _, _, _, _, _, _, _, eI_l, eI_c, rfl, ⟨_, _, _, _, _, _, eI_cda, eI_vs, eI_file⟩, _, _, _, eI_cc⟩ }, h_InvalidSize := { ga := ega_InvalidSize, gg := egg_InvalidSize, exC := eex_InvalidSize, hdC := ehd_InvalidSize, noV := env_InvalidSize, kl := ecl_InvalidSize, kn := eI_kn, kt := eI_kt, km := eob_InvalidSize }, q_None_InvalidSize := Hz.kit_type eic_InvalidSize ety_InvalidSize enn_InvalidSize, q_None_InvalidRule := Hz.kit_type eic_InvalidRule ety_InvalidRule enn_InvalidRule, q_None_InvalidNumber := Hz.kit_type eic_InvalidNumber ety_InvalidNumber enn_InvalidNumber, q_InvalidNumber_InvalidSize := Hz.kit_ref eic_InvalidSize ety_InvalidSize esb_InvalidNumber_InvalidSize ess_InvalidNumber, q_InvalidNumber_InvalidRule := Hz.kit_ref eic_InvalidRule ety_InvalidRule esb_InvalidNumber_InvalidRule ess_InvalidNumber, q_InvalidNumber_InvalidNumber := Hz.kit_ref eic_InvalidNumber ety_InvalidNumber ess_InvalidNumber ess_InvalidNumber, q_InvalidRule_InvalidSize := Hz.kit_ref eic_InvalidSize ety_InvalidSize esb_InvalidRule_InvalidSize ess_InvalidRule, q_InvalidRule_InvalidRule := Hz.kit_ref eic_InvalidRule ety_InvalidRule ess_InvalidRule ess_InvalidRule, q_InvalidRule_InvalidNumber := Hz.kit_ref eic_InvalidNumber ety_InvalidNumber esb_InvalidRule_InvalidNumber ess_InvalidRule, q_InvalidSize_InvalidSize := Hz.kit_ref eic_InvalidSize ety_InvalidSize ess_InvalidSize ess_InvalidSize, q_InvalidSize_InvalidRule := Hz.kit_ref eic_InvalidRule ety_InvalidRule esb_InvalidSize_InvalidRule ess_InvalidSize, q_InvalidSize_InvalidNumber := Hz.kit_ref eic_InvalidNumber ety_InvalidNumber esb_InvalidSize_InvalidNumber ess_InvalidSize, g_LEAST_SIZE := PySem.W.mg_of X G gv_LEAST_SIZE, r_LEAST_SIZE := ⟨_, rfl⟩, g_MOST_SIZE := PySem.W.mg_of X G gv_MOST_SIZE, r_MOST_SIZE := ⟨_, rfl⟩, g_LEAST := PySem.W.mg_of X G gv_LEAST, r_LEAST := ⟨_, rfl⟩, g_MOST_SPARE := PySem.W.mg_of X G gv_MOST_SPARE, r_MOST_SPARE := ⟨_, rfl⟩, g_MOST_STEP := PySem.W.mg_of X G gv_MOST_STEP, r_MOST_STEP := ⟨_, rfl⟩, g_FITS := PySem.W.mg_of X G gv_FITS, k_FITS := fun _ => dp_strsK (is := [("first" : Str), ("next" : Str), ("best" : Str), ("worst" : Str)]) kl_FITS rfl rfl (by show 4 ≤ sizeLine; decide) (Hz.vals_strs [(("first" : Str), tk0_FITS), (("next" : Str), tk1_FITS), (("best" : Str), tk2_FITS), (("worst" : Str), tk3_FITS)]), g_ORDERS := PySem.W.mg_of X G gv_ORDERS, k_ORDERS := fun _ => dp_strsK (is := [("address" : Str), ("latest" : Str), ("classes" : Str)]) kl_ORDERS rfl rfl (by show 3 ≤ sizeLine; decide) (Hz.vals_strs [(("address" : Str), tk0_ORDERS), (("latest" : Str), tk1_ORDERS), (("classes" : Str), tk2_ORDERS)]), g_MERGES := PySem.W.mg_of X G gv_MERGES, k_MERGES := fun _ => dp_strsK (is := [("at once" : Str), ("late" : Str)]) kl_MERGES rfl rfl (by show 2 ≤ sizeLine; decide) (Hz.vals_strs [(("at once" : Str), tk0_MERGES), (("late" : Str), tk1_MERGES)]), z_abs := PySem.W.mg_none_of X G z_abs, z_bool := PySem.W.mg_none_of X G z_bool, z_enumerate := PySem.W.mg_none_of X G z_enumerate, z_int := PySem.W.mg_none_of X G z_int, z_isinstance := PySem.W.mg_none_of X G z_isinstance, z_len := PySem.W.mg_none_of X G z_len, z_list := PySem.W.mg_none_of X G z_list, z_max := PySem.W.mg_none_of X G z_max, z_min := PySem.W.mg_none_of X G z_min, z_range := PySem.W.mg_none_of X G z_range, z_repr := PySem.W.mg_none_of X G z_repr, z_str := PySem.W.mg_none_of X G z_str, z_super := PySem.W.mg_none_of X G z_super, z_tuple := PySem.W.mg_none_of X G z_tuple }
  exact ⟨PySem.W.fnOf "law" "law" (defArgs s_law) (defBody s_law) (defScope s_law) .none kV_law dc_law pm_law an_law cd_law ct_law, fun s v => .of_eq rfl, fun base _ _ => ok_law T⟩
end K43
open PySem PySem.W PyProof.Rows
set_option maxRecDepth 100000 in
set_option maxHeartbeats 0 in
theorem PySem.Challenge.cw_heapworks_k43_rules_and_regions_holds : PySem.Challenge.rw_heapworks_k43_rules_and_regions.Holds := by
  w_on; o_law; k_head; (case hw => w_witness2)
  k_fill
  refine Hz.walkG (l := PySem.Challenge.rw_heapworks_k43_rules_and_regions) (n := 63) (k := 13) (inv := Hz.wellO) (x := "script") rfl (by decide) rfl ⟨rfl, by decide, by decide⟩ (fun w h Y => PySem.W.kIn_of Y) ?F
  case F =>
    intro w mg fa h KX G hmg
    refine' K43.all_mk KX G hmg ?aC_HeapError ?aC_InvalidNumber ?aC_InvalidRule ?aC_InvalidSize ?a_is_integer ?l_is_integer ?c_is_integer ?k_is_integer ?a_is_between ?l_is_between ?c_is_between ?k_is_between ?a_is_tuple ?l_is_tuple ?c_is_tuple ?k_is_tuple ?a_is_word ?l_is_word ?c_is_word ?k_is_word ?a_need_number ?l_need_number ?c_need_number ?k_need_number ?a_anew ?l_anew ?c_anew ?k_anew ?a_is_rule ?l_is_rule ?c_is_rule ?k_is_rule ?a_need_rule ?l_need_rule ?c_need_rule ?k_need_rule ?a_need_size ?l_need_size ?c_need_size ?k_need_size ?a_need_both ?l_need_both ?c_need_both ?k_need_both ?a_cells_for ?l_cells_for ?c_cells_for ?k_cells_for ?a_class_of ?l_class_of ?c_class_of ?k_class_of ?a_lists_for ?l_lists_for ?c_lists_for ?k_lists_for ?a_region_of ?l_region_of ?c_region_of ?k_region_of ?a_needed ?l_needed ?c_needed ?k_needed ?a_list_count ?l_list_count ?c_list_count ?k_list_count ?a_region ?l_region ?c_region ?k_region ?a__law_well ?l__law_well ?c__law_well ?k__law_well ?a__law_draw ?l__law_draw ?c__law_draw ?k__law_draw ?a__law_is_int ?l__law_is_int ?c__law_is_int ?k__law_is_int ?a__law_rule ?l__law_rule ?c__law_rule ?k__law_rule ?a__law_size ?l__law_size ?c__law_size ?k__law_size ?a__law_cells ?l__law_cells ?c__law_cells ?k__law_cells ?a__law_class ?l__law_class ?c__law_class ?k__law_class ?a__law_many ?l__law_many ?c__law_many ?k__law_many ?a__law_region ?l__law_region ?c__law_region ?k__law_region ?a__law_is_rule ?l__law_is_rule ?c__law_is_rule ?k__law_is_rule ?a__law_bent ?l__law_bent ?c__law_bent ?k__law_bent ?a__law_call ?l__law_call ?c__law_call ?k__law_call ?a__law_told ?l__law_told ?c__law_told ?k__law_told ?a_law ?l_law ?c_law ?k_law ?eI_init ?eI_ty ?eI_l ?eI_c ?eI_cda ?eI_vs ?eI_file ?eI_cc ?eI_top ?eI_opq ?eI_isB ?eI_tyB ?eI_exB ?eI_kn ?eI_kt ?xl_InvalidNumber ?esa_InvalidNumber ?ega_InvalidNumber ?egg_InvalidNumber ?env_InvalidNumber ?ein_InvalidNumber ?ekc_InvalidNumber ?eex_InvalidNumber ?eve_InvalidNumber ?ety_InvalidNumber ?ehd_InvalidNumber ?ebb_InvalidNumber ?eid_InvalidNumber ?esu_InvalidNumber ?ecl_InvalidNumber ?eob_InvalidNumber ?xl_InvalidRule ?esa_InvalidRule ?ega_InvalidRule ?egg_InvalidRule ?env_InvalidRule ?ein_InvalidRule ?ekc_InvalidRule ?eex_InvalidRule ?eve_InvalidRule ?ety_InvalidRule ?ehd_InvalidRule ?ebb_InvalidRule ?eid_InvalidRule ?esu_InvalidRule ?ecl_InvalidRule ?eob_InvalidRule ?xl_InvalidSize ?esa_InvalidSize ?ega_InvalidSize ?egg_InvalidSize ?env_InvalidSize ?ein_InvalidSize ?ekc_InvalidSize ?eex_InvalidSize ?eve_InvalidSize ?ety_InvalidSize ?ehd_InvalidSize ?ebb_InvalidSize ?eid_InvalidSize ?esu_InvalidSize ?ecl_InvalidSize ?eob_InvalidSize ?eic_InvalidSize ?enn_InvalidSize ?eic_InvalidRule ?enn_InvalidRule ?eic_InvalidNumber ?enn_InvalidNumber ?ess_InvalidNumber ?esb_InvalidNumber_InvalidSize ?esb_InvalidNumber_InvalidRule ?ess_InvalidRule ?esb_InvalidRule_InvalidSize ?esb_InvalidRule_InvalidNumber ?ess_InvalidSize ?esb_InvalidSize_InvalidRule ?esb_InvalidSize_InvalidNumber ?gv_LEAST_SIZE ?gv_MOST_SIZE ?gv_LEAST ?gv_MOST_SPARE ?gv_MOST_STEP ?gv_FITS ?kl_FITS ?gv_ORDERS ?kl_ORDERS ?gv_MERGES ?kl_MERGES ?z_abs ?z_bool ?z_enumerate ?z_int ?z_isinstance ?z_len ?z_list ?z_max ?z_min ?z_range ?z_repr ?z_str ?z_super ?z_tuple
    (case aC_HeapError => k_is)
    (case aC_InvalidNumber => k_is)
    (case aC_InvalidRule => k_is)
    (case aC_InvalidSize => k_is)
    (case a_is_integer => k_is)
    (case l_is_integer => k_is)
    (case c_is_integer => k_is)
    (case k_is_integer => k_is)
    (case a_is_between => k_is)
    (case l_is_between => k_is)
    (case c_is_between => k_is)
    (case k_is_between => k_is)
    (case a_is_tuple => k_is)
    (case l_is_tuple => k_is)
    (case c_is_tuple => k_is)
    (case k_is_tuple => k_is)
    (case a_is_word => k_is)
    (case l_is_word => k_is)
    (case c_is_word => k_is)
    (case k_is_word => k_is)
    (case a_need_number => k_is)
    (case l_need_number => k_is)
    (case c_need_number => k_is)
    (case k_need_number => k_is)
    (case a_anew => k_is)
    (case l_anew => k_is)
    (case c_anew => k_is)
    (case k_anew => k_is)
    (case a_is_rule => k_is)
    (case l_is_rule => k_is)
    (case c_is_rule => k_is)
    (case k_is_rule => k_is)
    (case a_need_rule => k_is)
    (case l_need_rule => k_is)
    (case c_need_rule => k_is)
    (case k_need_rule => k_is)
    (case a_need_size => k_is)
    (case l_need_size => k_is)
    (case c_need_size => k_is)
    (case k_need_size => k_is)
    (case a_need_both => k_is)
    (case l_need_both => k_is)
    (case c_need_both => k_is)
    (case k_need_both => k_is)
    (case a_cells_for => k_is)
    (case l_cells_for => k_is)
    (case c_cells_for => k_is)
    (case k_cells_for => k_is)
    (case a_class_of => k_is)
    (case l_class_of => k_is)
    (case c_class_of => k_is)
    (case k_class_of => k_is)
    (case a_lists_for => k_is)
    (case l_lists_for => k_is)
    (case c_lists_for => k_is)
    (case k_lists_for => k_is)
    (case a_region_of => k_is)
    (case l_region_of => k_is)
    (case c_region_of => k_is)
    (case k_region_of => k_is)
    (case a_needed => k_is)
    (case l_needed => k_is)
    (case c_needed => k_is)
    (case k_needed => k_is)
    (case a_list_count => k_is)
    (case l_list_count => k_is)
    (case c_list_count => k_is)
    (case k_list_count => k_is)
    (case a_region => k_is)
    (case l_region => k_is)
    (case c_region => k_is)
    (case k_region => k_is)
    (case a__law_well => k_is)
    (case l__law_well => k_is)
    (case c__law_well => k_is)
    (case k__law_well => k_is)
    (case a__law_draw => k_is)
    (case l__law_draw => k_is)
    (case c__law_draw => k_is)
    (case k__law_draw => k_is)
    (case a__law_is_int => k_is)
    (case l__law_is_int => k_is)
    (case c__law_is_int => k_is)
    (case k__law_is_int => k_is)
    (case a__law_rule => k_is)
    (case l__law_rule => k_is)
    (case c__law_rule => k_is)
    (case k__law_rule => k_is)
    (case a__law_size => k_is)
    (case l__law_size => k_is)
    (case c__law_size => k_is)
    (case k__law_size => k_is)
    (case a__law_cells => k_is)
    (case l__law_cells => k_is)
    (case c__law_cells => k_is)
    (case k__law_cells => k_is)
    (case a__law_class => k_is)
    (case l__law_class => k_is)
    (case c__law_class => k_is)
    (case k__law_class => k_is)
    (case a__law_many => k_is)
    (case l__law_many => k_is)
    (case c__law_many => k_is)
    (case k__law_many => k_is)
    (case a__law_region => k_is)
    (case l__law_region => k_is)
    (case c__law_region => k_is)
    (case k__law_region => k_is)
    (case a__law_is_rule => k_is)
    (case l__law_is_rule => k_is)
    (case c__law_is_rule => k_is)
    (case k__law_is_rule => k_is)
    (case a__law_bent => k_is)
    (case l__law_bent => k_is)
    (case c__law_bent => k_is)
    (case k__law_bent => k_is)
    (case a__law_call => k_is)
    (case l__law_call => k_is)
    (case c__law_call => k_is)
    (case k__law_call => k_is)
    (case a__law_told => k_is)
    (case l__law_told => k_is)
    (case c__law_told => k_is)
    (case k__law_told => k_is)
    (case a_law => k_is)
    (case l_law => k_is)
    (case c_law => k_is)
    (case k_law => k_is)
    (case eI_init => k_is)
    (case eI_ty => k_is)
    (case eI_l => k_is)
    (case eI_c => k_is)
    (case eI_cda => k_is)
    (case eI_vs => exact rfl)
    (case eI_file => first | exact rfl | decide +kernel)
    (case eI_cc => k_is)
    (case eI_top => first | exact rfl | decide +kernel)
    (case eI_opq => k_is)
    (case eI_isB => k_is)
    (case eI_tyB => k_is)
    (case eI_exB => k_is)
    (case eI_kn => k_is)
    (case eI_kt => k_is)
    (case xl_InvalidNumber => k_is)
    (case esa_InvalidNumber => k_is)
    (case ega_InvalidNumber => k_is)
    (case egg_InvalidNumber => k_is)
    (case env_InvalidNumber => k_is)
    (case ein_InvalidNumber => k_is)
    (case ekc_InvalidNumber => k_is)
    (case eex_InvalidNumber => k_is)
    (case eve_InvalidNumber => k_is)
    (case ety_InvalidNumber => k_is)
    (case ehd_InvalidNumber => k_is)
    (case ebb_InvalidNumber => k_is)
    (case eid_InvalidNumber => k_is)
    (case esu_InvalidNumber => ks_is)
    (case ecl_InvalidNumber => k_is)
    (case eob_InvalidNumber => k_is)
    (case xl_InvalidRule => k_is)
    (case esa_InvalidRule => k_is)
    (case ega_InvalidRule => k_is)
    (case egg_InvalidRule => k_is)
    (case env_InvalidRule => k_is)
    (case ein_InvalidRule => k_is)
    (case ekc_InvalidRule => k_is)
    (case eex_InvalidRule => k_is)
    (case eve_InvalidRule => k_is)
    (case ety_InvalidRule => k_is)
    (case ehd_InvalidRule => k_is)
    (case ebb_InvalidRule => k_is)
    (case eid_InvalidRule => k_is)
    (case esu_InvalidRule => ks_is)
    (case ecl_InvalidRule => k_is)
    (case eob_InvalidRule => k_is)
    (case xl_InvalidSize => k_is)
    (case esa_InvalidSize => k_is)
    (case ega_InvalidSize => k_is)
    (case egg_InvalidSize => k_is)
    (case env_InvalidSize => k_is)
    (case ein_InvalidSize => k_is)
    (case ekc_InvalidSize => k_is)
    (case eex_InvalidSize => k_is)
    (case eve_InvalidSize => k_is)
    (case ety_InvalidSize => k_is)
    (case ehd_InvalidSize => k_is)
    (case ebb_InvalidSize => k_is)
    (case eid_InvalidSize => k_is)
    (case esu_InvalidSize => ks_is)
    (case ecl_InvalidSize => k_is)
    (case eob_InvalidSize => k_is)
    (case eic_InvalidSize => k_is)
    (case enn_InvalidSize => k_is)
    (case eic_InvalidRule => k_is)
    (case enn_InvalidRule => k_is)
    (case eic_InvalidNumber => k_is)
    (case enn_InvalidNumber => k_is)
    (case ess_InvalidNumber => first | rfl | k_is)
    (case esb_InvalidNumber_InvalidSize => k_is)
    (case esb_InvalidNumber_InvalidRule => k_is)
    (case ess_InvalidRule => first | rfl | k_is)
    (case esb_InvalidRule_InvalidSize => k_is)
    (case esb_InvalidRule_InvalidNumber => k_is)
    (case ess_InvalidSize => first | rfl | k_is)
    (case esb_InvalidSize_InvalidRule => k_is)
    (case esb_InvalidSize_InvalidNumber => k_is)
    (case gv_LEAST_SIZE => k_is)
    (case gv_MOST_SIZE => k_is)
    (case gv_LEAST => k_is)
    (case gv_MOST_SPARE => k_is)
    (case gv_MOST_STEP => k_is)
    (case gv_FITS => k_is)
    (case kl_FITS => k_is)
    (case gv_ORDERS => k_is)
    (case kl_ORDERS => k_is)
    (case gv_MERGES => k_is)
    (case kl_MERGES => k_is)
    (case z_abs => k_is)
    (case z_bool => k_is)
    (case z_enumerate => k_is)
    (case z_int => k_is)
    (case z_isinstance => k_is)
    (case z_len => k_is)
    (case z_list => k_is)
    (case z_max => k_is)
    (case z_min => k_is)
    (case z_range => k_is)
    (case z_repr => k_is)
    (case z_str => k_is)
    (case z_super => k_is)
    (case z_tuple => k_is)
