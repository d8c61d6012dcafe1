import PyProof.Rows.All
import Wide.All
import OpenK.AllK
import Wide.FinOn
import PyProof.EqAt
import PyProof.EqKinds
import PyProof.TupleCall
import KE.KExcSuper
import HandS.ForExc
import HandS.ExcIs
import HandS.ExcSuper
import HandS.ExcOwn
import HandS.TryMany
import KE.KExcIs
import HandS.Base
import HandS.Call
import HandS.Exc
import HandS.Defaults
import HandS.HeadHook1
import HandS.HeadHook2
import HandS.Head0
import HandS.Head1
import HandS.Head2
import HandS.HeadEnd
import HandS.Ends
import HandS.Codes
import HandS.EndBits
import HandS.EndTab
import KE.KStateDown
import Lean
import HandS.ForMost
import HandS.IsInst
import HandS.Deep
import HandS.TupAny
import HandS.TupMul
import HandS.TupLe
import HandS.Conv
import HandS.Zip
import HandS.Style
import HandS.Words
import HandS.ExcField
import HandS.TryOnly
import KE.GoesMore
import KE.GoesEnum
import PyProof.Draws
import PySem.Challenge.RW_strangerspost_k54_whole_needed_clauses
import HandS.SortInts
import PyProof.Rows.SetFrom
import PyProof.DictCompW
import KE.KEqDict
import HandS.List
import HandS.Comp
import HandS.Dict
import HandS.More
import HandS.DictComp
import HandS.DictTup
import KE.SortData
import PyProof.Transfer
import HandS.Strs
import KE.KRevIter
import HandS.Iter
import HandS.RevTup
import HandS.Rev
import PyProof.Rows.FactsT2
import PyProof.DictMoreH
import KE.SortKeyHeap
import HandS.Lambda
set_option Elab.async false
set_option linter.all false
set_option maxRecDepth 100000
set_option maxHeartbeats 4000000
section
/-! PWExc: an own error over own bases over ValueError, whose __init__ says super().__init__(x); self.x = x. -/
namespace PySem
namespace SupX
open PySem.W PySem.Calls PyProof.Rows PySem.HandSPX
/-- the text of __init__(self, f) -/
def sArg (f : Str) (p1 p2 : Pos) : Arguments := ⟨[], [⟨"self", none, p1⟩, ⟨f, none, p2⟩], none, [], [], none, []⟩
def sExp (f : Str) (a1 a2 a3 a4 a5 a6 : Pos) : Stmt := .Expr (.Call (.Attribute (.Call (.Name "super" a1) [] [] a2) "__init__" a3) [.Name f a4] [] a5) a6
def sAsg (f : Str) (b1 b2 b3 b4 : Pos) : Stmt := .Assign [.Attribute (.Name "self" b1) f b2] (.Name f b3) b4
def sSc (f : Str) : Scope := ⟨.function, [("self", .local), (f, .local), ("__class__", .free), ("super", .globalImplicit)], false, false, []⟩
structure SupC (prog : Program) (K : Frag) (C fI : Addr) (f q : Str) : Prop where
  cls : ∃ nm qn N bs bm sn sub ab col dd k0 k1 k2 k3 k5, K.lookup C = some (excClassObj nm qn C N bs bm true sn sub ab col dd k0 k1 k2 k3 k5 "ValueError.__new__") ∧ refsVE bm = true ∧ alongIn K "__init__" bm = some (some (.builtin "ValueError.__init__"))
  sa : findIn K (.ref C) "__setattr__" = some (some (.builtin "object.__setattr__"))
  ga : findIn K (.ref C) "__getattribute__" = some (some (.builtin "BaseException.__getattribute__"))
  gg : findIn K (.ref C) "__getattr__" = some none
  noN : findIn K (.ref C) f = some none
  iC : findIn K (.ref C) "__init__" = some (some (.ref fI))
  tC : typeIn K (.ref fI) = some (.type "function")
  kC : keepIn K (.ref C) = true
  exC : subIn K (.ref C) (.type "BaseException") = some true
  veC : subIn K (.ref C) (.type "ValueError") = some true
  sub : mroIn K C (.ref C) = some true
  tyC : typeIn K (.ref C) = some (.type "type")
  hdC : hasDictIn K C = true
  te : exmOne K (.ref C) (.ref C) = some true
  sup : nsIn K mainGlobals "super" = some none
  opq : nsIn K cStatics "thirdparty.any" = some none
  top : (prog.main.scope.names.lookup ("super" : Str)).isSome = false
  lk1 : (sSc f).names.lookup ("super" : Str) = some .globalImplicit
  lk2 : (sSc f).names.lookup ("__class__" : Str) = some .free
  lk3 : (sSc f).names.lookup ("self" : Str) = some .local
  lk4 : (sSc f).names.lookup f = some .local
  nf : f ≠ "self" ∧ (f == ("__debug__" : Str)) = false
  fn : ∃ (oc : Value) (od : Option Addr) (doc pm : Value) (an : Option Addr) (cda : Addr) (ct : Value) (cc : Addr) (osl : Array (Option Value)) (p1 p2 a1 a2 a3 a4 a5 a6 b1 b2 b3 b4 : Pos)
      (ccl : Value) (cdd : Option Addr) (vs : Array Value) (ccs : Array (Option Value)) (file : Str) (tf : Tok) (cl : Value) (cld : Option Addr) (csl : Array (Option Value)),
    K.lookup fI = some ⟨oc, od, .func (ksFn "__init__" q (sArg f p1 p2) [sExp f a1 a2 a3 a4 a5 a6, sAsg f b1 b2 b3 b4] (sSc f) .none .none doc pm an (.ref cda) ct cc), osl⟩ ∧ codeIn K (.ref cda) q = true ∧
    K.lookup cda = some ⟨ccl, cdd, .fields vs, ccs⟩ ∧ vs[2]? = some (.str file tf) ∧ ((prog.main.file : Str) == file) = true ∧ K.lookup cc = some ⟨cl, cld, .cell (some (.ref C)), csl⟩ ∧
    ∃ pl : Sem Bool, ∀ env : Env, eval (.Call (.Attribute (.Call (.Name "super" a1) [] [] a2) "__init__" a3) [.Name f a4] [] a5) env = (do
      let ov ← attributeBase (.Call (.Name "super" a1) [] [] a2) "__init__" env (eval (.Call (.Name "super" a1) [] [] a2) env)
      standAt a3.atName
      let (f', first) ← holding [ov] (getMethod ov "__init__" pl)
      callWith a5 f' first (backTo a5 (starEach [.Name f a4] env)) [])
  bnd : ∀ (p1 p2 : Pos) (bd : List Stmt) (doc pm : Value) (an : Option Addr) (cdv ct : Value) (cc : Addr) (u v : Value), bindArgs (ksFn "__init__" q (sArg f p1 p2) bd (sSc f) .none .none doc pm an cdv ct cc) ⟨[u, v], []⟩ = pure [(("self" : Str), u), (f, v)]
theorem one_fits (v : Value) : [v].length ≤ sizeLine := by
  rw [sizeLine_eq]
  exact (by decide : 1 ≤ 16777216)
section
variable {prog : Program} {w : World} {A : Around} {E : Value → Shared → Prop} {h : Heap} {g : Array GenState} {d : Drawn} {t : Nat} {os : OsState}
variable {nm q : Str} {C N : Addr} {bs bm : List Value} {hdct : Bool} {sn : List Str} {sub : List Value} {ab : Bool} {col : Option Bool} {dd : Option Addr} {k0 k1 k2 k3 k5 : Option Value}
/-- the bound ValueError.__init__ is called -/
theorem sup_call {u e t0 : Addr} {rest : List Value} {Q : Value → Shared → Prop}
    (hC : h.get? C = some (excClassObj nm q C N bs bm hdct sn sub ab col dd k0 k1 k2 k3 k5 "ValueError.__new__")) (he : h.get? e = some (excO C t0)) (hu : h.get? u = some (kxs_mw "ValueError.__init__" e)) (hrest : rest.length ≤ sizeLine)
    (hq : ∀ h' t1, (∀ b o, b ≠ e → h.get? b = some o → h'.get? b = some o) → h'.get? e = some (excO C t1) → Q .none ⟨h', g, d, t, os⟩) :
    wpAny (model prog w) A (call (.ref u) rest) Q E ⟨h, g, d, t, os⟩ := by
  have FB := F.excBase_ValueError
  refine wpAny_call (codeAny_of_tree ?_)
  show wpAny _ (A.in1) (callAny (.ref u) ⟨rest, []⟩) _ _ _
  simp only [callAny]
  refine wpAny_bind (wpAny_load hu ?_)
  simp only [kxs_mw, show ((Value.type "method-wrapper" == Value.type "method") || (Value.type "method-wrapper" == Value.type "builtin_function_or_method") || (Value.type "method-wrapper" == Value.type "method-wrapper")) = true by decide, if_true]
  refine KFB.if_so (by decide) (wpAny_bind (check_bound_init FB.toExcCallFacts hC he rfl ?_))
  refine wpAny_bind (wpAny_pure (wpAny_pure ⟨plainId_quiet FB.init.plain _, codeAny_builtin FB.initEntry ?_⟩))
  exact exc_init_tree (cls := .ref C) (t0 := t0) (dv := none) (c2 := .none) (c3 := .none) (b4 := .bool false) he hrest fun h' k e' t' => hq h' _ k e'
end
/-- what __init__ leaves of a fresh error at x -/
structure SupEnd (h h' : Heap) (x C dx : Addr) (f : Str) (v : Value) : Prop where
  keep : ∀ b o, b ≠ x → h.get? b = some o → h'.get? b = some o
  obj : ∃ t1 : Addr, h'.get? x = some { cls := .ref C, dict := some dx, data := .fields #[.ref t1, .none, .none, .none, .bool false, .none] }
  dbig : h.objs.size ≤ dx
  dne : dx ≠ x
  ns : h'.Ns1 dx (fun y => if y = f then some v else none)
/-- an error that was made -/
structure SupMade (h h' : Heap) (e C d : Addr) (f : Str) (v : Value) : Prop where
  keep : ∀ b o, h.get? b = some o → h'.get? b = some o
  new : h.objs.size ≤ e
  obj : ∃ oe vs, h'.get? e = some oe ∧ oe.cls = .ref C ∧ oe.dict = some d ∧ oe.data = .fields vs ∧ vs[1]? = some .none
  dbig : h.objs.size ≤ d
  dne : d ≠ e
  ns : h'.Ns1 d (fun y => if y = f then some v else none)
section
variable {prog : Program} {w : World} {A : Around} {R : Result → Shared → Prop} {s : Shared} {K : Frag} {mg : Str → Option Value} {C fI : Addr} {f q : Str} {base : Heap}
theorem sup_init (T : SupC prog K C fI f q) (M : L2.Mod K mg base) (kb : ∀ b o, base.get? b = some o → s.heap.get? b = some o) {x t0 : Addr} {v : Value} (X : K.In s.heap) (hx : s.heap.get? x = some (excO C t0)) (hnx : base.get? x = none) (hroom : A.depth < recursionLimit)
    (hq : ∀ h' tk dx, SupEnd s.heap h' x C dx f v → R (.ok (.ret .none)) { s with heap := h', toks := tk }) :
    codeAny (model prog w) A (.call (.ref fI) ⟨[.ref x, v], []⟩) R s := by
  obtain ⟨oc, od, doc, pm, an, cda, ct, cc, osl, p1, p2, a1, a2, a3, a4, a5, a6, b1, b2, b3, b4, ccl, cdd, vs, ccs, file, tf, cl, cld, csl, ho, hcd, hcode, hvs, hfile, hcell, pl, hev⟩ := T.fn
  obtain ⟨nm, qn, N, bs, bm, sn, sub, ab, col, dd, k0, k1, k2, k3, k5, hC, hbm, hal⟩ := T.cls
  have hcl : clsIn K C = some { name := nm, bases := bs, mro := .ref C :: bm, ns := N, qualname := qn, hasDict := true, slotNames := sn, subclasses := sub, abstract := ab, collection := col, hasDel := false } := by unfold clsIn; rw [hC] <;> rfl
  have hcells : ∀ y ∈ (sSc f).names, y.2 ≠ .cell := fun y hy => by
    rcases List.mem_cons.mp hy with e | hy
    · rw [e]; exact fun z => nomatch z
    rcases List.mem_cons.mp hy with e | hy
    · rw [e]; exact fun z => nomatch z
    rcases List.mem_cons.mp hy with e | hy
    · rw [e]; exact fun z => nomatch z
    rcases List.mem_cons.mp hy with e | hy
    · rw [e]; exact fun z => nomatch z
    cases hy
  refine ks_codeAny_call_defAt (fd := ksFn "__init__" q (sArg f p1 p2) [sExp f a1 a2 a3 a4 a5 a6, sAsg f b1 b2 b3 b4] (sSc f) .none .none doc pm an (.ref cda) ct cc) (body := [sExp f a1 a2 a3 a4 a5 a6, sAsg f b1 b2 b3 b4]) (binds := [("self", .ref x), (f, v)])
    hroom (X _ _ ho) rfl (M.nolimit.keeps kb) (codeRec_of X hcd) rfl (BindsTo.of_eq (T.bnd ..)) hcells (fun y hy => ?_) (fun h₁ hns hk₁ => ?_) rfl rfl rfl
  · rcases List.mem_cons.mp hy with e | hy
    · rw [e]; exact T.lk3
    · rw [List.mem_singleton.mp hy]; exact T.lk4
  have hsz : s.heap.objs.size ≠ x := Nat.ne_of_gt (Heap.lt_size hx)
  have X₁ : K.In h₁ := X.keeps hk₁
  have hx₁ := hk₁ _ _ hx
  obtain ⟨mb, hb1, hb2⟩ := M.blt
  have kb₁ : ∀ b o, base.get? b = some o → h₁.get? b = some o := fun b o e => hk₁ b o (kb b o e)
  obtain ⟨oD, hD1, hD2⟩ : ∃ oD, h₁.get? C = some oD ∧ oD.data = .cls { name := nm, bases := bs, mro := .ref C :: bm, ns := N, qualname := qn, hasDict := true, slotNames := sn, subclasses := sub, abstract := ab, collection := col, hasDel := false } := ⟨_, X₁ _ _ hC, rfl⟩
  have hxC : x ≠ C := fun z => by
    have e := M.kin _ _ hC
    rw [← z, hnx] at e
    cases e
  have lkS : ([("self", Value.ref x), (f, v)] : List (Str × Value)).reverse.lookup ("self" : Str) = some (.ref x) := by
    have e : (("self" : Str) == f) = false := by simpa using Ne.symm T.nf.1
    show List.lookup ("self" : Str) [(f, v), ("self", Value.ref x)] = _
    simp [List.lookup, e]
  have lkF : ([("self", Value.ref x), (f, v)] : List (Str × Value)).reverse.lookup f = some v := by
    show List.lookup f [(f, v), ("self", Value.ref x)] = _
    simp [List.lookup]
  have LM : ∀ {h : Heap}, K.In h → Looks (model prog w) h (mroOf (.ref C)) (.ref C :: bm) := fun {h} Y => (looks_clsIn Y hcl).andThen .now
  refine ks_wpAt_execs_cons ?_
  show _root_.PySem.wpAt _ _ _ (exec (.Expr (.Call (.Attribute (.Call (.Name "super" a1) [] [] a2) "__init__" a3) [.Name f a4] [] a5) a6) _) _ _ _
  refine ks_wpAt_Expr_any ?_
  refine ks_wpAt_MethodCall (pl := pl) ?_ (hev _)
  refine ks_wpAt_super_base T.lk1 T.lk2 (by decide) rfl (hk₁ _ _ (X _ _ ho)) rfl rfl rfl (X₁ _ _ hcode) rfl hvs hfile T.top ?_
  refine ks_loadName_global rfl T.lk1 (loadGlobal_builtin (M.glob.keeps kb₁) (mg_none_of M.kin M.glob T.sup) (hb1.keeps kb₁) ((hb2 _ (by decide)).trans (by kernel_rfl)) ⟨rfl, ?_⟩)
  refine wpAny_loadName_free rfl T.lk2 rfl ⟨_, X₁ _ _ hcell, rfl⟩ ?_
  refine wpAny_loadName_local rfl T.lk3 hns lkS ?_
  refine ks_wpAny_isType_cls hD1 hD2 ⟨rfl, ?_⟩
  refine ks_wpAny_call_super hD1 hD2 hx₁ rfl (fun c e => nomatch e) (looks_mroIn X₁ T.sub) (fun h2 e2 k2 => ?_)
  have X₂ : K.In h2 := X₁.keeps k2
  have hx₂ := k2 _ _ hx₁
  have LI : Looks (model prog w) h2 (isInstance (.ref x) (.type "ValueError")) true := (show InstAt h2 x (excO C t0) C none from ⟨hx₂, rfl, rfl, trivial⟩).type.andThen (looks_subIn X₂ T.veC)
  refine kxs_getMethod kxs_ValueError e2 (looks_opaque X₂ T.opq) (LM X₂) (ESX.drop_own C bm) X₂ hal LI hxC rfl ?_
  have k3 : ∀ b o, h₁.get? b = some o → (h2.push (kxs_mw "ValueError.__init__" x)).get? b = some o := fun b o e => Heap.get?_push_of_some _ (k2 b o e)
  have hns3 := hns.keeps k3
  refine kxs_callWith (i := "ValueError.__init__") (x := x) rfl (evalArgs_plain ?_)
  refine spliced_cons (wpAny_Name (wpAny_loadName_local rfl T.lk4 hns3 lkF ?_) T.nf.2)
  refine spliced_nil ⟨Heap.get?_push_at rfl rfl, ?_⟩
  refine sup_call (k3 _ _ (X₁ _ _ hC)) (k3 _ _ hx₁) (Heap.get?_push_at rfl rfl) (one_fits v) fun h4 t4 k4 hx4 => ?_
  have kx : ∀ b o, b ≠ x → h₁.get? b = some o → h4.get? b = some o := fun b o hb e => k4 b o hb (k3 b o e)
  have X₄ : K.In h4 := fun b o e => kx b o (fun z => by have y := M.kin _ _ e; rw [z, hnx] at y; cases y) (X₁ b o e)
  have hns4 : h4.Ns s.heap.objs.size (fun y => ([("self", Value.ref x), (f, v)] : List (Str × Value)).reverse.lookup y) := hns.at fun o e => kx _ o hsz e
  show _root_.PySem.wpAt _ _ _ (execs [.Assign [.Attribute (.Name "self" b1) f b2] (.Name f b3) b4] _) _ _ _
  refine wpAt_of_wpAny ?_
  refine wpAny_execs_cons (plainObj_wpAny_Assign_Attribute ?_)
  refine wpAny_Name (wpAny_loadName_local rfl T.lk4 hns4 lkF ?_) T.nf.2
  refine wpAny_Name (wpAny_loadName_local rfl T.lk3 hns4 lkS ?_) rfl
  refine set_plain X₄ (ox := excO C t4) (od := none) ⟨hx4, rfl, rfl, trivial⟩ T.sa ?_
  refine exc_osa X₄ hx4 hcl (show refsVE (.ref C :: bm) = true from hbm) rfl T.noN (fun h5 tk5 dx k5 dn dne hx5 hn5 => ?_)
  refine wpAny_execs_nil (hq h5 tk5 dx ⟨fun b o hb e => k5 b o hb (kx b o hb (hk₁ b o e)), ⟨t4, hx5⟩, ?_, dne, hn5⟩)
  have z1 : s.heap.objs.size < h4.objs.size := hns4.lt
  exact Nat.le_of_lt (Nat.lt_of_lt_of_le z1 dn)
theorem sup_made (T : SupC prog K C fI f q) (M : L2.Mod K mg base) (kb : ∀ b o, base.get? b = some o → s.heap.get? b = some o) {v : Value} (X : K.In s.heap) (hroom : A.depth + 1 < recursionLimit)
    (hq : ∀ h' tk e d, SupMade s.heap h' e C d f v → R (.ok (.ret (.ref e))) { s with heap := h', toks := tk }) :
    codeAny (model prog w) A (.call (.ref C) ⟨[v], []⟩) R s := by
  obtain ⟨nm, qn, N, bs, bm, sn, sub, ab, col, dd, k0, k1, k2, k3, k5, hC, hbm, hal⟩ := T.cls
  obtain ⟨hp, g, dr, tk, os⟩ := s
  have k : ∀ b o, hp.get? b = some o → ((hp.push (kdv_tup [v])).push (excO C hp.objs.size)).get? b = some o := fun b o e => Heap.get?_push_of_some _ (Heap.get?_push_of_some _ e)
  have hget : ((hp.push (kdv_tup [v])).push (excO C hp.objs.size)).get? (hp.objs.size + 1) = some (excO C hp.objs.size) := by heap_get
  have hnx : base.get? (hp.objs.size + 1) = none := by
    cases e : base.get? (hp.objs.size + 1) with
    | none => rfl
    | some o => exact absurd (Nat.lt_of_succ_lt (Heap.lt_size (kb _ _ e))) (Nat.lt_irrefl _)
  refine call_own F.excBase_ValueError (fun Y => refsVE_contains Y bm hbm) (X _ _ hC) (looks_findIn X T.iC) (fun self => bind_fn X self T.tC) (one_fits v) ?_
  refine sup_init (s := ⟨(hp.push (kdv_tup [v])).push (excO C hp.objs.size), g, dr, tk, os⟩) T M (fun b o e => k b o (kb b o e)) (X.keeps k) hget hnx hroom fun h' tk' dx ⟨k', ⟨t1, hx⟩, dn, dne, hns⟩ => ?_
  have old : ∀ b o, hp.get? b = some o → h'.get? b = some o := fun b o e => k' b o (Nat.ne_of_lt (Nat.lt_succ_of_lt (Heap.lt_size e))) (k b o e)
  have z : hp.objs.size + 1 + 1 ≤ dx := by
    have y := dn
    rw [Heap.size_push, Heap.size_push] at y
    exact y
  exact ⟨rfl, hq h' tk' (hp.objs.size + 1) dx ⟨old, Nat.le_succ _, ⟨_, _, hx, rfl, rfl, rfl, rfl⟩, Nat.le_trans (Nat.le_trans (Nat.le_succ _) (Nat.le_succ _)) z, dne, hns⟩⟩
end
end SupX
end PySem
namespace PW
open PySem PySem.Spec PyProof.Rows L2
theorem relO_one {f : Str} {v : V} {v' : Value} (r : RelV v v') (y : Str) : RelO (List.lookup y [(f, v)]) (if y = f then some v' else none) := by
  by_cases hw : y = f
  · subst hw
    rw [if_pos rfl, show List.lookup y [(y, v)] = some v by simp [List.lookup]]
    exact r
  · have qw : (y == f) = false := by simpa using hw
    rw [if_neg hw, show List.lookup y [(f, v)] = none by simp [List.lookup, qw]]
    trivial
section
variable {X : Cx} {C fI : Addr} {f q : Str}
/-- C(e), C an own error with the field f -/
def tMkSup (C : Addr) (f : Str) (ta : TA) : L2.St → Hp → XK → Prop := fun σ H Q => ta σ H fun vs H1 => ∃ v, vs = [v] ∧ ∀ d, H1 d = none → Q (.ref C) (some d) (upd H1 d (.xd [(f, v)]))
theorem pmk_sup {x : Str} {a : Expr} {ta : TA} {p pos : Pos} {k : Nat} (T : PySem.SupX.SupC X.prog X.K C fI f q) (gC : X.mg x = some (.ref C)) (hr : Room k X.A) (hg : Gl X x) (ha : PA X [a] ta) (hdb : (x == ("__debug__" : Str)) = false := by decide)
    (he : starEach (a :: []) X.env = (false, eval a X.env) :: starEach [] X.env := by rfl) (hpl : (backTo pos (starEach [] X.env)).any (·.1) = false := by rfl) :
    PMk X (.Call (.Name x p) [a] [] pos) (tMkSup C f ta) := by
  intro pins s σ H Q I h
  refine wpAny_Call_Name_kw (ld_glob I hg gC ?_ hdb)
  refine PySem.W.callWith_K (h₀ := X.base) I.ok.mod.kin T.kC (thn (ha.run pos pins s σ H _ I h) fun us s1 hh => ?_) he hpl
  obtain ⟨vs, H1, I1, r1, v, ev, q1⟩ := hh
  subst ev
  refine ⟨I1.kIn, ?_⟩
  cases r1 with
  | cons rv rn =>
    rename_i v' us'
    cases rn
    show wpAny _ _ (call (.ref C) [v']) _ _ _
    have kb := I1.bk
    obtain ⟨hp, g, dr, tk, os⟩ := s1
    refine wpAny_call (PySem.SupX.sup_made T I1.ok.mod kb I1.kIn (by have := hr.dp; omega) fun h' tk' e d M => ?_)
    show MkP X pins σ Q (.ref e) ⟨h', g, dr, tk', os⟩
    obtain ⟨oe, fv, hoe, hc, hd, hdat, h1⟩ := M.obj
    have hns := M.ns
    obtain ⟨G', g1, g2⟩ := restrict h' fun b => decide (b ≠ e)
    have gk : ∀ b, b ≠ e → G'.get? b = h'.get? b := fun b hb => g1 b (decide_eq_true hb)
    have ge : G'.get? e = none := g2 e (by simp)
    have old : ∀ b o, hp.get? b = some o → G'.get? b = some o := fun b o z => (gk b (Nat.ne_of_lt (Nat.lt_of_lt_of_le (Heap.lt_size z) M.new))).trans (M.keep b o z)
    have ob : ObjOk X.prog X.w (upd H1 d (.xd [(f, v)])) G' d (.xd [(f, v)]) := ⟨_, hns.at (fun o z => (gk d M.dne).trans z), fun y => relO_one rv y⟩
    have J : Inv X pins σ (upd H1 d (.xd [(f, v)])) ⟨G', g, dr, tk', os⟩ := I1.laid (t' := tk') old M.dbig ob
    refine ⟨e, oe, fv, ⟨G', g, dr, tk', os⟩, _, .ref C, some d, rfl, J, fun b o z => ?_, ge, hoe, ⟨hc, hd⟩, hdat, h1, ?_, rfl, I1.bare, raises_own T.exC T.tyC, q1 d (I1.hok.fresh M.dbig)⟩
    · by_cases hb : b = e
      · have z' : G'.get? b = some o := z
        rw [hb, ge] at z'
        cases z'
      · exact (gk b hb).symm.trans z
    · rw [upd_ne (Ne.symm M.dne)]
      exact I1.hok.fresh M.new
/-- raise C(e) -/
def tRaiseSup (C : Addr) (f : Str) (W : WX) (ta : TA) : TS := fun _ σ H => tMkSup C f ta σ H fun cls d H' => W cls d σ H'
theorem ps_raiseSup {x : Str} {a : Expr} {ta : TA} {W : WX} {p pos pos2 : Pos} {k : Nat} (hc : X.calm = true) (T : PySem.SupX.SupC X.prog X.K C fI f q) (gC : X.mg x = some (.ref C)) (hr : Room k X.A) (tk : Takes X W) (hg : Gl X x) (ha : PA X [a] ta)
    (hdb : (x == ("__debug__" : Str)) = false := by decide) (he : starEach (a :: []) X.env = (false, eval a X.env) :: starEach [] X.env := by rfl) (hpl : (backTo pos (starEach [] X.env)).any (·.1) = false := by rfl) :
    PS X (.Raise (some (.Call (.Name x p) [a] [] pos)) none pos2) (tRaiseSup C f W ta) := ps_raise hc tk (pmk_sup T gC hr hg ha hdb he hpl)
/-- isinstance(e, c), e the error that the suite holds, of the class D, its dict at dd -/
def rIsX (K : PySem.W.Frag) (D a : Addr) (cls : Value) (d : Option Addr) : List V → Hp → VK → Prop := fun xs H Q => ∃ (c : V) (cv : Value) (b : Bool) (dd : Addr) (fs : List (Str × V)), xs = [.ref a, c] ∧ cls = .ref D ∧ (∀ u, RelV c u → u = cv) ∧ PySem.W.kitOne K (.ref D) cv = some b ∧ d = some dd ∧ H dd = some (.xd fs) ∧ Q (.bl b) H
theorem call_isX {a D : Addr} {oe : Obj} {cls : Value} {d : Option Addr} {pn : List (Addr × Obj)} (C : ExcC X.K D) (hz : Zc cls d oe) (hf : ∃ vs, oe.data = .fields vs) : CallR (X.suite a ((a, oe) :: pn)) (.builtin "isinstance") (rIsX X.K D a cls d) := by
  intro pins s σ H xs us Q I r h
  obtain ⟨c, cv, b, dd, fs, rfl, ecl, hcv, e, ed, ha, q⟩ := h
  subst ecl
  cases r with
  | cons rx rr =>
    cases rr with
    | cons rt rr =>
      cases rr
      cases rx
      have ec := hcv _ rt
      subst ec ed
      obtain ⟨hget, _⟩ := I.pin (a, oe) (List.mem_append.mpr (.inl List.mem_cons_self))
      obtain ⟨vs, hv⟩ := hf
      have hx : ObjOk X.prog X.w H s.heap dd (.xd fs) := I.hok dd _ ha
      obtain ⟨mA, hns, hr⟩ := hx
      obtain ⟨od, ho, _⟩ := lookIn_ns hns
      have J : PySem.W.InstAt s.heap a oe D (some od) := ⟨hget, hz.1, by unfold PySem.W.notCls; rw [hv] <;> rfl, by rw [hz.2]; exact ho⟩
      have hcl : (PySem.W.clsIn X.K D).isSome = true := by
        obtain ⟨cd, hc, _⟩ := PySem.W.any_some C.hd
        rw [hc]
        rfl
      exact PySem.W.kia_one (PySem.W.kitx_exc (od := some od) hcl C.hg C.hk C.hs C.ha C.hn C.ht C.hm) I.kIn J e (fun z => nomatch z) fun tk => ⟨.bl b, H, I.kept (t' := tk) fun _ _ z => z, rfl, q⟩
end
/-! ### C(e, ..) whose __init__ may raise, within a try -/
section
variable {X : Cx} {CX : CXT} {k : Nat} {f C : Addr} {fd : FuncData} {ps : List Str} {sp : Sp} {dvs : List V} {ds : List Value} {E : L2.St → XK} {x : Str} {p pos : Pos} {e : Expr} {es : List Expr} {ta : TA}
def tMakeS (C : Addr) (sp : Sp) (E : L2.St → XK) (t : TA) : TE := fun σ H Q => t σ H fun vs H1 => ∀ x dx, H1 x = none → H1 dx = none → dx ≠ x →
  sp (.ref x :: (vs ++ [])) (upd (upd H1 dx (.own x)) x (.ins C dx [])) (fun v H2 => v = .non ∧ Q (.ref x) H2) (E σ)
theorem run_makeS {pins : List (Addr × Obj)} {σ : L2.St} {H : Hp} {s : Shared} {Q : VK} {us : List Value} {vs : List V} (M : Mk X.K C f) (F : FnOk X.prog X.w X.K X.mg X.base CX k f fd ps sp) (hr : Room (k + 1) X.A) (hb : Binds X.K fd ps ds) (hd : Vals dvs ds)
    (hx : PassesAt CX X σ (E σ)) (I : Inv X pins σ H s) (r : Vals vs us)
    (h : ∀ x dx, H x = none → H dx = none → dx ≠ x → sp (.ref x :: (vs ++ dvs)) (upd (upd H dx (.own x)) x (.ins C dx [])) (fun v H2 => v = .non ∧ Q (.ref x) H2) (E σ)) :
    wpAny (model X.prog X.w) X.A (call (.ref C) us) (EP X pins σ Q) X.xe s := by
  have r1 : Vals (vs ++ dvs) (us ++ ds) := r.append hd
  have hq := h (s.heap.objs.size + 1) s.heap.objs.size (I.hok.fresh (Nat.le_succ _)) (I.hok.fresh (Nat.le_refl _)) (Nat.ne_of_lt (Nat.lt_succ_self _))
  have I2 := Inv.made (C := C) I
  have r2 : Vals (V.ref (s.heap.objs.size + 1) :: (vs ++ dvs)) (Value.ref (s.heap.objs.size + 1) :: (us ++ ds)) := .cons rfl r1
  have hl : (Value.ref (s.heap.objs.size + 1) :: us ++ ds).length = ps.length := by
    have z := r2.length
    rw [F.len _ _ _ _ hq] at z
    exact z.symm
  refine wpAny_call (make_map (f := f) I.kIn M.makes M.init (beq_iff_eq.mp M.fn) (codeAny_mono (F.run _ X.stack _ _ ⟨Value.ref (s.heap.objs.size + 1) :: us, []⟩ (Value.ref (s.heap.objs.size + 1) :: (us ++ ds)) _ _ (E σ) (hr.make C us [])
    (I2.env0.make C us []) (hb _ (Value.ref (s.heap.objs.size + 1) :: us) I2.kIn hl) r2 hq) fun rr s' hq' => ?_))
  cases rr with
  | error er => exact hx pins _ _ er s' I2 hq'
  | ok fl =>
    cases fl with
    | ret u =>
      obtain ⟨v, H', I3, rv, ev, q3⟩ := I2.after hq'
      subst ev
      exact ⟨rv, ⟨V.ref (s.heap.objs.size + 1), H', I3, rfl, q3⟩⟩
    | next => exact False.elim hq'
    | brk => exact False.elim hq'
    | cont => exact False.elim hq'
theorem pe_makeS (M : Mk X.K C f) (F : FnOk X.prog X.w X.K X.mg X.base CX k f fd ps sp) (hr : Room (k + 1) X.A) (hg : Gl X x) (hm : X.mg x = some (.ref C)) (hb : Binds X.K fd ps []) (hx : ∀ σ, PassesAt CX X σ (E σ))
    (ha : PA X (e :: es) ta) (hdb : (x == ("__debug__" : Str)) = false := by decide) (he : starEach (e :: es) X.env = (false, eval e X.env) :: starEach es X.env := by rfl) (hpl : (backTo pos (starEach es X.env)).any (·.1) = false := by rfl) :
    PE X (.Call (.Name x p) (e :: es) [] pos) (tMakeS C sp E ta) := by
  refine ⟨fun pins s σ H Q I h => ?_⟩
  refine wpAny_Call_Name_kw (ld_glob I hg hm ?_ hdb)
  refine PySem.W.callWith_K (h₀ := X.base) I.ok.mod.kin M.kp (thn (ha.run pos pins s σ H _ I h) fun us s1 ⟨vs, H1, I1, r, z⟩ => ⟨I1.kIn, ?_⟩) he hpl
  exact run_makeS (dvs := []) (ds := []) M F hr hb .nil (hx σ) I1 r z
end
end PW
end
section
/-! PWHead: the head's facts with an own test beside them, and the facts of an error class with super().__init__ read off a part of the heap. -/
namespace PySem
namespace SupX
open PySem.W PySem.Calls PyProof.Rows PySem.HandSPX
def eqV (a b : Option (Option Value)) : Bool := decide (a = b)
def clsB (K : Frag) (C : Addr) : Bool := match K.lookup C with
  | some ⟨.type "type", _, .cls cd, sl⟩ => (match cd.mro, sl.toList with
    | .ref C' :: bm, [_, _, _, _, some (.builtin n), _] => ((C' == C && n == "ValueError.__new__") && (!cd.hasDel && cd.hasDict)) && (refsVE bm && eqV (alongIn K "__init__" bm) (some (some (.builtin "ValueError.__init__"))))
    | _, _ => false)
  | _ => false
theorem clsB_ok {K : Frag} {C : Addr} (q : clsB K C = true) : ∃ nm qn N bs bm sn sub ab col dd k0 k1 k2 k3 k5, K.lookup C = some (excClassObj nm qn C N bs bm true sn sub ab col dd k0 k1 k2 k3 k5 "ValueError.__new__") ∧ refsVE bm = true ∧ alongIn K "__init__" bm = some (some (.builtin "ValueError.__init__")) := by
  unfold clsB at q
  split at q
  · rename_i dd cd sl ho
    split at q
    · rename_i C' bm k0 k1 k2 k3 n k5 hm hs
      simp only [Bool.and_eq_true, beq_iff_eq, Bool.not_eq_true'] at q
      obtain ⟨⟨⟨rfl, rfl⟩, hdel, hdi⟩, hr, ha⟩ := q
      obtain ⟨nm, bs, mro, ns, qn, hd, sn, sub, ab, col, del⟩ := cd
      dsimp only at hm hdel hdi
      subst hm hdel hdi
      have hsl : sl = #[k0, k1, k2, k3, some (.builtin "ValueError.__new__"), k5] := by
        obtain ⟨l⟩ := sl
        simp only at hs
        rw [hs]
      subst hsl
      exact ⟨nm, qn, ns, bs, bm, sn, sub, ab, col, dd, k0, k1, k2, k3, k5, ho, hr, of_decide_eq_true ha⟩
    · cases q
  · cases q
/-- what a function object says, its cells by their names -/
abbrev FnY : Type := Option (Str × Str × Arguments × FuncBody × Scope × Addr × List Str × Addr)
def fnY (K : Frag) (f : Addr) : FnY := match K.lookup f with
  | some ⟨_, _, .func fd, _⟩ => some (fd.name, fd.qualname, fd.params, fd.body, fd.scope, fd.globals, fd.closure.map (·.1), fd.builtins)
  | _ => none
def fnB (K : Frag) (f C : Addr) (q file : Str) : Bool := match K.lookup f with
  | some ⟨_, _, .func fd, _⟩ => (match fd.defaults, fd.kwdefaults, fd.code, fd.closure with
    | .none, .none, .ref cda, [(_, cc)] => (codeIn K (.ref cda) q && (match K.lookup cda with
        | some ⟨_, _, .fields vs, _⟩ => (match (vs[2]? : Option Value) with
          | some (.str fl _) => decide (fl = file)
          | _ => false)
        | _ => false)) && (match K.lookup cc with
        | some ⟨_, _, .cell (some (.ref C')), _⟩ => decide (C' = C)
        | _ => false)
    | _, _, _, _ => false)
  | _ => false
theorem fnB_ok {K : Frag} {f C : Addr} {n q file : Str} {ps : Arguments} {body : List Stmt} {sc : Scope} (e : fnY K f = some (n, q, ps, FuncBody.stmts body, sc, mainGlobals, [("__class__" : Str)], builtinsNs)) (b : fnB K f C q file = true) :
    ∃ (oc : Value) (od : Option Addr) (doc pm : Value) (an : Option Addr) (cda : Addr) (ct : Value) (cc : Addr) (osl : Array (Option Value)) (ccl : Value) (cdd : Option Addr) (vs : Array Value) (ccs : Array (Option Value)) (tf : Tok) (cl : Value) (cld : Option Addr) (csl : Array (Option Value)),
      K.lookup f = some ⟨oc, od, .func (ksFn n q ps body sc .none .none doc pm an (.ref cda) ct cc), osl⟩ ∧ codeIn K (.ref cda) q = true ∧ K.lookup cda = some ⟨ccl, cdd, .fields vs, ccs⟩ ∧ vs[2]? = some (.str file tf) ∧ K.lookup cc = some ⟨cl, cld, .cell (some (.ref C)), csl⟩ := by
  unfold fnB at b
  unfold fnY at e
  split at b
  · rename_i oc od fd osl ho
    rw [ho] at e
    obtain ⟨n1, n2, n3, n4, n5, n6, n7, n8, n9, n10, n11, n12, n13, n14, n15⟩ := fd
    have e2 : (some (n1, n2, n3, n4, n5, n6, n7.map (·.1), n15) : FnY) = some (n, q, ps, FuncBody.stmts body, sc, mainGlobals, [("__class__" : Str)], builtinsNs) := e
    simp only [Option.some.injEq, Prod.mk.injEq] at e2
    obtain ⟨h1, h2, h3, h4, h5, h6, h7, h8⟩ := e2
    subst h1 h2 h3 h4 h5 h6 h8
    dsimp only at b
    split at b
    · rename_i cda x cc
      obtain ⟨b1, b2⟩ := Bool.and_eq_true_iff.mp b
      obtain ⟨b3, b4⟩ := Bool.and_eq_true_iff.mp b1
      have ex : x = ("__class__" : Str) := (List.cons.inj (show [x] = [("__class__" : Str)] from h7)).1
      subst ex
      split at b4
      · rename_i ccl cdd vs ccs hc
        split at b4
        · rename_i fl tf hv
          have ef : fl = file := of_decide_eq_true b4
          subst ef
          split at b2
          · rename_i cl cld C' csl hcc
            have eC : C' = C := of_decide_eq_true b2
            subst eC
            exact ⟨oc, od, _, _, _, _, _, _, osl, _, _, _, _, _, _, _, _, ho, b3, hc, hv, hcc⟩
          · cases b2
        · cases b4
      · cases b4
    · cases b
  · cases b
end SupX
end PySem
namespace HeX
open PySem PySem.Spec PyProof.Rows L2
abbrev AlX : Type := He.AlD × Bool × PySem.SupX.FnY
def asX (g : Addr → Option Obj) (n : Nat) : List Addr := He.asD g n ++ [cStatics]
section
variable (n : Nat) (fa : List He.Fa) (fn : List He.DefD) (xb : PySem.W.Frag → Bool) (xf : PySem.W.Frag → PySem.SupX.FnY) (xv : PySem.SupX.FnY)
def obsX (K : PySem.W.Frag) : AlX := (He.obsD fa fn K, xb K, xf K)
def obsXG (g : Addr → Option Obj) : AlX := obsX fa fn xb xf (He.frG g (asX g n))
def hookX : PySem.W.Hook where
  α := AlX
  obs := fun s => obsXG n fa fn xb xf s.heap.get?
  val := fun _ => (He.valD fn, true, xv)
  says := fun _ h => ∃ K : PySem.W.Frag, K.In h ∧ obsX fa fn xb xf K = (He.valD fn, true, xv)
  of := fun _ _ e => ⟨_, He.frG_in, e⟩
  keeps := fun _ _ _ ⟨K, hK, c⟩ k => ⟨K, PySem.W.Frag.In.keeps hK k, c⟩
end
theorem obsX_eq {n : Nat} {fa : List He.Fa} {fn : List He.DefD} {xb : PySem.W.Frag → Bool} {xf : PySem.W.Frag → PySem.SupX.FnY} {xv : PySem.SupX.FnY} {g : Addr → Option Obj} {s : Shared} (h : ∀ a, g a = s.heap.get? a) : obsXG n fa fn xb xf g = (hookX n fa fn xb xf xv).obs s := by
  have e : g = s.heap.get? := funext h
  rw [e] <;> rfl
end HeX
end
section
/-! PWHead3: a head's Hook as PWHead's, of the fragment without the table of one def. -/
namespace HeX
open PySem PySem.Spec PyProof.Rows L2
def tabAt (K : PySem.W.Frag) (fa : Addr) : Option Addr := match K.lookup fa with
  | some o => match o.data with
    | .func fd => match fd.code with
      | .ref c => match K.lookup c with
        | some oc => match oc.data with
          | .fields vs => match vs[11]? with
            | some (Value.ref P) => some P
            | _ => none
          | _ => none
        | none => none
      | _ => none
    | _ => none
  | none => none
theorem lookup_off {P a : Addr} {o : Obj} : ∀ {K : PySem.W.Frag}, (K.filter fun p => !(p.1 == P)).lookup a = some o → K.lookup a = some o
  | [], h => by cases h
  | (b, ob) :: K, h => by
    by_cases z : b = P
    · have e : ((b, ob) :: K).filter (fun p => !(p.1 == P)) = K.filter (fun p => !(p.1 == P)) := List.filter_cons_of_neg (by simp [z])
      rw [e] at h
      have ih := lookup_off h
      by_cases ab : a = b
      · exfalso
        have gone : ∀ {L : PySem.W.Frag}, (L.filter fun p => !(p.1 == P)).lookup P = none := fun {L} => by
          induction L with
          | nil => rfl
          | cons q L ih =>
            by_cases y : q.1 = P
            · rw [List.filter_cons_of_neg (by simp [y])]
              exact ih
            · rw [List.filter_cons_of_pos (by simp [y]), List.lookup_cons]
              rw [show (P == q.1) = false from beq_eq_false_iff_ne.mpr (Ne.symm y)]
              exact ih
        rw [ab, z, gone] at h
        cases h
      · rw [List.lookup_cons, show (a == b) = false from beq_eq_false_iff_ne.mpr ab]
        exact ih
    · have e : ((b, ob) :: K).filter (fun p => !(p.1 == P)) = (b, ob) :: K.filter (fun p => !(p.1 == P)) := List.filter_cons_of_pos (by simp [z])
      rw [e, List.lookup_cons] at h
      rw [List.lookup_cons]
      split at h
      · exact h
      · exact lookup_off h
/-- without the table of the def nm -/
def cutT (nm : Str) (K : PySem.W.Frag) : PySem.W.Frag := match tabAt K (He.ga K nm) with
  | some P => K.filter fun p => !(p.1 == P)
  | none => K
theorem cutT_in {nm : Str} {K : PySem.W.Frag} {h : Heap} (X : K.In h) : (cutT nm K).In h := fun a o e => by
  unfold cutT at e
  split at e
  · exact X a o (lookup_off e)
  · exact X a o e
section
variable (nm : Str) (n : Nat) (fa : List He.Fa) (fn : List He.DefD) (xb : PySem.W.Frag → Bool) (xf : PySem.W.Frag → PySem.SupX.FnY) (xv : PySem.SupX.FnY)
def obsTG (g : Addr → Option Obj) : AlX := obsX fa fn xb xf (cutT nm (He.frG g (asX g n)))
def hookT : PySem.W.Hook where
  α := AlX
  obs := fun s => obsTG nm n fa fn xb xf s.heap.get?
  val := fun _ => (He.valD fn, true, xv)
  says := fun _ h => ∃ K : PySem.W.Frag, K.In h ∧ obsX fa fn xb xf K = (He.valD fn, true, xv)
  of := fun _ _ e => ⟨_, cutT_in He.frG_in, e⟩
  keeps := fun _ _ _ ⟨K, hK, c⟩ k => ⟨K, PySem.W.Frag.In.keeps hK k, c⟩
end
theorem obsT_eq {nm : Str} {n : Nat} {fa : List He.Fa} {fn : List He.DefD} {xb : PySem.W.Frag → Bool} {xf : PySem.W.Frag → PySem.SupX.FnY} {xv : PySem.SupX.FnY} {g : Addr → Option Obj} {s : Shared} (h : ∀ a, g a = s.heap.get? a) : obsTG nm n fa fn xb xf g = (hookT nm n fa fn xb xf xv).obs s := by
  rw [show g = s.heap.get? from funext h]
  rfl
end HeX
end
section
/-! PWEnd2: the end of a law one of whose defs makes a lambda: that def's table is empty at the head's end. -/
namespace PW
open PySem PySem.Spec PyProof.Rows L2
/-- the def nm, its code object, its table -/
def TabOf (nm : Str) (mg : Str → Option Value) (h : Heap) : Prop := ∃ (a : Addr) (o : Obj) (fd : FuncData) (c P : Addr), mg nm = some (.ref a) ∧ h.get? a = some o ∧ o.data = .func fd ∧ fd.code = .ref c ∧ h.IsCode c P #[] ∧ h.TableAt c P #[]
theorem walk_tab {l : PySem.W.OpenLaw} {n k : Nat} {q : Program} {loose : List Str} {XP : (Str → Option Value) → Heap → Prop} {YP : World → Heap → Prop} {d : DefRec} {x : Str} (nm : Str) (hn : l.most = some n) (hn2 : n ≤ sizeLine) (hdf : d.params.defaults = []) (hr : Room k callerA)
    (hrec : ((recsOf q).any fun e => e.name == nm) = true)
    (F : ∀ (w : World) (mg : Str → Option Value) (fa : Addr) (h : Heap), YP w h → h.Ns mainGlobals mg → mg d.name = some (.ref fa) → TabOf nm mg h → ∃ K : PySem.W.Frag, K.In h ∧ LamX.LawAtS l w K C8.CX0 k n x mg fa h) :
    PySem.W.WalkO q loose XP YP l.row.toRowW d [] (fun f vs => PySem.call f vs) := by
  refine Att.attach_callB hn hdf fun w s0 s1 mg mb fa o pm cd doc a vs ns G Y ho hd hcd hmg hobj hints hlen hbits hg => ?_
  obtain ⟨dL, hm, e⟩ := List.any_eq_true.mp hrec
  have tb := G.T.tab dL hm
  rw [beq_iff_eq.mp e] at tb
  obtain ⟨K, KX, fd, cs, sp, t1, t2, t3, hb, hsp, hF⟩ := F w mg fa _ Y G.T.g hmg tb
  exact LamX.law_callTs KX G.T.g G.T.b G.T.builtins G.T.nolimit hg t1 t2 t3 G.T.bmain hobj hints (Nat.le_trans hlen hn2) hr hF hb (fun H hH hS => hsp H a ns hlen hbits hH hS) fun H e s' h => h.elim
/-- in the head's fragment: the table of the def at fa is not told -/
def tabFree (K : PySem.W.Frag) (fa : Addr) : Bool := match K.lookup fa with
  | some o => match o.data with
    | .func fd => match fd.code with
      | .ref c => match K.lookup c with
        | some oc => match oc.data with
          | .fields vs => match vs[11]? with
            | some (Value.ref P) => (K.lookup P).isNone
            | _ => false
          | _ => false
        | none => false
      | _ => false
    | _ => false
  | none => false
theorem tabFree_ok {K : PySem.W.Frag} {h : Heap} {fa c P : Addr} {o : Obj} {fd : FuncData} (hb : tabFree K fa = true) (KX : K.In h) (h1 : h.get? fa = some o) (h2 : o.data = .func fd) (h3 : fd.code = .ref c) (h4 : h.TableAt c P #[]) : K.lookup P = none := by
  unfold tabFree at hb
  cases k1 : K.lookup fa with
  | none => rw [k1] at hb; cases hb
  | some o1 =>
    rw [k1] at hb
    have e1 := KX _ _ k1
    rw [h1] at e1
    have e1 := Option.some.inj e1
    rw [← e1] at hb
    simp only [h2, h3] at hb
    cases k2 : K.lookup c with
    | none => rw [k2] at hb; cases hb
    | some oc =>
      rw [k2] at hb
      obtain ⟨⟨o2, vs, g1, _, g3, g4⟩, _⟩ := h4
      have e2 := KX _ _ k2
      rw [g1] at e2
      have e2 := Option.some.inj e2
      rw [← e2] at hb
      simp only [g3, g4] at hb
      exact Option.isNone_iff_eq_none.mp hb
end PW
end
section
namespace LawK54
open PySem PySem.Spec PyProof.Rows L2 C8
def top (i : Nat) : Stmt := PySem.Challenge.pw_strangerspost_k54_whole_needed_clauses.main.body.getD i (.Pass ⟨0, 0, 0, 0⟩)
abbrev s_is_integer : Stmt := top 1
abbrev s_is_within : Stmt := top 2
abbrev s_is_tuple_of : Stmt := top 3
abbrev s_is_fact : Stmt := top 20
abbrev s_is_clause : Stmt := top 21
abbrev s_is_ground : Stmt := top 22
abbrev s_bad_part : Stmt := top 23
abbrev s_law_draw : Stmt := top 36
abbrev s_law_any : Stmt := top 37
abbrev s_law_fact : Stmt := top 39
abbrev s_law_pool : Stmt := top 40
abbrev s_law_parts : Stmt := top 41
abbrev s_law_ground_facts : Stmt := top 43
abbrev s_law_asked : Stmt := top 44
abbrev s_law_lot : Stmt := top 45
abbrev s_Rule_init : Stmt := inClass (top 25) 0
abbrev s_Rule_users : Stmt := inClass (top 25) 3
abbrev s_unlike : Stmt := top 24
abbrev s_check_fact : Stmt := top 26
abbrev s_check_lot : Stmt := top 27
abbrev s_ground_facts : Stmt := top 28
abbrev s_Spread_init : Stmt := inClass (top 29) 0
abbrev s_Spread_met : Stmt := inClass (top 29) 1
abbrev s_Spread_drawn : Stmt := inClass (top 29) 2
abbrev s_spread : Stmt := top 30
abbrev s_led_from : Stmt := top 31
abbrev s_reasons : Stmt := top 32
abbrev s_needed : Stmt := top 33
abbrev s_law_hand : Stmt := top 35
abbrev s_law_is : Stmt := top 38
abbrev s_law_made : Stmt := top 42
abbrev s_law_rounds : Stmt := top 46
abbrev s_law_main : Stmt := top 47
end LawK54
end
section
set_option maxHeartbeats 0
namespace LawK54
open PySem PySem.Spec PyProof.Rows L2 C8
def s_BadRule_init : Stmt := inClass (top 6) 0
def hfa0 : List He.Fa := [.free "all", .free "bool", .free "enumerate", .free "int", .free "isinstance", .free "len", .free "list", .free "range", .free "str", .free "tuple", .free "super", .free "sorted", .free "zip", .free "abs", .int "MOST_BODY" 4, .int "MOST_CLAUSES" 20000, .int "MOST_FACTS" 5000, .int "MOST_GROUNDS" 60, .int "MOST_NUMBER" 999999999999, .int "MOST_PLACES" 4, .int "MOST_SIGNS" 12, .str "GROUND" "ground", .str "LETTERS" "abcdefghijklmnopqrstuvwxyz", .str "CLAUSE" "clause", .glo "is_integer"]
def hfa1 : List He.Fa := [.glo "is_within", .glo "is_tuple_of", .glo "is_fact", .glo "is_clause", .glo "is_ground", .glo "bad_part", .glo "_law_draw", .glo "_law_any", .glo "_law_fact", .glo "_law_pool", .glo "_law_parts", .glo "_law_ground_facts", .glo "_law_asked", .glo "_law_lot", .glo "unlike", .glo "check_fact", .glo "check_lot", .glo "ground_facts", .glo "spread", .glo "led_from", .glo "reasons", .glo "needed", .glo "_law_hand", .glo "_law_is", .glo "_law_made"]
def hfa2 : List He.Fa := [.glo "_law_rounds", .glo "law", .glo "Rule", .glo "BadRule", .glo "PostError", .glo "NoLot", .glo "NoFact", .glo "Spread", .cls "Rule", .mkr "Rule", .cls "Spread", .mkr "Spread", .noat "Rule" "clauses", .noat "Rule" "grounds", .noat "Spread" "rule", .noat "Spread" "left_out", .noat "Spread" "found", .noat "Spread" "wanting", .meth "Rule" "users", .meth "Spread" "met", .meth "Spread" "drawn"]
def hfa : List He.Fa := hfa0 ++ hfa1 ++ hfa2
def hd0 : He.DefD := ⟨(("is_integer" : Str), (none : Option Str)), "is_integer", "is_integer", defArgs s_is_integer, defBody s_is_integer, defScope s_is_integer, [], []⟩
def hd1 : He.DefD := ⟨(("is_within" : Str), (none : Option Str)), "is_within", "is_within", defArgs s_is_within, defBody s_is_within, defScope s_is_within, [], []⟩
def hd2 : He.DefD := ⟨(("is_tuple_of" : Str), (none : Option Str)), "is_tuple_of", "is_tuple_of", defArgs s_is_tuple_of, defBody s_is_tuple_of, defScope s_is_tuple_of, [], []⟩
def hd3 : He.DefD := ⟨(("is_fact" : Str), (none : Option Str)), "is_fact", "is_fact", defArgs s_is_fact, defBody s_is_fact, defScope s_is_fact, [], []⟩
def hd4 : He.DefD := ⟨(("is_clause" : Str), (none : Option Str)), "is_clause", "is_clause", defArgs s_is_clause, defBody s_is_clause, defScope s_is_clause, [], []⟩
def hd5 : He.DefD := ⟨(("is_ground" : Str), (none : Option Str)), "is_ground", "is_ground", defArgs s_is_ground, defBody s_is_ground, defScope s_is_ground, [], []⟩
def hd6 : He.DefD := ⟨(("bad_part" : Str), (none : Option Str)), "bad_part", "bad_part", defArgs s_bad_part, defBody s_bad_part, defScope s_bad_part, [], []⟩
def hd7 : He.DefD := ⟨(("_law_draw" : Str), (none : Option Str)), "_law_draw", "_law_draw", defArgs s_law_draw, defBody s_law_draw, defScope s_law_draw, [], []⟩
def hd8 : He.DefD := ⟨(("_law_any" : Str), (none : Option Str)), "_law_any", "_law_any", defArgs s_law_any, defBody s_law_any, defScope s_law_any, [], []⟩
def hd9 : He.DefD := ⟨(("_law_fact" : Str), (none : Option Str)), "_law_fact", "_law_fact", defArgs s_law_fact, defBody s_law_fact, defScope s_law_fact, [], []⟩
def hd10 : He.DefD := ⟨(("_law_pool" : Str), (none : Option Str)), "_law_pool", "_law_pool", defArgs s_law_pool, defBody s_law_pool, defScope s_law_pool, [], []⟩
def hd11 : He.DefD := ⟨(("_law_parts" : Str), (none : Option Str)), "_law_parts", "_law_parts", defArgs s_law_parts, defBody s_law_parts, defScope s_law_parts, [], []⟩
def hd12 : He.DefD := ⟨(("_law_ground_facts" : Str), (none : Option Str)), "_law_ground_facts", "_law_ground_facts", defArgs s_law_ground_facts, defBody s_law_ground_facts, defScope s_law_ground_facts, [], []⟩
def hd13 : He.DefD := ⟨(("_law_asked" : Str), (none : Option Str)), "_law_asked", "_law_asked", defArgs s_law_asked, defBody s_law_asked, defScope s_law_asked, [], []⟩
def hd14 : He.DefD := ⟨(("_law_lot" : Str), (none : Option Str)), "_law_lot", "_law_lot", defArgs s_law_lot, defBody s_law_lot, defScope s_law_lot, [], []⟩
def hd15 : He.DefD := ⟨(("unlike" : Str), (none : Option Str)), "unlike", "unlike", defArgs s_unlike, defBody s_unlike, defScope s_unlike, [], []⟩
def hd16 : He.DefD := ⟨(("check_fact" : Str), (none : Option Str)), "check_fact", "check_fact", defArgs s_check_fact, defBody s_check_fact, defScope s_check_fact, [], []⟩
def hd17 : He.DefD := ⟨(("check_lot" : Str), (none : Option Str)), "check_lot", "check_lot", defArgs s_check_lot, defBody s_check_lot, defScope s_check_lot, [], []⟩
def hd18 : He.DefD := ⟨(("ground_facts" : Str), (none : Option Str)), "ground_facts", "ground_facts", defArgs s_ground_facts, defBody s_ground_facts, defScope s_ground_facts, [], []⟩
def hd19 : He.DefD := ⟨(("spread" : Str), (none : Option Str)), "spread", "spread", defArgs s_spread, defBody s_spread, defScope s_spread, [], []⟩
def hd20 : He.DefD := ⟨(("led_from" : Str), (none : Option Str)), "led_from", "led_from", defArgs s_led_from, defBody s_led_from, defScope s_led_from, [], []⟩
def hd21 : He.DefD := ⟨(("reasons" : Str), (none : Option Str)), "reasons", "reasons", defArgs s_reasons, defBody s_reasons, defScope s_reasons, [], []⟩
def hd22 : He.DefD := ⟨(("needed" : Str), (none : Option Str)), "needed", "needed", defArgs s_needed, defBody s_needed, defScope s_needed, [], []⟩
def hd23 : He.DefD := ⟨(("_law_hand" : Str), (none : Option Str)), "_law_hand", "_law_hand", defArgs s_law_hand, defBody s_law_hand, defScope s_law_hand, [], []⟩
def hd24 : He.DefD := ⟨(("_law_is" : Str), (none : Option Str)), "_law_is", "_law_is", defArgs s_law_is, defBody s_law_is, defScope s_law_is, [], []⟩
def hd25 : He.DefD := ⟨(("_law_made" : Str), (none : Option Str)), "_law_made", "_law_made", defArgs s_law_made, defBody s_law_made, defScope s_law_made, [], []⟩
def hd26 : He.DefD := ⟨(("_law_rounds" : Str), (none : Option Str)), "_law_rounds", "_law_rounds", defArgs s_law_rounds, defBody s_law_rounds, defScope s_law_rounds, [], []⟩
def hd27 : He.DefD := ⟨(("law" : Str), (none : Option Str)), "law", "law", defArgs s_law_main, defBody s_law_main, defScope s_law_main, [], []⟩
def hd28 : He.DefD := ⟨(("Rule" : Str), some ("__init__" : Str)), "__init__", "Rule.__init__", defArgs s_Rule_init, defBody s_Rule_init, defScope s_Rule_init, [], []⟩
def hd29 : He.DefD := ⟨(("Rule" : Str), some ("users" : Str)), "users", "Rule.users", defArgs s_Rule_users, defBody s_Rule_users, defScope s_Rule_users, [], []⟩
def hd30 : He.DefD := ⟨(("Spread" : Str), some ("__init__" : Str)), "__init__", "Spread.__init__", defArgs s_Spread_init, defBody s_Spread_init, defScope s_Spread_init, [], []⟩
def hd31 : He.DefD := ⟨(("Spread" : Str), some ("met" : Str)), "met", "Spread.met", defArgs s_Spread_met, defBody s_Spread_met, defScope s_Spread_met, [], []⟩
def hd32 : He.DefD := ⟨(("Spread" : Str), some ("drawn" : Str)), "drawn", "Spread.drawn", defArgs s_Spread_drawn, defBody s_Spread_drawn, defScope s_Spread_drawn, [], []⟩
def hfn : List He.DefD := [hd0, hd1, hd2, hd3, hd4, hd5, hd6, hd7, hd8, hd9, hd10, hd11, hd12, hd13, hd14, hd15, hd16, hd17, hd18, hd19, hd20, hd21, hd22, hd23, hd24, hd25, hd26, hd27, hd28, hd29, hd30, hd31, hd32]
def xbs (K : PySem.W.Frag) : List Bool := [PySem.SupX.clsB K (He.ga K "BadRule"),
  PySem.SupX.fnB K (He.ma K (He.ga K "BadRule") "__init__") (He.ga K "BadRule") "BadRule.__init__" "/claim/cut.py",
  PySem.SupX.eqV (PySem.W.findIn K (.ref (He.ga K "BadRule")) "__setattr__") (some (some (.builtin "object.__setattr__"))),
  PySem.SupX.eqV (PySem.W.findIn K (.ref (He.ga K "BadRule")) "__getattribute__") (some (some (.builtin "BaseException.__getattribute__"))),
  PySem.SupX.eqV (PySem.W.findIn K (.ref (He.ga K "BadRule")) "__getattr__") (some none),
  PySem.SupX.eqV (PySem.W.findIn K (.ref (He.ga K "BadRule")) "part") (some none),
  PySem.SupX.eqV (PySem.W.findIn K (.ref (He.ga K "BadRule")) "__init__") (some (some (.ref (He.ma K (He.ga K "BadRule") "__init__")))),
  decide (PySem.W.typeIn K (.ref (He.ma K (He.ga K "BadRule") "__init__")) = some (.type "function")),
  PySem.W.keepIn K (.ref (He.ga K "BadRule")),
  decide (PySem.W.subIn K (.ref (He.ga K "BadRule")) (.type "BaseException") = some true),
  decide (PySem.W.subIn K (.ref (He.ga K "BadRule")) (.type "ValueError") = some true),
  decide (PySem.W.mroIn K (He.ga K "BadRule") (.ref (He.ga K "BadRule")) = some true),
  decide (PySem.W.typeIn K (.ref (He.ga K "BadRule")) = some (.type "type")),
  PySem.W.hasDictIn K (He.ga K "BadRule"),
  decide (PySem.W.exmOne K (.ref (He.ga K "BadRule")) (.ref (He.ga K "BadRule")) = some true),
  PySem.SupX.eqV (PySem.W.nsIn K mainGlobals "super") (some none),
  PySem.SupX.eqV (PySem.W.nsIn K cStatics "thirdparty.any") (some none),
  PySem.SupX.eqV (PySem.W.findIn K (.ref (He.ga K "BadRule")) "__class__") (some (some (.builtin "object.__class__"))),
  PySem.SupX.eqV (PySem.W.specialIn K (.builtin "object.__class__") "__get__") (some (some (.builtin "getset_descriptor.__get__"))),
  decide (PySem.W.takesIn K (.builtin "object.__class__") = some true),
  decide (PySem.W.mroIn K (He.ga K "BadRule") (.type "object") = some true),
  PySem.SupX.eqV (PySem.W.findIn K (.ref (He.ga K "Rule")) "__class__") (some (some (.builtin "object.__class__"))),
  decide (PySem.W.mroIn K (He.ga K "Rule") (.type "object") = some true),
  PW.tabFree K (He.ga K "led_from")]
def xb (K : PySem.W.Frag) : Bool := (xbs K).all id
theorem xb_at {K : PySem.W.Frag} (h : xb K = true) (i : Nat) {b : Bool} (e : (xbs K)[i]? = some b) : b = true := List.all_eq_true.mp h b (List.mem_of_getElem? e)
def xf (K : PySem.W.Frag) : PySem.SupX.FnY := PySem.SupX.fnY K (He.ma K (He.ga K "BadRule") "__init__")
def xv : PySem.SupX.FnY := some (("__init__" : Str), ("BadRule.__init__" : Str), defArgs s_BadRule_init, .stmts (defBody s_BadRule_init), defScope s_BadRule_init, mainGlobals, [("__class__" : Str)], builtinsNs)
def loose0 : List PySem.Str := ["is_integer", "is_within", "is_tuple_of", "PostError", "BadRule", "NoLot", "NoFact", "MOST_SIGNS", "MOST_PLACES", "MOST_NUMBER", "MOST_BODY", "MOST_CLAUSES", "MOST_GROUNDS", "MOST_FACTS", "LETTERS", "GROUND", "CLAUSE", "is_fact", "is_clause", "is_ground"]
def loose1 : List PySem.Str := ["bad_part", "unlike", "Rule", "check_fact", "check_lot", "ground_facts", "Spread", "spread", "reasons", "needed", "_law_hand", "_law_draw", "_law_any", "_law_is", "_law_fact", "_law_pool", "_law_parts", "_law_made", "_law_ground_facts", "_law_asked"]
def loose2 : List PySem.Str := ["_law_lot", "_law_rounds"]
def loose : List PySem.Str := loose0 ++ loose1 ++ loose2
abbrev hR : PySem.W.OpenRow := PySem.W.OpenLaw.row PySem.Challenge.rw_strangerspost_k54_whole_needed_clauses
abbrev hP : Program := PySem.Challenge.rw_strangerspost_k54_whole_needed_clauses.prog
abbrev hk : PySem.W.Hook := HeX.hookT "led_from" 4 hfa hfn xb xf xv
def hobs (s : PySem.W.SharedT) : HeX.AlX := HeX.obsTG "led_from" 4 hfa hfn xb xf (HandSHeadRun.getT s)
theorem hobs_eq (s : PySem.W.SharedT) : hobs s = hk.obs s.abs := HeX.obsT_eq (HandSHeadRun.getT_eq s)
theorem run (w : World) : HandSHeadRun.RunEq hR (PySem.W.view hR.prog [31, 47]) hk hobs 12000 loose w := by
  intro os
  kernel_rfl
end LawK54
section
open PySem PySem.W PySem.Calls PyProof.Rows
theorem LawK54.holds_of (go : ∀ (w : World) (K : PySem.W.Frag) (mg : Str → Option Value) (h : Heap) (fa : Addr), K.In h → h.Ns mainGlobals mg → HeX.obsX LawK54.hfa LawK54.hfn LawK54.xb LawK54.xf K = (He.valD LawK54.hfn, true, LawK54.xv) → mg ("law" : PySem.Str) = some (.ref fa) → PW.TabOf "led_from" mg h →
    LamX.LawAtS PySem.Challenge.rw_strangerspost_k54_whole_needed_clauses w K C8.CX0 14 63 "script" mg fa h) : PySem.Challenge.rw_strangerspost_k54_whole_needed_clauses.Holds := by
  w_on; o_law
  refine HandSHeadRun.head_any (r := OpenLaw.row PySem.Challenge.rw_strangerspost_k54_whole_needed_clauses) (q := view (OpenLaw.row PySem.Challenge.rw_strangerspost_k54_whole_needed_clauses).prog [31, 47]) (H := LawK54.hk) (ob := LawK54.hobs) (M := 12000) (loose := LawK54.loose) (d := HandSHeadRun.topDef (OpenLaw.row PySem.Challenge.rw_strangerspost_k54_whole_needed_clauses).prog 47) (kwd := []) LawK54.hobs_eq
    (by kernel_rfl) (fun s => by kernel_rfl) LawK54.run (by kernel_rfl) (by kernel_rfl) (by kernel_rfl) (by rfl) (by first | assumption | decide +kernel) (by decide +kernel) ⟨rfl, rfl, rfl, rfl, rfl, by decide +kernel⟩ ?hw ?hc
  case hw => w_witness2
  case hc =>
    refine PW.walk_tab (l := PySem.Challenge.rw_strangerspost_k54_whole_needed_clauses) (n := 63) (k := 14) (x := "script") "led_from" rfl (by decide) (by kernel_rfl) ⟨rfl, by decide, by decide⟩ (by kernel_rfl) ?F
    intro w mg fa h Y G hmg0 tb
    obtain ⟨K, KX, c⟩ := Y
    have hmg : mg ("law" : PySem.Str) = some (.ref fa) := by
      have e : (HandSHeadRun.topDef (OpenLaw.row PySem.Challenge.rw_strangerspost_k54_whole_needed_clauses).prog 47).name = ("law" : PySem.Str) := by kernel_rfl
      rw [← e]
      exact hmg0
    exact ⟨K, KX, go w K mg h fa KX G c hmg tb⟩
end
end
section
/-! PW: a layer of my own over the hand layer: plain data, environments of data, judgements in continuation style. -/
namespace PW
open PySem PySem.Spec PyProof.Rows L2

/-! ### plain data -/
inductive D where
  | non | bl (b : Bool) | int (i : Int) | str (x : Str)
  | tup (xs : List D) | lst (xs : List D) | emp
  | obj (C : Addr) (ns : List Str) (xs : List D)
  | dct (ks : List (List Key)) (xs : List D)

/-- a list | a tuple that is read, at no hot address -/
def ColdL (M : Addr → Prop) (K : PySem.W.Frag) (H : Hp) (a : Addr) (xs : List V) : Prop := ¬ M a ∧ H a = some (.lst xs)
def ColdT (M : Addr → Prop) (K : PySem.W.Frag) (H : Hp) (a : Addr) (xs : List V) : Prop := ¬ M a ∧ H a = some (.tup xs)

mutual
/-- in the heap H the value v is the data d, none of it at a hot address -/
def Da (M : Addr → Prop) (K : PySem.W.Frag) (H : Hp) (v : V) : D → Prop
  | .non => v = .non
  | .bl b => v = .bl b
  | .int i => v = .int i
  | .str x => v = .str x
  | .tup ds => ∃ a vs, v = .ref a ∧ ColdT M K H a vs ∧ DaAll M K H vs ds
  | .lst ds => ∃ a vs, v = .ref a ∧ ColdL M K H a vs ∧ DaAll M K H vs ds
  | .emp => ∃ a, v = .ref a ∧ ¬ M a ∧ H a = some (.dK [])
  | .obj C ns ds => ∃ a dx fs, v = .ref a ∧ ¬ M a ∧ H a = some (.ins C dx fs) ∧ fs.map (·.1) = ns ∧ DaAll M K H (fs.map (·.2)) ds
  | .dct ks ds => ∃ a kvs, v = .ref a ∧ ¬ M a ∧ H a = some (.dT kvs) ∧ kvs.map (·.1) = ks ∧ DaAll M K H (kvs.map (·.2)) ds
def DaAll (M : Addr → Prop) (K : PySem.W.Frag) (H : Hp) (vs : List V) : List D → Prop
  | [] => vs = []
  | d :: ds => ∃ v r, vs = v :: r ∧ Da M K H v d ∧ DaAll M K H r ds
end

section
variable {M M' : Addr → Prop} {K : PySem.W.Frag} {H H' : Hp} {a p : Addr} {xs : List V} {v : V} {vs : List V} {d : D} {ds : List D}
theorem ColdL.sq (h : ColdL M K H a xs) : SqL K H a xs := SqL.of h.2
theorem ColdT.sq (h : ColdT M K H a xs) : SqT K H a xs := SqT.of h.2
theorem rd_mono {u : HO} (h : Rd H a u) (g : ∀ o, H a = some o → H' a = some o) : Rd H' a u := by
  rcases h with h | ⟨o, h⟩
  · exact .inl (g _ h)
  · exact .inr ⟨o, g _ h⟩
theorem rd_some {u : HO} (h : Rd H a u) : H a ≠ none := by
  rcases h with h | ⟨o, h⟩ <;> (rw [h]; exact fun e => nomatch e)
theorem ColdL.mono (h : ColdL M K H a xs) (g : ∀ b o, ¬ M b → H b = some o → ¬ M' b ∧ H' b = some o) : ColdL M' K H' a xs := g a _ h.1 h.2
theorem ColdT.mono (h : ColdT M K H a xs) (g : ∀ b o, ¬ M b → H b = some o → ¬ M' b ∧ H' b = some o) : ColdT M' K H' a xs := g a _ h.1 h.2
mutual
theorem Da.mono : ∀ {d : D} {v : V}, Da M K H v d → (∀ b o, ¬ M b → H b = some o → ¬ M' b ∧ H' b = some o) → Da M' K H' v d
  | .non, _, h, _ => h
  | .bl _, _, h, _ => h
  | .int _, _, h, _ => h
  | .str _, _, h, _ => h
  | .tup ds, _, h, g => by
    obtain ⟨a, vs, e, h1, h2⟩ := h
    exact ⟨a, vs, e, h1.mono g, DaAll.mono h2 g⟩
  | .lst ds, _, h, g => by
    obtain ⟨a, vs, e, h1, h2⟩ := h
    exact ⟨a, vs, e, h1.mono g, DaAll.mono h2 g⟩
  | .emp, _, h, g => by
    obtain ⟨a, e, h1, h2⟩ := h
    exact ⟨a, e, (g a _ h1 h2).1, (g a _ h1 h2).2⟩
  | .obj C ns ds, _, h, g => by
    obtain ⟨a, dx, fs, e, h1, h2, h3, h4⟩ := h
    exact ⟨a, dx, fs, e, (g a _ h1 h2).1, (g a _ h1 h2).2, h3, DaAll.mono h4 g⟩
  | .dct ks ds, _, h, g => by
    obtain ⟨a, kvs, e, h1, h2, h3, h4⟩ := h
    exact ⟨a, kvs, e, (g a _ h1 h2).1, (g a _ h1 h2).2, h3, DaAll.mono h4 g⟩
theorem DaAll.mono : ∀ {ds : List D} {vs : List V}, DaAll M K H vs ds → (∀ b o, ¬ M b → H b = some o → ¬ M' b ∧ H' b = some o) → DaAll M' K H' vs ds
  | [], _, h, _ => h
  | d :: ds, _, h, g => by
    obtain ⟨v, r, e, h1, h2⟩ := h
    exact ⟨v, r, e, Da.mono h1 g, DaAll.mono h2 g⟩
end
theorem DaAll.length : ∀ {ds : List D} {vs : List V}, DaAll M K H vs ds → vs.length = ds.length
  | [], _, h => by
    rw [show _ = [] from h] <;> rfl
  | d :: ds, _, h => by
    obtain ⟨v, r, e, _, h2⟩ := h
    rw [e, List.length_cons, List.length_cons, DaAll.length h2]
theorem DaAll.append : ∀ {ds es : List D} {vs ws : List V}, DaAll M K H vs ds → DaAll M K H ws es → DaAll M K H (vs ++ ws) (ds ++ es)
  | [], _, _, _, h, g => by
    rw [show _ = [] from h]
    exact g
  | d :: ds, es, _, ws, h, g => by
    obtain ⟨v, r, e, h1, h2⟩ := h
    rw [e]
    exact ⟨v, r ++ ws, rfl, h1, DaAll.append h2 g⟩
theorem DaAll.get : ∀ {ds : List D} {vs : List V} {i : Nat} {v : V}, DaAll M K H vs ds → vs[i]? = some v → ∃ d, ds[i]? = some d ∧ Da M K H v d
  | [], _, _, _, h, e => by
    rw [show _ = [] from h] at e
    cases e
  | d :: ds, _, 0, _, h, e => by
    obtain ⟨v, r, e1, h1, h2⟩ := h
    rw [e1] at e
    cases e
    exact ⟨d, rfl, h1⟩
  | d :: ds, _, i + 1, _, h, e => by
    obtain ⟨v, r, e1, h1, h2⟩ := h
    rw [e1] at e
    exact DaAll.get (i := i) h2 e
theorem DaAll.at : ∀ {ds : List D} {vs : List V} {i : Nat} {d : D}, DaAll M K H vs ds → ds[i]? = some d → ∃ v, vs[i]? = some v ∧ Da M K H v d
  | [], _, _, _, h, e => by cases e
  | d :: ds, _, 0, _, h, e => by
    obtain ⟨v, r, e1, h1, h2⟩ := h
    cases e
    exact ⟨v, by rw [e1]; rfl, h1⟩
  | d :: ds, _, i + 1, _, h, e => by
    obtain ⟨v, r, e1, h1, h2⟩ := h
    obtain ⟨w, q1, q2⟩ := DaAll.at (i := i) h2 e
    exact ⟨w, by rw [e1]; exact q1, q2⟩
theorem DaAll.set : ∀ {ds : List D} {vs : List V} {i : Nat} {v : V} {d : D}, DaAll M K H vs ds → Da M K H v d → DaAll M K H (vs.set i v) (ds.set i d)
  | [], _, _, _, _, h, _ => by
    rw [show _ = [] from h]
    exact rfl
  | d :: ds, _, 0, v, e, h, g => by
    obtain ⟨w, r, e1, h1, h2⟩ := h
    rw [e1]
    exact ⟨v, r, rfl, g, h2⟩
  | d :: ds, _, i + 1, v, e, h, g => by
    obtain ⟨w, r, e1, h1, h2⟩ := h
    rw [e1]
    exact ⟨w, r.set i v, rfl, h1, DaAll.set h2 g⟩
theorem DaAll.drop : ∀ {ds : List D} {vs : List V} (n : Nat), DaAll M K H vs ds → DaAll M K H (vs.drop n) (ds.drop n)
  | _, _, 0, h => h
  | [], _, _ + 1, h => by
    rw [show _ = [] from h]
    exact rfl
  | d :: ds, _, n + 1, h => by
    obtain ⟨w, r, e1, h1, h2⟩ := h
    rw [e1]
    exact DaAll.drop n h2
theorem DaAll.take : ∀ {ds : List D} {vs : List V} (n : Nat), DaAll M K H vs ds → DaAll M K H (vs.take n) (ds.take n)
  | _, _, 0, h => rfl
  | [], _, _ + 1, h => by
    rw [show _ = [] from h]
    exact rfl
  | d :: ds, _, n + 1, h => by
    obtain ⟨w, r, e1, h1, h2⟩ := h
    rw [e1]
    exact ⟨w, _, rfl, h1, DaAll.take n h2⟩
theorem DaAll.eraseIdx : ∀ {ds : List D} {vs : List V} (n : Nat), DaAll M K H vs ds → DaAll M K H (vs.eraseIdx n) (ds.eraseIdx n)
  | [], _, _, h => by
    rw [show _ = [] from h]
    exact rfl
  | d :: ds, _, 0, h => by
    obtain ⟨w, r, e1, h1, h2⟩ := h
    rw [e1]
    exact h2
  | d :: ds, _, n + 1, h => by
    obtain ⟨w, r, e1, h1, h2⟩ := h
    rw [e1]
    exact ⟨w, _, rfl, h1, DaAll.eraseIdx n h2⟩
theorem DaAll.reverse : ∀ {ds : List D} {vs : List V}, DaAll M K H vs ds → DaAll M K H vs.reverse ds.reverse
  | [], _, h => by
    rw [show _ = [] from h]
    exact rfl
  | d :: ds, _, h => by
    obtain ⟨w, r, e1, h1, h2⟩ := h
    rw [e1, List.reverse_cons, List.reverse_cons]
    exact DaAll.append (DaAll.reverse h2) ⟨w, [], rfl, h1, rfl⟩
theorem DaAll.one (h : Da M K H v d) : DaAll M K H [v] [d] := ⟨v, [], rfl, h, rfl⟩
theorem DaAll.ints : ∀ {is : List Int}, DaAll M K H (is.map V.int) (is.map D.int)
  | [] => rfl
  | i :: is => ⟨_, _, rfl, rfl, DaAll.ints⟩
/-- the weaker claim: at this heap, nothing said of hot ones -/
abbrev D0 (K : PySem.W.Frag) (H : Hp) (v : V) (d : D) : Prop := Da (fun _ => False) K H v d
theorem Da.now (h : Da M K H v d) : D0 K H v d := h.mono fun b o _ e => ⟨fun z => z, e⟩
theorem DaAll.now (h : DaAll M K H vs ds) : DaAll (fun _ => False) K H vs ds := h.mono fun b o _ e => ⟨fun z => z, e⟩
/-- one more hot address, that is not tracked yet -/
theorem Da.push (h : Da M K H v d) (hp : H p = none) : Da (fun b => M b ∨ b = p) K H v d := h.mono fun b o n e => ⟨fun z => z.elim n fun z => (by rw [z, hp] at e; cases e), e⟩
theorem DaAll.push (h : DaAll M K H vs ds) (hp : H p = none) : DaAll (fun b => M b ∨ b = p) K H vs ds := h.mono fun b o n e => ⟨fun z => z.elim n fun z => (by rw [z, hp] at e; cases e), e⟩
theorem Da.less (h : Da M K H v d) (g : ∀ b, M' b → M b) : Da M' K H v d := h.mono fun b o n e => ⟨fun z => n (g b z), e⟩
theorem DaAll.less (h : DaAll M K H vs ds) (g : ∀ b, M' b → M b) : DaAll M' K H vs ds := h.mono fun b o n e => ⟨fun z => n (g b z), e⟩
theorem Da.newT (h : DaAll M K H vs ds) (hp : H p = none) (hM : ¬ M p) : Da M K (upd H p (.tup vs)) (.ref p) (.tup ds) :=
  ⟨p, vs, rfl, ⟨hM, upd_same⟩, h.mono fun b o n e => ⟨n, by rw [upd_ne (ne_of_none e hp)]; exact e⟩⟩
end

/-! data without objects and dicts: what == speaks of -/
mutual
def D.py : D → PyData
  | .non => .none
  | .bl b => .bool b
  | .int i => .int i
  | .str x => .str x
  | .tup xs => .tuple (D.pyL xs)
  | .lst xs => .list (D.pyL xs)
  | .emp => .dict []
  | .obj _ _ _ => .none
  | .dct _ _ => .none
def D.pyL : List D → List PyData
  | [] => []
  | d :: ds => D.py d :: D.pyL ds
end
mutual
def D.pln : D → Bool
  | .tup xs => D.plnL xs
  | .lst xs => D.plnL xs
  | .emp => false
  | .obj _ _ _ => false
  | .dct _ _ => false
  | _ => true
def D.plnL : List D → Bool
  | [] => true
  | d :: ds => D.pln d && D.plnL ds
end
section
variable {M : Addr → Prop} {K : PySem.W.Frag} {H : Hp}
mutual
theorem Da.dp : ∀ {d : D} {v : V}, Da M K H v d → d.pln = true → Dp K H v d.py
  | .non, _, h, _ => by rw [show _ = V.non from h]; exact .non
  | .bl b, _, h, _ => by rw [show _ = V.bl b from h]; exact .bl b
  | .int i, _, h, _ => by rw [show _ = V.int i from h]; exact .int i
  | .str x, _, h, _ => by rw [show _ = V.str x from h]; exact .str x
  | .tup ds, _, h, p => by
    obtain ⟨a, vs, e, h1, h2⟩ := h
    rw [e]
    exact .tup h1.sq (DaAll.dp h2 p)
  | .lst ds, _, h, p => by
    obtain ⟨a, vs, e, h1, h2⟩ := h
    rw [e]
    exact .lst h1.sq (DaAll.dp h2 p)
  | .emp, _, _, p => by cases p
  | .obj _ _ _, _, _, p => by cases p
  | .dct _ _, _, _, p => by cases p
theorem DaAll.dp : ∀ {ds : List D} {vs : List V}, DaAll M K H vs ds → D.plnL ds = true → DpAll K H vs (D.pyL ds)
  | [], _, h, _ => by rw [show _ = [] from h]; exact .nil
  | d :: ds, _, h, p => by
    obtain ⟨v, r, e, h1, h2⟩ := h
    obtain ⟨p1, p2⟩ := Bool.and_eq_true_iff.mp (show (D.pln d && D.plnL ds) = true from p)
    rw [e]
    exact .cons (Da.dp h1 p1) (DaAll.dp h2 p2)
end
end
def D.scalar : D → Bool
  | .non => true | .bl _ => true | .int _ => true | .str _ => true | _ => false
theorem Da.scal {M M' : Addr → Prop} {K : PySem.W.Frag} {H H' : Hp} {v : V} : ∀ {d : D}, Da M K H v d → d.scalar = true → Da M' K H' v d
  | .non, h, _ => h
  | .bl _, h, _ => h
  | .int _, h, _ => h
  | .str _, h, _ => h
  | .tup _, _, p => by cases p
  | .lst _, _, p => by cases p
  | .emp, _, p => by cases p
  | .obj _ _ _, _, p => by cases p
  | .dct _ _, _, p => by cases p

/-- there, no tuple, no code object -/
def NT : Option HO → Prop
  | none => False
  | some (.tup _) => False
  | some (.ext _) => False
  | some _ => True
theorem NT.ne {o : Option HO} (h : NT o) : o ≠ none := fun e => by rw [e] at h; exact h
/-! ### environments of data -/
/-- what a slot holds: nothing known; data; an object of its own (a list, a dict, an instance that only this slot knows); the hand of the draws -/
inductive Ent where
  | u | d (x : D) | own (x : D) | hand
  /-- something at a value of which φ is true in the part of the heap that stands still while the def runs -/
  | pin (φ : (Addr → Prop) → Hp → V → Prop)
  /-- something of many objects, at the addresses A, that only this slot knows: the value v, of which S is true -/
  | big (A : List Addr) (v : V) (S : (Addr → Prop) → Hp → Prop)
/-- an object at p whose content is x, p itself being hot -/
def OwnAt (M : Addr → Prop) (K : PySem.W.Frag) (H : Hp) (p : Addr) : D → Prop
  | .lst ds => ∃ vs, H p = some (.lst vs) ∧ DaAll M K H vs ds
  | .dct ks ds => ∃ kvs, H p = some (.dT kvs) ∧ kvs.map (·.1) = ks ∧ DaAll M K H (kvs.map (·.2)) ds
  | .obj C ns ds => ∃ dx fs, H p = some (.ins C dx fs) ∧ fs.map (·.1) = ns ∧ DaAll M K H (fs.map (·.2)) ds
  | _ => False
/-- the hand: a list of the cells and four numbers -/
def HandOk (M : Addr → Prop) (K : PySem.W.Frag) (H : Hp) (a : Addr) : Prop :=
  ∃ (c : Addr) (cs : List Int) (i1 i2 i3 i4 : Int), H a = some (.lst [.ref c, .int i1, .int i2, .int i3, .int i4]) ∧ ColdL M K H c (cs.map V.int) ∧ 0 ≤ i1 ∧ 0 ≤ i2
structure Fr where
  M : Addr → Prop
  H0 : Hp
  hd : Option Addr
  B : Hp
  BM : Addr → Prop
abbrev fr (M : Addr → Prop) (H0 : Hp) (hd : Option Addr) : Fr := ⟨M, H0, hd, fun _ => none, fun _ => False⟩
def FrOk (F : Fr) : Prop := (∀ b o, F.B b = some o → F.hd ≠ some b ∧ F.H0 b = some o) ∧ ∀ b, F.B b ≠ none → F.M b → F.BM b
theorem fr_ok {M : Addr → Prop} {H0 : Hp} {hd : Option Addr} : FrOk (fr M H0 hd) := ⟨fun b o e => (nomatch (show (none : Option HO) = some o from e)), fun b hb _ => absurd rfl hb⟩
abbrev Fr.push (F : Fr) (p : Addr) : Fr := { F with M := fun b => F.M b ∨ b = p }
/-- the addresses that an entry owns -/
def Ent.owns (e : Ent) (o : Option (Option V)) (b : Addr) : Prop := match e with
  | .own _ => o = some (some (.ref b))
  | .big A _ _ => b ∈ A
  | _ => False
def Owns (σ : L2.St) (ρ : List Ent) (i : Nat) (b : Addr) : Prop := ∃ e, ρ[i]? = some e ∧ e.owns σ[i]? b
theorem Owns.own {σ : L2.St} {ρ : List Ent} {i : Nat} {x : D} {b : Addr} (h1 : ρ[i]? = some (.own x)) (h2 : σ[i]? = some (some (.ref b))) : Owns σ ρ i b := ⟨_, h1, h2⟩
theorem Owns.big {σ : L2.St} {ρ : List Ent} {i : Nat} {A : List Addr} {v : V} {S : (Addr → Prop) → Hp → Prop} {b : Addr} (h1 : ρ[i]? = some (.big A v S)) (h2 : b ∈ A) : Owns σ ρ i b := ⟨_, h1, h2⟩
def hot (F : Fr) (σ : L2.St) (ρ : List Ent) (b : Addr) : Prop := F.M b ∨ ∃ i, Owns σ ρ i b
theorem hot.own {F : Fr} {σ : L2.St} {ρ : List Ent} {i : Nat} {x : D} {b : Addr} (h1 : ρ[i]? = some (.own x)) (h2 : σ[i]? = some (some (.ref b))) : hot F σ ρ b := .inr ⟨i, .own h1 h2⟩
def Ent.calm : Ent → Bool
  | .own _ => false
  | .big _ _ _ => false
  | _ => true
theorem calm_own {σ : L2.St} {ρ : List Ent} (h : ∀ (i : Nat) (e : Ent), ρ[i]? = some e → e.calm = true) (i : Nat) (b : Addr) (o : Owns σ ρ i b) : False := by
  obtain ⟨e, h1, h2⟩ := o
  have q := h i e h1
  cases e with
  | own x => cases q
  | big A v S => cases q
  | _ => exact (show False from h2)
/-- S is of the owned objects and of what is cold -/
def Stab (A : List Addr) (S : (Addr → Prop) → Hp → Prop) : Prop := ∀ M H M' H', S M H → (∀ b o, ¬ M b → H b = some o → ¬ M' b ∧ H' b = some o) → (∀ b ∈ A, H' b = H b) → S M' H'
def SlotOk (K : PySem.W.Frag) (F : Fr) (M : Addr → Prop) (H : Hp) (o : Option (Option V)) : Ent → Prop
  | .u => True
  | .d x => ∃ v, o = some (some v) ∧ Da M K H v x
  | .own x => ∃ p, o = some (some (.ref p)) ∧ OwnAt M K H p x
  | .hand => ∃ a, F.hd = some a ∧ o = some (some (.ref a))
  | .pin φ => ∃ v, o = some (some v) ∧ φ F.BM F.B v
  | .big A v S => o = some (some v) ∧ S M H ∧ Stab A S ∧ ∀ b ∈ A, NT (H b)
structure Env (K : PySem.W.Frag) (F : Fr) (H : Hp) (σ : L2.St) (ρ : List Ent) : Prop where
  len : σ.length = ρ.length
  go : ∀ b o, F.hd ≠ some b → F.H0 b = some o → H b = some o
  trk : ∀ b, F.M b → NT (H b)
  hand : ∀ a, F.hd = some a → F.M a ∧ F.H0 a ≠ none ∧ HandOk (hot F σ ρ) K H a
  newO : ∀ (i : Nat) (b : Addr), Owns σ ρ i b → F.H0 b = none ∧ ¬ F.M b
  injO : ∀ (i j : Nat) (b : Addr), Owns σ ρ i b → Owns σ ρ j b → i = j
  slot : ∀ (i : Nat) (e : Ent), ρ[i]? = some e → SlotOk K F (hot F σ ρ) H σ[i]? e
  pk : FrOk F
theorem Env.new {K : PySem.W.Frag} {F : Fr} {H : Hp} {σ : L2.St} {ρ : List Ent} (E : Env K F H σ ρ) (i : Nat) (x : D) (b : Addr) (h1 : ρ[i]? = some (.own x)) (h2 : σ[i]? = some (some (.ref b))) : F.H0 b = none ∧ ¬ F.M b := E.newO i b (.own h1 h2)
theorem Env.inj {K : PySem.W.Frag} {F : Fr} {H : Hp} {σ : L2.St} {ρ : List Ent} (E : Env K F H σ ρ) (i j : Nat) (x y : D) (b : Addr) (h1 : ρ[i]? = some (.own x)) (h2 : ρ[j]? = some (.own y)) (h3 : σ[i]? = some (some (.ref b))) (h4 : σ[j]? = some (some (.ref b))) : i = j := E.injO i j b (.own h1 h3) (.own h2 h4)

theorem set_get {α : Type} {l : List α} {i j : Nat} {a b : α} (h : (l.set i a)[j]? = some b) : (j = i ∧ b = a ∧ i < l.length) ∨ (j ≠ i ∧ l[j]? = some b) := by
  by_cases e : j = i
  · subst e
    by_cases hl : j < l.length
    · rw [List.getElem?_set_self hl] at h
      exact .inl ⟨rfl, (Option.some.inj h).symm, hl⟩
    · rw [List.set_eq_of_length_le (by omega)] at h
      rw [List.getElem?_eq_none (by omega)] at h
      cases h
  · rw [List.getElem?_set_ne (Ne.symm e)] at h
    exact .inr ⟨e, h⟩
/-- a slot and its entry are set -/
theorem Owns.set {σ : L2.St} {ρ : List Ent} {i j : Nat} {e : Ent} {v : Option V} {b : Addr} (hl : σ.length = ρ.length) (h : Owns (σ.set i v) (ρ.set i e) j b) : (j = i ∧ e.owns (some v) b ∧ i < ρ.length) ∨ (j ≠ i ∧ Owns σ ρ j b) := by
  obtain ⟨e', h1, h2⟩ := h
  rcases set_get h1 with ⟨e1, e2, e3⟩ | ⟨n, h3⟩
  · subst e1 e2
    rw [List.getElem?_set_self (by rw [hl]; exact e3)] at h2
    exact .inl ⟨rfl, h2, e3⟩
  · rw [List.getElem?_set_ne (Ne.symm n)] at h2
    exact .inr ⟨n, e', h3, h2⟩
/-- an entry alone is set -/
theorem Owns.put {σ : L2.St} {ρ : List Ent} {i j : Nat} {e : Ent} {b : Addr} (h : Owns σ (ρ.set i e) j b) : (j = i ∧ e.owns σ[i]? b ∧ i < ρ.length) ∨ (j ≠ i ∧ Owns σ ρ j b) := by
  obtain ⟨e', h1, h2⟩ := h
  rcases set_get h1 with ⟨e1, e2, e3⟩ | ⟨n, h3⟩
  · subst e1 e2
    exact .inl ⟨rfl, h2, e3⟩
  · exact .inr ⟨n, e', h3, h2⟩
section
variable {M M' : Addr → Prop} {K : PySem.W.Frag} {F : Fr} {H H' : Hp} {σ : L2.St} {ρ : List Ent} {p : Addr} {x y : D} {v : V} {i : Nat}
theorem OwnAt.mono (h : OwnAt M K H p x) (g : ∀ b o, ¬ M b → H b = some o → ¬ M' b ∧ H' b = some o) (hp : ∀ o, H p = some o → H' p = some o) : OwnAt M' K H' p x := by
  cases x with
  | lst ds => obtain ⟨vs, h1, h2⟩ := h; exact ⟨vs, hp _ h1, h2.mono g⟩
  | dct ks ds => obtain ⟨kvs, h1, h2, h3⟩ := h; exact ⟨kvs, hp _ h1, h2, h3.mono g⟩
  | obj C ns ds => obtain ⟨dx, fs, h1, h2, h3⟩ := h; exact ⟨dx, fs, hp _ h1, h2, h3.mono g⟩
  | _ => exact (show False from h).elim
theorem OwnAt.there (h : OwnAt M K H p x) : H p ≠ none := by
  cases x with
  | lst ds => obtain ⟨vs, h1, h2⟩ := h; rw [h1]; exact fun e => nomatch e
  | dct ks ds => obtain ⟨kvs, h1, h2, h3⟩ := h; rw [h1]; exact fun e => nomatch e
  | obj C ns ds => obtain ⟨dx, fs, h1, h2, h3⟩ := h; rw [h1]; exact fun e => nomatch e
  | _ => exact (show False from h).elim
/-- let go: it is data now -/
theorem OwnAt.da (h : OwnAt M K H p x) (g : ∀ b, M' b → M b) (n : ¬ M' p) : Da M' K H (.ref p) x := by
  cases x with
  | lst ds => obtain ⟨vs, h1, h2⟩ := h; exact ⟨p, vs, rfl, ⟨n, h1⟩, h2.less g⟩
  | dct ks ds => obtain ⟨kvs, h1, h2, h3⟩ := h; exact ⟨p, kvs, rfl, n, h1, h2, h3.less g⟩
  | obj C ns ds => obtain ⟨dx, fs, h1, h2, h3⟩ := h; exact ⟨p, dx, fs, rfl, n, h1, h2, h3.less g⟩
  | _ => exact (show False from h).elim
theorem OwnAt.now (h : OwnAt M K H p x) : D0 K H (.ref p) x := h.da (fun _ z => z.elim) fun z => z
theorem OwnAt.nt (h : OwnAt M K H p x) : NT (H p) := by
  cases x with
  | lst ds => obtain ⟨vs, h1, h2⟩ := h; rw [h1]; trivial
  | dct ks ds => obtain ⟨kvs, h1, h2, h3⟩ := h; rw [h1]; trivial
  | obj C ns ds => obtain ⟨dx, fs, h1, h2, h3⟩ := h; rw [h1]; trivial
  | _ => exact (show False from h).elim
theorem HandOk.nt (h : HandOk M K H p) : NT (H p) := by
  obtain ⟨c, cs, i1, i2, i3, i4, h1, _⟩ := h
  rw [h1]
  trivial
theorem HandOk.there (h : HandOk M K H p) : H p ≠ none := by
  obtain ⟨c, cs, i1, i2, i3, i4, h1, _⟩ := h
  rw [h1]
  exact fun e => nomatch e
theorem HandOk.mono (h : HandOk M K H p) (g : ∀ b o, ¬ M b → H b = some o → ¬ M' b ∧ H' b = some o) (hp : ∀ o, H p = some o → H' p = some o) : HandOk M' K H' p := by
  obtain ⟨c, cs, i1, i2, i3, i4, h1, h2, h3⟩ := h
  exact ⟨c, cs, i1, i2, i3, i4, hp _ h1, h2.mono g, h3⟩
theorem Env.ownNt (E : Env K F H σ ρ) {i : Nat} {b : Addr} (h : Owns σ ρ i b) : NT (H b) := by
  obtain ⟨e, h1, h2⟩ := h
  have q := E.slot i _ h1
  cases e with
  | own x =>
    obtain ⟨p, e, ho⟩ := q
    rw [show σ[i]? = some (some (.ref b)) from h2] at e
    cases e
    exact ho.nt
  | big A v S => exact q.2.2.2 b h2
  | _ => exact (show False from h2).elim
theorem Env.hotTrk (E : Env K F H σ ρ) : ∀ b, hot F σ ρ b → NT (H b) := fun b h => by
  rcases h with h | ⟨i, h⟩
  · exact E.trk b h
  · exact E.ownNt h
theorem SlotOk.mono {o : Option (Option V)} {e : Ent} {F' : Fr} (h : SlotOk K F M H o e) (g : ∀ b o, ¬ M b → H b = some o → ¬ M' b ∧ H' b = some o) (hp : ∀ p, e.owns o p → ∀ u, H p = some u → H' p = some u) (hd : F'.hd = F.hd ∧ F'.B = F.B ∧ F'.BM = F.BM) : SlotOk K F' M' H' o e := by
  cases e with
  | u => trivial
  | d x => obtain ⟨v, e, h1⟩ := h; exact ⟨v, e, h1.mono g⟩
  | own x => obtain ⟨p, e, h1⟩ := h; exact ⟨p, e, h1.mono g (hp p e)⟩
  | hand => obtain ⟨a, e, h1⟩ := h; exact ⟨a, hd.1.trans e, h1⟩
  | pin φ => obtain ⟨v, e, h1⟩ := h; exact ⟨v, e, by rw [hd.2.1, hd.2.2]; exact h1⟩
  | big A v S =>
    obtain ⟨e, h1, h2, h3⟩ := h
    have same : ∀ b ∈ A, H' b = H b := fun b hb => by
      obtain ⟨u, hu⟩ := Option.ne_none_iff_exists'.mp (h3 b hb).ne
      rw [hu]
      exact hp b hb u hu
    exact ⟨e, h2 _ _ _ _ h1 g same, h2, fun b hb => by rw [same b hb]; exact h3 b hb⟩
/-- the heap goes on: all is kept but the hand, that is a hand still -/
theorem Env.step (E : Env K F H σ ρ) (g : ∀ b o, F.hd ≠ some b → H b = some o → H' b = some o) (hh : ∀ a, F.hd = some a → HandOk (hot F σ ρ) K H' a) : Env K F H' σ ρ := by
  have cold : ∀ b o, ¬ hot F σ ρ b → H b = some o → ¬ hot F σ ρ b ∧ H' b = some o := fun b o n e => ⟨n, g b o (fun z => n (.inl (E.hand b z).1)) e⟩
  refine ⟨E.len, fun b o n e => g b o n (E.go b o n e), fun b hb => ?_, fun a e => ⟨(E.hand a e).1, (E.hand a e).2.1, hh a e⟩, E.newO, E.injO, fun i e he => ?_, E.pk⟩
  · by_cases z : F.hd = some b
    · exact (hh b z).nt
    · obtain ⟨o, ho⟩ := Option.ne_none_iff_exists'.mp (E.trk b hb).ne
      have q := E.trk b hb
      rw [ho] at q
      rw [g b o z ho]
      exact q
  · exact (E.slot i e he).mono cold (fun p ho o hp => g p o (fun z => (E.newO i p ⟨e, he, ho⟩).2 (E.hand p z).1) hp) ⟨rfl, rfl, rfl⟩
theorem Env.ex (E : Env K F H σ ρ) (g : ∀ b o, H b = some o → H' b = some o) : Env K F H' σ ρ :=
  E.step (fun b o _ e => g b o e) fun a e => HandOk.mono (E.hand a e).2.2 (fun b o n e => ⟨n, g b o e⟩) fun o e => g a o e
theorem ex_new {o : HO} (hp : H p = none) : ∀ b u, H b = some u → upd H p o b = some u := fun b u e => by
  rw [upd_ne (ne_of_none e hp)]
  exact e
/-- a new object at p, hot from now on -/
theorem Env.push (E : Env K F H σ ρ) (hp : H p = none) (g : ∀ b o, H b = some o → H' b = some o) (h1 : NT (H' p)) : Env K (F.push p) H' σ ρ := by
  have E1 := E.ex g
  have np : ∀ b, H b ≠ none → b ≠ p := fun b hb z => hb (by rw [z]; exact hp)
  have old : ∀ b, hot (F.push p) σ ρ b → hot F σ ρ b ∨ b = p := fun b h => by
    rcases h with h | h
    · rcases h with h | h
      · exact .inl (.inl h)
      · exact .inr h
    · exact .inl (.inr h)
  have cold : ∀ b o, ¬ hot F σ ρ b → H b = some o → ¬ hot (F.push p) σ ρ b ∧ H' b = some o := fun b o n e => ⟨fun z => (old b z).elim n fun z => (by rw [z, hp] at e; cases e), g b o e⟩
  refine ⟨E.len, E1.go, fun b hb => ?_, fun a e => ?_, fun i b h2 => ?_, E.injO, fun i e he => ?_, E.pk.1, fun b hb hm => hm.elim (E.pk.2 b hb) fun z => ?_⟩
  · rcases hb with hb | hb
    · exact E1.trk b hb
    · rw [hb]; exact h1
  · obtain ⟨q1, q2, q3⟩ := E.hand a e
    exact ⟨.inl q1, q2, HandOk.mono q3 cold fun o z => g a o z⟩
  · obtain ⟨q1, q2⟩ := E.newO i b h2
    refine ⟨q1, fun z => z.elim q2 fun z => ?_⟩
    exact (E.ownNt h2).ne (by rw [z]; exact hp)
  · refine (E.slot i e he).mono cold (fun p _ o ho => g _ o ho) ⟨rfl, rfl, rfl⟩
  · obtain ⟨o, ho⟩ := Option.ne_none_iff_exists'.mp hb
    obtain ⟨q1, q2⟩ := E.pk.1 b o ho
    have q3 := E.go b o q1 q2
    rw [z, hp] at q3
    cases q3
/-- it is hot no more -/
theorem Env.pop (E : Env K (F.push p) H σ ρ) (h0 : F.H0 p = none) : Env K F H σ ρ := by
  have up : ∀ b, hot F σ ρ b → hot (F.push p) σ ρ b := fun b h => by
    rcases h with h | h
    · exact .inl (.inl h)
    · exact .inr h
  have cold : ∀ b o, ¬ hot (F.push p) σ ρ b → H b = some o → ¬ hot F σ ρ b ∧ H b = some o := fun b o n e => ⟨fun z => n (up b z), e⟩
  refine ⟨E.len, E.go, fun b hb => E.trk b (.inl hb), fun a e => ?_, fun i b h2 => ⟨(E.newO i b h2).1, fun z => (E.newO i b h2).2 (.inl z)⟩, E.injO, fun i e he => (E.slot i e he).mono cold (fun _ _ _ z => z) ⟨rfl, rfl, rfl⟩, E.pk.1, fun b hb hm => E.pk.2 b hb (.inl hm)⟩
  obtain ⟨q1, q2, q3⟩ := E.hand a e
  refine ⟨?_, q2, HandOk.mono q3 cold fun _ z => z⟩
  rcases q1 with q | q
  · exact q
  · rw [q] at q2
    exact absurd h0 q2
/-- name = data -/
theorem Env.setD (E : Env K F H σ ρ) (hv : Da (hot F σ ρ) K H v x) : Env K F H (σ.set i (some v)) (ρ.set i (.d x)) := by
  have own : ∀ (j : Nat) (b : Addr), Owns (σ.set i (some v)) (ρ.set i (.d x)) j b → Owns σ ρ j b := fun j b h => by
    rcases h.set E.len with ⟨_, q, _⟩ | ⟨_, q⟩
    · exact (show False from q).elim
    · exact q
  have less : ∀ b, hot F (σ.set i (some v)) (ρ.set i (.d x)) b → hot F σ ρ b := fun b h => by
    rcases h with h | ⟨j, h⟩
    · exact .inl h
    · exact .inr ⟨j, own j b h⟩
  have cold : ∀ b o, ¬ hot F σ ρ b → H b = some o → ¬ hot F (σ.set i (some v)) (ρ.set i (.d x)) b ∧ H b = some o := fun b o n e => ⟨fun z => n (less b z), e⟩
  refine ⟨by rw [List.length_set, List.length_set]; exact E.len, E.go, E.trk, fun a e => ?_, fun j b h => E.newO j b (own j b h), fun j k b h1 h2 => E.injO j k b (own j b h1) (own k b h2), fun j e he => ?_, E.pk⟩
  · obtain ⟨q1, q2, q3⟩ := E.hand a e
    exact ⟨q1, q2, HandOk.mono q3 cold fun _ z => z⟩
  · rcases set_get he with ⟨e1, e2, hl⟩ | ⟨n, h⟩
    · subst e1 e2
      exact ⟨v, List.getElem?_set_self (by rw [E.len]; exact hl), hv.mono cold⟩
    · rw [List.getElem?_set_ne (Ne.symm n)]
      exact (E.slot j e h).mono cold (fun _ _ _ z => z) ⟨rfl, rfl, rfl⟩
/-- name = a new object -/
theorem Env.setNew (E : Env K (F.push p) H σ ρ) (h0 : F.H0 p = none) (nh : ¬ hot F σ ρ p) (ho : OwnAt (hot (F.push p) σ ρ) K H p x) : Env K F H (σ.set i (some (.ref p))) (ρ.set i (.own x)) := by
  have E0 := E.pop h0
  have own : ∀ (j : Nat) (b : Addr), Owns (σ.set i (some (.ref p))) (ρ.set i (.own x)) j b → (j = i ∧ b = p) ∨ (j ≠ i ∧ Owns σ ρ j b) := fun j b h => by
    rcases h.set E.len with ⟨e, q, _⟩ | ⟨e, q⟩
    · have q : some (some (V.ref p)) = some (some (.ref b)) := q
      cases q
      exact .inl ⟨e, rfl⟩
    · exact .inr ⟨e, q⟩
  have less : ∀ b, hot F (σ.set i (some (.ref p))) (ρ.set i (.own x)) b → hot (F.push p) σ ρ b := fun b h => by
    rcases h with h | ⟨j, h⟩
    · exact .inl (.inl h)
    · rcases own j b h with ⟨_, e⟩ | ⟨_, q⟩
      · exact .inl (.inr e)
      · exact .inr ⟨j, q⟩
  have cold : ∀ b o, ¬ hot (F.push p) σ ρ b → H b = some o → ¬ hot F (σ.set i (some (.ref p))) (ρ.set i (.own x)) b ∧ H b = some o := fun b o n e => ⟨fun z => n (less b z), e⟩
  refine ⟨by rw [List.length_set, List.length_set]; exact E.len, E0.go, E0.trk, fun a e => ?_, fun j b h => ?_, fun j k b h1 h2 => ?_, fun j e he => ?_, E0.pk⟩
  · obtain ⟨q1, q2, q3⟩ := E.hand a e
    exact ⟨(E0.hand a e).1, q2, HandOk.mono q3 cold fun _ z => z⟩
  · rcases own j b h with ⟨_, e⟩ | ⟨_, q⟩
    · rw [e]
      exact ⟨h0, fun z => nh (.inl z)⟩
    · exact E0.newO j b q
  · rcases own j b h1 with ⟨e1, e2⟩ | ⟨n, q⟩
    · rcases own k b h2 with ⟨e3, e4⟩ | ⟨n', q'⟩
      · rw [e1, e3]
      · subst e2
        exact absurd (show hot F σ ρ b from .inr ⟨k, q'⟩) nh
    · rcases own k b h2 with ⟨e3, e4⟩ | ⟨n', q'⟩
      · subst e4
        exact absurd (show hot F σ ρ b from .inr ⟨j, q⟩) nh
      · exact E.injO j k b q q'
  · rcases set_get he with ⟨e1, e2, hl⟩ | ⟨n, h⟩
    · subst e1 e2
      exact ⟨p, List.getElem?_set_self (by rw [E.len]; exact hl), ho.mono cold fun _ z => z⟩
    · rw [List.getElem?_set_ne (Ne.symm n)]
      exact (E.slot j e h).mono cold (fun _ _ _ z => z) ⟨rfl, rfl, rfl⟩
/-- what an entry owned, and nothing else, is changed: the slot has another entry, that owns no more (but what was free) -/
theorem Env.redo {e e' : Ent} (E : Env K F H σ ρ) (he : ρ[i]? = some e) (sub : ∀ b, e'.owns σ[i]? b → e.owns σ[i]? b ∨ H b = none)
    (up : ∀ b o, ¬ e.owns σ[i]? b → H b = some o → H' b = some o)
    (hs : SlotOk K F (hot F σ (ρ.set i e')) H' σ[i]? e') : Env K F H' σ (ρ.set i e') ∧ ∀ b o, ¬ hot F σ ρ b → H b = some o → ¬ hot F σ (ρ.set i e') b ∧ H' b = some o := by
  have il : i < ρ.length := (List.getElem?_eq_some_iff.mp he).1
  have own : ∀ (j : Nat) (b : Addr), Owns σ (ρ.set i e') j b → Owns σ ρ j b ∨ (j = i ∧ H b = none) := fun j b h => by
    rcases h.put with ⟨e1, q, _⟩ | ⟨_, q⟩
    · subst e1
      exact (sub b q).elim (fun z => .inl ⟨e, he, z⟩) fun z => .inr ⟨rfl, z⟩
    · exact .inl q
  have less : ∀ b, hot F σ (ρ.set i e') b → hot F σ ρ b ∨ H b = none := fun b h => by
    rcases h with h | ⟨j, h⟩
    · exact .inl (.inl h)
    · exact (own j b h).elim (fun z => .inl (.inr ⟨j, z⟩)) fun z => .inr z.2
  have cold : ∀ b o, ¬ hot F σ ρ b → H b = some o → ¬ hot F σ (ρ.set i e') b ∧ H' b = some o := fun b o n ee => ⟨fun z => (less b z).elim n fun z => (by rw [z] at ee; cases ee), up b o (fun z => n (.inr ⟨i, e, he, z⟩)) ee⟩
  have fresh : ∀ b, H b = none → F.H0 b = none ∧ ¬ F.M b := fun b hb => by
    refine ⟨?_, fun z => (E.trk b z).ne hb⟩
    cases q : F.H0 b with
    | none => rfl
    | some o =>
      by_cases z : F.hd = some b
      · exact absurd hb (E.hand b z).2.2.there
      · rw [E.go b o z q] at hb; cases hb
  refine ⟨⟨by rw [List.length_set]; exact E.len, fun b o n ee => up b o (fun z => ?_) (E.go b o n ee), fun b hb => ?_, fun a ea => ?_, fun j b h => ?_, fun j k b h1 h2 => ?_, fun j e2 hj => ?_, E.pk⟩, cold⟩
  · rw [(E.newO i b ⟨e, he, z⟩).1] at ee
    cases ee
  · obtain ⟨o, ho⟩ := Option.ne_none_iff_exists'.mp (E.trk b hb).ne
    have q := E.trk b hb
    rw [ho] at q
    rw [up b o (fun z => (E.newO i b ⟨e, he, z⟩).2 hb) ho]
    exact q
  · obtain ⟨q1, q2, q3⟩ := E.hand a ea
    exact ⟨q1, q2, HandOk.mono q3 cold fun o z => up a o (fun z => (E.newO i a ⟨e, he, z⟩).2 q1) z⟩
  · rcases own j b h with q | ⟨_, q⟩
    · exact E.newO j b q
    · exact fresh b q
  · rcases own j b h1 with q | ⟨e1, q⟩
    · rcases own k b h2 with q' | ⟨e2, q'⟩
      · exact E.injO j k b q q'
      · exact absurd q' (E.ownNt q).ne
    · rcases own k b h2 with q' | ⟨e2, q'⟩
      · exact absurd q (E.ownNt q').ne
      · rw [e1, e2]
  · rcases set_get hj with ⟨e1, e2, hl⟩ | ⟨n, h⟩
    · subst e1 e2
      exact hs
    · refine (E.slot j e2 h).mono cold (fun q ho o hq => up q o (fun zz => n (E.injO j i q ⟨_, h, ho⟩ ⟨e, he, zz⟩)) hq) ⟨rfl, rfl, rfl⟩
/-- an own object is changed -/
theorem Env.write {o' : HO} (E : Env K F H σ ρ) (he : ρ[i]? = some (.own x)) (hs : σ[i]? = some (some (.ref p))) (ho : OwnAt (hot F σ ρ) K (upd H p o') p y) : Env K F (upd H p o') σ (ρ.set i (.own y)) := by
  have il : i < ρ.length := (List.getElem?_eq_some_iff.mp he).1
  have less : ∀ b, hot F σ (ρ.set i (.own y)) b → hot F σ ρ b := fun b h => by
    rcases h with h | ⟨j, h⟩
    · exact .inl h
    · rcases h.put with ⟨e1, q, _⟩ | ⟨_, q⟩
      · subst e1
        exact .inr ⟨j, .own he q⟩
      · exact .inr ⟨j, q⟩
  refine (E.redo he (e' := .own y) (fun b z => .inl z) (fun b o n e => ?_) ⟨p, hs, ho.mono (fun b o n e => ⟨fun z => n (less b z), e⟩) fun _ z => z⟩).1
  rw [upd_ne fun z => n (by rw [z]; exact hs)]
  exact e
/-- an own object is let go: it is data now -/
theorem Env.freeze (E : Env K F H σ ρ) (he : ρ[i]? = some (.own x)) : ∃ p, σ[i]? = some (some (.ref p)) ∧ Da (hot F σ (ρ.set i (.d x))) K H (.ref p) x ∧ Env K F H σ (ρ.set i (.d x)) := by
  obtain ⟨p, hs, ho⟩ := E.slot i _ he
  have less : ∀ b, hot F σ (ρ.set i (.d x)) b → hot F σ ρ b ∧ b ≠ p := fun b h => by
    rcases h with h | ⟨j, h⟩
    · exact ⟨.inl h, fun z => (E.new i x p he hs).2 (by rw [← z]; exact h)⟩
    · rcases h.put with ⟨_, q, _⟩ | ⟨n, q⟩
      · exact (show False from q).elim
      · exact ⟨.inr ⟨j, q⟩, fun z => n (E.injO j i b q (by rw [z]; exact .own he hs))⟩
  have da : Da (hot F σ (ρ.set i (.d x))) K H (.ref p) x := ho.da (fun b z => (less b z).1) fun z => (less p z).2 rfl
  exact ⟨p, hs, da, (E.redo he (e' := .d x) (fun b z => (show False from z).elim) (fun b o _ e => e) ⟨_, hs, da⟩).1⟩
theorem pk_none (E : Env K F H σ ρ) (h0 : F.H0 p = none) : F.B p = none := by
  cases q : F.B p with
  | none => rfl
  | some o =>
    rw [(E.pk.1 p o q).2] at h0
    cases h0
end
end PW
end
section
/-! PW: judgements in continuation style over environments of data, and their rules. -/
namespace PW
open PySem PySem.Spec PyProof.Rows L2

/-- what an expression gives: data; a new object that nobody knows; the object that is slot i's own -/
inductive Res where
  | d (x : D) | nw (x : D) | v (i : Nat)
def Tr (M : Addr → Prop) (H : Hp) : Prop := ∀ b, M b → NT (H b)
def Ext (H H' : Hp) : Prop := ∀ b o, H b = some o → H' b = some o
theorem Ext.refl (H : Hp) : Ext H H := fun _ _ h => h
theorem Ext.trans {H H1 H2 : Hp} (a : Ext H H1) (b : Ext H1 H2) : Ext H H2 := fun x o h => b x o (a x o h)
theorem Ext.new {H : Hp} {p : Addr} {o : HO} (h : H p = none) : Ext H (upd H p o) := ex_new h
theorem Ext.back {H H' : Hp} {p : Addr} (e : Ext H H') (h : H' p = none) : H p = none := by
  cases q : H p with
  | none => rfl
  | some o => rw [e p o q] at h; cases h
/-- in an environment -/
def RV (K : PySem.W.Frag) (F : Fr) (H : Hp) (σ : L2.St) (ρ : List Ent) (v : V) : Res → Prop
  | .d x => Env K F H σ ρ ∧ Da (hot F σ ρ) K H v x
  | .nw x => ∃ p, v = .ref p ∧ F.H0 p = none ∧ ¬ hot F σ ρ p ∧ Env K (F.push p) H σ ρ ∧ OwnAt (hot (F.push p) σ ρ) K H p x
  | .v i => Env K F H σ ρ ∧ σ[i]? = some (some v) ∧ ∃ x, ρ[i]? = some (.own x)
/-- of a quiet operation: the heap grew from H to H' -/
def ResV (M : Addr → Prop) (K : PySem.W.Frag) (H H' : Hp) (v : V) : Res → Prop
  | .d x => Da M K H' v x
  | .nw x => ∃ p, v = .ref p ∧ H p = none ∧ OwnAt (fun b => M b ∨ b = p) K H' p x
  | .v _ => False
/-- a value that may be read: data, or an own object -/
def Pk (M : Addr → Prop) (K : PySem.W.Frag) (H : Hp) (v : V) (x : D) : Prop := Da M K H v x ∨ ∃ p, v = .ref p ∧ M p ∧ OwnAt M K H p x
/-- the content of what was given, as the environment now is -/
def peekE : Option Ent → Option D
  | some (.own x) => some x
  | some (.d x) => some x
  | _ => none
def peek (ρ : List Ent) : Res → Option D
  | .d x => some x
  | .nw x => some x
  | .v i => peekE ρ[i]?
/-- let go of it: data from now on -/
def frzE (ρ : List Ent) (i : Nat) : Option Ent → List Ent
  | some (.own x) => ρ.set i (.d x)
  | _ => ρ
def frz (ρ : List Ent) : Res → List Ent
  | .v i => frzE ρ i ρ[i]?
  | _ => ρ
def Res.ent : Res → Ent
  | .d x => .d x
  | .nw x => .own x
  | .v _ => .u

section
variable {K : PySem.W.Frag} {F : Fr} {H H' : Hp} {σ : L2.St} {ρ : List Ent} {v : V} {r : Res} {x y : D} {i : Nat} {M : Addr → Prop}
theorem hot_tr (E : Env K F H σ ρ) : Tr (hot F σ ρ) H := E.hotTrk
theorem h0_none {p : Addr} (E : Env K F H σ ρ) (hp : H p = none) : F.H0 p = none := by
  cases q : F.H0 p with
  | none => rfl
  | some o =>
    by_cases z : F.hd = some p
    · exact absurd hp (E.hand p z).2.2.there
    · rw [E.go p o z q] at hp; cases hp
theorem ResV.rv (E : Env K F H σ ρ) (e : Ext H H') (h : ResV (hot F σ ρ) K H H' v r) : RV K F H' σ ρ v r := by
  cases r with
  | d x => exact ⟨E.ex e, h⟩
  | nw x =>
    obtain ⟨p, rfl, hp, ho⟩ := h
    refine ⟨p, rfl, h0_none E hp, fun z => (E.hotTrk p z).ne hp, E.push hp e ho.nt, ho.mono (fun b o n ee => ⟨fun z => n ?_, ee⟩) fun _ z => z⟩
    rcases z with z | z
    · rcases z with z | z
      · exact .inl (.inl z)
      · exact .inr z
    · exact .inl (.inr z)
  | v i => exact h.elim
theorem Env.slotOwn (E : Env K F H σ ρ) (he : ρ[i]? = some (.own x)) : ∃ p, σ[i]? = some (some (.ref p)) ∧ hot F σ ρ p ∧ OwnAt (hot F σ ρ) K H p x := by
  obtain ⟨p, e, ho⟩ := E.slot i _ he
  exact ⟨p, e, hot.own he e, ho⟩
theorem RV.env (h : RV K F H σ ρ v r) : Env K F H σ ρ := by
  cases r with
  | d x => exact h.1
  | nw x => obtain ⟨p, _, h0, _, E, _⟩ := h; exact E.pop h0
  | v i => exact h.1
theorem RV.pk (h : RV K F H σ ρ v r) (hp : peek ρ r = some x) : Pk (hot F σ ρ) K H v x := by
  cases r with
  | d y => cases hp; exact .inl h.2
  | nw y =>
    cases hp
    obtain ⟨p, rfl, h0, nh, E, ho⟩ := h
    refine .inl (ho.da (fun b z => ?_) nh)
    rcases z with z | z
    · exact .inl (.inl z)
    · exact .inr z
  | v i =>
    obtain ⟨E, hs, y, hy⟩ := h
    have hp : peekE ρ[i]? = some x := hp
    rw [hy] at hp
    cases hp
    obtain ⟨p, e, hh, ho⟩ := E.slotOwn hy
    rw [hs] at e
    cases e
    exact .inr ⟨p, rfl, hh, ho⟩
theorem RV.frz (h : RV K F H σ ρ v r) (hp : peek ρ r = some x) : Env K F H σ (frz ρ r) ∧ Da (hot F σ (frz ρ r)) K H v x := by
  cases r with
  | d y => cases hp; exact h
  | nw y =>
    cases hp
    obtain ⟨p, rfl, h0, nh, E, ho⟩ := h
    refine ⟨E.pop h0, ho.da (fun b z => ?_) nh⟩
    rcases z with z | z
    · exact .inl (.inl z)
    · exact .inr z
  | v i =>
    obtain ⟨E, hs, y, hy⟩ := h
    have hp : peekE ρ[i]? = some x := hp
    rw [hy] at hp
    cases hp
    obtain ⟨p, e, hd, E'⟩ := E.freeze hy
    rw [hs] at e
    cases e
    show Env K F H σ (frzE ρ i ρ[i]?) ∧ Da (hot F σ (frzE ρ i ρ[i]?)) K H _ _
    rw [hy]
    exact ⟨E', hd⟩
/-- name = value -/
theorem RV.set {j : Nat} (h : RV K F H σ ρ v r) (hr : ∀ i, r ≠ .v i) : Env K F H (σ.set j (some v)) (ρ.set j r.ent) := by
  cases r with
  | d y => exact h.1.setD h.2
  | nw y =>
    obtain ⟨p, rfl, h0, nh, E, ho⟩ := h
    exact E.setNew h0 nh ho
  | v i => exact absurd rfl (hr i)
theorem Pk.now (h : Pk M K H v x) : D0 K H v x := by
  rcases h with h | ⟨p, rfl, _, h⟩
  · exact h.now
  · exact h.now
theorem Pk.ex (h : Pk M K H v x) (e : Ext H H') : Pk M K H' v x := by
  rcases h with h | ⟨p, rfl, m, h⟩
  · exact .inl (h.mono fun b o n z => ⟨n, e b o z⟩)
  · exact .inr ⟨p, rfl, m, h.mono (fun b o n z => ⟨n, e b o z⟩) fun o z => e p o z⟩
theorem Pk.lst {ds : List D} (h : Pk M K H v (.lst ds)) : ∃ a vs, v = .ref a ∧ H a = some (.lst vs) ∧ DaAll M K H vs ds := by
  rcases h with h | ⟨p, rfl, _, h⟩
  · obtain ⟨a, vs, e, h1, h2⟩ := h
    exact ⟨a, vs, e, h1.2, h2⟩
  · obtain ⟨vs, h1, h2⟩ := h
    exact ⟨p, vs, rfl, h1, h2⟩
theorem Pk.tup {ds : List D} (h : Pk M K H v (.tup ds)) : ∃ a vs, v = .ref a ∧ SqT K H a vs ∧ DaAll M K H vs ds := by
  rcases h with h | ⟨p, rfl, _, h⟩
  · obtain ⟨a, vs, e, h1, h2⟩ := h
    exact ⟨a, vs, e, h1.sq, h2⟩
  · exact (show False from h).elim
theorem Pk.int {i : Int} (h : Pk M K H v (.int i)) : v = .int i := by
  rcases h with h | ⟨p, rfl, _, h⟩
  · exact h
  · exact (show False from h).elim
theorem Pk.bl {b : Bool} (h : Pk M K H v (.bl b)) : v = .bl b := by
  rcases h with h | ⟨p, rfl, _, h⟩
  · exact h
  · exact (show False from h).elim
theorem Pk.str {z : Str} (h : Pk M K H v (.str z)) : v = .str z := by
  rcases h with h | ⟨p, rfl, _, h⟩
  · exact h
  · exact (show False from h).elim
theorem Pk.non (h : Pk M K H v .non) : v = .non := by
  rcases h with h | ⟨p, rfl, _, h⟩
  · exact h
  · exact (show False from h).elim
end

/-! ### what stays -/
/-- from (M, H) to (M', H'): what was cold is cold, and as it was -/
def Keep (M : Addr → Prop) (H : Hp) (M' : Addr → Prop) (H' : Hp) : Prop := ∀ b o, ¬ M b → H b = some o → ¬ M' b ∧ H' b = some o
theorem Keep.refl (M : Addr → Prop) (H : Hp) : Keep M H M H := fun _ _ n h => ⟨n, h⟩
theorem Keep.trans {M M1 M2 : Addr → Prop} {H H1 H2 : Hp} (a : Keep M H M1 H1) (b : Keep M1 H1 M2 H2) : Keep M H M2 H2 := fun x o n h => b x o (a x o n h).1 (a x o n h).2
theorem Keep.ext {M : Addr → Prop} {H H' : Hp} (e : Ext H H') : Keep M H M H' := fun b o n h => ⟨n, e b o h⟩
/-- a value that was given is held while others are reckoned -/
def Held (K : PySem.W.Frag) (F : Fr) (H : Hp) (σ : L2.St) (ρ : List Ent) (v : V) : Res → Prop
  | .d x => Da (hot F σ ρ) K H v x
  | .nw x => Da (hot F σ ρ) K H v x
  | .v i => σ[i]? = some (some v)
def HeldAll (K : PySem.W.Frag) (F : Fr) (H : Hp) (σ : L2.St) (ρ : List Ent) (vs : List V) : List Res → Prop
  | [] => vs = []
  | r :: rs => ∃ v ws, vs = v :: ws ∧ Held K F H σ ρ v r ∧ HeldAll K F H σ ρ ws rs
section
variable {K : PySem.W.Frag} {F : Fr} {H H' : Hp} {σ : L2.St} {ρ ρ' : List Ent} {v : V} {r : Res} {x y : D} {i : Nat} {M : Addr → Prop}
theorem RV.held (h : RV K F H σ ρ v r) : Held K F H σ ρ v r := by
  cases r with
  | d y => exact h.2
  | nw y =>
    obtain ⟨p, rfl, h0, nh, E, ho⟩ := h
    refine ho.da (fun b z => ?_) nh
    rcases z with z | z
    · exact .inl (.inl z)
    · exact .inr z
  | v i => exact h.2.1
theorem Held.keep (h : Held K F H σ ρ v r) (g : Keep (hot F σ ρ) H (hot F σ ρ') H') : Held K F H' σ ρ' v r := by
  cases r with
  | d y => exact Da.mono h g
  | nw y => exact Da.mono h g
  | v i => exact h
theorem HeldAll.keep : ∀ {rs : List Res} {vs : List V}, HeldAll K F H σ ρ vs rs → Keep (hot F σ ρ) H (hot F σ ρ') H' → HeldAll K F H' σ ρ' vs rs
  | [], _, h, _ => h
  | r :: rs, _, h, g => by
    obtain ⟨v, ws, e, h1, h2⟩ := h
    exact ⟨v, ws, e, h1.keep g, HeldAll.keep h2 g⟩
theorem Held.pk (E : Env K F H σ ρ) (h : Held K F H σ ρ v r) (hp : peek ρ r = some x) : Pk (hot F σ ρ) K H v x := by
  cases r with
  | d y => cases hp; exact .inl h
  | nw y => cases hp; exact .inl h
  | v i =>
    have h : σ[i]? = some (some v) := h
    have hp : peekE ρ[i]? = some x := hp
    cases e : ρ[i]? with
    | none => rw [e] at hp; cases hp
    | some en =>
      rw [e] at hp
      cases en with
      | own y =>
        cases hp
        obtain ⟨p, e2, hh, ho⟩ := E.slotOwn e
        rw [h] at e2
        cases e2
        exact .inr ⟨p, rfl, hh, ho⟩
      | d y =>
        cases hp
        obtain ⟨w, e2, hd⟩ := E.slot i _ e
        rw [h] at e2
        cases e2
        exact .inl hd
      | _ => cases hp
theorem keep_frz (E : Env K F H σ ρ) : Keep (hot F σ ρ) H (hot F σ (frz ρ r)) H := by
  cases r with
  | v i =>
    show Keep (hot F σ ρ) H (hot F σ (frzE ρ i ρ[i]?)) H
    cases e : ρ[i]? with
    | none => exact Keep.refl _ _
    | some en =>
      cases en with
      | own y =>
        intro b o n ho
        refine ⟨fun z => n ?_, ho⟩
        rcases z with z | ⟨j, h⟩
        · exact .inl z
        · rcases h.put with ⟨_, q, _⟩ | ⟨_, q⟩
          · exact (show False from q).elim
          · exact .inr ⟨j, q⟩
      | _ => exact Keep.refl _ _
  | _ => exact Keep.refl _ _
theorem Held.frz (E : Env K F H σ ρ) (h : Held K F H σ ρ v r) (hp : peek ρ r = some x) : Env K F H σ (frz ρ r) ∧ Da (hot F σ (frz ρ r)) K H v x := by
  cases r with
  | d y => cases hp; exact ⟨E, h⟩
  | nw y => cases hp; exact ⟨E, h⟩
  | v i =>
    have h : σ[i]? = some (some v) := h
    have hp : peekE ρ[i]? = some x := hp
    show Env K F H σ (frzE ρ i ρ[i]?) ∧ Da (hot F σ (frzE ρ i ρ[i]?)) K H _ _
    cases e : ρ[i]? with
    | none => rw [e] at hp; cases hp
    | some en =>
      rw [e] at hp
      cases en with
      | own y =>
        cases hp
        obtain ⟨p, e2, hd, E'⟩ := E.freeze e
        rw [h] at e2
        cases e2
        exact ⟨E', hd⟩
      | d y =>
        cases hp
        obtain ⟨w, e2, hd⟩ := E.slot i _ e
        rw [h] at e2
        cases e2
        exact ⟨E, hd⟩
      | _ => cases hp
def peekAll (ρ : List Ent) : List Res → Option (List D)
  | [] => some []
  | r :: rs => match peek ρ r, peekAll ρ rs with
    | some x, some xs => some (x :: xs)
    | _, _ => none
def frzAll (ρ : List Ent) : List Res → List Ent
  | [] => ρ
  | r :: rs => frzAll (PW.frz ρ r) rs
theorem peek_frz {s : Res} (h : peek ρ s = some x) : peek (frz ρ r) s = some x := by
  cases s with
  | d y => exact h
  | nw y => exact h
  | v j =>
    cases r with
    | v i =>
      have h : peekE ρ[j]? = some x := h
      show peekE (frzE ρ i ρ[i]?)[j]? = some x
      cases e : ρ[i]? with
      | none => exact h
      | some en =>
        cases en with
        | own y =>
          show peekE (ρ.set i (.d y))[j]? = some x
          by_cases q : j = i
          · subst q
            rw [e] at h
            cases h
            have hl : j < ρ.length := (List.getElem?_eq_some_iff.mp e).1
            rw [List.getElem?_set_self hl]
            rfl
          · rw [List.getElem?_set_ne (Ne.symm q)]
            exact h
        | _ => exact h
    | _ => exact h
theorem HeldAll.pk (E : Env K F H σ ρ) : ∀ {rs : List Res} {vs : List V} {xs : List D}, HeldAll K F H σ ρ vs rs → peekAll ρ rs = some xs → vs.length = xs.length ∧ ∀ (i : Nat) (v : V) (x : D), vs[i]? = some v → xs[i]? = some x → Pk (hot F σ ρ) K H v x
  | [], _, _, h, hp => by
    cases hp
    rw [show _ = [] from h]
    exact ⟨rfl, fun i v x e => by cases e⟩
  | r :: rs, _, xs, h, hp => by
    obtain ⟨v, ws, e, h1, h2⟩ := h
    unfold peekAll at hp
    cases p1 : peek ρ r with
    | none => rw [p1] at hp; cases hp
    | some x =>
      cases p2 : peekAll ρ rs with
      | none => rw [p1, p2] at hp; cases hp
      | some ys =>
        rw [p1, p2] at hp
        cases hp
        obtain ⟨q1, q2⟩ := HeldAll.pk E h2 p2
        subst e
        refine ⟨by rw [List.length_cons, List.length_cons, q1], fun i w z e1 e2 => ?_⟩
        cases i with
        | zero => cases e1; cases e2; exact h1.pk E p1
        | succ i => exact q2 i w z e1 e2
theorem HeldAll.now (E : Env K F H σ ρ) : ∀ {rs : List Res} {vs : List V} {xs : List D}, HeldAll K F H σ ρ vs rs → peekAll ρ rs = some xs → DaAll (fun _ => False) K H vs xs
  | [], _, _, h, hp => by
    cases hp
    exact h
  | r :: rs, _, xs, h, hp => by
    obtain ⟨v, ws, e, h1, h2⟩ := h
    unfold peekAll at hp
    cases p1 : peek ρ r with
    | none => rw [p1] at hp; cases hp
    | some x =>
      cases p2 : peekAll ρ rs with
      | none => rw [p1, p2] at hp; cases hp
      | some ys =>
        rw [p1, p2] at hp
        cases hp
        exact ⟨v, ws, e, (h1.pk E p1).now, HeldAll.now E h2 p2⟩
theorem peekAll_frz : ∀ {rs : List Res} {xs : List D}, peekAll ρ rs = some xs → peekAll (frz ρ r) rs = some xs
  | [], _, h => h
  | s :: rs, xs, hp => by
    unfold peekAll at hp ⊢
    cases p1 : peek ρ s with
    | none => rw [p1] at hp; cases hp
    | some x =>
      cases p2 : peekAll ρ rs with
      | none => rw [p1, p2] at hp; cases hp
      | some ys =>
        rw [p1, p2] at hp
        rw [peek_frz p1, peekAll_frz p2]
        exact hp
theorem HeldAll.frz : ∀ {rs : List Res} {ρ : List Ent} {vs : List V} {xs : List D}, Env K F H σ ρ → HeldAll K F H σ ρ vs rs → peekAll ρ rs = some xs →
    Env K F H σ (frzAll ρ rs) ∧ DaAll (hot F σ (frzAll ρ rs)) K H vs xs ∧ Keep (hot F σ ρ) H (hot F σ (frzAll ρ rs)) H
  | [], ρ, _, _, E, h, hp => by
    cases hp
    exact ⟨E, h, Keep.refl _ _⟩
  | r :: rs, ρ, _, xs, E, h, hp => by
    obtain ⟨v, ws, e, h1, h2⟩ := h
    unfold peekAll at hp
    cases p1 : peek ρ r with
    | none => rw [p1] at hp; cases hp
    | some x =>
      cases p2 : peekAll ρ rs with
      | none => rw [p1, p2] at hp; cases hp
      | some ys =>
        rw [p1, p2] at hp
        cases hp
        obtain ⟨E1, d1⟩ := h1.frz E p1
        have k1 : Keep (hot F σ ρ) H (hot F σ (PW.frz ρ r)) H := keep_frz E
        obtain ⟨E2, d2, k2⟩ := HeldAll.frz E1 (h2.keep k1) (peekAll_frz p2)
        exact ⟨E2, ⟨v, ws, e, d1.mono k2, d2⟩, k1.trans k2⟩
end

/-- hot behind an expression: also what it made -/
def hotR (F : Fr) (σ : L2.St) (ρ : List Ent) (v : V) (r : Res) (b : Addr) : Prop := hot F σ ρ b ∨ ((∃ x, r = .nw x) ∧ v = .ref b)
theorem hotR.hot {F : Fr} {σ : L2.St} {ρ : List Ent} {v : V} {r : Res} {M : Addr → Prop} {H H' : Hp} (g : Keep M H (hotR F σ ρ v r) H') : Keep M H (PW.hot F σ ρ) H' := fun b o n h => ⟨fun z => (g b o n h).1 (.inl z), (g b o n h).2⟩
theorem hotR.d {F : Fr} {σ : L2.St} {ρ : List Ent} {v : V} {x : D} {M : Addr → Prop} {H H' : Hp} (g : Keep M H (PW.hot F σ ρ) H') : Keep M H (hotR F σ ρ v (.d x)) H' := fun b o n h => ⟨fun z => z.elim (g b o n h).1 (fun z => by obtain ⟨⟨_, z⟩, _⟩ := z; cases z), (g b o n h).2⟩
theorem hotR.v {F : Fr} {σ : L2.St} {ρ : List Ent} {v : V} {i : Nat} {M : Addr → Prop} {H H' : Hp} (g : Keep M H (PW.hot F σ ρ) H') : Keep M H (hotR F σ ρ v (.v i)) H' := fun b o n h => ⟨fun z => z.elim (g b o n h).1 (fun z => by obtain ⟨⟨_, z⟩, _⟩ := z; cases z), (g b o n h).2⟩
/-- behind a quiet operation -/
theorem hotR.res {K : PySem.W.Frag} {F : Fr} {σ : L2.St} {ρ : List Ent} {v : V} {r : Res} {M : Addr → Prop} {H0 H H' : Hp} (g : Keep M H0 (PW.hot F σ ρ) H) (e : Ext H H') (h : ResV (PW.hot F σ ρ) K H H' v r) : Keep M H0 (hotR F σ ρ v r) H' := fun b o n h0 => by
  obtain ⟨g1, g2⟩ := g b o n h0
  refine ⟨fun z => z.elim g1 fun z => ?_, e b o g2⟩
  obtain ⟨⟨x, ex⟩, zz⟩ := z
  subst ex
  obtain ⟨p, e2, hp, _⟩ := h
  have z' : p = b := by injection (e2.symm.trans zz)
  rw [z', g2] at hp
  cases hp

/-! ### the judgements -/
abbrev KE := Res → List Ent → Prop
def XE (K : PySem.W.Frag) (te : TE) (ρ : List Ent) (k : KE) : Prop := ∀ (F : Fr) (H : Hp) (σ : L2.St) (Q : VK), Env K F H σ ρ →
  (∀ v H' r ρ', Keep (hot F σ ρ) H (hotR F σ ρ' v r) H' → RV K F H' σ ρ' v r → k r ρ' → Q v H') → te σ H Q
def XT (K : PySem.W.Frag) (tt : TT) (ρ : List Ent) (k : Bool → List Ent → Prop) : Prop := ∀ (F : Fr) (H : Hp) (σ : L2.St) (Q : Bool → Hp → Prop), Env K F H σ ρ →
  (∀ b H' ρ', Keep (hot F σ ρ) H (hot F σ ρ') H' → Env K F H' σ ρ' → k b ρ' → Q b H') → tt σ H Q
def XA (K : PySem.W.Frag) (ta : TA) (ρ : List Ent) (k : List Res → List Ent → Prop) : Prop := ∀ (F : Fr) (H : Hp) (σ : L2.St) (Q : List V → Hp → Prop), Env K F H σ ρ →
  (∀ vs H' rs ρ', Keep (hot F σ ρ) H (hot F σ ρ') H' → Env K F H' σ ρ' → HeldAll K F H' σ ρ' vs rs → k rs ρ' → Q vs H') → ta σ H Q
/-- what is wanted behind a statement -/
structure Post where
  nx : List Ent → Prop
  rt : Res → List Ent → Prop
  bk : List Ent → Prop := fun _ => False
  ct : List Ent → Prop := fun _ => False
structure Impl (K : PySem.W.Frag) (F : Fr) (M : Addr → Prop) (H0 : Hp) (Dn : Ends) (Φ : Post) : Prop where
  nx : ∀ H σ ρ, Keep M H0 (hot F σ ρ) H → Env K F H σ ρ → Φ.nx ρ → Dn.nx σ H
  rt : ∀ v H σ ρ r, Keep M H0 (hotR F σ ρ v r) H → RV K F H σ ρ v r → (∀ i, r ≠ .v i) → Φ.rt r ρ → Dn.rt v H
  bk : ∀ H σ ρ, Keep M H0 (hot F σ ρ) H → Env K F H σ ρ → Φ.bk ρ → Dn.bk σ H
  ct : ∀ H σ ρ, Keep M H0 (hot F σ ρ) H → Env K F H σ ρ → Φ.ct ρ → Dn.ct σ H
theorem Impl.later {K : PySem.W.Frag} {F : Fr} {M M1 : Addr → Prop} {H H1 : Hp} {Dn : Ends} {Φ : Post} (I : Impl K F M H Dn Φ) (k : Keep M H M1 H1) : Impl K F M1 H1 Dn Φ :=
  ⟨fun H σ ρ g E p => I.nx H σ ρ (k.trans g) E p, fun v H σ ρ r g R n p => I.rt v H σ ρ r (k.trans g) R n p, fun H σ ρ g E p => I.bk H σ ρ (k.trans g) E p, fun H σ ρ g E p => I.ct H σ ρ (k.trans g) E p⟩
def XS (K : PySem.W.Frag) (ts : TS) (ρ : List Ent) (Φ : Post) : Prop := ∀ (F : Fr) (H : Hp) (σ : L2.St) (Dn : Ends), Env K F H σ ρ → Impl K F (hot F σ ρ) H Dn Φ → ts Dn σ H

section
variable {K : PySem.W.Frag} {ρ : List Ent} {k : KE} {ta tb tc te : TE} {i : Nat} {x : D}
theorem xe_mono {k' : KE} (h : XE K te ρ k) (g : ∀ r ρ', k r ρ' → k' r ρ') : XE K te ρ k' := fun F H σ Q E q => h F H σ Q E fun v H' r ρ' kp a b => q v H' r ρ' kp a (g r ρ' b)
/-! names, constants -/
theorem xe_var_d (h : ρ[i]? = some (.d x)) (g : k (.d x) ρ) : XE K (tVar i) ρ k := fun F H σ Q E q => by
  obtain ⟨v, e, hd⟩ := E.slot i _ h
  exact ⟨v, e, q v H (.d x) ρ (hotR.d (Keep.refl _ _)) ⟨E, hd⟩ g⟩
theorem xe_var_o (h : ρ[i]? = some (.own x)) (g : k (.v i) ρ) : XE K (tVar i) ρ k := fun F H σ Q E q => by
  obtain ⟨p, e, hd⟩ := E.slot i _ h
  exact ⟨_, e, q _ H (.v i) ρ (hotR.v (Keep.refl _ _)) ⟨E, e, x, h⟩ g⟩
theorem xe_val {v : V} (hv : ∀ M H, Da M K H v x) (g : k (.d x) ρ) : XE K (tC v) ρ k := fun F H σ Q E q => q _ H (.d x) ρ (hotR.d (Keep.refl _ _)) ⟨E, hv _ H⟩ g
theorem xe_int {n : Int} (g : k (.d (.int n)) ρ) : XE K (tC (.int n)) ρ k := xe_val (x := .int n) (fun _ _ => rfl) g
theorem xe_bl {n : Bool} (g : k (.d (.bl n)) ρ) : XE K (tC (.bl n)) ρ k := xe_val (x := .bl n) (fun _ _ => rfl) g
theorem xe_str {n : Str} (g : k (.d (.str n)) ρ) : XE K (tC (.str n)) ρ k := xe_val (x := .str n) (fun _ _ => rfl) g
theorem xe_non (g : k (.d .non) ρ) : XE K (tC .non) ρ k := xe_val (x := .non) (fun _ _ => rfl) g

/-! quiet operations on values -/
def OpD (K : PySem.W.Frag) (r : R2) (x y : D) (k : Res → Prop) : Prop := ∀ (M : Addr → Prop) (H : Hp) (u v : V) (Q : VK), Tr M H → Pk M K H u x → Pk M K H v y → (∀ w H' z, Ext H H' → ResV M K H H' w z → k z → Q w H') → r u v H Q
def UnD (K : PySem.W.Frag) (r : V → Hp → VK → Prop) (x : D) (k : Res → Prop) : Prop := ∀ (M : Addr → Prop) (H : Hp) (u : V) (Q : VK), Tr M H → Pk M K H u x → (∀ w H' z, Ext H H' → ResV M K H H' w z → k z → Q w H') → r u H Q
theorem xe_un {r : V → Hp → VK → Prop} (h : XE K ta ρ fun r1 ρ1 => ∃ x1, peek ρ1 r1 = some x1 ∧ UnD K r x1 fun z => k z ρ1) : XE K (tUn r ta) ρ k := fun F H σ Q E q =>
  h F H σ _ E fun v H1 r1 ρ1 kp R1 ⟨x1, p1, g⟩ => g _ H1 v Q (hot_tr R1.env) (R1.held.pk R1.env p1) fun w H' z e hz kz => q w H' z ρ1 (hotR.res (hotR.hot kp) e hz) (ResV.rv R1.env e hz) kz
theorem xe_op {r : R2} (h : XE K ta ρ fun r1 ρ1 => XE K tb ρ1 fun r2 ρ2 => ∃ x1 x2, peek ρ2 r1 = some x1 ∧ peek ρ2 r2 = some x2 ∧ OpD K r x1 x2 fun z => k z ρ2) : XE K (tOp r ta tb) ρ k := fun F H σ Q E q =>
  h F H σ _ E fun v H1 r1 ρ1 kp R1 h2 => h2 F H1 σ _ R1.env fun u H2 r2 ρ2 kp2 R2 ⟨x1, x2, p1, p2, g⟩ =>
    g _ H2 v u Q (hot_tr R2.env) ((R1.held.keep (hotR.hot kp2)).pk R2.env p1) (R2.held.pk R2.env p2) fun w H' z e hz kz => q w H' z ρ2 (hotR.res ((hotR.hot kp).trans (hotR.hot kp2)) e hz) (ResV.rv R2.env e hz) kz
/-- a quiet operation that gives one datum (no part of the operands' own lists), the heap as it was -/
theorem opd_val {r : R2} {x y z : D} {kk : Res → Prop} (hz : ∀ (M : Addr → Prop) (H : Hp) (u v : V) (Q : VK), Pk M K H u x → Pk M K H v y → (∀ w, Da M K H w z → Q w H) → r u v H Q) (g : kk (.d z)) : OpD K r x y kk :=
  fun M H u v Q _ h1 h2 q => hz M H u v Q h1 h2 fun w hw => q w H (.d z) (Ext.refl H) hw g

/-! tests -/
theorem xt_test {kb : Bool → List Ent → Prop} (h : XE K te ρ fun r ρ' => ∃ b, r = .d (.bl b) ∧ kb b ρ') : XT K (tTest te) ρ kb := fun F H σ Q E q =>
  h F H σ _ E fun v H' r ρ' kp R ⟨b, e, g⟩ => by
    subst e
    obtain ⟨E', hv⟩ := R
    exact ⟨b, hv, q b H' ρ' (hotR.hot kp) E' g⟩
theorem xt_B {kb : Bool → List Ent → Prop} (h : XE K te ρ fun r ρ' => ∃ b, r = .d (.bl b) ∧ kb b ρ') : XT K (tB te) ρ kb := xt_test h
theorem xt_not {tt : TT} {kb : Bool → List Ent → Prop} (h : XT K tt ρ fun b ρ' => kb (!b) ρ') : XT K (tNot tt) ρ kb := fun F H σ Q E q => h F H σ _ E fun b H' ρ' kp E' g => q (!b) H' ρ' kp E' g
theorem xt_and {t u : TT} {kb : Bool → List Ent → Prop} (h : XT K t ρ fun b ρ' => (b = true → XT K u ρ' kb) ∧ (b = false → kb false ρ')) : XT K (tAnd t u) ρ kb := fun F H σ Q E q =>
  h F H σ _ E fun b H' ρ' kp E' g => by
    cases b with
    | true => exact g.1 rfl F H' σ Q E' fun b2 H2 ρ2 kp2 E2 g2 => q b2 H2 ρ2 (kp.trans kp2) E2 g2
    | false => exact q false H' ρ' kp E' (g.2 rfl)
theorem xt_or {t u : TT} {kb : Bool → List Ent → Prop} (h : XT K t ρ fun b ρ' => (b = false → XT K u ρ' kb) ∧ (b = true → kb true ρ')) : XT K (tOr t u) ρ kb := fun F H σ Q E q =>
  h F H σ _ E fun b H' ρ' kp E' g => by
    cases b with
    | false => exact g.1 rfl F H' σ Q E' fun b2 H2 ρ2 kp2 E2 g2 => q b2 H2 ρ2 (kp.trans kp2) E2 g2
    | true => exact q true H' ρ' kp E' (g.2 rfl)
theorem xe_if {tt : TT} (h : XT K tt ρ fun b ρ' => (b = true → XE K ta ρ' k) ∧ (b = false → XE K tb ρ' k)) : XE K (tIf tt ta tb) ρ k := fun F H σ Q E q =>
  h F H σ _ E fun b H' ρ' kp E' g => by
    cases b with
    | true => exact g.1 rfl F H' σ Q E' fun v H2 r ρ2 kp2 R g2 => q v H2 r ρ2 (kp.trans kp2) R g2
    | false => exact g.2 rfl F H' σ Q E' fun v H2 r ρ2 kp2 R g2 => q v H2 r ρ2 (kp.trans kp2) R g2
theorem xe_andV (h : XE K ta ρ fun r ρ' => ∃ b, r = .d (.bl b) ∧ (b = true → XE K tb ρ' k) ∧ (b = false → k (.d (.bl false)) ρ')) : XE K (tAndV ta tb) ρ k := fun F H σ Q E q =>
  h F H σ _ E fun v H' r ρ' kp R ⟨b, e, g1, g2⟩ => by
    subst e
    obtain ⟨E', hv⟩ := R
    refine ⟨b, hv, ?_⟩
    cases b with
    | true => exact g1 rfl F H' σ Q E' fun v H2 r ρ2 kp2 R g2 => q v H2 r ρ2 ((hotR.hot kp).trans kp2) R g2
    | false => exact q _ H' (.d (.bl false)) ρ' (hotR.d (hotR.hot kp)) ⟨E', rfl⟩ (g2 rfl)
theorem xe_orV (h : XE K ta ρ fun r ρ' => ∃ b, r = .d (.bl b) ∧ (b = false → XE K tb ρ' k) ∧ (b = true → k (.d (.bl true)) ρ')) : XE K (tOrV ta tb) ρ k := fun F H σ Q E q =>
  h F H σ _ E fun v H' r ρ' kp R ⟨b, e, g1, g2⟩ => by
    subst e
    obtain ⟨E', hv⟩ := R
    refine ⟨b, hv, ?_⟩
    cases b with
    | false => exact g1 rfl F H' σ Q E' fun v H2 r ρ2 kp2 R g2 => q v H2 r ρ2 ((hotR.hot kp).trans kp2) R g2
    | true => exact q _ H' (.d (.bl true)) ρ' (hotR.d (hotR.hot kp)) ⟨E', rfl⟩ (g2 rfl)
theorem xe_notV (h : XE K ta ρ fun r ρ' => ∃ b, r = .d (.bl b) ∧ k (.d (.bl (!b))) ρ') : XE K (tNotV ta) ρ k := fun F H σ Q E q =>
  h F H σ _ E fun v H' r ρ' kp R ⟨b, e, g⟩ => by
    subst e
    obtain ⟨E', hv⟩ := R
    exact ⟨b, hv, q _ H' (.d (.bl (!b))) ρ' (hotR.d (hotR.hot kp)) ⟨E', rfl⟩ g⟩
theorem xe_chain {r r' : R2} (h : XE K ta ρ fun r1 ρ1 => XE K tb ρ1 fun r2 ρ2 => ∃ x1 x2, peek ρ2 r1 = some x1 ∧ peek ρ2 r2 = some x2 ∧ OpD K r x1 x2 fun z => ∃ b, z = .d (.bl b) ∧
    (b = true → XE K tc ρ2 fun r3 ρ3 => ∃ x2' x3, peek ρ3 r2 = some x2' ∧ peek ρ3 r3 = some x3 ∧ OpD K r' x2' x3 fun z => k z ρ3) ∧ (b = false → k (.d (.bl false)) ρ2)) : XE K (tChain r r' ta tb tc) ρ k := fun F H σ Q E q =>
  h F H σ _ E fun v H1 r1 ρ1 kp R1 h2 => h2 F H1 σ _ R1.env fun u H2 r2 ρ2 kp2 R2 ⟨x1, x2, p1, p2, g⟩ =>
    g _ H2 v u _ (hot_tr R2.env) ((R1.held.keep (hotR.hot kp2)).pk R2.env p1) (R2.held.pk R2.env p2) fun w H3 z e hz ⟨b, ez, g1, g2⟩ => by
      subst ez
      have E3 : Env K F H3 σ ρ2 := R2.env.ex e
      have k3 : Keep (hot F σ ρ2) H2 (hot F σ ρ2) H3 := Keep.ext e
      have k12 := (hotR.hot kp).trans (hotR.hot kp2)
      refine ⟨b, hz, ?_⟩
      cases b with
      | true =>
        show tc σ H3 fun w' H4 => r' u w' H4 Q
        exact g1 rfl F H3 σ _ E3 fun w' H4 r3 ρ3 kp4 R4 ⟨x2', x3, p2', p3, g3⟩ => g3 _ H4 u w' Q (hot_tr R4.env) (((R2.held.keep k3).keep (hotR.hot kp4)).pk R4.env p2') (R4.held.pk R4.env p3)
          fun w2 H5 z2 e5 hz2 kz => q w2 H5 z2 ρ3 (hotR.res ((k12.trans k3).trans (hotR.hot kp4)) e5 hz2) (ResV.rv R4.env e5 hz2) kz
      | false =>
        show Q (.bl false) H3
        exact q _ H3 (.d (.bl false)) ρ2 (hotR.d (k12.trans k3)) ⟨E3, rfl⟩ (g2 rfl)

/-! arguments, displays, calls -/
theorem xa_nil {ka : List Res → List Ent → Prop} (g : ka [] ρ) : XA K tNil ρ ka := fun F H σ Q E q => q [] H [] ρ (Keep.refl _ _) E rfl g
theorem xa_cons {ta' : TA} {ka : List Res → List Ent → Prop} (h : XE K te ρ fun r ρ1 => XA K ta' ρ1 fun rs ρ2 => ka (r :: rs) ρ2) : XA K (tCons te ta') ρ ka := fun F H σ Q E q =>
  h F H σ _ E fun v H1 r ρ1 kp R h2 => h2 F H1 σ _ R.env fun vs H2 rs ρ2 kp2 E2 hs g => q (v :: vs) H2 (r :: rs) ρ2 ((hotR.hot kp).trans kp2) E2 ⟨v, vs, rfl, R.held.keep kp2, hs⟩ g
theorem xe_tup {t : TA} (h : XA K t ρ fun rs ρ1 => ∃ xs, peekAll ρ1 rs = some xs ∧ xs.length ≤ sizeLine ∧ k (.d (.tup xs)) (frzAll ρ1 rs)) : XE K (tTup t) ρ k := fun F H σ Q E q =>
  h F H σ _ E fun vs H1 rs ρ1 kp E1 hs ⟨xs, px, hl, g⟩ => by
    obtain ⟨E2, d2, k2⟩ := HeldAll.frz E1 hs px
    refine ⟨by rw [d2.length]; exact hl, fun p hp => ?_⟩
    have e : Ext H1 (upd H1 p (.tup vs)) := Ext.new hp
    refine q _ _ (.d (.tup xs)) (frzAll ρ1 rs) (hotR.d ((kp.trans k2).trans (Keep.ext e))) ⟨E2.ex e, ?_⟩ g
    exact Da.newT d2 hp fun z => (E2.hotTrk p z).ne hp
theorem newL {M : Addr → Prop} {H : Hp} {p : Addr} {vs : List V} {xs : List D} (d : DaAll M K H vs xs) (hp : H p = none) : ResV M K H (upd H p (.lst vs)) (.ref p) (.nw (.lst xs)) :=
  ⟨p, rfl, hp, vs, upd_same, (d.push hp).mono fun b o n z => ⟨n, Ext.new hp b o z⟩⟩
theorem newT {M : Addr → Prop} {H : Hp} {p : Addr} {vs : List V} {xs : List D} (t : Tr M H) (d : DaAll M K H vs xs) (hp : H p = none) : ResV M K H (upd H p (.tup vs)) (.ref p) (.d (.tup xs)) :=
  Da.newT d hp fun z => (t p z).ne hp
theorem xe_lst {t : TA} (h : XA K t ρ fun rs ρ1 => ∃ xs, peekAll ρ1 rs = some xs ∧ xs.length ≤ sizeLine ∧ k (.nw (.lst xs)) (frzAll ρ1 rs)) : XE K (tLst t) ρ k := fun F H σ Q E q =>
  h F H σ _ E fun vs H1 rs ρ1 kp E1 hs ⟨xs, px, hl, g⟩ => by
    obtain ⟨E2, d2, k2⟩ := HeldAll.frz E1 hs px
    refine ⟨by rw [d2.length]; exact hl, fun p hp => ?_⟩
    have e : Ext H1 (upd H1 p (.lst vs)) := Ext.new hp
    have z := newL d2 hp
    exact q _ _ (.nw (.lst xs)) (frzAll ρ1 rs) (hotR.res (kp.trans k2) e z) (ResV.rv E2 e z) g
/-- a call by values (a builtin, a def that promises nothing else): quiet -/
def CaD (K : PySem.W.Frag) (r : List V → Hp → VK → Prop) (xs : List D) (k : Res → Prop) : Prop := ∀ (M : Addr → Prop) (H : Hp) (us : List V) (Q : VK), Tr M H → us.length = xs.length →
  (∀ (i : Nat) (v : V) (x : D), us[i]? = some v → xs[i]? = some x → Pk M K H v x) → (∀ w H' z, Ext H H' → ResV M K H H' w z → k z → Q w H') → r us H Q
theorem xe_cb {r : List V → Hp → VK → Prop} {t : TA} (h : XA K t ρ fun rs ρ1 => ∃ xs, peekAll ρ1 rs = some xs ∧ CaD K r xs fun z => k z ρ1) : XE K (tCB r t) ρ k := fun F H σ Q E q =>
  h F H σ _ E fun vs H1 rs ρ1 kp E1 hs ⟨xs, px, g⟩ => by
    obtain ⟨q1, q2⟩ := HeldAll.pk E1 hs px
    exact g _ H1 vs Q (hot_tr E1) q1 q2 fun w H' z e hz kz => q w H' z ρ1 (hotR.res kp e hz) (ResV.rv E1 e hz) kz
/-- the promise of a def on data: w ds k says that it may give any r with k r (and surely such a one) -/
abbrev WF := List D → (Res → Prop) → Prop
def spW (K : PySem.W.Frag) (w : WF) : Sp := fun vs H Q _ => ∃ (M : Addr → Prop) (ds : List D) (kk : Res → Prop), Tr M H ∧ DaAll M K H vs ds ∧ w ds kk ∧ ∀ v H' r, Ext H H' → ResV M K H H' v r → kk r → Q v H'
theorem xe_call {w : WF} {E : XK} {t : TA} (h : XA K t ρ fun rs ρ1 => ∃ xs, peekAll ρ1 rs = some xs ∧ w xs fun z => k z (frzAll ρ1 rs)) : XE K (tCall (spW K w) [] E t) ρ k := fun F H σ Q E0 q =>
  h F H σ _ E0 fun vs H1 rs ρ1 kp E1 hs ⟨xs, px, g⟩ => by
    obtain ⟨E2, d2, k2⟩ := HeldAll.frz E1 hs px
    rw [List.append_nil]
    exact ⟨_, xs, _, hot_tr E2, d2, g, fun v H' r e hr kr => q v H' r _ (hotR.res (kp.trans k2) e hr) (ResV.rv E2 e hr) kr⟩
/-- .. that gives a scalar: its arguments are only read -/
def tCallS (sp : Sp) (E : XK) (t : TA) : TE := tCall sp [] E t
theorem xe_callS {w : WF} {E : XK} {t : TA} (h : XA K t ρ fun rs ρ1 => ∃ xs, peekAll ρ1 rs = some xs ∧ w xs fun z => ∃ y, z = .d y ∧ y.scalar = true ∧ k (.d y) ρ1) : XE K (tCallS (spW K w) E t) ρ k := fun F H σ Q E0 q =>
  h F H σ _ E0 fun vs H1 rs ρ1 kp E1 hs ⟨xs, px, g⟩ => by
    show spW K w (vs ++ []) H1 Q E
    rw [List.append_nil]
    refine ⟨fun _ => False, xs, _, fun b z => z.elim, HeldAll.now E1 hs px, g, fun v H' r e hr ⟨y, er, sy, kr⟩ => ?_⟩
    subst er
    exact q v H' (.d y) ρ1 (hotR.d (kp.trans (Keep.ext e))) ⟨E1.ex e, hr.scal sy⟩ kr
/-- the promise of a def whose first argument is the hand -/
def hotN (M : Addr → Prop) (v : V) (r : Res) (b : Addr) : Prop := M b ∨ ((∃ x, r = .nw x) ∧ v = .ref b)
def spH (K : PySem.W.Frag) (w : WF) : Sp := fun vs H Q _ => ∃ (M : Addr → Prop) (a : Addr) (ws : List V) (ds : List D) (kk : Res → Prop), vs = .ref a :: ws ∧ Tr M H ∧ M a ∧ HandOk M K H a ∧ DaAll M K H ws ds ∧ w ds kk ∧
  ∀ v H' r, (∀ b o, b ≠ a → H b = some o → H' b = some o) → HandOk (hotN M v r) K H' a → ResV M K H H' v r → kk r → Q v H'
def tCallH (sp : Sp) (E : XK) (i : Nat) (t : TA) : TE := tCall sp [] E (tCons (tVar i) t)
theorem xe_callH {w : WF} {E : XK} {t : TA} (hi : ρ[i]? = some .hand) (h : XA K t ρ fun rs ρ1 => ∃ xs, peekAll ρ1 rs = some xs ∧ w xs fun z => k z (frzAll ρ1 rs)) : XE K (tCallH (spH K w) E i t) ρ k := fun F H σ Q E0 q => by
  obtain ⟨a, ha, es⟩ := E0.slot i _ hi
  refine ⟨_, es, ?_⟩
  refine h F H σ _ E0 fun vs H1 rs ρ1 kp E1 hs ⟨xs, px, g⟩ => ?_
  obtain ⟨E2, d2, k2⟩ := HeldAll.frz E1 hs px
  obtain ⟨m1, m2, m3⟩ := E2.hand a ha
  rw [List.append_nil]
  refine ⟨_, a, vs, xs, _, rfl, hot_tr E2, .inl m1, m3, d2, g, fun v H' r st hh hr kr => ?_⟩
  have st' : ∀ b o, F.hd ≠ some b → H1 b = some o → H' b = some o := fun b o n e => st b o (fun z => n (by rw [z]; exact ha)) e
  have E3 : Env K F H' σ (frzAll ρ1 rs) := E2.step st' fun c hc => by
    rw [ha] at hc
    cases hc
    exact HandOk.mono hh (fun b o n e => ⟨fun z => n (.inl z), e⟩) fun _ z => z
  have k3 : Keep (hot F σ (frzAll ρ1 rs)) H1 (hot F σ (frzAll ρ1 rs)) H' := fun b o n e => ⟨n, st b o (fun z => n (by rw [z]; exact .inl m1)) e⟩
  cases r with
  | d x => exact q v H' (.d x) _ (hotR.d ((kp.trans k2).trans k3)) ⟨E3, hr⟩ kr
  | v j => exact hr.elim
  | nw x =>
    obtain ⟨p, rfl, hp, ho⟩ := hr
    have np : ∀ b, hot F σ (frzAll ρ1 rs) b → b ≠ p := fun b hb z => (E2.hotTrk b hb).ne (by rw [z]; exact hp)
    have split : ∀ b, hot (F.push p) σ (frzAll ρ1 rs) b → hot F σ (frzAll ρ1 rs) b ∨ b = p := fun b z => by
      rcases z with z | z
      · rcases z with z | z
        · exact .inl (.inl z)
        · exact .inr z
      · exact .inl (.inr z)
    refine q _ H' (.nw x) _ ?_ ⟨p, rfl, h0_none E2 hp, fun z => np p z rfl, ?_, ho.mono (fun b o n ee => ⟨fun z => n (split b z), ee⟩) fun _ z => z⟩ kr
    · intro b o n e0
      obtain ⟨g1, g2⟩ := ((kp.trans k2)) b o n e0
      refine ⟨fun z => z.elim g1 fun z => ?_, (k3 b o g1 g2).2⟩
      obtain ⟨_, z⟩ := z
      have z' : p = b := by injection z
      rw [z', g2] at hp
      cases hp
    · -- hot from now on: the new address was not tracked
      have old := split
      have cold : ∀ b o, ¬ hot F σ (frzAll ρ1 rs) b → H1 b = some o → ¬ hot (F.push p) σ (frzAll ρ1 rs) b ∧ H' b = some o := fun b o n e => ⟨fun z => (old b z).elim n fun z => (by rw [z, hp] at e; cases e), (k3 b o n e).2⟩
      refine ⟨E3.len, E3.go, fun b hb => ?_, fun c hc => ?_, fun j b h2 => ?_, E3.injO, fun j e he => ?_, E3.pk.1, fun b hb hm => hm.elim (E3.pk.2 b hb) fun z => absurd (by rw [z]; exact (pk_none E2 (h0_none E2 hp) : F.B p = none)) hb⟩
      · rcases hb with hb | hb
        · exact E3.trk b hb
        · rw [hb]; exact ho.nt
      · rw [ha] at hc
        cases hc
        refine ⟨.inl m1, m2, HandOk.mono hh (fun b o n e => ⟨fun z => n ?_, e⟩) fun _ z => z⟩
        rcases split b z with z | z
        · exact .inl z
        · rw [z]
          exact .inr ⟨⟨x, rfl⟩, rfl⟩
      · obtain ⟨q1, q2⟩ := E2.newO j b h2
        refine ⟨q1, fun z => z.elim q2 fun z => ?_⟩
        exact np b (.inr ⟨j, h2⟩) z
      · refine (E2.slot j e he).mono cold (fun p' ho' o ho'' => st' p' o (fun z => ?_) ho'') ⟨rfl, rfl, rfl⟩
        exact (E2.newO j p' ⟨e, he, ho'⟩).2 (E2.hand p' z).1

/-! ### statements -/
variable {Φ : Post} {t u : TS}
theorem xs_seq (h : XS K t ρ { Φ with nx := fun ρ' => XS K u ρ' Φ }) : XS K (tSeq t u) ρ Φ := fun F H σ Dn E I =>
  h F H σ { Dn with nx := u Dn } E ⟨fun H' σ' ρ' kp E' g => g F H' σ' Dn E' (I.later kp), I.rt, I.bk, I.ct⟩
theorem xs_next (g : Φ.nx ρ) : XS K tNext ρ Φ := fun F H σ Dn E I => I.nx H σ ρ (Keep.refl _ _) E g
theorem xs_break (g : Φ.bk ρ) : XS K tBreak ρ Φ := fun F H σ Dn E I => I.bk H σ ρ (Keep.refl _ _) E g
theorem xs_cont (g : Φ.ct ρ) : XS K tCont ρ Φ := fun F H σ Dn E I => I.ct H σ ρ (Keep.refl _ _) E g
/-- what a name's store leaves: an own object of another slot is let go first -/
def stoE (ρ : List Ent) (i j : Nat) : Option Ent → List Ent
  | some (.own x) => (ρ.set i (.d x)).set j (.d x)
  | _ => ρ.set j .u
def sto (ρ : List Ent) (j : Nat) (r : Res) : List Ent := match r with
  | .d x => ρ.set j (.d x)
  | .nw x => ρ.set j (.own x)
  | .v i => stoE ρ i j ρ[i]?
theorem hot_setD {F : Fr} {σ : L2.St} {j : Nat} {v : V} {b : Addr} (hl : σ.length = ρ.length) (h : hot F (σ.set j (some v)) (ρ.set j (.d x)) b) : hot F σ ρ b := by
  rcases h with h | ⟨l, h⟩
  · exact .inl h
  · rcases h.set hl with ⟨_, e, _⟩ | ⟨n, h3⟩
    · exact (show False from e).elim
    · exact .inr ⟨l, h3⟩
theorem RV.sto {F : Fr} {H : Hp} {σ : L2.St} {v : V} {r : Res} {j : Nat} (R : RV K F H σ ρ v r) : Env K F H (σ.set j (some v)) (sto ρ j r) ∧ ∀ b, hot F (σ.set j (some v)) (sto ρ j r) b → hotR F σ ρ v r b := by
  cases r with
  | d x => exact ⟨R.set fun i z => (nomatch z), fun b h => .inl (hot_setD R.env.len h)⟩
  | nw x =>
    refine ⟨R.set fun i z => (nomatch z), fun b h => ?_⟩
    rcases h with h | ⟨l, h⟩
    · exact .inl (.inl h)
    · rcases h.set R.env.len with ⟨_, q, _⟩ | ⟨_, q⟩
      · have q : some (some v) = some (some (V.ref b)) := q
        exact .inr ⟨⟨x, rfl⟩, Option.some.inj (Option.some.inj q)⟩
      · exact .inl (.inr ⟨l, q⟩)
  | v i =>
    obtain ⟨E, hs, x, hx⟩ := id R
    have hp : peek ρ (.v i) = some x := by show peekE ρ[i]? = some x; rw [hx]; rfl
    obtain ⟨E', hd⟩ := R.frz hp
    show Env K F H (σ.set j (some v)) (stoE ρ i j ρ[i]?) ∧ ∀ b, hot F (σ.set j (some v)) (stoE ρ i j ρ[i]?) b → _
    rw [hx]
    have e : PW.frz ρ (.v i) = ρ.set i (.d x) := by
      show frzE ρ i ρ[i]? = _
      rw [hx]
      rfl
    rw [e] at E' hd
    refine ⟨E'.setD hd, fun b h => .inl ?_⟩
    have h1 := hot_setD (x := x) E'.len h
    rcases h1 with h1 | ⟨l, h1⟩
    · exact .inl h1
    · rcases h1.put with ⟨_, q, _⟩ | ⟨_, q⟩
      · exact (show False from q).elim
      · exact .inr ⟨l, q⟩
theorem xs_asg {j : Nat} (h : XE K te ρ fun r ρ' => Φ.nx (sto ρ' j r)) : XS K (tAsg te (gName j)) ρ Φ := fun F H σ Dn E I =>
  h F H σ _ E fun v H' r ρ' kp R g => I.nx H' _ _ (fun b o n e => ⟨fun z => (kp b o n e).1 (R.sto.2 b z), (kp b o n e).2⟩) R.sto.1 g
/-- what is handed back: an own object is a new one for the caller -/
def backE (ρ : List Ent) (i : Nat) (k : Res → List Ent → Prop) : Option Ent → Prop
  | some (.own x) => k (.nw x) (ρ.set i .u)
  | _ => False
def back (ρ : List Ent) (r : Res) (k : Res → List Ent → Prop) : Prop := match r with
  | .d x => k (.d x) ρ
  | .nw x => k (.nw x) ρ
  | .v i => backE ρ i k ρ[i]?
theorem RV.backs {F : Fr} {H : Hp} {σ : L2.St} {v : V} {r : Res} {kk : Res → List Ent → Prop} (R : RV K F H σ ρ v r) (h : back ρ r kk) :
    ∃ ρ' r', RV K F H σ ρ' v r' ∧ (∀ i, r' ≠ .v i) ∧ kk r' ρ' ∧ ∀ b, hotR F σ ρ' v r' b → hotR F σ ρ v r b := by
  cases r with
  | d x => exact ⟨ρ, .d x, R, (fun i z => nomatch z), h, fun _ z => z⟩
  | nw x => exact ⟨ρ, .nw x, R, (fun i z => nomatch z), h, fun _ z => z⟩
  | v i =>
    obtain ⟨E, hs, x, hx⟩ := id R
    have h : backE ρ i kk ρ[i]? := h
    rw [hx] at h
    obtain ⟨p, e, hh, ho⟩ := E.slotOwn hx
    rw [hs] at e
    cases e
    obtain ⟨h0, nM⟩ := E.new i x p hx hs
    have own : ∀ (j : Nat) (b : Addr), Owns σ (ρ.set i .u) j b → j ≠ i ∧ Owns σ ρ j b := fun j b hh => by
      rcases hh.put with ⟨_, q, _⟩ | q
      · exact (show False from q).elim
      · exact q
    have sub : ∀ b, hot F σ (ρ.set i .u) b → hot F σ ρ b ∧ b ≠ p := fun b hb => by
      rcases hb with hb | ⟨j, hb⟩
      · exact ⟨.inl hb, fun z => nM (by rw [← z]; exact hb)⟩
      · obtain ⟨n, q⟩ := own j b hb
        exact ⟨.inr ⟨j, q⟩, fun z => n (E.injO j i b q (by rw [z]; exact .own hx hs))⟩
    have sub2 : ∀ b, hot (F.push p) σ (ρ.set i .u) b → hot F σ ρ b := fun b hb => by
      rcases hb with hb | hb
      · rcases hb with hb | hb
        · exact .inl hb
        · rw [hb]; exact hh
      · exact (sub b (.inr hb)).1
    have cold : ∀ b o, ¬ hot F σ ρ b → H b = some o → ¬ hot (F.push p) σ (ρ.set i .u) b ∧ H b = some o := fun b o n e => ⟨fun z => n (sub2 b z), e⟩
    refine ⟨ρ.set i .u, .nw x, ⟨p, rfl, h0, fun z => (sub p z).2 rfl, ⟨by rw [List.length_set]; exact E.len, E.go, fun b hb => ?_, fun a e => ?_, fun j b h1 => ?_, fun j k b h1 h2 => E.injO j k b (own j b h1).2 (own k b h2).2, fun j e hj => ?_, E.pk.1, fun b hb hm => hm.elim (E.pk.2 b hb) fun z => absurd (by rw [z]; exact (pk_none E h0 : F.B p = none)) hb⟩, ho.mono cold fun _ z => z⟩,
      (fun i z => nomatch z), h, fun b hb => ?_⟩
    · rcases hb with hb | hb
      · exact E.trk b hb
      · rw [hb]; exact ho.nt
    · obtain ⟨q1, q2, q3⟩ := E.hand a e
      exact ⟨.inl q1, q2, HandOk.mono q3 cold fun _ z => z⟩
    · obtain ⟨n, q⟩ := own j b h1
      refine ⟨(E.newO j b q).1, fun z => ?_⟩
      rcases z with z | z
      · exact (E.newO j b q).2 z
      · exact n (E.injO j i b q (by rw [z]; exact .own hx hs))
    · rcases set_get hj with ⟨e1, e2, hl⟩ | ⟨n, h⟩
      · subst e1 e2
        trivial
      · exact (E.slot j e h).mono cold (fun _ _ _ z => z) ⟨rfl, rfl, rfl⟩
    · rcases hb with hb | ⟨_, hb⟩
      · exact .inl (sub b hb).1
      · cases hb
        exact .inl hh
theorem xs_ret (h : XE K te ρ fun r ρ' => back ρ' r Φ.rt) : XS K (tRet te) ρ Φ := fun F H σ Dn E I =>
  h F H σ _ E fun v H' r ρ' kp R g => by
    obtain ⟨ρ2, r', R', n, g', hs⟩ := R.backs g
    exact I.rt v H' σ ρ2 r' (fun b o n e => ⟨fun z => (kp b o n e).1 (hs b z), (kp b o n e).2⟩) R' n g'
theorem xs_retN (g : Φ.rt (.d .non) ρ) : XS K tRetN ρ Φ := fun F H σ Dn E I => I.rt .non H σ ρ (.d .non) (hotR.d (Keep.refl _ _)) ⟨E, rfl⟩ (fun i z => nomatch z) g
theorem xs_drop (h : XE K te ρ fun _ ρ' => Φ.nx ρ') : XS K (tDrop te) ρ Φ := fun F H σ Dn E I =>
  h F H σ _ E fun v H' r ρ' kp R g => I.nx H' σ ρ' (hotR.hot kp) R.env g
theorem xs_if {c : TT} (h : XT K c ρ fun b ρ' => (b = true → XS K t ρ' Φ) ∧ (b = false → XS K u ρ' Φ)) : XS K (tIfS c t u) ρ Φ := fun F H σ Dn E I =>
  h F H σ _ E fun b H' ρ' kp E' g => by
    cases b with
    | true => exact g.1 rfl F H' σ Dn E' (I.later kp)
    | false => exact g.2 rfl F H' σ Dn E' (I.later kp)
end
end PW
end
section
/-! PW: a def's entry; loops, comprehensions; methods of own lists. -/
namespace PW
open PySem PySem.Spec PyProof.Rows L2

/-! ### a def's entry -/
def ini (n : Nat) (ds : List D) : List Ent := ds.map Ent.d ++ List.replicate (n - ds.length) .u
theorem ini_get {n : Nat} {ds : List D} {i : Nat} {e : Ent} (h : (ini n ds)[i]? = some e) : (∃ x, ds[i]? = some x ∧ e = .d x) ∨ e = .u := by
  unfold ini at h
  by_cases hi : i < ds.length
  · rw [List.getElem?_append_left (by simpa using hi), List.getElem?_map] at h
    cases q : ds[i]? with
    | none => rw [q] at h; cases h
    | some x => rw [q] at h; cases h; exact .inl ⟨x, rfl, rfl⟩
  · rw [List.getElem?_append_right (by simpa using hi), List.getElem?_replicate] at h
    split at h
    · cases h; exact .inr rfl
    · cases h
theorem start_get {N : List Str} {vs : List V} {i : Nat} {v : V} (h : vs[i]? = some v) : (L2.start N vs)[i]? = some (some v) := by
  have hi : i < vs.length := (List.getElem?_eq_some_iff.mp h).1
  unfold L2.start
  rw [List.getElem?_append_left (by simpa using hi), List.getElem?_map, h]
  rfl
section
variable {K : PySem.W.Frag} {w : WF} {N : List Str} {vs : List V} {H : Hp} {Q : VK} {E : XK} {t : TS}
theorem env_ini {M : Addr → Prop} {ds : List D} (tr : Tr M H) (d : DaAll M K H vs ds) : Env K (fr M H none) H (L2.start N vs) (ini N.length ds) := by
  have own : ∀ (i : Nat) (b : Addr), Owns (L2.start N vs) (ini N.length ds) i b → False := calm_own fun i e h => by
    rcases ini_get h with ⟨y, _, e⟩ | e <;> (rw [e]; rfl)
  refine ⟨?_, fun b o _ e => e, tr, fun a e => (nomatch e), fun i b h => (own i b h).elim, fun i j b h => (own i b h).elim, fun i e he => ?_, fr_ok⟩
  · have := d.length
    unfold L2.start ini
    rw [List.length_append, List.length_append, List.length_map, List.length_map, List.length_replicate, List.length_replicate, this]
  · rcases ini_get he with ⟨x, hx, rfl⟩ | rfl
    · obtain ⟨v, hv, hd⟩ := d.at hx
      refine ⟨v, start_get hv, hd.less fun b hb => ?_⟩
      rcases hb with hb | ⟨j, h1⟩
      · exact hb
      · exact (own j b h1).elim
    · trivial
theorem rv_res {F : Fr} {H' : Hp} {σ : L2.St} {ρ : List Ent} {v : V} {r : Res} (R : RV K F H' σ ρ v r) (n : ∀ i, r ≠ .v i) : ResV F.M K F.H0 H' v r := by
  cases r with
  | d x => exact R.2.less fun b hb => .inl hb
  | nw x =>
    obtain ⟨p, e, h0, nh, E, ho⟩ := R
    exact ⟨p, e, h0, ho.mono (fun b o z ee => ⟨fun y => z (.inl y), ee⟩) fun _ z => z⟩
  | v i => exact absurd rfl (n i)
/-- a def that promises spW -/
theorem entry_w (h : spW K w vs H Q E) (body : ∀ ds kk, w ds kk → XS K t (ini N.length ds) { nx := fun _ => kk (.d .non), rt := fun r _ => kk r }) : t { nx := fun _ H' => Q .non H', rt := Q } (L2.start N vs) H := by
  obtain ⟨M, ds, kk, tr, d, hw, fin⟩ := h
  have E0 := env_ini (N := N) tr d
  refine body ds kk hw (fr M H none) H _ _ E0 ⟨fun H' σ' ρ' _ E' g => ?_, fun v H' σ' ρ' r _ R n g => ?_, fun _ _ _ _ _ g => g.elim, fun _ _ _ _ _ g => g.elim⟩
  · exact fin .non H' (.d .non) (fun b o e => E'.go b o (fun z => nomatch z) e) rfl g
  · exact fin v H' r (fun b o e => R.env.go b o (fun z => nomatch z) e) (rv_res R n) g
def iniH (n : Nat) (ds : List D) : List Ent := Ent.hand :: ini (n - 1) ds
/-- a def that promises spH: the hand its first argument -/
theorem entry_h (h : spH K w vs H Q E) (hN : 1 ≤ N.length) (body : ∀ ds kk, w ds kk → XS K t (iniH N.length ds) { nx := fun _ => kk (.d .non), rt := fun r _ => kk r }) : t { nx := fun _ H' => Q .non H', rt := Q } (L2.start N vs) H := by
  obtain ⟨M, a, ws, ds, kk, rfl, tr, ma, ho, d, hw, fin⟩ := h
  have own : ∀ (i : Nat) (b : Addr), Owns (L2.start N (.ref a :: ws)) (iniH N.length ds) i b → False := calm_own fun i e h => by
    cases i with
    | zero => cases h; rfl
    | succ i => rcases ini_get (show (ini (N.length - 1) ds)[i]? = _ from h) with ⟨y, _, e⟩ | e <;> (rw [e]; rfl)
  have less : ∀ b, hot (fr M H (some a)) (L2.start N (.ref a :: ws)) (iniH N.length ds) b → M b := fun b hb => by
    rcases hb with hb | ⟨j, h1⟩
    · exact hb
    · exact (own j b h1).elim
  have E0 : Env K (fr M H (some a)) H (L2.start N (.ref a :: ws)) (iniH N.length ds) := by
    refine ⟨?_, fun b o _ e => e, tr, fun c e => ?_, fun i b h => (own i b h).elim, fun i j b h => (own i b h).elim, fun i e he => ?_, fr_ok⟩
    · have := d.length
      unfold L2.start iniH ini
      simp only [List.length_append, List.length_map, List.length_replicate, List.length_cons]
      omega
    · cases e
      exact ⟨ma, ho.there, HandOk.mono ho (fun b o n e => ⟨fun z => n (less b z), e⟩) fun _ z => z⟩
    · cases i with
      | zero =>
        cases he
        exact ⟨a, rfl, start_get rfl⟩
      | succ i =>
        rcases ini_get (show (ini (N.length - 1) ds)[i]? = _ from he) with ⟨x, hx, rfl⟩ | rfl
        · obtain ⟨v, hv, hd⟩ := d.at hx
          exact ⟨v, start_get (show (V.ref a :: ws)[i + 1]? = some v from hv), hd.less less⟩
        · trivial
  have fin2 : ∀ {H' : Hp} {σ' : L2.St} {ρ' : List Ent} {v : V} {r : Res}, RV K (fr M H (some a)) H' σ' ρ' v r → (∀ i, r ≠ .v i) → kk r → Q v H' := fun {H' σ' ρ' v r} R n g => by
    refine fin v H' r (fun b o nb e => R.env.go b o (fun z => nb (Option.some.inj z).symm) e) ?_ (rv_res R n) g
    cases r with
    | d x =>
      refine HandOk.mono (R.env.hand a rfl).2.2 (fun b o n e => ⟨fun z => n ?_, e⟩) fun _ z => z
      rcases z with z | ⟨⟨_, z⟩, _⟩
      · exact .inl z
      · cases z
    | nw x =>
      obtain ⟨p, e, h0, nh, E, ho⟩ := R
      refine HandOk.mono (E.hand a rfl).2.2 (fun b o n e2 => ⟨fun z => n ?_, e2⟩) fun _ z => z
      rcases z with z | ⟨_, z⟩
      · exact .inl (.inl z)
      · rw [e] at z
        cases z
        exact .inl (.inr rfl)
    | v i => exact absurd rfl (n i)
  exact body ds kk hw (fr M H (some a)) H _ _ E0 ⟨fun H' σ' ρ' _ E' g => fin2 (r := .d .non) ⟨E', rfl⟩ (fun i z => nomatch z) g, fun v H' σ' ρ' r _ R n g => fin2 R n g, fun _ _ _ _ _ g => g.elim, fun _ _ _ _ _ g => g.elim⟩
theorem ints_inv {M : Addr → Prop} : ∀ {ns : List Int} {vs : List V}, DaAll M K H vs (ns.map D.int) → vs = ns.map V.int
  | [], _, h => h
  | n :: ns, _, h => by
    obtain ⟨v, r, e, h1, h2⟩ := h
    rw [e, show v = V.int n from h1, ints_inv h2]
    rfl
/-- the hand's content -/
def handD (cs : List Int) (i1 i2 i3 i4 : Int) : D := .lst [.lst (cs.map D.int), .int i1, .int i2, .int i3, .int i4]
theorem hand_of {M : Addr → Prop} {p : Addr} {cs : List Int} {i1 i2 i3 i4 : Int} (h : OwnAt M K H p (handD cs i1 i2 i3 i4)) (h1 : 0 ≤ i1) (h2 : 0 ≤ i2) : HandOk M K H p := by
  obtain ⟨vs, hp, d⟩ := h
  obtain ⟨v0, r0, e0, ⟨c, ws, ec, hc, hws⟩, d⟩ := d
  obtain ⟨v1, r1, e1, q1, d⟩ := d
  obtain ⟨v2, r2, e2, q2, d⟩ := d
  obtain ⟨v3, r3, e3, q3, d⟩ := d
  obtain ⟨v4, r4, e4, q4, d⟩ := d
  have e5 : r4 = [] := d
  subst e0 e1 e2 e3 e4 e5 ec
  rw [show v1 = V.int i1 from q1, show v2 = V.int i2 from q2, show v3 = V.int i3 from q3, show v4 = V.int i4 from q4] at hp
  rw [ints_inv hws] at hc
  exact ⟨c, cs, i1, i2, i3, i4, hp, hc, h1, h2⟩
end

/-! ### what is walked -/
/-- J yields the data ds; W: what of the heap it leans on -/
structure Gives (K : PySem.W.Frag) (J : It) (ds : List D) (W : (Addr → Prop) → Hp → Prop) : Prop where
  keep : ∀ M H M' H', W M H → Keep M H M' H' → W M' H'
  stop : ∀ M H i, W M H → ds.length ≤ i → J.stop i H
  go : ∀ M H i, W M H → i < ds.length → J.go i H
  yld : ∀ M H i x H' d, Tr M H → W M H → ds[i]? = some d → J.yld i H x H' → Ext H H' ∧ Da M K H' x d
def XI (K : PySem.W.Frag) (wi : TI) (ρ : List Ent) (k : List D → List Ent → Prop) : Prop := ∀ (F : Fr) (H : Hp) (σ : L2.St) (R : It → Hp → Prop), Env K F H σ ρ →
  (∀ J H' ρ' ds W, Keep (hot F σ ρ) H (hot F σ ρ') H' → Env K F H' σ ρ' → Gives K J ds W → W (hot F σ ρ') H' → k ds ρ' → R J H') → wi σ H R
theorem gives_list {K : PySem.W.Frag} {a : Addr} {ds : List D} : Gives K (Itl K a) ds (fun M H => ∃ vs, ColdL M K H a vs ∧ DaAll M K H vs ds) where
  keep := fun M H M' H' ⟨vs, h1, h2⟩ g => ⟨vs, h1.mono g, h2.mono g⟩
  stop := fun M H i ⟨vs, h1, h2⟩ hi => ⟨vs, h1.sq, by rw [h2.length]; exact hi⟩
  go := fun M H i ⟨vs, h1, h2⟩ hi => by
    have hl : i < vs.length := by rw [h2.length]; exact hi
    exact ⟨vs, vs[i], h1.sq, by simp [hl]⟩
  yld := fun M H i x H' d _ ⟨vs, h1, h2⟩ hd y => by
    obtain ⟨e, y⟩ := y
    subst e
    obtain ⟨v, hv, q⟩ := h2.at hd
    have := y vs h1.sq
    rw [hv] at this
    cases this
    exact ⟨Ext.refl _, q⟩
theorem gives_tup {K : PySem.W.Frag} {a : Addr} {ds : List D} : Gives K (Itt K a) ds (fun M H => ∃ vs, ColdT M K H a vs ∧ DaAll M K H vs ds) where
  keep := fun M H M' H' ⟨vs, h1, h2⟩ g => ⟨vs, h1.mono g, h2.mono g⟩
  stop := fun M H i ⟨vs, h1, h2⟩ hi => ⟨vs, h1.sq, by rw [h2.length]; exact hi⟩
  go := fun M H i ⟨vs, h1, h2⟩ hi => by
    have hl : i < vs.length := by rw [h2.length]; exact hi
    exact ⟨vs, vs[i], h1.sq, by simp [hl]⟩
  yld := fun M H i x H' d _ ⟨vs, h1, h2⟩ hd y => by
    obtain ⟨e, y⟩ := y
    subst e
    obtain ⟨v, hv, q⟩ := h2.at hd
    have := y vs h1.sq
    rw [hv] at this
    cases this
    exact ⟨Ext.refl _, q⟩
def rngD (lo : Int) (n : Nat) : List D := (List.range n).map fun (i : Nat) => D.int (lo + (i : Int))
theorem rngD_at {lo : Int} {n i : Nat} {d : D} (h : (rngD lo n)[i]? = some d) : d = .int (lo + (i : Int)) ∧ i < n := by
  unfold rngD at h
  rw [List.getElem?_map] at h
  by_cases hi : i < n
  · rw [List.getElem?_range hi] at h
    cases h
    exact ⟨rfl, hi⟩
  · rw [List.getElem?_eq_none (by simpa using hi)] at h
    cases h
theorem rngD_len {lo : Int} {n : Nat} : (rngD lo n).length = n := by unfold rngD; simp
theorem gives_range {K : PySem.W.Frag} {lo : Int} {n : Nat} : Gives K (Itr lo n) (rngD lo n) (fun _ _ => True) where
  keep := fun _ _ _ _ _ _ => trivial
  stop := fun M H i _ hi => by rw [rngD_len] at hi; exact hi
  go := fun M H i _ hi => by rw [rngD_len] at hi; exact hi
  yld := fun M H i x H' d _ _ hd y => by
    obtain ⟨e, y⟩ := y
    subst e y
    rw [(rngD_at hd).1]
    exact ⟨Ext.refl _, rfl⟩
/-- a list or a tuple -/
def iSeq (K : PySem.W.Frag) (tl : TE) : TI := fun σ H R => tl σ H fun x H1 => ∃ a, x = .ref a ∧ (((∃ xs, SqL K H1 a xs) ∧ R (Itl K a) H1) ∨ ((∃ xs, SqT K H1 a xs) ∧ R (Itt K a) H1))
theorem pi_seq {X : Cx} {tg l : Expr} {tl : TE} (hl : PE X l tl) : PI X tg l (iSeq X.K tl) := by
  refine ⟨fun pins s σ H R I h => ?_⟩
  refine thn (hl.run pins s σ H _ I h) fun v s1 ⟨x, H1, I1, r1, q1⟩ => ?_
  obtain ⟨a, e, q⟩ := q1
  subst e
  cases r1
  rcases q with ⟨⟨xs, hq⟩, q⟩ | ⟨⟨xs, hq⟩, q⟩
  · obtain ⟨its, rv, p, hz⟩ := I1.list hq
    refine wpAny_pyIter_list p.isList ?_
    refine ⟨s1.heap.objs.size, [s1.heap.objs.size], _, _, H1, rfl, I1.kept (t' := s1.toks) fun b o e => Heap.get?_push_of_some _ e, turn_list a _, ⟨_, Heap.get?_push_size _ rfl, rfl, rfl⟩, fun b hb => ?_, q⟩
    have e : b = s1.heap.objs.size := by simpa using hb
    subst e
    exact I1.fpOk (Nat.le_refl _) (I1.hok.fresh (Nat.le_refl _))
  · obtain ⟨its, rv, p, hz⟩ := I1.tuple hq
    refine wpAny_pyIter_tuple (show s1.heap.IsTuple a its.toArray from p) ?_
    refine ⟨s1.heap.objs.size, [s1.heap.objs.size], _, _, H1, rfl, I1.kept (t' := s1.toks) fun b o e => Heap.get?_push_of_some _ e, turn_tuple a _, ⟨_, Heap.get?_push_size _ rfl, rfl, rfl⟩, fun b hb => ?_, q⟩
    have e : b = s1.heap.objs.size := by simpa using hb
    subst e
    exact I1.fpOk (Nat.le_refl _) (I1.hok.fresh (Nat.le_refl _))
/-- the items of a list, a tuple -/
def itemsD : D → Option (List D)
  | .lst ds => some ds
  | .tup ds => some ds
  | _ => none
section
variable {K : PySem.W.Frag} {ρ : List Ent} {te : TE} {ta : TA} {wi : TI}
theorem xi_seq {k : List D → List Ent → Prop} (h : XE K te ρ fun r ρ1 => ∃ x ds, peek ρ1 r = some x ∧ itemsD x = some ds ∧ k ds (frz ρ1 r)) : XI K (iSeq K te) ρ k := fun F H σ R E q =>
  h F H σ _ E fun v H1 r ρ1 kp Rv ⟨x, ds, px, hi, g⟩ => by
    obtain ⟨E2, d2⟩ := Rv.frz px
    have k2 : Keep (hot F σ ρ) H (hot F σ (frz ρ1 r)) H1 := (hotR.hot kp).trans (keep_frz Rv.env)
    cases x with
    | lst es =>
      cases hi
      obtain ⟨a, vs, e, h1, h2⟩ := d2
      exact ⟨a, e, .inl ⟨⟨vs, h1.sq⟩, q _ H1 _ ds _ k2 E2 gives_list ⟨vs, h1, h2⟩ g⟩⟩
    | tup es =>
      cases hi
      obtain ⟨a, vs, e, h1, h2⟩ := d2
      exact ⟨a, e, .inr ⟨⟨vs, h1.sq⟩, q _ H1 _ ds _ k2 E2 gives_tup ⟨vs, h1, h2⟩ g⟩⟩
    | _ => cases hi
theorem da1 {M : Addr → Prop} {H : Hp} {vs : List V} {x : D} (h : DaAll M K H vs [x]) : ∃ v, vs = [v] ∧ Da M K H v x := by
  obtain ⟨v, r, e, h1, h2⟩ := h
  exact ⟨v, by rw [e, show r = [] from h2], h1⟩
theorem da2 {M : Addr → Prop} {H : Hp} {vs : List V} {x y : D} (h : DaAll M K H vs [x, y]) : ∃ v w, vs = [v, w] ∧ Da M K H v x ∧ Da M K H w y := by
  obtain ⟨v, r, e, h1, h2⟩ := h
  obtain ⟨w, e2, h3⟩ := da1 h2
  exact ⟨v, w, by rw [e, e2], h1, h3⟩
theorem xi_range1 {k : List D → List Ent → Prop} (h : XA K ta ρ fun rs ρ1 => ∃ n : Int, peekAll ρ1 rs = some [.int n] ∧ -(2 ^ 62) ≤ n ∧ n < 2 ^ 62 ∧ k (rngD 0 n.toNat) ρ1) : XI K (iRng1 ta) ρ k := fun F H σ R E q =>
  h F H σ _ E fun vs H1 rs ρ1 kp E1 hs ⟨n, px, b1, b2, g⟩ => by
    obtain ⟨v, e, hv⟩ := da1 (HeldAll.now E1 hs px)
    exact ⟨n, by rw [e, show v = V.int n from hv], b1, b2, q _ H1 ρ1 _ _ kp E1 gives_range trivial g⟩
theorem xi_range2 {k : List D → List Ent → Prop} (h : XA K ta ρ fun rs ρ1 => ∃ m n : Int, peekAll ρ1 rs = some [.int m, .int n] ∧ (-(2 ^ 62) ≤ m ∧ m < 2 ^ 62 ∧ -(2 ^ 62) ≤ n ∧ n < 2 ^ 62) ∧ k (rngD m (n - m).toNat) ρ1) : XI K (iRng2 ta) ρ k := fun F H σ R E q =>
  h F H σ _ E fun vs H1 rs ρ1 kp E1 hs ⟨m, n, px, b, g⟩ => by
    obtain ⟨v, w, e, hv, hw⟩ := da2 (HeldAll.now E1 hs px)
    exact ⟨m, n, by rw [e, show v = V.int m from hv, show w = V.int n from hw], b, q _ H1 ρ1 _ _ kp E1 gives_range trivial g⟩

/-! ### targets -/
def XG (K : PySem.W.Frag) (g : TG) (d : D) (ρ : List Ent) (k : List Ent → Prop) : Prop := ∀ (F : Fr) (H : Hp) (σ : L2.St) (v : V) (Q : L2.St → Hp → Prop), Env K F H σ ρ → Da (hot F σ ρ) K H v d →
  (∀ σ' ρ', Keep (hot F σ ρ) H (hot F σ' ρ') H → Env K F H σ' ρ' → k ρ' → Q σ' H) → g v σ H Q
def XGs (K : PySem.W.Frag) (g : TGs) (ds : List D) (ρ : List Ent) (k : List Ent → Prop) : Prop := ∀ (F : Fr) (H : Hp) (σ : L2.St) (vs : List V) (Q : L2.St → Hp → Prop), Env K F H σ ρ → DaAll (hot F σ ρ) K H vs ds →
  (∀ σ' ρ', Keep (hot F σ ρ) H (hot F σ' ρ') H → Env K F H σ' ρ' → k ρ' → Q σ' H) → g vs σ H Q
theorem xg_name {j : Nat} {d : D} {k : List Ent → Prop} (g : k (ρ.set j (.d d))) : XG K (gName j) d ρ k := fun F H σ v Q E hd q =>
  q _ _ (fun b o n e => ⟨fun z => n (hot_setD E.len z), e⟩) (E.setD hd) g
theorem xgs_nil {k : List Ent → Prop} (g : k ρ) : XGs K gNil [] ρ k := fun F H σ v Q E hd q => ⟨hd, q _ _ (Keep.refl _ _) E g⟩
theorem xgs_cons {t : TG} {u : TGs} {d : D} {ds : List D} {k : List Ent → Prop} (h : XG K t d ρ fun ρ1 => XGs K u ds ρ1 k) : XGs K (gCons t u) (d :: ds) ρ k := fun F H σ vs Q E hd q => by
  obtain ⟨v, r, e, h1, h2⟩ := hd
  refine ⟨v, r, e, h F H σ v _ E h1 fun σ' ρ' kp E' g => ?_⟩
  exact g F H σ' r Q E' (h2.mono kp) fun σ2 ρ2 kp2 E2 g2 => q σ2 ρ2 (kp.trans kp2) E2 g2
theorem xg_tup {n : Nat} {t : TGs} {ds : List D} {k : List Ent → Prop} (hl : ds.length = n) (h : XGs K t ds ρ k) : XG K (gTup K n t) (.tup ds) ρ k := fun F H σ v Q E hd q => by
  obtain ⟨a, vs, e, h1, h2⟩ := hd
  exact ⟨a, vs, e, h1.sq, by rw [h2.length]; exact hl, h F H σ vs Q E h2 q⟩
/-- target = value -/
theorem xs_asgG {g : TG} {Φ : Post} (h : XE K te ρ fun r ρ1 => ∃ x, peek ρ1 r = some x ∧ XG K g x (frz ρ1 r) Φ.nx) : XS K (tAsg te g) ρ Φ := fun F H σ Dn E I =>
  h F H σ _ E fun v H1 r ρ1 kp Rv ⟨x, px, hg⟩ => by
    obtain ⟨E2, d2⟩ := Rv.frz px
    exact hg F H1 σ v _ E2 d2 fun σ' ρ' kp2 E' g' => I.nx H1 σ' ρ' (((hotR.hot kp).trans (keep_frz Rv.env)).trans kp2) E' g'

/-! ### loops -/
theorem xs_for {Φ : Post} {g : TG} {tb : TS} (h : XI K wi ρ fun ds ρ1 => ∃ I : Nat → List Ent → Prop, I 0 ρ1 ∧
    (∀ i d ρ', ds[i]? = some d → I i ρ' → XG K g d ρ' fun ρ2 => XS K tb ρ2 { nx := I (i + 1), ct := I (i + 1), bk := Φ.nx, rt := Φ.rt }) ∧ ∀ ρ', I ds.length ρ' → Φ.nx ρ') : XS K (tFor wi g tb) ρ Φ := fun F H σ Dn E Im =>
  h F H σ _ E fun J H1 ρ1 ds W kp E1 Gv w0 ⟨I, i0, step, fin⟩ => by
    refine ⟨fun i m σ' H' => i ≤ ds.length ∧ m = ds.length - i ∧ ∃ ρ', Env K F H' σ' ρ' ∧ W (hot F σ' ρ') H' ∧ Keep (hot F σ ρ) H (hot F σ' ρ') H' ∧ I i ρ', ⟨ds.length, Nat.zero_le _, rfl, ρ1, E1, w0, kp, i0⟩, ?_⟩
    rintro i m σ' H' ⟨hi, rfl, ρ', E', w', k', I'⟩
    by_cases hlt : i < ds.length
    · have hd : ds[i]? = some ds[i] := by simp [hlt]
      refine .inr ⟨Gv.go _ _ i w' hlt, fun σ2 H2 => ∃ ρ2, Env K F H2 σ2 ρ2 ∧ W (hot F σ2 ρ2) H2 ∧ Keep (hot F σ ρ) H (hot F σ2 ρ2) H2 ∧ I (i + 1) ρ2, fun σ2 H2 ⟨ρ2, a, b, c, d⟩ => ⟨ds.length - (i + 1), by omega, hlt, rfl, ρ2, a, b, c, d⟩, fun x H2 y => ?_⟩
      obtain ⟨ex, hx⟩ := Gv.yld _ _ i x H2 _ (hot_tr E') w' hd y
      have k2 : Keep (hot F σ' ρ') H' (hot F σ' ρ') H2 := Keep.ext ex
      have w2 := Gv.keep _ _ _ _ w' k2
      refine step i _ ρ' hd I' F H2 σ' x _ (E'.ex ex) hx fun σ3 ρ3 k3 E3 body => ?_
      have w3 := Gv.keep _ _ _ _ w2 k3
      have k03 := (k'.trans k2).trans k3
      refine body F H2 σ3 _ E3 ⟨fun H4 σ4 ρ4 k4 E4 g4 => ⟨ρ4, E4, Gv.keep _ _ _ _ w3 k4, k03.trans k4, g4⟩, fun v H4 σ4 ρ4 r k4 R4 n g4 => Im.rt v H4 σ4 ρ4 r (k03.trans k4) R4 n g4,
        fun H4 σ4 ρ4 k4 E4 g4 => Im.nx H4 σ4 ρ4 (k03.trans k4) E4 g4, fun H4 σ4 ρ4 k4 E4 g4 => ⟨ρ4, E4, Gv.keep _ _ _ _ w3 k4, k03.trans k4, g4⟩⟩
    · have e : i = ds.length := by omega
      subst e
      exact .inl ⟨Gv.stop _ _ _ w' (Nat.le_refl _), Im.nx H' σ' ρ' k' E' (fin ρ' I')⟩
theorem xs_while {Φ : Post} {c : TT} {tb : TS} (I : Nat → List Ent → Prop) (m0 : Nat) (h0 : I m0 ρ)
    (step : ∀ m ρ', I m ρ' → XT K c ρ' fun b ρ2 => (b = true → XS K tb ρ2 { nx := fun ρ3 => ∃ m', m' < m ∧ I m' ρ3, ct := fun ρ3 => ∃ m', m' < m ∧ I m' ρ3, bk := Φ.nx, rt := Φ.rt }) ∧ (b = false → Φ.nx ρ2)) : XS K (tWhile c tb) ρ Φ := fun F H σ Dn E Im => by
  refine ⟨fun m σ' H' => ∃ ρ', Env K F H' σ' ρ' ∧ Keep (hot F σ ρ) H (hot F σ' ρ') H' ∧ I m ρ', ⟨m0, ρ, E, Keep.refl _ _, h0⟩, ?_⟩
  rintro m σ' H' ⟨ρ', E', k', I'⟩
  refine step m ρ' I' F H' σ' _ E' fun b H2 ρ2 k2 E2 g => ?_
  cases b with
  | true =>
    rw [if_pos rfl]
    refine ⟨fun σ3 H3 => ∃ m' ρ3, m' < m ∧ Env K F H3 σ3 ρ3 ∧ Keep (hot F σ ρ) H (hot F σ3 ρ3) H3 ∧ I m' ρ3, fun σ3 H3 ⟨m', ρ3, a, b, c, d⟩ => ⟨m', a, ρ3, b, c, d⟩, ?_⟩
    have k02 := k'.trans k2
    exact g.1 rfl F H2 σ' _ E2 ⟨fun H4 σ4 ρ4 k4 E4 ⟨m', a, b⟩ => ⟨m', ρ4, a, E4, k02.trans k4, b⟩, fun v H4 σ4 ρ4 r k4 R4 n g4 => Im.rt v H4 σ4 ρ4 r (k02.trans k4) R4 n g4, fun H4 σ4 ρ4 k4 E4 g4 => Im.nx H4 σ4 ρ4 (k02.trans k4) E4 g4,
      fun H4 σ4 ρ4 k4 E4 ⟨m', a, b⟩ => ⟨m', ρ4, a, E4, k02.trans k4, b⟩⟩
  | false =>
    rw [if_neg Bool.false_ne_true]
    exact Im.nx H2 σ' ρ2 (k'.trans k2) E2 (g.2 rfl)
end

/-! ### comprehensions -/
def wipeE (ρ : List Ent) : List Nat → List Ent
  | [] => ρ
  | v :: vs => (wipeE ρ vs).set v .u
theorem wipeE_get {ρ : List Ent} {i : Nat} {e : Ent} : ∀ {vs : List Nat}, (wipeE ρ vs)[i]? = some e → e = .u ∨ (ρ[i]? = some e ∧ i ∉ vs)
  | [], h => .inr ⟨h, by simp⟩
  | v :: vs, h => by
    rcases set_get (show ((wipeE ρ vs).set v .u)[i]? = some e from h) with ⟨_, q, _⟩ | ⟨n, h⟩
    · exact .inl q
    · rcases wipeE_get h with q | ⟨q1, q2⟩
      · exact .inl q
      · exact .inr ⟨q1, by simp [n, q2]⟩
theorem wipeE_len (ρ : List Ent) : ∀ vs : List Nat, (wipeE ρ vs).length = ρ.length
  | [] => rfl
  | v :: vs => by
    show ((wipeE ρ vs).set v .u).length = _
    rw [List.length_set, wipeE_len ρ vs]
theorem wipe_get {σ : L2.St} {i : Nat} : ∀ {vs : List Nat}, i ∉ vs → (wipe σ vs)[i]? = σ[i]?
  | [], _ => rfl
  | v :: vs, h => by
    show ((wipe σ vs).set v none)[i]? = _
    rw [List.getElem?_set_ne (fun z => h (by simp [z]))]
    exact wipe_get fun z => h (List.mem_cons_of_mem _ z)
section
variable {K : PySem.W.Frag} {F : Fr} {H : Hp} {σ σ' : L2.St} {ρ ρ' : List Ent}
/-- an environment that knows less, of slots that agree where something is known -/
theorem Env.agree (E : Env K F H σ ρ) (hl : ρ'.length = ρ.length) (hs : σ'.length = σ.length) (h : ∀ (i : Nat) (e : Ent), ρ'[i]? = some e → e = .u ∨ (ρ[i]? = some e ∧ σ'[i]? = σ[i]?)) :
    Env K F H σ' ρ' ∧ ∀ b, hot F σ' ρ' b → hot F σ ρ b := by
  have own : ∀ (i : Nat) (b : Addr), Owns σ' ρ' i b → Owns σ ρ i b := fun i b ⟨e, h1, h2⟩ => by
    rcases h i _ h1 with q | ⟨q1, q2⟩
    · rw [q] at h2
      exact (show False from h2).elim
    · rw [q2] at h2
      exact ⟨e, q1, h2⟩
  have less : ∀ b, hot F σ' ρ' b → hot F σ ρ b := fun b hb => by
    rcases hb with hb | ⟨i, h1⟩
    · exact .inl hb
    · exact .inr ⟨i, own i b h1⟩
  have cold : ∀ b o, ¬ hot F σ ρ b → H b = some o → ¬ hot F σ' ρ' b ∧ H b = some o := fun b o n e => ⟨fun z => n (less b z), e⟩
  refine ⟨⟨by rw [hs, hl]; exact E.len, E.go, E.trk, fun a e => ?_, fun i b h1 => E.newO i b (own i b h1), fun i j b h1 h2 => E.injO i j b (own i b h1) (own j b h2), fun i e he => ?_, E.pk⟩, less⟩
  · obtain ⟨q1, q2, q3⟩ := E.hand a e
    exact ⟨q1, q2, HandOk.mono q3 cold fun _ z => z⟩
  · rcases h i e he with q | ⟨q1, q2⟩
    · rw [q]; trivial
    · rw [q2]
      exact (E.slot i e q1).mono cold (fun _ _ _ z => z) ⟨rfl, rfl, rfl⟩
end
section
variable {K : PySem.W.Frag} {F : Fr} {H : Hp} {σ : L2.St} {ρ : List Ent} {p : Addr} {o : HO}
/-- p's content stands still, too -/
abbrev Fr.pin (F : Fr) (p : Addr) (o : HO) : Fr := { M := fun b => F.M b ∨ b = p, H0 := upd F.H0 p o, hd := F.hd, B := F.B, BM := F.BM }
theorem Env.pin (E : Env K (F.push p) H σ ρ) (h0 : F.H0 p = none) (hp : H p = some o) : Env K (F.pin p o) H σ ρ := by
  refine ⟨E.len, fun b u n e => ?_, E.trk, fun a e => ?_, fun i b h1 => ?_, E.injO, fun i e he => (E.slot i e he).mono (fun b o n e => ⟨n, e⟩) (fun _ _ _ z => z) ⟨rfl, rfl, rfl⟩, fun b u e => ⟨(E.pk.1 b u e).1, ?_⟩, E.pk.2⟩
  · have e : upd F.H0 p o b = some u := e
    by_cases z : b = p
    · subst z
      rw [upd_same] at e
      rw [hp]
      exact e
    · rw [upd_ne z] at e
      exact E.go b u n e
  · obtain ⟨q1, q2, q3⟩ := E.hand a e
    refine ⟨q1, ?_, q3⟩
    by_cases z : a = p
    · subst z
      exact absurd h0 q2
    · show upd F.H0 p o a ≠ none
      rw [upd_ne z]
      exact q2
  · obtain ⟨q1, q2⟩ := E.newO i b h1
    refine ⟨?_, q2⟩
    show upd F.H0 p o b = none
    rw [upd_ne fun z => q2 (.inr z)]
    exact q1
  · have q := (E.pk.1 b u e).2
    have q : F.H0 b = some u := q
    show upd F.H0 p o b = some u
    rw [upd_ne fun z => by rw [z, h0] at q; cases q]
    exact q
theorem Env.unpin (E : Env K (F.pin p o) H σ ρ) (hB : F.B p = none) (h0 : F.H0 p = none) (hh : ∀ a, F.hd = some a → F.H0 a ≠ none) : Env K (F.push p) H σ ρ := by
  refine ⟨E.len, fun b u n e => E.go b u n ?_, E.trk, fun a e => ⟨(E.hand a e).1, hh a e, (E.hand a e).2.2⟩, fun i b h1 => ?_, E.injO, fun i e he => (E.slot i e he).mono (fun b o n e => ⟨n, e⟩) (fun _ _ _ z => z) ⟨rfl, rfl, rfl⟩, fun b u e => ⟨(E.pk.1 b u e).1, ?_⟩, E.pk.2⟩
  · have e : F.H0 b = some u := e
    show upd F.H0 p o b = some u
    rw [upd_ne fun z => by rw [z, h0] at e; cases e]
    exact e
  · obtain ⟨q1, q2⟩ := E.newO i b h1
    refine ⟨?_, q2⟩
    have q1 : upd F.H0 p o b = none := q1
    rw [upd_ne fun z => q2 (.inr z)] at q1
    exact q1
  · have q : upd F.H0 p o b = some u := (E.pk.1 b u e).2
    have e : F.B b = some u := e
    rw [upd_ne fun z => by rw [z, hB] at e; cases e] at q
    exact q
theorem Env.poke (E : Env K (F.push p) H σ ρ) (h0 : F.H0 p = none) (hn : NT (some o) := by trivial) : Env K (F.push p) (upd H p o) σ ρ := by
  have hp : hot (F.push p) σ ρ p := .inl (.inr rfl)
  have up : ∀ b u, b ≠ p → H b = some u → upd H p o b = some u := fun b u n e => by rw [upd_ne n]; exact e
  have cold : ∀ b u, ¬ hot (F.push p) σ ρ b → H b = some u → ¬ hot (F.push p) σ ρ b ∧ upd H p o b = some u := fun b u n e => ⟨n, up b u (fun z => n (by rw [z]; exact hp)) e⟩
  have hne : ∀ a, F.hd = some a → a ≠ p := fun a e z => (E.hand a e).2.1 (by rw [z]; exact h0)
  refine ⟨E.len, fun b u n e => up b u (fun z => by rw [z] at e; rw [show F.H0 p = some u from e] at h0; cases h0) (E.go b u n e), fun b hb => ?_, fun a e => ?_, E.newO, E.injO, fun i e he => ?_, E.pk⟩
  · by_cases z : b = p
    · rw [z, upd_same]; exact hn
    · rw [upd_ne z]; exact E.trk b hb
  · obtain ⟨q1, q2, q3⟩ := E.hand a e
    exact ⟨q1, q2, HandOk.mono q3 cold fun u z => up a u (hne a e) z⟩
  · exact (E.slot i e he).mono cold (fun q ho u hq => up q u (fun z => (E.newO i q ⟨e, he, ho⟩).2 (.inr z)) hq) ⟨rfl, rfl, rfl⟩
end
section
variable {K : PySem.W.Frag} {ρ : List Ent} {te : TE} {tt : TT} {wi : TI} {g : TG} {vs : List Nat} {k : KE}
/-- the targets of a comprehension are its own slots -/
def OwnSlots (g : TG) (vs : List Nat) : Prop := ∀ (σ : L2.St) (v : V) (H : Hp) (Q : L2.St → Hp → Prop), (g v σ H fun σ2 H2 => wipe σ2 vs = wipe σ vs → Q σ2 H2) → g v σ H fun σ2 H2 => wipe σ2 vs = wipe σ vs ∧ Q σ2 H2
/-- [e for x in .. if t]: P holds of how many are walked, and of what is made -/
theorem xe_lc (hsl : OwnSlots g vs) (hww : ∀ σ : L2.St, wipe (wipe σ vs) vs = wipe σ vs)
    (h : XI K wi ρ fun ds ρ1 => ds.length ≤ sizeLine ∧ ∃ P : Nat → List D → Prop, P 0 [] ∧
      (∀ i d acc, ds[i]? = some d → acc.length ≤ i → P i acc → XG K g d (wipeE ρ1 vs) fun ρ2 => wipeE ρ2 vs = wipeE ρ1 vs ∧ XT K tt ρ2 fun b ρ3 => ρ3 = ρ2 ∧ (b = true → XE K te ρ3 fun r ρ4 => ∃ y, peek ρ4 r = some y ∧ frz ρ4 r = ρ2 ∧ P (i + 1) (acc ++ [y])) ∧ (b = false → P (i + 1) acc)) ∧
      ∀ acc, acc.length ≤ ds.length → P ds.length acc → k (.nw (.lst acc)) (wipeE ρ1 vs)) : XE K (tLc wi g tt te vs) ρ k := fun F H σ Q E q => by
  refine h F H σ _ E fun J H1 ρ1 ds W kp E1 Gv w0 ⟨hsz, P, p0, step, fin⟩ Dl hD => ?_
  have h0 := h0_none E1 hD
  have hh : ∀ a, F.hd = some a → F.H0 a ≠ none := fun a e => (E1.hand a e).2.1
  have agr : ∀ {F' : Fr} {H' : Hp}, Env K F' H' σ ρ1 → Env K F' H' (wipe σ vs) (wipeE ρ1 vs) ∧ ∀ b, hot F' (wipe σ vs) (wipeE ρ1 vs) b → hot F' σ ρ1 b := fun e => e.agree (wipeE_len _ _) (wipe_length _ _) fun i e he => by
    rcases wipeE_get he with q | ⟨q1, q2⟩
    · exact .inl q
    · exact .inr ⟨q1, wipe_get q2⟩
  have agb : ∀ {F' : Fr} {H' : Hp}, Env K F' H' (wipe σ vs) (wipeE ρ1 vs) → Env K F' H' σ (wipeE ρ1 vs) ∧ ∀ b, hot F' σ (wipeE ρ1 vs) b → hot F' (wipe σ vs) (wipeE ρ1 vs) b := fun e => e.agree rfl (wipe_length _ _).symm fun i e he => by
    rcases wipeE_get he with q | ⟨q1, q2⟩
    · exact .inl q
    · exact .inr ⟨he, (wipe_get q2).symm⟩
  have A1 := agr E1
  let Z : Nat → Hp → Prop := fun i H' => ∃ acc, i ≤ ds.length ∧ acc.length ≤ i ∧ P i acc ∧ Env K (F.push Dl) H' (wipe σ vs) (wipeE ρ1 vs) ∧ OwnAt (hot (F.push Dl) (wipe σ vs) (wipeE ρ1 vs)) K H' Dl (.lst acc) ∧ W (hot (F.push Dl) (wipe σ vs) (wipeE ρ1 vs)) H' ∧
    Keep (hot F σ ρ1) H1 (hot (F.push Dl) (wipe σ vs) (wipeE ρ1 vs)) H'
  have e0 : Ext H1 (upd H1 Dl (.lst [])) := Ext.new hD
  have E1p : Env K (F.push Dl) (upd H1 Dl (.lst [])) (wipe σ vs) (wipeE ρ1 vs) := A1.1.push hD e0 (by rw [upd_same]; trivial)
  have pushless : ∀ b, hot (F.push Dl) (wipe σ vs) (wipeE ρ1 vs) b → hot F σ ρ1 b ∨ b = Dl := fun b hb => by
    rcases hb with hb | hb
    · rcases hb with hb | hb
      · exact .inl (.inl hb)
      · exact .inr hb
    · exact .inl (A1.2 b (.inr hb))
  have k0 : Keep (hot F σ ρ1) H1 (hot (F.push Dl) (wipe σ vs) (wipeE ρ1 vs)) (upd H1 Dl (.lst [])) := fun b o n e => ⟨fun z => (pushless b z).elim n fun z => (by rw [z, hD] at e; cases e), e0 b o e⟩
  have z0 : Z 0 (upd H1 Dl (.lst [])) := ⟨[], Nat.zero_le _, Nat.le_refl _, p0, E1p, ⟨[], upd_same, rfl⟩, Gv.keep _ _ _ _ w0 k0, k0⟩
  refine ⟨fun i m H' => m = ds.length - i ∧ Z i H', ⟨ds.length, rfl, z0⟩, ?_⟩
  rintro i m H' ⟨rfl, acc, hi, hacc, p, E', ho, w', k'⟩
  by_cases hlt : i < ds.length
  · have hd : ds[i]? = some ds[i] := by simp [hlt]
    refine .inr ⟨Gv.go _ _ i w' hlt, Z (i + 1), fun H2 z => ⟨ds.length - (i + 1), by omega, rfl, z⟩, fun x H2 y => ?_⟩
    obtain ⟨ex, hx⟩ := Gv.yld _ _ i x H2 _ (hot_tr E') w' hd y
    have k2 : Keep (hot (F.push Dl) (wipe σ vs) (wipeE ρ1 vs)) H' (hot (F.push Dl) (wipe σ vs) (wipeE ρ1 vs)) H2 := Keep.ext ex
    have w2 := Gv.keep _ _ _ _ w' k2
    obtain ⟨us, hDl, dacc⟩ := ho
    have hD2 := ex _ _ hDl
    have E2 := (E'.ex ex).pin h0 hD2
    have dacc2 := dacc.mono k2
    have go := step i _ acc hd hacc p (F.pin Dl (.lst us)) H2 (wipe σ vs) x
    have conv := hsl (wipe σ vs) x H2 (fun σ2 H2 => tt σ2 H2 fun b H3 => if b = true then te σ2 H3 fun y H4 => ∃ acc, H4 Dl = some (.lst acc) ∧ acc.length < sizeLine ∧ Z (i + 1) (upd H4 Dl (.lst (acc ++ [y]))) else Z (i + 1) H3)
    rw [hww] at conv
    refine conv (go _ E2 hx fun σ3 ρ3 k3 E3 ⟨hwe, body⟩ hws => ?_)
    have agc : ∀ {F' : Fr} {H' : Hp}, Env K F' H' σ3 ρ3 → Env K F' H' (wipe σ vs) (wipeE ρ1 vs) ∧ ∀ b, hot F' (wipe σ vs) (wipeE ρ1 vs) b → hot F' σ3 ρ3 b := fun e => e.agree (by rw [← hwe, wipeE_len]) (by rw [← hws, wipe_length]) fun i e he => by
      rw [← hwe] at he
      rcases wipeE_get he with q | ⟨q1, q2⟩
      · exact .inl q
      · exact .inr ⟨q1, by rw [← hws]; exact wipe_get q2⟩
    have nd : F.hd ≠ some Dl := fun z => (hh Dl z) h0
    have ho0 : Ent.own (.lst []) ≠ Ent.u := fun z => nomatch z
    -- back to the state between two turns
    have again : ∀ (acc' : List D) (us' : List V) (H4 : Hp), Env K (F.pin Dl (.lst us)) H4 σ3 ρ3 → Keep (hot (F.pin Dl (.lst us)) σ3 ρ3) H2 (hot (F.pin Dl (.lst us)) σ3 ρ3) H4 → acc'.length ≤ i + 1 → P (i + 1) acc' → DaAll (hot (F.pin Dl (.lst us)) σ3 ρ3) K H4 us' acc' →
        Z (i + 1) (upd H4 Dl (.lst us')) := fun acc' us' H4 E4 k4 l4 p4 d4 => by
      obtain ⟨E5, less⟩ := agc E4
      have E6 := (E5.unpin (pk_none E1 h0) h0 hh).poke (o := .lst us') h0
      have hDh : hot (F.pin Dl (.lst us)) σ3 ρ3 Dl := .inl (.inr rfl)
      have k5 : Keep (hot (F.pin Dl (.lst us)) σ3 ρ3) H4 (hot (F.push Dl) (wipe σ vs) (wipeE ρ1 vs)) (upd H4 Dl (.lst us')) := fun b o n e => ⟨fun z => n (less b z), by rw [upd_ne fun z => n (by rw [z]; exact hDh)]; exact e⟩
      have k3' : Keep (hot (F.push Dl) (wipe σ vs) (wipeE ρ1 vs)) H2 (hot (F.pin Dl (.lst us)) σ3 ρ3) H2 := k3
      have kk := (k3'.trans k4).trans k5
      exact ⟨acc', hlt, l4, p4, E6, ⟨us', upd_same, d4.mono k5⟩, Gv.keep _ _ _ _ w2 kk, (k'.trans k2).trans kk⟩
    refine body (F.pin Dl (.lst us)) H2 σ3 _ E3 fun b H3 ρ4 k4 E4 ⟨e4, g1, g2⟩ => ?_
    subst e4
    have hD3 : H3 Dl = some (.lst us) := E4.go Dl _ nd upd_same
    cases b with
    | false =>
      show Z (i + 1) H3
      have := again acc us H3 E4 k4 (by omega) (g2 rfl) ((dacc2.mono k3).mono k4)
      have e : upd H3 Dl (.lst us) = H3 := by
        funext c
        by_cases z : c = Dl
        · rw [z, upd_same, hD3]
        · rw [upd_ne z]
      rw [e] at this
      exact this
    | true =>
      show te σ3 H3 fun y H4 => ∃ acc, H4 Dl = some (.lst acc) ∧ acc.length < sizeLine ∧ Z (i + 1) (upd H4 Dl (.lst (acc ++ [y])))
      refine g1 rfl (F.pin Dl (.lst us)) H3 σ3 _ E4 fun v H4 r ρ5 k5 R5 ⟨y, py, hf, pp⟩ => ?_
      obtain ⟨E5, d5⟩ := R5.frz py
      have kf := keep_frz (r := r) R5.env
      rw [hf] at E5 d5 kf
      have k45 := k4.trans ((hotR.hot k5).trans kf)
      refine ⟨us, E5.go Dl _ nd upd_same, ?_, again (acc ++ [y]) (us ++ [v]) H4 E5 k45 (by rw [List.length_append, List.length_singleton]; omega) pp (((dacc2.mono k3).mono k45).append (DaAll.one d5))⟩
      rw [dacc2.length]
      omega
  · have e : i = ds.length := by omega
    subst e
    refine .inl ⟨Gv.stop _ _ _ w' (Nat.le_refl _), ?_⟩
    have Eb := agb E'
    refine q _ H' (.nw (.lst acc)) _ ?_ ⟨Dl, rfl, h0, fun z => ?_, Eb.1, ho.mono (fun b o n e => ⟨fun z => n (Eb.2 b z), e⟩) fun _ z => z⟩ (fin acc hacc p)
    · intro b o n e
      obtain ⟨q1, q2⟩ := kp b o n e
      obtain ⟨q3, q4⟩ := k' b o q1 q2
      refine ⟨fun z => ?_, q4⟩
      rcases z with z | ⟨_, z⟩
      · exact q3 (Eb.2 b (by
          rcases z with z | z
          · exact .inl (.inl z)
          · exact .inr z))
      · cases z
        exact q3 (.inl (.inr rfl))
    · have q : hot F σ ρ1 Dl := by
        rcases z with z | ⟨j, e, h1, h2⟩
        · exact .inl z
        · rcases wipeE_get h1 with q | ⟨q1, q2⟩
          · rw [q] at h2; exact (show False from h2).elim
          · exact .inr ⟨j, e, q1, h2⟩
      exact (E1.hotTrk Dl q).ne hD
end
end PW
end
section
/-! PW: operations on data: operators, comparisons, subscripts, slices, builtins, isinstance, methods of own lists. -/
namespace PW
open PySem PySem.Spec PyProof.Rows L2

/-! ### unions of the hand layer's rules -/
def rAddI : R2 := rI0 fun i j => .int (i + j)
def rAddS : R2 := fun x y H Q => ∃ i j, x = .str i ∧ y = .str j ∧ i.length + j.length ≤ sizeLine ∧ Q (.str (i ++ j)) H
def rAddU (K : PySem.W.Frag) : R2 := fun x y H Q => ((rAddI x y H Q ∨ rAddS x y H Q) ∨ rCatA K x y H Q) ∨ rCat x y H Q
def rMulI : R2 := rI CMul fun i j => .int (i * j)
def rMulU (K : PySem.W.Frag) : R2 := fun x y H Q => rMulI x y H Q ∨ rRepT K x y H Q
def rSubI : R2 := rI0 fun i j => .int (i - j)
def rDivI : R2 := rI CDiv fun i j => .int (i / j)
def rModI : R2 := rI (fun _ j => 0 < j) fun i j => .int (i % j)
def rPowI : R2 := rI CPow fun i j => .int (i ^ j.toNat)
def rLtI : R2 := rI0 fun i j => .bl (decide (i < j))
def rLeI : R2 := rI0 fun i j => .bl (decide (i ≤ j))
def rGtI : R2 := rI0 fun i j => .bl (decide (j < i))
def rGeI : R2 := rI0 fun i j => .bl (decide (j ≤ i))
def rIsNo : R2 := fun x y H Q => y = .non ∧ Q (.bl (decide (x = .non))) H
def rIsNotNo : R2 := fun x y H Q => y = .non ∧ Q (.bl (!decide (x = .non))) H
def rIsBo : R2 := fun x y H Q => ∃ a b, x = .bl a ∧ y = .bl b ∧ Q (.bl (decide (a = b))) H
def rIsNotBo : R2 := fun x y H Q => ∃ a b, x = .bl a ∧ y = .bl b ∧ Q (.bl (!decide (a = b))) H
def rInT (K : PySem.W.Frag) (neg : Bool) : R2 := fun x y H Q => ∃ d ds, Dp K H x d ∧ Dp K H y (.tuple ds) ∧ SeqAt.shaped d = true ∧ SeqAt.shaped (.tuple ds) = true ∧ Q (.bl (if neg then !ds.any fun z => PyData.eqv z d else ds.any fun z => PyData.eqv z d)) H
def rInC : R2 := fun x y H Q => ∃ (c : Nat) (z : Str), x = .str ⟨#[c]⟩ ∧ y = .str z ∧ Q (.bl (decide (c ∈ z.cps.toList))) H
def rNotInC : R2 := fun x y H Q => ∃ (c : Nat) (z : Str), x = .str ⟨#[c]⟩ ∧ y = .str z ∧ Q (.bl (!decide (c ∈ z.cps.toList))) H
def rInU (K : PySem.W.Frag) : R2 := fun x y H Q => (rInD K x y H Q ∨ rInT K false x y H Q) ∨ rInC x y H Q
def rNotInU (K : PySem.W.Frag) : R2 := fun x y H Q => (rNotInD K x y H Q ∨ rInT K true x y H Q) ∨ rNotInC x y H Q
def rSlU (K : PySem.W.Frag) : V → Option Int → Option Int → Hp → VK → Prop := fun x lo hi H Q => (rSlL K x lo hi H Q ∨ rSlA K x lo hi H Q) ∨ rSlS x lo hi H Q
section
variable {X : Cx}
theorem op_addU : OpR X (binaryOp .Add) (rAddU X.K) := ((op_add.or op_add_str).or op_catA).or op_cat
theorem op_mulU : OpR X (binaryOp .Mult) (rMulU X.K) := op_mul.or op_repT
theorem op_subU : OpR X (binaryOp .Sub) rSubI := op_sub
theorem op_divU : OpR X (binaryOp .FloorDiv) rDivI := op_fdiv
theorem op_modU : OpR X (binaryOp .Mod) rModI := op_mod
theorem op_powU : OpR X (binaryOp .Pow) rPowI := op_pow
theorem op_ltU : OpR X (compareOp .Lt) rLtI := op_lt
theorem op_leU : OpR X (compareOp .LtE) rLeI := op_le
theorem op_gtU : OpR X (compareOp .Gt) rGtI := op_gt
theorem op_geU : OpR X (compareOp .GtE) rGeI := op_ge
theorem op_isNo : OpR X (compareOp .Is) rIsNo := op_isN
theorem op_isNotNo : OpR X (compareOp .IsNot) rIsNotNo := op_notN
theorem op_isBo : OpR X (compareOp .Is) rIsBo := op_is_bl
theorem op_isNotBo : OpR X (compareOp .IsNot) rIsNotBo := op_isnot_bl
theorem op_inT (hu : X.A.units + 65 < cLine) : OpR X (compareOp .In) (rInT X.K false) := by
  intro pins s σ H x y v u Q I rx ry h
  obtain ⟨d, ds, hd, he, sd, se, q⟩ := h
  obtain ⟨as, r1⟩ := Dp.reads I d x v hd rx
  obtain ⟨bs, r2⟩ := Dp.reads I (.tuple ds) y u he ry
  exact SeqAt.in_tuple_reads r2 r1 (SeqAt.canLay_of_shaped se) (SeqAt.canLay_of_shaped sd) (room_in_shaped sd hu) ⟨.bl _, H, I, rfl, q⟩
theorem op_notInT (hu : X.A.units + 65 < cLine) : OpR X (compareOp .NotIn) (rInT X.K true) := by
  intro pins s σ H x y v u Q I rx ry h
  obtain ⟨d, ds, hd, he, sd, se, q⟩ := h
  obtain ⟨as, r1⟩ := Dp.reads I d x v hd rx
  obtain ⟨bs, r2⟩ := Dp.reads I (.tuple ds) y u he ry
  exact SeqAt.notIn_tuple_reads r2 r1 (SeqAt.canLay_of_shaped se) (SeqAt.canLay_of_shaped sd) (room_in_shaped sd hu) ⟨.bl _, H, I, rfl, q⟩
theorem op_inU (hu : X.A.units + 65 < cLine) : OpR X (compareOp .In) (rInU X.K) := ((op_inD hu).or (op_inT hu)).or op_in_sign
theorem op_notInU (hu : X.A.units + 65 < cLine) : OpR X (compareOp .NotIn) (rNotInU X.K) := ((op_notInD hu).or (op_notInT hu)).or op_notIn_sign
theorem sl_U : SlR X (rSlU X.K) := (sl_list.or sl_tupA).or sl_str
end

/-! ### data: shapes -/
def D.sh (d : D) : Bool := D.pln d && SeqAt.shaped d.py
theorem D.sh_pln {d : D} (h : d.sh = true) : d.pln = true := (Bool.and_eq_true_iff.mp h).1
theorem D.sh_shaped {d : D} (h : d.sh = true) : SeqAt.shaped d.py = true := (Bool.and_eq_true_iff.mp h).2
section
variable {M : Addr → Prop} {K : PySem.W.Frag} {H : Hp} {v : V} {x : D}
theorem Pk.dp (h : Pk M K H v x) (p : x.pln = true) : Dp K H v x.py := h.now.dp p
theorem Pk.item {ds : List D} {a : Addr} {vs : List V} (h : DaAll M K H vs ds) {i : Int} {d : D} (e : atI ds i = some d) : ∃ w, atI vs i = some w ∧ Da M K H w d := by
  unfold atI at e ⊢
  rw [h.length]
  cases q : ixN ds.length i with
  | none => rw [q] at e; cases e
  | some j =>
    rw [q] at e
    obtain ⟨w, h1, h2⟩ := h.at (i := j) (d := d) e
    exact ⟨w, h1, h2⟩
end

/-! ### operators -/
section
variable {K : PySem.W.Frag} {k : Res → Prop} {i j : Int} {b c : Bool} {x y : D} {s t : Str} {ds es : List D}
theorem o_addI (g : k (.d (.int (i + j)))) : OpD K (rAddU K) (.int i) (.int j) k := opd_val (z := .int (i + j)) (fun M H u v Q h1 h2 q => .inl (.inl (.inl ⟨i, j, h1.int, h2.int, q _ rfl⟩))) g
theorem o_addS (hl : s.length + t.length ≤ sizeLine) (g : k (.d (.str (s ++ t)))) : OpD K (rAddU K) (.str s) (.str t) k := opd_val (z := .str (s ++ t)) (fun M H u v Q h1 h2 q => .inl (.inl (.inr ⟨s, t, h1.str, h2.str, hl, q _ rfl⟩))) g
theorem o_addT (hl : ds.length + es.length ≤ sizeLine) (g : k (.d (.tup (ds ++ es)))) : OpD K (rAddU K) (.tup ds) (.tup es) k := fun M H u v Q tr h1 h2 q => by
  have h2' := h2
  rcases h1 with h1 | ⟨p, _, _, h1⟩
  · rcases h2 with h2 | ⟨p, _, _, h2⟩
    · obtain ⟨a, vs, rfl, c1, d1⟩ := id h1
      obtain ⟨a2, ws, rfl, c2, d2⟩ := id h2
      refine .inl (.inr ⟨a, a2, vs, ws, rfl, rfl, c1.sq, c2.sq, by rw [d1.length, d2.length]; exact hl, fun e => ?_, fun _ e => ?_, fun _ _ p hp => ?_⟩)
      · subst e
        have : ds = [] := List.length_eq_zero_iff.mp (by rw [← d1.length]; rfl)
        subst this
        exact q _ H (.d (.tup es)) (Ext.refl H) h2 g
      · subst e
        have : es = [] := List.length_eq_zero_iff.mp (by rw [← d2.length]; rfl)
        subst this
        rw [List.append_nil] at g
        exact q _ H (.d (.tup ds)) (Ext.refl H) h1 g
      · exact q _ _ (.d (.tup (ds ++ es))) (Ext.new hp) (newT tr (d1.append d2) hp) g
    · exact (show False from h2).elim
  · exact (show False from h1).elim
theorem o_addL (hl : ds.length + es.length ≤ sizeLine) (g : k (.nw (.lst (ds ++ es)))) : OpD K (rAddU K) (.lst ds) (.lst es) k := fun M H u v Q tr h1 h2 q => by
  obtain ⟨a, vs, rfl, c1, d1⟩ := h1.lst
  obtain ⟨a2, ws, rfl, c2, d2⟩ := h2.lst
  exact .inr ⟨a, a2, vs, ws, rfl, rfl, c1, c2, by rw [d1.length, d2.length]; exact hl, fun p hp => q _ _ (.nw (.lst (ds ++ es))) (Ext.new hp) (newL (d1.append d2) hp) g⟩
theorem o_mulI (hc : CMul i j) (g : k (.d (.int (i * j)))) : OpD K (rMulU K) (.int i) (.int j) k := opd_val (z := .int (i * j)) (fun M H u v Q h1 h2 q => .inl ⟨i, j, h1.int, h2.int, hc, q _ rfl⟩) g
theorem DaAll.rep {M : Addr → Prop} {H : Hp} {vs : List V} (h : DaAll M K H vs ds) : ∀ n : Nat, DaAll M K H (List.replicate n vs).flatten (List.replicate n ds).flatten
  | 0 => rfl
  | n + 1 => by
    rw [List.replicate_succ, List.replicate_succ, List.flatten_cons, List.flatten_cons]
    exact h.append (DaAll.rep h n)
theorem o_mulT (h0 : ds ≠ []) (h1 : 2 ≤ j) (h2 : j ≤ 1000) (h3 : ds.length ≤ 1000) (g : k (.d (.tup (List.replicate j.toNat ds).flatten))) : OpD K (rMulU K) (.tup ds) (.int j) k := fun M H u v Q tr p1 p2 q => by
  obtain ⟨a, vs, rfl, c1, d1⟩ := p1.tup
  refine .inr ⟨a, j, vs, rfl, p2.int, c1, fun e => h0 ?_, h1, h2, by rw [d1.length]; exact h3, fun p hp => q _ _ (.d _) (Ext.new hp) (newT tr (d1.rep _) hp) g⟩
  exact List.length_eq_zero_iff.mp (by rw [← d1.length, e]; rfl)
theorem o_subI (g : k (.d (.int (i - j)))) : OpD K rSubI (.int i) (.int j) k := opd_val (z := .int (i - j)) (fun M H u v Q h1 h2 q => ⟨i, j, h1.int, h2.int, q _ rfl⟩) g
theorem o_divI (hc : 0 < j ∧ j < 1073741824) (g : k (.d (.int (i / j)))) : OpD K rDivI (.int i) (.int j) k := opd_val (z := .int (i / j)) (fun M H u v Q h1 h2 q => ⟨i, j, h1.int, h2.int, hc, q _ rfl⟩) g
theorem o_modI (hc : 0 < j) (g : k (.d (.int (i % j)))) : OpD K rModI (.int i) (.int j) k := opd_val (z := .int (i % j)) (fun M H u v Q h1 h2 q => ⟨i, j, h1.int, h2.int, hc, q _ rfl⟩) g
theorem o_powI (hc : 0 ≤ j ∧ j ≤ 1000000 ∧ i.natAbs < 2 ^ 64) (g : k (.d (.int (i ^ j.toNat)))) : OpD K rPowI (.int i) (.int j) k := opd_val (z := .int (i ^ j.toNat)) (fun M H u v Q h1 h2 q => ⟨i, j, h1.int, h2.int, hc, q _ rfl⟩) g
theorem o_ltI (g : k (.d (.bl (decide (i < j))))) : OpD K rLtI (.int i) (.int j) k := opd_val (z := .bl (decide (i < j))) (fun M H u v Q h1 h2 q => ⟨i, j, h1.int, h2.int, q _ rfl⟩) g
theorem o_leI (g : k (.d (.bl (decide (i ≤ j))))) : OpD K rLeI (.int i) (.int j) k := opd_val (z := .bl (decide (i ≤ j))) (fun M H u v Q h1 h2 q => ⟨i, j, h1.int, h2.int, q _ rfl⟩) g
theorem o_gtI (g : k (.d (.bl (decide (j < i))))) : OpD K rGtI (.int i) (.int j) k := opd_val (z := .bl (decide (j < i))) (fun M H u v Q h1 h2 q => ⟨i, j, h1.int, h2.int, q _ rfl⟩) g
theorem o_geI (g : k (.d (.bl (decide (j ≤ i))))) : OpD K rGeI (.int i) (.int j) k := opd_val (z := .bl (decide (j ≤ i))) (fun M H u v Q h1 h2 q => ⟨i, j, h1.int, h2.int, q _ rfl⟩) g
@[reducible] def D.isNon : D → Bool
  | .non => true
  | _ => false
theorem isNon_of {M : Addr → Prop} {H : Hp} {v : V} (h : Pk M K H v x) : decide (v = .non) = x.isNon := by
  rcases h with h | ⟨p, rfl, _, h⟩
  · cases x with
    | non => rw [show v = .non from h]; rfl
    | bl b => rw [show v = .bl b from h]; rfl
    | int i => rw [show v = .int i from h]; rfl
    | str z => rw [show v = .str z from h]; rfl
    | tup xs => obtain ⟨a, vs, e, _⟩ := h; rw [e]; rfl
    | lst xs => obtain ⟨a, vs, e, _⟩ := h; rw [e]; rfl
    | emp => obtain ⟨a, e, _⟩ := h; rw [e]; rfl
    | obj C ns xs => obtain ⟨a, dx, fs, e, _⟩ := h; rw [e]; rfl
    | dct ks xs => obtain ⟨a, kvs, e, _⟩ := h; rw [e]; rfl
  · cases x with
    | lst xs => rfl
    | obj C ns xs => rfl
    | dct ks xs => rfl
    | _ => exact (show False from h).elim
theorem o_isNo (g : k (.d (.bl x.isNon))) : OpD K rIsNo x .non k := fun M H u v Q tr h1 h2 q => ⟨h2.non, by rw [isNon_of h1]; exact q _ H (.d (.bl x.isNon)) (Ext.refl H) rfl g⟩
theorem o_isNotNo (g : k (.d (.bl (!x.isNon)))) : OpD K rIsNotNo x .non k := fun M H u v Q tr h1 h2 q => ⟨h2.non, by rw [isNon_of h1]; exact q _ H (.d (.bl (!x.isNon))) (Ext.refl H) rfl g⟩
theorem o_isBo (g : k (.d (.bl (decide (b = c))))) : OpD K rIsBo (.bl b) (.bl c) k := opd_val (z := .bl (decide (b = c))) (fun M H u v Q h1 h2 q => ⟨b, c, h1.bl, h2.bl, q _ rfl⟩) g
theorem o_isNotBo (g : k (.d (.bl (!decide (b = c))))) : OpD K rIsNotBo (.bl b) (.bl c) k := opd_val (z := .bl (!decide (b = c))) (fun M H u v Q h1 h2 q => ⟨b, c, h1.bl, h2.bl, q _ rfl⟩) g
theorem o_eq (hx : x.sh = true) (hy : y.sh = true) (g : k (.d (.bl (PyData.eqv x.py y.py)))) : OpD K (rEqD K) x y k := opd_val (z := .bl (PyData.eqv x.py y.py)) (fun M H u v Q h1 h2 q => ⟨_, _, h1.dp (D.sh_pln hx), h2.dp (D.sh_pln hy), D.sh_shaped hx, D.sh_shaped hy, q _ rfl⟩) g
theorem o_ne (hx : x.sh = true) (hy : y.sh = true) (g : k (.d (.bl (!PyData.eqv x.py y.py)))) : OpD K (rNeD K) x y k := opd_val (z := .bl (!PyData.eqv x.py y.py)) (fun M H u v Q h1 h2 q => ⟨_, _, h1.dp (D.sh_pln hx), h2.dp (D.sh_pln hy), D.sh_shaped hx, D.sh_shaped hy, q _ rfl⟩) g
/-- x in ds -/
def D.mem (x : D) (ds : List D) : Bool := ds.any fun z => PyData.eqv z.py x.py
theorem pyL_map : ∀ ds : List D, D.pyL ds = ds.map D.py
  | [] => rfl
  | d :: ds => by rw [D.pyL, pyL_map ds]; rfl
theorem mem_py : (D.pyL ds).any (fun z => PyData.eqv z x.py) = D.mem x ds := by
  rw [pyL_map, List.any_map]
  rfl
theorem o_inL (hx : x.sh = true) (hy : (D.lst ds).sh = true) (g : k (.d (.bl (D.mem x ds)))) : OpD K (rInU K) x (.lst ds) k := opd_val (z := .bl (D.mem x ds)) (fun M H u v Q h1 h2 q => .inl (.inl ⟨_, _, h1.dp (D.sh_pln hx), h2.dp (D.sh_pln hy), D.sh_shaped hx, D.sh_shaped hy, by rw [mem_py]; exact q _ rfl⟩)) g
theorem o_inT (hx : x.sh = true) (hy : (D.tup ds).sh = true) (g : k (.d (.bl (D.mem x ds)))) : OpD K (rInU K) x (.tup ds) k := opd_val (z := .bl (D.mem x ds)) (fun M H u v Q h1 h2 q => .inl (.inr ⟨_, _, h1.dp (D.sh_pln hx), h2.dp (D.sh_pln hy), D.sh_shaped hx, D.sh_shaped hy, by rw [mem_py]; exact q _ rfl⟩)) g
theorem o_inC {n : Nat} (g : k (.d (.bl (decide (n ∈ t.cps.toList))))) : OpD K (rInU K) (.str ⟨#[n]⟩) (.str t) k := opd_val (z := .bl (decide (n ∈ t.cps.toList))) (fun M H u v Q h1 h2 q => .inr ⟨n, t, h1.str, h2.str, q _ rfl⟩) g
theorem o_notInL (hx : x.sh = true) (hy : (D.lst ds).sh = true) (g : k (.d (.bl (!D.mem x ds)))) : OpD K (rNotInU K) x (.lst ds) k := opd_val (z := .bl (!D.mem x ds)) (fun M H u v Q h1 h2 q => .inl (.inl ⟨_, _, h1.dp (D.sh_pln hx), h2.dp (D.sh_pln hy), D.sh_shaped hx, D.sh_shaped hy, by rw [mem_py]; exact q _ rfl⟩)) g
theorem o_notInT (hx : x.sh = true) (hy : (D.tup ds).sh = true) (g : k (.d (.bl (!D.mem x ds)))) : OpD K (rNotInU K) x (.tup ds) k := opd_val (z := .bl (!D.mem x ds)) (fun M H u v Q h1 h2 q => .inl (.inr ⟨_, _, h1.dp (D.sh_pln hx), h2.dp (D.sh_pln hy), D.sh_shaped hx, D.sh_shaped hy, by rw [mem_py]; exact q _ rfl⟩)) g
theorem o_notInC {n : Nat} (g : k (.d (.bl (!decide (n ∈ t.cps.toList))))) : OpD K (rNotInU K) (.str ⟨#[n]⟩) (.str t) k := opd_val (z := .bl (!decide (n ∈ t.cps.toList))) (fun M H u v Q h1 h2 q => .inr ⟨n, t, h1.str, h2.str, q _ rfl⟩) g
/-! subscripts -/
theorem o_ixT {d : D} (e : atI ds i = some d) (g : k (.d d)) : OpD K (rIx K) (.tup ds) (.int i) k := fun M H u v Q tr h1 h2 q => by
  obtain ⟨a, vs, rfl, c1, d1⟩ := h1.tup
  obtain ⟨w, e1, e2⟩ := Pk.item (a := a) d1 e
  exact .inr (.inl ⟨a, vs, i, w, rfl, h2.int, c1, e1, q w H (.d d) (Ext.refl H) e2 g⟩)
theorem o_ixL {d : D} (e : atI ds i = some d) (g : k (.d d)) : OpD K (rIx K) (.lst ds) (.int i) k := fun M H u v Q tr h1 h2 q => by
  obtain ⟨a, vs, rfl, c1, d1⟩ := h1.lst
  obtain ⟨w, e1, e2⟩ := Pk.item (a := a) d1 e
  exact .inl ⟨a, vs, i, w, rfl, h2.int, SqL.of c1, e1, q w H (.d d) (Ext.refl H) e2 g⟩
theorem o_ixS {n : Nat} (hl : s.length ≤ sizeLine) (e : atI s.cps.toList i = some n) (g : k (.d (.str ⟨#[n]⟩))) : OpD K (rIx K) (.str s) (.int i) k := opd_val (z := .str ⟨#[n]⟩) (fun M H u v Q h1 h2 q => .inr (.inr ⟨s, i, n, h1.str, h2.int, hl, e, q _ rfl⟩)) g
end

/-! ### slices -/
section
variable {K : PySem.W.Frag} {ρ : List Ent} {k : KE} {te : TE} {tl th : TO}
def XO (K : PySem.W.Frag) (to : TO) (ρ : List Ent) (k : Option Int → List Ent → Prop) : Prop := ∀ (F : Fr) (H : Hp) (σ : L2.St) (Q : Option Int → Hp → Prop), Env K F H σ ρ → (∀ o H' ρ', Keep (hot F σ ρ) H (hot F σ ρ') H' → Env K F H' σ ρ' → k o ρ' → Q o H') → to σ H Q
theorem xo_none {ko : Option Int → List Ent → Prop} (g : ko none ρ) : XO K tNoPart ρ ko := fun F H σ Q E q => q none H ρ (Keep.refl _ _) E g
theorem xo_some {ko : Option Int → List Ent → Prop} (h : XE K te ρ fun r ρ1 => ∃ i, r = .d (.int i) ∧ ko (some i) ρ1) : XO K (tPart te) ρ ko := fun F H σ Q E q => h F H σ _ E fun v H1 r ρ1 kp R ⟨i, e, g⟩ => by
  subst e
  exact ⟨i, R.2, q (some i) H1 ρ1 (hotR.hot kp) R.1 g⟩
def SlD (K : PySem.W.Frag) (r : V → Option Int → Option Int → Hp → VK → Prop) (x : D) (lo hi : Option Int) (k : Res → Prop) : Prop := ∀ (M : Addr → Prop) (H : Hp) (u : V) (Q : VK), Tr M H → Pk M K H u x → (∀ w H' z, Ext H H' → ResV M K H H' w z → k z → Q w H') → r u lo hi H Q
theorem xe_sl {r : V → Option Int → Option Int → Hp → VK → Prop} (h : XE K te ρ fun r1 ρ1 => XO K tl ρ1 fun lo ρ2 => XO K th ρ2 fun hi ρ3 => ∃ x, peek ρ3 r1 = some x ∧ SlD K r x lo hi fun z => k z ρ3) : XE K (tSl r te tl th) ρ k := fun F H σ Q E q =>
  h F H σ _ E fun v H1 r1 ρ1 kp R1 h2 => h2 F H1 σ _ R1.env fun lo H2 ρ2 kp2 E2 h3 => h3 F H2 σ _ E2 fun hi H3 ρ3 kp3 E3 ⟨x, px, g⟩ =>
    g _ H3 v Q (hot_tr E3) (((R1.held.keep kp2).keep kp3).pk E3 px) fun w H' z e hz kz => q w H' z ρ3 (hotR.res (((hotR.hot kp).trans kp2).trans kp3) e hz) (ResV.rv E3 e hz) kz
/-- the items of a slice -/
def cutD (ds : List D) (lo hi : Option Int) : List D := (ds.drop (HT.sIx ds.length 0 lo)).take (HT.sIx ds.length ds.length hi - HT.sIx ds.length 0 lo)
theorem DaAll.cut {M : Addr → Prop} {H : Hp} {vs : List V} {ds : List D} {lo hi : Option Int} (h : DaAll M K H vs ds) : DaAll M K H (cutV vs lo hi) (cutD ds lo hi) := by
  unfold cutV cutD
  rw [h.length]
  exact (h.drop _).take _
theorem sl_T {ds : List D} {lo hi : Option Int} {kk : Res → Prop} (g : kk (.d (.tup (cutD ds lo hi)))) : SlD K (rSlU K) (.tup ds) lo hi kk := fun M H u Q tr h q => by
  have h' := h
  rcases h with h | ⟨p, _, _, h⟩
  · obtain ⟨a, vs, rfl, c1, d1⟩ := id h
    refine .inl (.inr ⟨a, vs, rfl, c1.sq, fun ⟨e1, e2⟩ => ?_, fun _ p hp => q _ _ (.d _) (Ext.new hp) (newT tr d1.cut hp) g⟩)
    have : cutD ds lo hi = ds := by
      unfold cutD
      rw [← d1.length, e1, e2, List.drop_zero, d1.length]
      simp
    rw [this] at g
    exact q _ H (.d (.tup ds)) (Ext.refl H) h g
  · exact (show False from h).elim
theorem sl_L {ds : List D} {lo hi : Option Int} {kk : Res → Prop} (g : kk (.nw (.lst (cutD ds lo hi)))) : SlD K (rSlU K) (.lst ds) lo hi kk := fun M H u Q tr h q => by
  obtain ⟨a, vs, rfl, c1, d1⟩ := h.lst
  exact .inl (.inl ⟨a, vs, rfl, SqL.of c1, fun p hp => q _ _ (.nw _) (Ext.new hp) (newL d1.cut hp) g⟩)
theorem sl_S {z : Str} {lo hi : Option Int} {kk : Res → Prop} (hl : z.length ≤ sizeLine) (g : kk (.d (.str (cutS z lo hi)))) : SlD K (rSlU K) (.str z) lo hi kk := fun M H u Q tr h q => .inr ⟨z, h.str, hl, q _ H (.d (.str (cutS z lo hi))) (Ext.refl H) rfl g⟩
end

/-! ### builtins -/
section
variable {K : PySem.W.Frag} {k : Res → Prop} {i j : Int} {b : Bool} {x y : D} {s : Str} {ds : List D}
theorem ca1 {M : Addr → Prop} {H : Hp} {us : List V} (hl : us.length = [x].length) (h : ∀ (i : Nat) (v : V) (z : D), us[i]? = some v → [x][i]? = some z → Pk M K H v z) : ∃ u, us = [u] ∧ Pk M K H u x := by
  match us, hl with
  | [u], _ => exact ⟨u, rfl, h 0 u x rfl rfl⟩
theorem ca2 {M : Addr → Prop} {H : Hp} {us : List V} (hl : us.length = [x, y].length) (h : ∀ (i : Nat) (v : V) (z : D), us[i]? = some v → [x, y][i]? = some z → Pk M K H v z) : ∃ u v, us = [u, v] ∧ Pk M K H u x ∧ Pk M K H v y := by
  match us, hl with
  | [u, v], _ => exact ⟨u, v, rfl, h 0 u x rfl rfl, h 1 v y rfl rfl⟩
def rLenU (K : PySem.W.Frag) : List V → Hp → VK → Prop := fun xs H Q => ∃ x n, xs = [x] ∧ LenV K x H n ∧ Q (.int n) H
theorem call_lenU {X : Cx} : CallR X (.builtin "len") (rLenU X.K) := call_len
theorem c_lenT (g : k (.d (.int ds.length))) : CaD K (rLenU K) [.tup ds] k := fun M H us Q tr hl h q => by
  obtain ⟨u, rfl, h1⟩ := ca1 hl h
  obtain ⟨a, vs, rfl, c1, d1⟩ := h1.tup
  exact ⟨_, ds.length, rfl, .inr ⟨vs, c1, d1.length.symm⟩, q _ H (.d (.int ds.length)) (Ext.refl H) rfl g⟩
theorem c_lenL (g : k (.d (.int ds.length))) : CaD K (rLenU K) [.lst ds] k := fun M H us Q tr hl h q => by
  obtain ⟨u, rfl, h1⟩ := ca1 hl h
  obtain ⟨a, vs, rfl, c1, d1⟩ := h1.lst
  exact ⟨_, ds.length, rfl, .inl ⟨vs, SqL.of c1, d1.length.symm⟩, q _ H (.d (.int ds.length)) (Ext.refl H) rfl g⟩
theorem c_lenS (hs : s.length ≤ sizeLine) (g : k (.d (.int s.length))) : CaD K (rLenU K) [.str s] k := fun M H us Q tr hl h q => by
  obtain ⟨u, rfl, h1⟩ := ca1 hl h
  exact ⟨_, s.length, rfl, by rw [h1.str]; exact ⟨hs, rfl⟩, q _ H (.d (.int s.length)) (Ext.refl H) rfl g⟩
def rIntU : List V → Hp → VK → Prop := fun xs H Q => (∃ i, xs = [.int i] ∧ Q (.int i) H) ∨ ∃ k, xs = [.bl k] ∧ Q (.int (if k then 1 else 0)) H
theorem call_intU {X : Cx} : CallR X (.type "int") rIntU := call_int1
theorem c_intI (g : k (.d (.int i))) : CaD K rIntU [.int i] k := fun M H us Q tr hl h q => by
  obtain ⟨u, rfl, h1⟩ := ca1 hl h
  exact .inl ⟨i, by rw [h1.int], q _ H (.d (.int i)) (Ext.refl H) rfl g⟩
theorem c_intB (g : k (.d (.int (if b then 1 else 0)))) : CaD K rIntU [.bl b] k := fun M H us Q tr hl h q => by
  obtain ⟨u, rfl, h1⟩ := ca1 hl h
  exact .inr ⟨b, by rw [h1.bl], q _ H (.d (.int (if b then 1 else 0))) (Ext.refl H) rfl g⟩
def rAbsU : List V → Hp → VK → Prop := fun xs H Q => ∃ i, xs = [.int i] ∧ Q (.int (if i < 0 then -i else i)) H
theorem call_absU {X : Cx} : CallR X (.builtin "abs") rAbsU := call_abs
theorem c_absI (g : k (.d (.int (if i < 0 then -i else i)))) : CaD K rAbsU [.int i] k := fun M H us Q tr hl h q => by
  obtain ⟨u, rfl, h1⟩ := ca1 hl h
  exact ⟨i, by rw [h1.int], q _ H (.d (.int (if i < 0 then -i else i))) (Ext.refl H) rfl g⟩
theorem bls_inv {M : Addr → Prop} {H : Hp} : ∀ {bs : List Bool} {vs : List V}, DaAll M K H vs (bs.map D.bl) → vs = bs.map V.bl
  | [], _, h => h
  | n :: ns, _, h => by
    obtain ⟨v, r, e, h1, h2⟩ := h
    rw [e, show v = V.bl n from h1, bls_inv h2]
    rfl
theorem c_all {bs : List Bool} (g : k (.d (.bl (bs.all id)))) : CaD K (rAll K) [.lst (bs.map D.bl)] k := fun M H us Q tr hl h q => by
  obtain ⟨u, rfl, h1⟩ := ca1 hl h
  obtain ⟨a, vs, rfl, c1, d1⟩ := h1.lst
  rw [bls_inv d1] at c1
  exact ⟨a, bs, rfl, SqL.of c1, q _ H (.d (.bl (bs.all id))) (Ext.refl H) rfl g⟩
theorem c_any {bs : List Bool} (g : k (.d (.bl (bs.any id)))) : CaD K (rAny K) [.lst (bs.map D.bl)] k := fun M H us Q tr hl h q => by
  obtain ⟨u, rfl, h1⟩ := ca1 hl h
  obtain ⟨a, vs, rfl, c1, d1⟩ := h1.lst
  rw [bls_inv d1] at c1
  exact ⟨a, bs, rfl, SqL.of c1, q _ H (.d (.bl (bs.any id))) (Ext.refl H) rfl g⟩
def rTupU (K : PySem.W.Frag) : List V → Hp → VK → Prop := fun xs H Q => ∃ p ys, xs = [.ref p] ∧ ((SqL K H p ys ∧ ∀ l, H l = none → Q (.ref l) (upd H l (.tup ys))) ∨ (SqT K H p ys ∧ Q (.ref p) H))
theorem call_tupU {X : Cx} : CallR X (.type "tuple") (rTupU X.K) := call_tuple_of
theorem c_tupL (g : k (.d (.tup ds))) : CaD K (rTupU K) [.lst ds] k := fun M H us Q tr hl h q => by
  obtain ⟨u, rfl, h1⟩ := ca1 hl h
  obtain ⟨a, vs, rfl, c1, d1⟩ := h1.lst
  exact ⟨a, vs, rfl, .inl ⟨SqL.of c1, fun p hp => q _ _ (.d (.tup ds)) (Ext.new hp) (newT tr d1 hp) g⟩⟩
theorem c_tupT (g : k (.d (.tup ds))) : CaD K (rTupU K) [.tup ds] k := fun M H us Q tr hl h q => by
  obtain ⟨u, rfl, h1⟩ := ca1 hl h
  rcases h1 with h1 | ⟨p, _, _, h1⟩
  · obtain ⟨a, vs, rfl, c1, d1⟩ := id h1
    exact ⟨a, vs, rfl, .inr ⟨c1.sq, q _ H (.d (.tup ds)) (Ext.refl H) h1 g⟩⟩
  · exact (show False from h1).elim
def rLstU (K : PySem.W.Frag) : List V → Hp → VK → Prop := fun xs H Q => ∃ p ys, xs = [.ref p] ∧ (SqL K H p ys ∨ SqT K H p ys) ∧ ∀ l, H l = none → Q (.ref l) (upd H l (.lst ys))
theorem call_lstU {X : Cx} : CallR X (.type "list") (rLstU X.K) := call_list_of
theorem c_lstL (g : k (.nw (.lst ds))) : CaD K (rLstU K) [.lst ds] k := fun M H us Q tr hl h q => by
  obtain ⟨u, rfl, h1⟩ := ca1 hl h
  obtain ⟨a, vs, rfl, c1, d1⟩ := h1.lst
  exact ⟨a, vs, rfl, .inl (SqL.of c1), fun p hp => q _ _ (.nw (.lst ds)) (Ext.new hp) (newL d1 hp) g⟩
theorem c_lstT (g : k (.nw (.lst ds))) : CaD K (rLstU K) [.tup ds] k := fun M H us Q tr hl h q => by
  obtain ⟨u, rfl, h1⟩ := ca1 hl h
  obtain ⟨a, vs, rfl, c1, d1⟩ := h1.tup
  exact ⟨a, vs, rfl, .inr c1, fun p hp => q _ _ (.nw (.lst ds)) (Ext.new hp) (newL d1 hp) g⟩
end

/-! ### isinstance -/
def D.tyn : D → String
  | .non => "NoneType" | .bl _ => "bool" | .int _ => "int" | .str _ => "str" | .tup _ => "tuple" | .lst _ => "list" | .emp => "dict" | .obj _ _ _ => "" | .dct _ _ => "dict"
def D.isBuiltin : D → Bool
  | .obj _ _ _ => false
  | _ => true
section
variable {K : PySem.W.Frag} {ρ : List Ent} {k : KE} {te : TE}
theorem ty_of {M : Addr → Prop} {H : Hp} {v : V} {x : D} (hx : x.isBuiltin = true) (h : Pk M K H v x) : TyX K H v (.type x.tyn) := by
  rcases h with h | ⟨p, rfl, _, h⟩
  · cases x with
    | non => rw [show v = .non from h]; exact .base .non
    | bl b => rw [show v = .bl b from h]; exact .base (.bl b)
    | int i => rw [show v = .int i from h]; exact .base (.int i)
    | str z => rw [show v = .str z from h]; exact .base (.str z)
    | tup xs =>
      obtain ⟨a, vs, e, c1, _⟩ := h
      rw [e]
      exact .base (.tup c1.2)
    | lst xs => obtain ⟨a, vs, e, c1, _⟩ := h; rw [e]; exact .base (.lst c1.2)
    | emp => obtain ⟨a, e, _, c1⟩ := h; rw [e]; exact .base (.dK c1)
    | obj C ns xs => cases hx
    | dct ks xs =>
      obtain ⟨a, kvs, e, _, c1, _⟩ := h
      rw [e]
      exact .base (.dT c1)
  · cases x with
    | lst xs => obtain ⟨vs, c1, _⟩ := h; exact .base (.lst c1)
    | obj C ns xs => cases hx
    | dct ks xs => obtain ⟨kvs, c1, _⟩ := h; exact .base (.dT c1)
    | _ => exact (show False from h).elim
theorem xe_isi {T : String} (f : D → Bool) (hf : ∀ x : D, x.isBuiltin = true → kitB x.tyn T = some (f x)) (h : XE K te ρ fun r ρ1 => ∃ x, peek ρ1 r = some x ∧ x.isBuiltin = true ∧ k (.d (.bl (f x))) ρ1) :
    XE K (tCB (rIsi K) (tCons te (tCons (tC (.ty T)) tNil))) ρ k := fun F H σ Q E q => h F H σ _ E fun v H1 r ρ1 kp R ⟨x, px, hx, g⟩ =>
  ⟨v, .ty T, .type x.tyn, .type T, f x, rfl, .ty T, ty_of hx (R.held.pk R.env px), kit_ty (hf x hx), q _ H1 (.d (.bl (f x))) ρ1 (hotR.d (hotR.hot kp)) ⟨R.env, rfl⟩ g⟩
theorem xe_isi2 {T1 T2 : String} (f f' : D → Bool) (hf : ∀ x : D, x.isBuiltin = true → kitB x.tyn T1 = some (f x)) (hf' : ∀ x : D, x.isBuiltin = true → kitB x.tyn T2 = some (f' x))
    (h : XE K te ρ fun r ρ1 => ∃ x, peek ρ1 r = some x ∧ x.isBuiltin = true ∧ k (.d (.bl (f x || f' x))) ρ1) :
    XE K (tCB (rIsiT K) (tCons te (tCons (tTup (tCons (tC (.ty T1)) (tCons (tC (.ty T2)) tNil))) tNil))) ρ k := fun F H σ Q E q => h F H σ _ E fun v H1 r ρ1 kp R ⟨x, px, hx, g⟩ =>
  ⟨by show 2 ≤ sizeLine; decide, fun p hp => by
    have e : Ext H1 (upd H1 p (.tup [.ty T1, .ty T2])) := Ext.new hp
    have E2 := R.env.ex e
    refine ⟨v, p, [.ty T1, .ty T2], .type x.tyn, [.type T1, .type T2], f x || f' x, rfl, upd_same, .cons (.ty T1) (.cons (.ty T2) .nil), ty_of hx ((R.held.pk R.env px).ex e), ?_, q _ _ (.d (.bl (f x || f' x))) ρ1 (hotR.d ((hotR.hot kp).trans (Keep.ext e))) ⟨E2, rfl⟩ g⟩
    refine kitAny_cons (kit_ty (hf x hx)) (fun h0 => kitAny_cons (kit_ty (hf' x hx)) (fun h1 => ?_) fun h1 => ?_) fun h0 => ?_
    · rw [kitAny_nil, h0, h1] <;> rfl
    · rw [h0, h1] <;> rfl
    · rw [h0] <;> rfl⟩
end
@[reducible] def D.isTup : D → Bool
  | .tup _ => true
  | _ => false
@[reducible] def D.isLst : D → Bool
  | .lst _ => true
  | _ => false
@[reducible] def D.isStr : D → Bool
  | .str _ => true
  | _ => false
@[reducible] def D.isInt : D → Bool
  | .int _ => true
  | .bl _ => true
  | _ => false
@[reducible] def D.isBool : D → Bool
  | .bl _ => true
  | _ => false
@[reducible] def D.isDct : D → Bool
  | .emp => true
  | .dct _ _ => true
  | _ => false
theorem isi_tuple : ∀ x : D, x.isBuiltin = true → kitB x.tyn "tuple" = some x.isTup := by
  intro x h
  cases x <;> first
    | (cases h; done)
    | (simp only [D.tyn, D.isTup]; decide +kernel)
theorem isi_list : ∀ x : D, x.isBuiltin = true → kitB x.tyn "list" = some x.isLst := by
  intro x h
  cases x <;> first
    | (cases h; done)
    | (simp only [D.tyn, D.isLst]; decide +kernel)
theorem isi_str : ∀ x : D, x.isBuiltin = true → kitB x.tyn "str" = some x.isStr := by
  intro x h
  cases x <;> first
    | (cases h; done)
    | (simp only [D.tyn, D.isStr]; decide +kernel)
theorem isi_int : ∀ x : D, x.isBuiltin = true → kitB x.tyn "int" = some x.isInt := by
  intro x h
  cases x <;> first
    | (cases h; done)
    | (simp only [D.tyn, D.isInt]; decide +kernel)
theorem isi_bool : ∀ x : D, x.isBuiltin = true → kitB x.tyn "bool" = some x.isBool := by
  intro x h
  cases x <;> first
    | (cases h; done)
    | (simp only [D.tyn, D.isBool]; decide +kernel)
theorem isi_dict : ∀ x : D, x.isBuiltin = true → kitB x.tyn "dict" = some x.isDct := by
  intro x h
  cases x <;> first
    | (cases h; done)
    | (simp only [D.tyn, D.isDct]; decide +kernel)

/-! ### methods and stores of own objects -/
section
variable {K : PySem.W.Frag} {ρ : List Ent} {k : KE} {te ti : TE} {ta : TA} {i : Nat}
/-- a method of the own list x, with arguments: what it gives (data), the list behind it -/
def MtD (K : PySem.W.Frag) (r : V → List V → Hp → VK → Prop) (x : D) (xs : List D) (k : D → D → Prop) : Prop := ∀ (M : Addr → Prop) (H : Hp) (p : Addr) (us : List V) (Q : VK), M p → OwnAt M K H p x → DaAll M K H us xs →
  (∀ w o' z x', OwnAt M K (upd H p o') p x' → Da M K H w z → k z x' → Q w (upd H p o')) → r (.ref p) us H Q
theorem keep_write {F : Fr} {H : Hp} {σ : L2.St} {ρ : List Ent} {p : Addr} {o : HO} {x y : D} (he : ρ[i]? = some (.own x)) (hs : σ[i]? = some (some (.ref p))) : Keep (hot F σ ρ) H (hot F σ (ρ.set i (.own y))) (upd H p o) := fun b u n e => by
  have hp : hot F σ ρ p := hot.own he hs
  refine ⟨fun z => n ?_, by rw [upd_ne fun z => n (by rw [z]; exact hp)]; exact e⟩
  rcases z with z | ⟨j, h1⟩
  · exact .inl z
  · rcases h1.put with ⟨e1, h2, _⟩ | ⟨_, h3⟩
    · subst e1; exact hot.own he h2
    · exact .inr ⟨j, h3⟩
theorem keep_up {F : Fr} {H : Hp} {σ : L2.St} {ρ : List Ent} {y : D} (x : D) (he : ρ[i]? = some (.own x)) : ∀ b, hot F σ (ρ.set i (.own y)) b → hot F σ ρ b := fun b z => by
  rcases z with z | ⟨j, h1⟩
  · exact .inl z
  · rcases h1.put with ⟨e1, h2, _⟩ | ⟨_, h3⟩
    · subst e1; exact hot.own he h2
    · exact .inr ⟨j, h3⟩
theorem xe_meth {T : String} {r : V → List V → Hp → VK → Prop} {x0 : D} (hi : ρ[i]? = some (.own x0)) (hty : ∀ M H p, OwnAt M K H p x0 → tyV K T (.ref p) H)
    (h : XA K ta ρ fun rs ρ1 => ∃ xs x, peekAll ρ1 rs = some xs ∧ (frzAll ρ1 rs)[i]? = some (.own x) ∧ MtD K r x xs fun z x' => k (.d z) ((frzAll ρ1 rs).set i (.own x'))) : XE K (tBM K T r (tVar i) ta) ρ k := fun F H σ Q E q => by
  obtain ⟨p, hs, ho⟩ := E.slot i _ hi
  refine ⟨_, hs, hty _ _ _ ho, h F H σ _ E fun vs H1 rs ρ1 kp E1 hv ⟨xs, x, px, he, g⟩ => ?_⟩
  obtain ⟨E2, d2, k2⟩ := HeldAll.frz E1 hv px
  obtain ⟨p', hs', ho2⟩ := E2.slot i _ he
  rw [hs] at hs'
  cases hs'
  have hp : hot F σ (frzAll ρ1 rs) p := hot.own he hs
  refine g _ H1 p vs Q hp ho2 d2 fun w o' z x' ho' hw kz => ?_
  have E3 := E2.write he hs ho'
  have k3 : Keep (hot F σ (frzAll ρ1 rs)) H1 (hot F σ ((frzAll ρ1 rs).set i (.own x'))) (upd H1 p o') := keep_write he hs
  exact q w _ (.d z) _ (hotR.d ((kp.trans k2).trans k3)) ⟨E3, hw.mono k3⟩ kz
theorem xe_meth0 {T : String} {r : V → List V → Hp → VK → Prop} {x : D} (hi : ρ[i]? = some (.own x)) (hty : ∀ M H p, OwnAt M K H p x → tyV K T (.ref p) H)
    (g : MtD K r x [] fun z x' => k (.d z) (ρ.set i (.own x'))) : XE K (tBM0 K T r (tVar i)) ρ k := fun F H σ Q E q => by
  obtain ⟨p, hs, ho⟩ := E.slot i _ hi
  have hp : hot F σ ρ p := hot.own hi hs
  refine ⟨_, hs, hty _ _ _ ho, g _ H p [] Q hp ho rfl fun w o' z x' ho' hw kz => ?_⟩
  have E3 := E.write hi hs ho'
  have k3 : Keep (hot F σ ρ) H (hot F σ (ρ.set i (.own x'))) (upd H p o') := keep_write hi hs
  exact q w _ (.d z) _ (hotR.d k3) ⟨E3, hw.mono k3⟩ kz
theorem ty_list {ds : List D} {M : Addr → Prop} {H : Hp} {p : Addr} (h : OwnAt M K H p (.lst ds)) : tyV K "list" (.ref p) H := by
  obtain ⟨vs, h1, _⟩ := h
  exact .inl ⟨rfl, vs, SqL.of h1⟩
theorem ty_dict {ks : List (List Key)} {ds : List D} {M : Addr → Prop} {H : Hp} {p : Addr} (h : OwnAt M K H p (.dct ks ds)) : tyV K "dict" (.ref p) H := by
  obtain ⟨kvs, h1, _⟩ := h
  exact .inr (.inr (.inl ⟨rfl, .inr ⟨kvs, h1⟩⟩))
theorem ownL {M : Addr → Prop} {H : Hp} {p : Addr} {vs : List V} {ds : List D} (hp : M p) (d : DaAll M K H vs ds) : OwnAt M K (upd H p (.lst vs)) p (.lst ds) :=
  ⟨vs, upd_same, d.mono fun b o n e => ⟨n, by rw [upd_ne fun z => n (by rw [z]; exact hp)]; exact e⟩⟩
theorem m_append {ds : List D} {y : D} {kk : D → D → Prop} (hl : ds.length < sizeLine) (g : kk .non (.lst (ds ++ [y]))) : MtD K rAppend (.lst ds) [y] kk := fun M H p us Q mp ⟨vs, h1, d1⟩ hu q => by
  obtain ⟨u, rfl, h2⟩ := da1 hu
  exact ⟨p, vs, u, rfl, rfl, h1, by rw [d1.length]; exact hl, q .non _ .non _ (ownL mp (d1.append (DaAll.one h2))) rfl g⟩
theorem m_extend {ds es : List D} {kk : D → D → Prop} (hl : ds.length + es.length ≤ sizeLine) (g : kk .non (.lst (ds ++ es))) : MtD K rExtend (.lst ds) [.lst es] kk := fun M H p us Q mp ⟨vs, h1, d1⟩ hu q => by
  obtain ⟨u, rfl, h2⟩ := da1 hu
  obtain ⟨a, ws, rfl, c2, d2⟩ := h2
  exact ⟨p, a, vs, ws, rfl, rfl, h1, c2.2, by rw [d1.length, d2.length]; exact hl, q .non _ .non _ (ownL mp (d1.append d2)) rfl g⟩
theorem seqIx {n : Nat} {i : Int} (h0 : 0 ≤ i) (h1 : i < n) : seqIndex? i n = some i.toNat := PySem.StrLaws.seqIndex_nonneg h0 h1
theorem m_popAt {ds : List D} {j : Int} {y : D} {kk : D → D → Prop} (h0 : 0 ≤ j) (h1 : j < 2 ^ 63) (hy : ds[j.toNat]? = some y) (g : kk y (.lst (ds.eraseIdx j.toNat))) : MtD K rPopAt (.lst ds) [.int j] kk := fun M H p us Q mp ⟨vs, h2, d1⟩ hu q => by
  obtain ⟨u, rfl, h3⟩ := da1 hu
  obtain ⟨w, e1, e2⟩ := d1.at hy
  have hl : j.toNat < vs.length := (List.getElem?_eq_some_iff.mp e1).1
  exact ⟨p, vs, j, j.toNat, w, rfl, by rw [show u = V.int j from h3], h2, by omega, h1, seqIx h0 (by omega), e1, q w _ y _ (ownL mp (d1.eraseIdx _)) e2 g⟩
theorem m_pop {ds : List D} {y : D} {kk : D → D → Prop} (hy : ds[ds.length - 1]? = some y) (g : kk y (.lst (ds.take (ds.length - 1)))) : MtD K rPop (.lst ds) [] kk := fun M H p us Q mp ⟨vs, h2, d1⟩ hu q => by
  have : us = [] := hu
  subst this
  obtain ⟨w, e1, e2⟩ := d1.at hy
  refine ⟨p, vs, w, rfl, rfl, h2, by rw [d1.length]; exact e1, q w _ y _ (ownL mp ?_) e2 g⟩
  rw [List.dropLast_eq_take, d1.length]
  exact d1.take _
/-- own[i] = e -/
theorem xs_setix {Φ : Post} {i : Nat} (h : XE K te ρ fun r ρ1 => ∃ y, peek ρ1 r = some y ∧ ∃ x0, (frz ρ1 r)[i]? = some (.own x0) ∧ XE K ti (frz ρ1 r) fun r2 ρ2 => ∃ (j : Int) (ds : List D), r2 = .d (.int j) ∧ ρ2[i]? = some (.own (.lst ds)) ∧ ∃ n, ixN ds.length j = some n ∧
    Φ.nx (ρ2.set i (.own (.lst (ds.set n y))))) : XS K (tAsg te (gSub (tVar i) ti rSetL)) ρ Φ := fun F H σ Dn E I => h F H σ _ E fun v H1 r ρ1 kp R ⟨y, py, x0, he0, h2⟩ => by
  obtain ⟨E1, d1⟩ := R.frz py
  obtain ⟨p, hs, ho⟩ := E1.slot i _ he0
  refine ⟨_, hs, h2 F H1 σ _ E1 fun w H2 r2 ρ2 kp2 R2 ⟨j, ds, e2, he, n, hn, g⟩ => ?_⟩
  subst e2
  obtain ⟨E2, hw⟩ := R2
  obtain ⟨p', hs', vs, ho1, ho2⟩ := E2.slot i _ he
  rw [hs] at hs'
  cases hs'
  have hp : hot F σ ρ2 p := hot.own he hs
  have k1 := ((hotR.hot kp).trans (keep_frz R.env)).trans (hotR.hot kp2)
  refine ⟨p, vs, j, n, rfl, hw, ho1, by rw [ho2.length]; exact hn, ?_⟩
  have ho' : OwnAt (hot F σ ρ2) K (upd H2 p (.lst (vs.set n v))) p (.lst (ds.set n y)) := ownL hp (ho2.set (d1.mono (hotR.hot kp2)))
  exact I.nx _ _ _ (k1.trans (keep_write he hs)) (E2.write he hs ho') g
end
end PW
end
section
/-! PW: the rules in the forms that a tactic walks by: each new environment is told by an equation. -/
namespace PW
open PySem PySem.Spec PyProof.Rows L2

theorem hu64 {k : Nat} {A : Around} (r : Room k A) : A.units + 64 < cLine := r.units
theorem hu65 {k : Nat} {A : Around} (r : Room k A) : A.units + 65 < cLine := by have := r.un; omega
theorem len_w {K : PySem.W.Frag} {w : WF} {vs : List V} {H : Hp} {Q : VK} {E : XK} {n : Nat} (h : spW K w vs H Q E) (hl : ∀ ds kk, w ds kk → ds.length = n) : vs.length = n := by
  obtain ⟨M, ds, kk, _, d, hw, _⟩ := h
  rw [d.length]
  exact hl ds kk hw
theorem len_h {K : PySem.W.Frag} {w : WF} {vs : List V} {H : Hp} {Q : VK} {E : XK} {n : Nat} (h : spH K w vs H Q E) (hl : ∀ ds kk, w ds kk → ds.length + 1 = n) : vs.length = n := by
  obtain ⟨M, a, ws, ds, kk, rfl, _, _, _, d, hw, _⟩ := h
  rw [List.length_cons, d.length]
  exact hl ds kk hw

section
variable {K : PySem.W.Frag} {ρ : List Ent} {k : KE} {ta tb tc te ti : TE} {i j : Nat} {x : D} {Φ : Post} {t u : TS} {wi : TI}
theorem ys_asg (h : XE K te ρ fun r ρ' => ∃ ρ2, sto ρ' j r = ρ2 ∧ Φ.nx ρ2) : XS K (tAsg te (gName j)) ρ Φ := xs_asg (xe_mono h fun r ρ' ⟨_, e, g⟩ => by rw [e]; exact g)
theorem ys_asgG {g : TG} (h : XE K te ρ fun r ρ1 => ∃ x, peek ρ1 r = some x ∧ ∃ ρ2, frz ρ1 r = ρ2 ∧ XG K g x ρ2 Φ.nx) : XS K (tAsg te g) ρ Φ := xs_asgG (xe_mono h fun r ρ1 ⟨x, p, ρ2, e, g⟩ => ⟨x, p, by rw [e]; exact g⟩)
theorem yg_name {d : D} {kk : List Ent → Prop} (h : ∃ ρ2, ρ.set j (.d d) = ρ2 ∧ kk ρ2) : XG K (gName j) d ρ kk := by
  obtain ⟨_, e, g⟩ := h
  exact xg_name (by rw [e]; exact g)
theorem ys_ret (h : XE K te ρ fun r ρ' => back ρ' r Φ.rt) : XS K (tRet te) ρ Φ := xs_ret h
theorem back_d {kk : Res → List Ent → Prop} (g : kk (.d x) ρ) : back ρ (.d x) kk := g
theorem back_nw {kk : Res → List Ent → Prop} (g : kk (.nw x) ρ) : back ρ (.nw x) kk := g
theorem back_v {kk : Res → List Ent → Prop} (h : ρ[i]? = some (.own x)) (g : ∃ ρ2, ρ.set i .u = ρ2 ∧ kk (.nw x) ρ2) : back ρ (.v i) kk := by
  obtain ⟨_, e, g⟩ := g
  show backE ρ i kk ρ[i]?
  rw [h]
  show kk (.nw x) (ρ.set i .u)
  rw [e]
  exact g
theorem ye_tup {t : TA} (h : XA K t ρ fun rs ρ1 => ∃ xs, peekAll ρ1 rs = some xs ∧ xs.length ≤ sizeLine ∧ ∃ ρ2, frzAll ρ1 rs = ρ2 ∧ k (.d (.tup xs)) ρ2) : XE K (tTup t) ρ k :=
  xe_tup fun F H σ Q E q => h F H σ Q E fun vs H' rs ρ' a b c ⟨xs, p, l, ρ2, e, g⟩ => q vs H' rs ρ' a b c ⟨xs, p, l, by rw [e]; exact g⟩
theorem ye_lst {t : TA} (h : XA K t ρ fun rs ρ1 => ∃ xs, peekAll ρ1 rs = some xs ∧ xs.length ≤ sizeLine ∧ ∃ ρ2, frzAll ρ1 rs = ρ2 ∧ k (.nw (.lst xs)) ρ2) : XE K (tLst t) ρ k :=
  xe_lst fun F H σ Q E q => h F H σ Q E fun vs H' rs ρ' a b c ⟨xs, p, l, ρ2, e, g⟩ => q vs H' rs ρ' a b c ⟨xs, p, l, by rw [e]; exact g⟩
theorem ye_call {w : WF} {E : XK} {t : TA} (h : XA K t ρ fun rs ρ1 => ∃ xs, peekAll ρ1 rs = some xs ∧ ∃ ρ2, frzAll ρ1 rs = ρ2 ∧ w xs fun z => k z ρ2) : XE K (tCall (spW K w) [] E t) ρ k :=
  xe_call fun F H σ Q E q => h F H σ Q E fun vs H' rs ρ' a b c ⟨xs, p, ρ2, e, g⟩ => q vs H' rs ρ' a b c ⟨xs, p, by rw [e]; exact g⟩
theorem ye_callH {w : WF} {E : XK} {t : TA} (hi : ρ[i]? = some .hand) (h : XA K t ρ fun rs ρ1 => ∃ xs, peekAll ρ1 rs = some xs ∧ ∃ ρ2, frzAll ρ1 rs = ρ2 ∧ w xs fun z => k z ρ2) : XE K (tCallH (spH K w) E i t) ρ k :=
  xe_callH hi fun F H σ Q E q => h F H σ Q E fun vs H' rs ρ' a b c ⟨xs, p, ρ2, e, g⟩ => q vs H' rs ρ' a b c ⟨xs, p, by rw [e]; exact g⟩
theorem yi_seq {kk : List D → List Ent → Prop} (h : XE K te ρ fun r ρ1 => ∃ x ds, peek ρ1 r = some x ∧ itemsD x = some ds ∧ ∃ ρ2, frz ρ1 r = ρ2 ∧ kk ds ρ2) : XI K (iSeq K te) ρ kk :=
  xi_seq (xe_mono h fun r ρ1 ⟨x, ds, p, e, ρ2, e2, g⟩ => ⟨x, ds, p, e, by rw [e2]; exact g⟩)
/-- xs.append(e) and its like: the value is dropped -/
theorem ye_meth {T : String} {ta : TA} {r : V → List V → Hp → VK → Prop} {x0 : D} (hi : ρ[i]? = some (.own x0)) (hty : ∀ M H p, OwnAt M K H p x0 → tyV K T (.ref p) H)
    (h : XA K ta ρ fun rs ρ1 => ∃ xs x, peekAll ρ1 rs = some xs ∧ ∃ ρ2, frzAll ρ1 rs = ρ2 ∧ ρ2[i]? = some (.own x) ∧ MtD K r x xs fun z x' => ∃ ρ3, ρ2.set i (.own x') = ρ3 ∧ k (.d z) ρ3) : XE K (tBM K T r (tVar i) ta) ρ k :=
  xe_meth hi hty fun F H σ Q E q => h F H σ Q E fun vs H' rs ρ' a b c ⟨xs, x, p, ρ2, e, e2, g⟩ => q vs H' rs ρ' a b c ⟨xs, x, p, by rw [e]; exact e2, by
    rw [e]
    exact fun M H p us Q m o d q => g M H p us Q m o d fun w o' z x' a b ⟨ρ3, e3, c⟩ => q w o' z x' a b (by subst e3; exact c)⟩
theorem ye_meth0 {T : String} {r : V → List V → Hp → VK → Prop} {x : D} (hi : ρ[i]? = some (.own x)) (hty : ∀ M H p, OwnAt M K H p x → tyV K T (.ref p) H)
    (g : MtD K r x [] fun z x' => ∃ ρ3, ρ.set i (.own x') = ρ3 ∧ k (.d z) ρ3) : XE K (tBM0 K T r (tVar i)) ρ k :=
  xe_meth0 hi hty fun M H p us Q m o d q => g M H p us Q m o d fun w o' z x' a b ⟨ρ3, e3, c⟩ => q w o' z x' a b (by subst e3; exact c)
theorem ys_setix (h : XE K te ρ fun r ρ1 => ∃ y, peek ρ1 r = some y ∧ ∃ ρ', frz ρ1 r = ρ' ∧ ∃ x0, ρ'[i]? = some (.own x0) ∧ XE K ti ρ' fun r2 ρ2 => ∃ (j : Int) (ds : List D), r2 = .d (.int j) ∧ ρ2[i]? = some (.own (.lst ds)) ∧ ∃ n, ixN ds.length j = some n ∧
    ∃ ρ3, ρ2.set i (.own (.lst (ds.set n y))) = ρ3 ∧ Φ.nx ρ3) : XS K (tAsg te (gSub (tVar i) ti rSetL)) ρ Φ :=
  xs_setix (xe_mono h fun r ρ1 ⟨y, p, ρ', e, x0, e0, g⟩ => ⟨y, p, x0, by rw [e]; exact e0, by
    rw [e]
    exact xe_mono g fun r2 ρ2 ⟨j, ds, a, b, n, c, ρ3, e3, d⟩ => ⟨j, ds, a, b, n, c, by rw [e3]; exact d⟩⟩)
/-- a comprehension whose test and element neither draw nor change anything: f tells what each item gives -/
theorem xt_yes {kb : Bool → List Ent → Prop} (g : kb true ρ) : XT K tYes ρ kb := fun F H σ Q E q => q true H ρ (Keep.refl _ _) E g
end

/-! ### negation, several targets -/
def rNegI : V → Hp → VK → Prop := rU fun i => .int (-i)
theorem un_negU {X : Cx} : UnR X (unaryOp .USub) rNegI := un_neg
theorem u_neg {K : PySem.W.Frag} {n : Int} {kk : Res → Prop} (g : kk (.d (.int (-n)))) : UnD K rNegI (.int n) kk := fun M H u Q tr h q => ⟨n, h.int, q _ H (.d (.int (-n))) (Ext.refl H) rfl g⟩
section
variable {K : PySem.W.Frag} {ρ : List Ent} {k : KE} {Φ : Post}
theorem ye_emp (g : k (.d .emp) ρ) : XE K tDNewK ρ k := fun F H σ Q E q p hp => by
  have e : Ext H (upd H p (.dK [])) := Ext.new hp
  have z : ResV (hot F σ ρ) K H (upd H p (.dK [])) (.ref p) (.d .emp) := ⟨p, rfl, fun z => (E.hotTrk p z).ne hp, upd_same⟩
  exact q _ _ (.d .emp) ρ (hotR.res (Keep.refl _ _) e z) (ResV.rv E e z) g

/-! several targets: each value is stored as it is (a new object is the slot's own) -/
def sets (σ : L2.St) : List Nat → List V → L2.St
  | j :: js, v :: vs => (sets σ js vs).set j (some v)
  | _, _ => σ
def XM (K : PySem.W.Frag) (ta : TA) (js : List Nat) (ρ : List Ent) (k : List Ent → Prop) : Prop := ∀ (F : Fr) (H : Hp) (σ : L2.St) (Q : List V → Hp → Prop), Env K F H σ ρ →
  (∀ vs H' ρ', vs.length = js.length → Keep (hot F σ ρ) H (hot F (sets σ js vs) ρ') H' → Env K F H' (sets σ js vs) ρ' → k ρ' → Q vs H') → ta σ H Q
theorem xm_nil {kk : List Ent → Prop} (g : kk ρ) : XM K tNil [] ρ kk := fun F H σ Q E q => q [] H ρ rfl (Keep.refl _ _) E g
theorem xm_cons {te : TE} {ta : TA} {j : Nat} {js : List Nat} {kk : List Ent → Prop} (h : XE K te ρ fun r ρ1 => (∀ i, r ≠ .v i) ∧ XM K ta js ρ1 fun ρ2 => ∃ ρ3, ρ2.set j r.ent = ρ3 ∧ kk ρ3) : XM K (tCons te ta) (j :: js) ρ kk := fun F H σ Q E q =>
  h F H σ _ E fun v H1 r ρ1 kp R ⟨n, h2⟩ => by
    cases r with
    | v i => exact absurd rfl (n i)
    | d x =>
      refine h2 F H1 σ _ R.1 fun vs H2 ρ2 hl kp2 E2 ⟨ρ3, e, g⟩ => ?_
      subst e
      refine q (v :: vs) H2 _ (by rw [List.length_cons, List.length_cons, hl]) ?_ (E2.setD (R.2.mono kp2)) g
      have k12 := (hotR.hot kp).trans kp2
      exact fun b o m e => ⟨fun z => (k12 b o m e).1 (hot_setD E2.len z), (k12 b o m e).2⟩
    | nw x =>
      obtain ⟨p, rfl, h0, nh, Ep, ho⟩ := R
      obtain ⟨o, hpo⟩ := Option.ne_none_iff_exists'.mp ho.there
      have hh : ∀ a, F.hd = some a → F.H0 a ≠ none := fun a e => (E.hand a e).2.1
      have nd : F.hd ≠ some p := fun z => (hh p z) h0
      refine h2 (F.pin p o) H1 σ _ (Ep.pin h0 hpo) fun vs H2 ρ2 hl kp2 E2 ⟨ρ3, e, g⟩ => ?_
      subst e
      have nM : ¬ F.M p := fun z => nh (.inl z)
      have np : ¬ hot F (sets σ js vs) ρ2 p := fun z => by
        rcases z with z | ⟨i, z⟩
        · exact nM z
        · exact (E2.newO i p z).2 (.inr rfl)
      have hp2 : H2 p = some o := E2.go p o nd upd_same
      have ho2 : OwnAt (hot (F.push p) (sets σ js vs) ρ2) K H2 p x := ho.mono kp2 fun u z => by rw [hpo] at z; cases z; exact hp2
      refine q (.ref p :: vs) H2 _ (by rw [List.length_cons, List.length_cons, hl]) ?_ ((E2.unpin (pk_none E h0) h0 hh).setNew h0 np ho2) g
      intro b u m e
      obtain ⟨g1, g2⟩ := kp b u m e
      have g1' : ¬ hot (F.pin p o) σ ρ1 b := fun z => g1 (by
        rcases z with z | z
        · rcases z with z | z
          · exact .inl (.inl z)
          · rw [z]; exact .inr ⟨⟨x, rfl⟩, rfl⟩
        · exact .inl (.inr z))
      obtain ⟨g3, g4⟩ := kp2 b u g1' g2
      refine ⟨fun z => g3 ?_, g4⟩
      rcases z with z | ⟨i, z⟩
      · exact .inl (.inl z)
      · rcases Owns.set E2.len (show Owns ((sets σ js vs).set j (some (.ref p))) _ i b from z) with ⟨_, z2, _⟩ | ⟨_, z3⟩
        · have z2 : some (some (V.ref p)) = some (some (.ref b)) := z2
          cases z2
          exact .inl (.inr rfl)
        · exact .inr ⟨i, z3⟩
theorem ys_par {i j : Nat} {ta : TA} (hij : i ≠ j) (h : XM K ta [i, j] ρ Φ.nx) : XS K (tPar i j ta) ρ Φ := fun F H σ Dn E I =>
  h F H σ _ E fun vs H1 ρ1 hl kp E1 g => by
    match vs, hl with
    | [v, w], _ =>
      refine ⟨v, w, rfl, ?_⟩
      have e : sets σ [i, j] [v, w] = (σ.set i (some v)).set j (some w) := by
        show (σ.set j (some w)).set i (some v) = _
        rw [List.set_comm _ _ hij]
      rw [e] at kp E1
      exact I.nx H1 _ ρ1 kp E1 g
theorem sets3 {σ : L2.St} {i j l : Nat} {u v w : V} (hij : i ≠ j) (hil : i ≠ l) (hjl : j ≠ l) : sets σ [i, j, l] [u, v, w] = ((σ.set i (some u)).set j (some v)).set l (some w) := by
  show ((σ.set l (some w)).set j (some v)).set i (some u) = _
  rw [List.set_comm _ _ (Ne.symm hjl), List.set_comm _ _ (Ne.symm hil), List.set_comm _ _ (Ne.symm hij)]
theorem ys_par3 {i j l : Nat} {ta : TA} (hij : i ≠ j) (hil : i ≠ l) (hjl : j ≠ l) (h : XM K ta [i, j, l] ρ Φ.nx) : XS K (tPar3 i j l ta) ρ Φ := fun F H σ Dn E I =>
  h F H σ _ E fun vs H1 ρ1 hl kp E1 g => by
    match vs, hl with
    | [u, v, w], _ =>
      refine ⟨u, v, w, rfl, ?_⟩
      rw [sets3 hij hil hjl] at kp E1
      exact I.nx H1 _ ρ1 kp E1 g
/-- a, b = x, y by a tuple that is made and taken apart -/
theorem ys_unp2 {i j : Nat} {ta : TA} (hij : i ≠ j) (h : XM K ta [i, j] ρ Φ.nx) : XS K (tAsg (tTup ta) (gTup K 2 (gCons (gName i) (gCons (gName j) gNil)))) ρ Φ := fun F H σ Dn E I =>
  h F H σ _ E fun vs H1 ρ1 hl kp E1 g => by
    match vs, hl with
    | [v, w], _ =>
      refine ⟨by show 2 ≤ sizeLine; decide, fun p hp => ⟨p, [v, w], rfl, SqT.of upd_same, rfl, v, [w], rfl, w, [], rfl, rfl, ?_⟩⟩
      have e : sets σ [i, j] [v, w] = (σ.set i (some v)).set j (some w) := by
        show (σ.set j (some w)).set i (some v) = _
        rw [List.set_comm _ _ hij]
      rw [e] at kp E1
      have x : Ext H1 (upd H1 p (.tup [v, w])) := Ext.new hp
      exact I.nx _ _ ρ1 (kp.trans (Keep.ext x)) (E1.ex x) g
theorem ys_unp3 {i j l : Nat} {ta : TA} (hij : i ≠ j) (hil : i ≠ l) (hjl : j ≠ l) (h : XM K ta [i, j, l] ρ Φ.nx) : XS K (tAsg (tTup ta) (gTup K 3 (gCons (gName i) (gCons (gName j) (gCons (gName l) gNil))))) ρ Φ := fun F H σ Dn E I =>
  h F H σ _ E fun vs H1 ρ1 hl kp E1 g => by
    match vs, hl with
    | [u, v, w], _ =>
      refine ⟨by show 3 ≤ sizeLine; decide, fun p hp => ⟨p, [u, v, w], rfl, SqT.of upd_same, rfl, u, [v, w], rfl, v, [w], rfl, w, [], rfl, rfl, ?_⟩⟩
      rw [sets3 hij hil hjl] at kp E1
      have x : Ext H1 (upd H1 p (.tup [u, v, w])) := Ext.new hp
      exact I.nx _ _ ρ1 (kp.trans (Keep.ext x)) (E1.ex x) g
theorem ys_aug {i : Nat} {te : TE} {f : Int → Int → Int} {a : Int} (hi : ρ[i]? = some (.d (.int a))) (h : XE K te ρ fun r ρ1 => ∃ b, r = .d (.int b) ∧ ∃ ρ2, ρ1.set i (.d (.int (f a b))) = ρ2 ∧ Φ.nx ρ2) : XS K (tAug i te (ipI f)) ρ Φ := fun F H σ Dn E I => by
  obtain ⟨v, hs, hv⟩ := E.slot i _ hi
  have ev : v = .int a := hv
  refine ⟨v, hs, h F H σ _ E fun w H1 r ρ1 kp R ⟨b, er, ρ2, e, g⟩ => ?_⟩
  subst er e
  obtain ⟨E1, hw⟩ := R
  refine ⟨a, b, ev, hw, ?_⟩
  have k1 := hotR.hot kp
  exact I.nx H1 _ _ (fun c o m e => ⟨fun z => (k1 c o m e).1 (hot_setD E1.len z), (k1 c o m e).2⟩) (E1.setD (x := .int (f a b)) rfl) g
end

/-! ### what a comprehension's targets are -/
theorem own_name {j : Nat} : OwnSlots (gName j) [j] := fun σ v H Q h => by
  have e : wipe (σ.set j (some v)) [j] = wipe σ [j] := by
    show (σ.set j (some v)).set j none = σ.set j none
    rw [List.set_set]
  exact ⟨e, h e⟩
theorem wipe1 {j : Nat} (σ : L2.St) : wipe (wipe σ [j]) [j] = wipe σ [j] := by
  show (σ.set j none).set j none = σ.set j none
  rw [List.set_set]
theorem wipe2 {i j : Nat} (h : i ≠ j) (σ : L2.St) : wipe (wipe σ [i, j]) [i, j] = wipe σ [i, j] := by
  show ((((σ.set j none).set i none)).set j none).set i none = (σ.set j none).set i none
  have e : ∀ l : L2.St, (l.set i none).set j none = (l.set j none).set i none := fun l => List.set_comm _ _ h
  rw [e, List.set_set, List.set_set]
theorem own_pair {K : PySem.W.Frag} {i j : Nat} (hij : i ≠ j) : OwnSlots (gTup K 2 (gCons (gName i) (gCons (gName j) gNil))) [i, j] := fun σ v H Q h => by
  obtain ⟨a, xs, e, hq, hl, v1, r1, e1, v2, r2, e2, e3, q⟩ := h
  have ew : wipe ((σ.set i (some v1)).set j (some v2)) [i, j] = wipe σ [i, j] := by
    show (((σ.set i (some v1)).set j (some v2)).set j none).set i none = (σ.set j none).set i none
    rw [List.set_set, List.set_comm _ _ (Ne.symm hij), List.set_set]
    rw [List.set_comm _ _ hij]
  exact ⟨a, xs, e, hq, hl, v1, r1, e1, v2, r2, e2, e3, ew, q ew⟩
end PW
end
section
/-! PW: more that is walked: texts, enumerate of a list or a tuple, zip; list(range(..)); a tuple turned round. -/
namespace PySem
open Sem (wp)
set_option maxHeartbeats 1000000 in
theorem meets_enumerate_new1B {v : Value} {o : Obj} {H : Heap → Prop} (B : Begins v o H) :
    Meets (Builtin.«enumerate.__new__» ⟨[.type "enumerate", v], []⟩) (fun _ R s => H s.heap ∧
      R (.ok (.ret (.ref (s.heap.push o).objs.size))) { s with heap := (s.heap.push o).push { cls := .type "enumerate", data := .fields #[.none, .bool false, .ref s.heap.objs.size, rawInt 0, .none, .none] } }) :=
  .of_wp fun prog w A R s h => by
    obtain ⟨hp, g, d, tk, os⟩ := s; obtain ⟨h1, h⟩ := h
    have hsub := sub_enumerate
    have q1 : ∀ {A' : Around} {E : Value → Shared → Prop} {Q : Value → Shared → Prop}, Q (.ref hp.objs.size) ⟨hp.push o, g, d, tk, os⟩ → wpAny (model prog w) A' (pyIter v) Q E ⟨hp, g, d, tk, os⟩ :=
      fun q => B.iter prog w _ _ ⟨hp, g, d, tk, os⟩ _ h1 q
    wp_walk using q1
    refine wpAny_stack_any fun st => wpAny_pure ?_
    split
    · rename_i c _ _ _ _ _
      cases (c == Value.type "enumerate")
      · wp_walk using q1
        exact ⟨_, rfl, h⟩
      · wp_walk using q1
        exact ⟨_, rfl, h⟩
    · wp_walk using q1
      exact ⟨_, rfl, h⟩
section
variable {prog : Program} {w : World} {A : Around} {E : Value → Shared → Prop} {s : Shared}
theorem enum_begins1 {v : Value} {o : Obj} {H : Heap → Prop} {Q : Value → Shared → Prop} (B : Begins v o H) (h1 : H s.heap)
    (h : ∀ h', IsEnum h' (s.heap.objs.size + 1) s.heap.objs.size 0 .none → h'.get? s.heap.objs.size = some o → h'.objs.size = s.heap.objs.size + 2 →
      (∀ b o, s.heap.get? b = some o → h'.get? b = some o) → Q (.ref (s.heap.objs.size + 1)) { s with heap := h' }) :
    wpAny (model prog w) A (call (.type "enumerate") [v]) Q E s := by
  refine callType_new F.called_enumerate (by decide) (F.typeCall_enumerate_1 _) (F.newCall_enumerate_1 _) (fun obj => F.args_object_init_2 obj _) F.entry_enumerate_new
    (meets_enumerate_new1B B) ⟨h1, ?_⟩
  have hz : (s.heap.push o).objs.size = s.heap.objs.size + 1 := Heap.size_push ..
  show _ ∧ _
  rw [hz]
  have he : IsEnum ((s.heap.push o).push { cls := .type "enumerate", data := .fields #[.none, .bool false, .ref s.heap.objs.size, rawInt 0, .none, .none] }) (s.heap.objs.size + 1) s.heap.objs.size 0 .none := by
    have := Heap.get?_push_size (s.heap.push o) (o := { cls := .type "enumerate", data := .fields #[.none, .bool false, .ref s.heap.objs.size, rawInt 0, .none, .none] }) rfl
    rw [hz] at this; exact this
  refine ⟨⟨_, he, rfl⟩, h _ he (Heap.get?_push_of_some _ (Heap.get?_push_size _ B.free)) (by rw [Heap.size_push, hz]) fun b o x => Heap.get?_push_of_some _ (Heap.get?_push_of_some _ x)⟩
end
end PySem

namespace PW
open PySem PySem.Spec PyProof.Rows L2

/-! ### enumerate(tuple) -/
def Itet (K : PySem.W.Frag) (a : Addr) : It :=
  ⟨fun i H => ∃ (xs : List V) (x : V), SqT K H a xs ∧ xs[i]? = some x, fun i H v H' => ∃ T x, v = .ref T ∧ H T = none ∧ H' = upd H T (.tup [.int (i : Nat), x]) ∧ ∀ xs, SqT K H a xs → xs[i]? = some x, fun i H => ∃ xs : List V, SqT K H a xs ∧ xs.length ≤ i⟩
theorem turn_enumT {P : Program} {w : World} {K : PySem.W.Frag} {elts : List Expr} {kk : Nat} {tpos : Pos} (a e it : Addr) :
    Turn P w K (.Tuple elts kk tpos) (Itet K a) [e, it] e (fun i h => (∃ old, IsEnum h e it ((i : Nat) : Int) old) ∧ h.IsTupleIter it a i ∧ e ≠ it ∧ e ≠ a ∧ a ≠ it) where
  mem := by simp
  obj := fun i h st b hb => by
    obtain ⟨⟨old, he⟩, ⟨o, ho, hc, hd⟩, _⟩ := st
    have e' : b = e ∨ b = it := by simpa using hb
    rcases e' with z | z
    · rw [z]; exact ⟨_, he, fun v q => nomatch q⟩
    · rw [z]; exact ⟨o, ho, fun v q => by rw [hd] at q; cases q⟩
  keep := fun i h h' st k => let ⟨⟨old, he⟩, hi, hne⟩ := st; ⟨⟨old, k e (by simp) _ he⟩, hi.at fun o q => k it (by simp) o q, hne⟩
  item := by
    intro X hP hw hK hc i pins s σ H E I hf st hg
    subst hP hw hK
    obtain ⟨⟨old, he⟩, hit, hne, hea, hai⟩ := st
    obtain ⟨xs, x, hq, hx⟩ := hg
    obtain ⟨its, rv, p, hz⟩ := I.tuple hq
    obtain ⟨u, hu, ru⟩ := rv.get hx
    have hel : e < s.heap.objs.size := Heap.lt_size he
    have hil : it < s.heap.objs.size := by obtain ⟨_, q, _⟩ := hit; exact Heap.lt_size q
    have hlt : i < its.toArray.size := by
      have := (List.getElem?_eq_some_iff.mp hu).1
      rwa [List.size_toArray]
    refine wpAny_pyNext_enum_itemD (Draws.tuple (show X.A.in1.handled = none from I.ok.hd hc) it a hai its.toArray) he ⟨hit, p⟩ hlt hne (by simp [hne, hea]) fun u' h' tk hP ho hit' hT hsz hk => ?_
    have hu' : u' = u := by
      have q : its.toArray[i]? = some u := by simpa using hu
      exact Option.some.inj (hP.symm.trans q)
    subst hu'
    refine ⟨_, rfl, wpAny_letOwnedTupleGo_enum (s := { s with heap := h', toks := tk + 1 }) ho fun h'' he' sb => ?_⟩
    have hT2 : h''.get? s.heap.objs.size = some { cls := .type "tuple", data := .seq #[.int i tk, u'] } := (sb.2 _ (Nat.ne_of_gt hel)).trans hT
    have new : ObjOk X.prog X.w (upd H s.heap.objs.size (.tup [.int (i : Nat), x])) h'' s.heap.objs.size (.tup [.int (i : Nat), x]) :=
      ⟨by show 2 ≤ sizeLine; decide, [.int i tk, u'], .cons ⟨_, rfl⟩ (.cons ru .nil), ⟨_, hT2, rfl, _, rfl⟩⟩
    have I1 : Inv X pins σ (upd H s.heap.objs.size (.tup [.int (i : Nat), x])) { s with heap := h'', toks := tk + 1 } :=
      I.turnedNew (ch := [e, it]) (fun b ob hb q => (sb.2 b (fun z => hb (by simp [z]))).trans (hk b ob (fun z => hb (by simp [z])) (fun z => hb (by simp [z])) q)) hf (Nat.le_refl _) new
    refine ⟨.ref s.heap.objs.size, _, I1, rfl, ⟨_, x, rfl, I.hok.fresh (Nat.le_refl _), rfl, fun ys hy => by rw [I.tuple_inj hy hq]; exact hx⟩, ⟨⟨u', ?_⟩, hit'.1.at fun o q => (sb.2 it (Ne.symm hne)).trans q, hne, hea, hai⟩, fun b hb => ?_⟩
    · have e1 : ((i + 1 : Nat) : Int) = (i : Int) + 1 := by omega
      rw [e1]; exact he'
    · have hb' : b < s.heap.objs.size := by
        have e' : b = e ∨ b = it := by simpa using hb
        rcases e' with z | z
        · rw [z]; exact hel
        · rw [z]; exact hil
      rw [upd_ne (Nat.ne_of_lt hb')]
      exact (hf b hb).1
  done := by
    intro X hP hw hK hc i pins s σ H E I hf st hg
    subst hP hw hK
    obtain ⟨⟨old, he⟩, hit, hne, hea, hai⟩ := st
    obtain ⟨xs, hq, hx⟩ := hg
    obtain ⟨its, rv, p, hz⟩ := I.tuple hq
    obtain ⟨f0, f1, f2, f3, f4, f5⟩ := hf it (by simp)
    have hl := rv.length
    have hT : s.TypeIs (.ref e) "enumerate" := ⟨_, he, rfl⟩
    unfold pyNext
    refine wpAny_bind (wpAny_attempt (wpAny_callSpecial?_slot (name := Str.ofString "__next__") hT F.slot_enumerate_next
      (wpAny_call_entry F.slot_enumerate_next hT F.entry_enumerate_next ?_ (F.args_enumerate_next_1 _))))
    show wpAny _ _ (field (.ref e) 2 >>= _) _ _ _
    refine wpAny_bind (wpAny_field he rfl (x := .ref it) rfl ?_)
    refine wpAny_bind (wpAny_nextOf_tuple_end (show X.A.in1.handled = none from I.ok.hd hc) hit p (by simp; omega) fun h' x he' hx' => ?_)
    obtain ⟨o, ho, hc⟩ := hx'
    refine wpAny_bind (wpAny_isInstance (T := "StopIteration") (b := true) ⟨o, ho, hc⟩ isSubtype_stop ?_)
    exact wpAny_pure ⟨rfl, I.turned (t' := s.toks) (fun b o hb q => he' b o hb q) f0 f1 f3 f4 f5⟩
  self := fun A i s Q E st h => let ⟨⟨_, he⟩, _⟩ := st; wpAny_pyIter_enum he h
/-- enumerate of a list or of a tuple -/
def iEnuU (K : PySem.W.Frag) (ta : TA) : TI := fun σ H R => ta σ H fun vs H1 => ∃ a, vs = [.ref a] ∧ (((∃ xs, SqL K H1 a xs) ∧ R (Ite K a) H1) ∨ ((∃ xs, SqT K H1 a xs) ∧ R (Itet K a) H1))
theorem pi_enuU {X : Cx} {e : Expr} {ta : TA} {p pos tpos : Pos} {elts : List Expr} {kk : Nat} (hg : Gl X "enumerate") (hm : X.mg "enumerate" = none) (ha : PA X [e] ta) (hs : starEach [e] X.env = [(false, eval e X.env)] := by rfl) :
    PI X (.Tuple elts kk tpos) (.Call (.Name "enumerate" p) [e] [] pos) (iEnuU X.K ta) := by
  refine ⟨fun pins s σ H R I h => ?_⟩
  refine Call_ (ld_blt I hg hm boot_enumerate (PyProof.Rows.callWith_type1 (thn (ha.run pos pins s σ H _ I h) fun us s1 ⟨vs, H1, I1, r1, q1⟩ => ?_) hs rfl))
  obtain ⟨a, ex, q1⟩ := q1
  subst ex
  have free : ∀ b, b ∈ [s1.heap.objs.size + 1, s1.heap.objs.size] → FpOk X pins H1 b := fun b hb => by
    have e' : b = s1.heap.objs.size + 1 ∨ b = s1.heap.objs.size := by simpa using hb
    have hle : s1.heap.objs.size ≤ b := by
      rcases e' with z | z
      · rw [z]; exact Nat.le_add_right _ _
      · rw [z]; exact Nat.le_refl _
    exact I1.fpOk hle (I1.hok.fresh hle)
  cases r1 with
  | cons r rr =>
    cases rr
    cases r
    rcases q1 with ⟨⟨xs, hq⟩, q⟩ | ⟨⟨xs, hq⟩, q⟩
    · obtain ⟨its, rv, p', hz⟩ := I1.list hq
      refine call_enumerate_list p'.isList fun h' he hit hsz hk => wpAny_pyIter_enum he ?_
      have I2 : Inv X pins σ H1 { s1 with heap := h' } := I1.kept (t' := s1.toks) hk
      exact ⟨s1.heap.objs.size + 1, [s1.heap.objs.size + 1, s1.heap.objs.size], _, _, H1, rfl, I2, turn_enum a (s1.heap.objs.size + 1) s1.heap.objs.size, ⟨⟨.none, he⟩, hit, Nat.succ_ne_self _⟩, free, q⟩
    · obtain ⟨its, rv, p', hz⟩ := I1.tuple hq
      have al : a < s1.heap.objs.size := by obtain ⟨o, ho, _⟩ := id p'; exact Heap.lt_size ho
      refine enum_begins1 (begins_tuple a its.toArray) (show s1.heap.IsTuple a its.toArray from p') fun h' he ho hsz hk => wpAny_pyIter_enum he ?_
      have I2 : Inv X pins σ H1 { s1 with heap := h' } := I1.kept (t' := s1.toks) hk
      exact ⟨s1.heap.objs.size + 1, [s1.heap.objs.size + 1, s1.heap.objs.size], _, _, H1, rfl, I2, turn_enumT a (s1.heap.objs.size + 1) s1.heap.objs.size, ⟨⟨.none, he⟩, ⟨_, ho, rfl, rfl⟩, Nat.succ_ne_self _, Nat.ne_of_gt (Nat.lt_succ_of_lt al), Nat.ne_of_lt al⟩, free, q⟩

/-- a list, a tuple or a text -/
def iSeqU (K : PySem.W.Frag) (tl : TE) : TI := fun σ H R => tl σ H fun x H1 => (∃ a, x = .ref a ∧ (((∃ xs, SqL K H1 a xs) ∧ R (Itl K a) H1) ∨ ((∃ xs, SqT K H1 a xs) ∧ R (Itt K a) H1))) ∨ ∃ z, x = .str z ∧ R (Its z) H1
theorem pi_seqU {X : Cx} {tg l : Expr} {tl : TE} (hl : PE X l tl) : PI X tg l (iSeqU X.K tl) := by
  refine ⟨fun pins s σ H R I h => ?_⟩
  refine thn (hl.run pins s σ H _ I h) fun v s1 ⟨x, H1, I1, r1, q1⟩ => ?_
  rcases q1 with ⟨a, e, q⟩ | ⟨z, e, q⟩
  · subst e
    cases r1
    rcases q with ⟨⟨xs, hq⟩, q⟩ | ⟨⟨xs, hq⟩, q⟩
    · obtain ⟨its, rv, p, hz⟩ := I1.list hq
      refine wpAny_pyIter_list p.isList ?_
      refine ⟨s1.heap.objs.size, [s1.heap.objs.size], _, _, H1, rfl, I1.kept (t' := s1.toks) fun b o e => Heap.get?_push_of_some _ e, turn_list a _, ⟨_, Heap.get?_push_size _ rfl, rfl, rfl⟩, fun b hb => ?_, q⟩
      have e : b = s1.heap.objs.size := by simpa using hb
      subst e
      exact I1.fpOk (Nat.le_refl _) (I1.hok.fresh (Nat.le_refl _))
    · obtain ⟨its, rv, p, hz⟩ := I1.tuple hq
      refine wpAny_pyIter_tuple (show s1.heap.IsTuple a its.toArray from p) ?_
      refine ⟨s1.heap.objs.size, [s1.heap.objs.size], _, _, H1, rfl, I1.kept (t' := s1.toks) fun b o e => Heap.get?_push_of_some _ e, turn_tuple a _, ⟨_, Heap.get?_push_size _ rfl, rfl, rfl⟩, fun b hb => ?_, q⟩
      have e : b = s1.heap.objs.size := by simpa using hb
      subst e
      exact I1.fpOk (Nat.le_refl _) (I1.hok.fresh (Nat.le_refl _))
  · subst e
    obtain ⟨t, rfl⟩ := r1
    cases ha : z.cps.all (· < 128)
    · exact wpAny_pyIter_wide ha (pi_one (tk := s1.toks) I1 _ (turn_str _ z t "str_iterator" (.inr rfl)) ⟨_, Heap.get?_push_size _ rfl, rfl, rfl⟩ q)
    · exact wpAny_pyIter_ascii ha (pi_one (tk := s1.toks) I1 _ (turn_str _ z t "str_ascii_iterator" (.inl rfl)) ⟨_, Heap.get?_push_size _ rfl, rfl, rfl⟩ q)

/-! ### what they give -/
def enumD (ds : List D) : List D := (List.range ds.length).filterMap fun i => ds[i]?.map fun d => D.tup [.int (i : Nat), d]
/-- place by place -/
def enumFrom (n : Nat) : List D → List D
  | [] => []
  | d :: ds => .tup [.int (n : Nat), d] :: enumFrom (n + 1) ds
theorem enumFrom_len : ∀ (ds : List D) (n : Nat), (enumFrom n ds).length = ds.length
  | [], _ => rfl
  | d :: ds, n => by rw [enumFrom, List.length_cons, List.length_cons, enumFrom_len ds (n + 1)]
theorem enumFrom_at : ∀ {ds : List D} {n i : Nat} {x : D}, (enumFrom n ds)[i]? = some x → ∃ d, ds[i]? = some d ∧ x = .tup [.int ((n + i : Nat) : Int), d]
  | [], _, _, _, h => by cases h
  | d :: ds, n, 0, x, h => by
    cases h
    exact ⟨d, rfl, rfl⟩
  | d :: ds, n, i + 1, x, h => by
    obtain ⟨d', h1, h2⟩ := enumFrom_at (ds := ds) (n := n + 1) (i := i) h
    refine ⟨d', h1, ?_⟩
    rw [h2, show n + 1 + i = n + (i + 1) by omega]
theorem enumFrom_get {ds : List D} {n i : Nat} {d : D} (h : ds[i]? = some d) : (enumFrom n ds)[i]? = some (.tup [.int ((n + i : Nat) : Int), d]) := by
  have hl : i < ds.length := (List.getElem?_eq_some_iff.mp h).1
  have hl2 : i < (enumFrom n ds).length := by rw [enumFrom_len]; exact hl
  have e : (enumFrom n ds)[i]? = some (enumFrom n ds)[i] := List.getElem?_eq_getElem hl2
  obtain ⟨d', h1, h2⟩ := enumFrom_at e
  rw [h] at h1
  cases h1
  rw [e, h2]
/-- two lists side by side -/
def zipD : List D → List D → List D
  | x :: xs, y :: ys => .tup [x, y] :: zipD xs ys
  | _, _ => []
theorem zipD_len : ∀ (xs ys : List D), (zipD xs ys).length = min xs.length ys.length
  | [], ys => by rw [zipD]; simp; exact fun _ _ _ _ z => nomatch z
  | x :: xs, [] => by rw [zipD]; simp; exact fun _ _ _ _ _ z => nomatch z
  | x :: xs, y :: ys => by
    rw [zipD, List.length_cons, List.length_cons, List.length_cons, zipD_len xs ys]
    omega
theorem zipD_at : ∀ {xs ys : List D} {i : Nat} {d : D}, (zipD xs ys)[i]? = some d → ∃ x y, xs[i]? = some x ∧ ys[i]? = some y ∧ d = .tup [x, y]
  | [], ys, i, d, h => by
    have e : zipD [] ys = [] := by cases ys <;> rfl
    rw [e] at h
    cases h
  | x :: xs, [], i, d, h => by cases h
  | x :: xs, y :: ys, 0, d, h => by
    cases h
    exact ⟨x, y, rfl, rfl, rfl⟩
  | x :: xs, y :: ys, i + 1, d, h => zipD_at (xs := xs) (ys := ys) (i := i) h
def signsD (z : Str) : List D := z.cps.toList.map fun c => D.str ⟨#[c]⟩

section
variable {K : PySem.W.Frag} {ρ : List Ent} {te : TE} {ta : TA} {a b : Addr} {ds es : List D}
theorem pairDa {M : Addr → Prop} {H : Hp} {T : Addr} {v w : V} {x y : D} (t : Tr M H) (hT : H T = none) (h1 : Da M K H v x) (h2 : Da M K H w y) : Ext H (upd H T (.tup [v, w])) ∧ Da M K (upd H T (.tup [v, w])) (.ref T) (.tup [x, y]) :=
  ⟨Ext.new hT, Da.newT ⟨v, [w], rfl, h1, w, [], rfl, h2, rfl⟩ hT fun z => (t T z).ne hT⟩
theorem gives_enumL : Gives K (Ite K a) (enumFrom 0 ds) (fun M H => ∃ vs, ColdL M K H a vs ∧ DaAll M K H vs ds) where
  keep := fun M H M' H' ⟨vs, h1, h2⟩ g => ⟨vs, h1.mono g, h2.mono g⟩
  stop := fun M H i ⟨vs, h1, h2⟩ hi => ⟨vs, h1.sq, by rw [h2.length]; rw [enumFrom_len] at hi; exact hi⟩
  go := fun M H i ⟨vs, h1, h2⟩ hi => by
    have hl : i < vs.length := by rw [h2.length]; rw [enumFrom_len] at hi; exact hi
    exact ⟨vs, vs[i], h1.sq, by simp [hl]⟩
  yld := fun M H i x H' d t ⟨vs, h1, h2⟩ hd y => by
    obtain ⟨T, x', e, hT, eH, hx⟩ := y
    subst e eH
    obtain ⟨d', hd', e⟩ := enumFrom_at hd
    subst e
    obtain ⟨v, hv, q⟩ := h2.at hd'
    have := hx vs h1.sq
    rw [hv] at this
    cases this
    rw [Nat.zero_add]
    exact pairDa t hT rfl q
theorem gives_enumT : Gives K (Itet K a) (enumFrom 0 ds) (fun M H => ∃ vs, ColdT M K H a vs ∧ DaAll M K H vs ds) where
  keep := fun M H M' H' ⟨vs, h1, h2⟩ g => ⟨vs, h1.mono g, h2.mono g⟩
  stop := fun M H i ⟨vs, h1, h2⟩ hi => ⟨vs, h1.sq, by rw [h2.length]; rw [enumFrom_len] at hi; exact hi⟩
  go := fun M H i ⟨vs, h1, h2⟩ hi => by
    have hl : i < vs.length := by rw [h2.length]; rw [enumFrom_len] at hi; exact hi
    exact ⟨vs, vs[i], h1.sq, by simp [hl]⟩
  yld := fun M H i x H' d t ⟨vs, h1, h2⟩ hd y => by
    obtain ⟨T, x', e, hT, eH, hx⟩ := y
    subst e eH
    obtain ⟨d', hd', e⟩ := enumFrom_at hd
    subst e
    obtain ⟨v, hv, q⟩ := h2.at hd'
    have := hx vs h1.sq
    rw [hv] at this
    cases this
    rw [Nat.zero_add]
    exact pairDa t hT rfl q
theorem zip_stop {n m i : Nat} (h : min n m ≤ i) : n ≤ i ∨ m ≤ i := by omega
theorem gives_zipL : Gives K (Itz K a b) (zipD ds es) (fun M H => ∃ vs ws, ColdL M K H a vs ∧ DaAll M K H vs ds ∧ ColdL M K H b ws ∧ DaAll M K H ws es) where
  keep := fun M H M' H' ⟨vs, ws, h1, h2, h3, h4⟩ g => ⟨vs, ws, h1.mono g, h2.mono g, h3.mono g, h4.mono g⟩
  stop := fun M H i ⟨vs, ws, h1, h2, h3, h4⟩ hi => ⟨vs, ws, h1.sq, h3.sq, by rw [h2.length, h4.length]; rw [zipD_len] at hi; exact zip_stop hi⟩
  go := fun M H i ⟨vs, ws, h1, h2, h3, h4⟩ hi => by
    rw [zipD_len] at hi
    have l1 : i < vs.length := by rw [h2.length]; omega
    have l2 : i < ws.length := by rw [h4.length]; omega
    exact ⟨vs, ws, vs[i], ws[i], h1.sq, h3.sq, by simp [l1], by simp [l2]⟩
  yld := fun M H i x H' d t ⟨vs, ws, h1, h2, h3, h4⟩ hd y => by
    obtain ⟨T, x', y', e, hT, eH, hx, hy⟩ := y
    subst e eH
    obtain ⟨d1, d2, q1, q2, e⟩ := zipD_at hd
    subst e
    obtain ⟨v, hv, g1⟩ := h2.at q1
    obtain ⟨w, hw, g2⟩ := h4.at q2
    have e1 := hx vs h1.sq
    have e2 := hy ws h3.sq
    rw [hv] at e1
    rw [hw] at e2
    cases e1
    cases e2
    exact pairDa t hT g1 g2
theorem gives_zipT : Gives K (RZ.ItzT K a b) (zipD ds es) (fun M H => ∃ vs ws, ColdT M K H a vs ∧ DaAll M K H vs ds ∧ ColdT M K H b ws ∧ DaAll M K H ws es) where
  keep := fun M H M' H' ⟨vs, ws, h1, h2, h3, h4⟩ g => ⟨vs, ws, h1.mono g, h2.mono g, h3.mono g, h4.mono g⟩
  stop := fun M H i ⟨vs, ws, h1, h2, h3, h4⟩ hi => ⟨vs, ws, h1.sq, h3.sq, by rw [h2.length, h4.length]; rw [zipD_len] at hi; exact zip_stop hi⟩
  go := fun M H i ⟨vs, ws, h1, h2, h3, h4⟩ hi => by
    rw [zipD_len] at hi
    have l1 : i < vs.length := by rw [h2.length]; omega
    have l2 : i < ws.length := by rw [h4.length]; omega
    exact ⟨vs, ws, vs[i], ws[i], h1.sq, h3.sq, by simp [l1], by simp [l2]⟩
  yld := fun M H i x H' d t ⟨vs, ws, h1, h2, h3, h4⟩ hd y => by
    obtain ⟨T, x', y', e, hT, eH, hx, hy⟩ := y
    subst e eH
    obtain ⟨d1, d2, q1, q2, e⟩ := zipD_at hd
    subst e
    obtain ⟨v, hv, g1⟩ := h2.at q1
    obtain ⟨w, hw, g2⟩ := h4.at q2
    have e1 := hx vs h1.sq
    have e2 := hy ws h3.sq
    rw [hv] at e1
    rw [hw] at e2
    cases e1
    cases e2
    exact pairDa t hT g1 g2
theorem gives_str {z : Str} : Gives K (Its z) (signsD z) (fun _ _ => True) where
  keep := fun _ _ _ _ _ _ => trivial
  stop := fun M H i _ hi => by
    unfold signsD at hi
    rw [List.length_map, Array.length_toList] at hi
    exact hi
  go := fun M H i _ hi => by
    unfold signsD at hi
    rw [List.length_map, Array.length_toList] at hi
    exact hi
  yld := fun M H i x H' d _ _ hd y => by
    obtain ⟨e, c, hc, ex⟩ := y
    subst e ex
    unfold signsD at hd
    rw [List.getElem?_map, Array.getElem?_toList, hc] at hd
    cases hd
    exact ⟨Ext.refl _, rfl⟩
def itemsU : D → Option (List D)
  | .lst ds => some ds
  | .tup ds => some ds
  | .str z => some (signsD z)
  | _ => none
theorem yi_seqU {kk : List D → List Ent → Prop} (h : XE K te ρ fun r ρ1 => ∃ x ds, peek ρ1 r = some x ∧ itemsU x = some ds ∧ ∃ ρ2, frz ρ1 r = ρ2 ∧ kk ds ρ2) : XI K (iSeqU K te) ρ kk := fun F H σ R E q =>
  h F H σ _ E fun v H1 r ρ1 kp Rv ⟨x, ds, px, hi, ρ2, e2, g⟩ => by
    subst e2
    obtain ⟨E2, d2⟩ := Rv.frz px
    have k2 : Keep (hot F σ ρ) H (hot F σ (frz ρ1 r)) H1 := (hotR.hot kp).trans (keep_frz Rv.env)
    cases x with
    | lst es =>
      cases hi
      obtain ⟨a, vs, e, h1, h2⟩ := d2
      exact .inl ⟨a, e, .inl ⟨⟨vs, h1.sq⟩, q _ H1 _ ds _ k2 E2 gives_list ⟨vs, h1, h2⟩ g⟩⟩
    | tup es =>
      cases hi
      obtain ⟨a, vs, e, h1, h2⟩ := d2
      exact .inl ⟨a, e, .inr ⟨⟨vs, h1.sq⟩, q _ H1 _ ds _ k2 E2 gives_tup ⟨vs, h1, h2⟩ g⟩⟩
    | str z =>
      cases hi
      exact .inr ⟨z, d2, q _ H1 _ _ _ k2 E2 gives_str trivial g⟩
    | _ => cases hi
theorem yi_enum {kk : List D → List Ent → Prop} (h : XA K ta ρ fun rs ρ1 => ∃ x ds, peekAll ρ1 rs = some [x] ∧ itemsD x = some ds ∧ ∃ ρ2, frzAll ρ1 rs = ρ2 ∧ kk (enumFrom 0 ds) ρ2) : XI K (iEnuU K ta) ρ kk := fun F H σ R E q =>
  h F H σ _ E fun vs H1 rs ρ1 kp E1 hs ⟨x, ds, px, hi, ρ2, e2, g⟩ => by
    subst e2
    obtain ⟨E2, d2, k2⟩ := HeldAll.frz E1 hs px
    obtain ⟨v, ev, dv⟩ := da1 d2
    subst ev
    have k3 : Keep (hot F σ ρ) H (hot F σ (frzAll ρ1 rs)) H1 := kp.trans k2
    cases x with
    | lst es =>
      cases hi
      obtain ⟨a, vs, rfl, h1, h2⟩ := dv
      exact ⟨a, rfl, .inl ⟨⟨vs, h1.sq⟩, q _ H1 _ _ _ k3 E2 gives_enumL ⟨vs, h1, h2⟩ g⟩⟩
    | tup es =>
      cases hi
      obtain ⟨a, vs, rfl, h1, h2⟩ := dv
      exact ⟨a, rfl, .inr ⟨⟨vs, h1.sq⟩, q _ H1 _ _ _ k3 E2 gives_enumT ⟨vs, h1, h2⟩ g⟩⟩
    | _ => cases hi
/-- two of one kind -/
def sameKind : D → D → Option (List D × List D)
  | .lst ds, .lst es => some (ds, es)
  | .tup ds, .tup es => some (ds, es)
  | _, _ => none
theorem yi_zip {kk : List D → List Ent → Prop} (h : XA K ta ρ fun rs ρ1 => ∃ x y ds es, peekAll ρ1 rs = some [x, y] ∧ sameKind x y = some (ds, es) ∧ ∃ ρ2, frzAll ρ1 rs = ρ2 ∧ kk (zipD ds es) ρ2) : XI K (RZ.iZipA K ta) ρ kk := fun F H σ R E q =>
  h F H σ _ E fun vs H1 rs ρ1 kp E1 hs ⟨x, y, ds, es, px, hi, ρ2, e2, g⟩ => by
    subst e2
    obtain ⟨E2, d2, k2⟩ := HeldAll.frz E1 hs px
    obtain ⟨v, w, ev, dv, dw⟩ := da2 d2
    subst ev
    have k3 : Keep (hot F σ ρ) H (hot F σ (frzAll ρ1 rs)) H1 := kp.trans k2
    cases x with
    | lst es1 =>
      cases y with
      | lst es2 =>
        cases hi
        obtain ⟨a, vs, rfl, h1, h2⟩ := dv
        obtain ⟨b, ws, rfl, h3, h4⟩ := dw
        exact ⟨a, b, vs, ws, rfl, .inl ⟨h1.sq, h3.sq, q _ H1 _ _ _ k3 E2 gives_zipL ⟨vs, ws, h1, h2, h3, h4⟩ g⟩⟩
      | _ => cases hi
    | tup es1 =>
      cases y with
      | tup es2 =>
        cases hi
        obtain ⟨a, vs, rfl, h1, h2⟩ := dv
        obtain ⟨b, ws, rfl, h3, h4⟩ := dw
        exact ⟨a, b, vs, ws, rfl, .inr ⟨h1.sq, h3.sq, q _ H1 _ _ _ k3 E2 gives_zipT ⟨vs, ws, h1, h2, h3, h4⟩ g⟩⟩
      | _ => cases hi
    | _ => cases hi

/-! ### list(range(..)) -/
theorem da_rgV {M : Addr → Prop} {H : Hp} {lo hi : Int} : DaAll M K H (rgV lo hi) (rngD lo (hi - lo).toNat) := by
  unfold rgV rngD
  generalize List.range (hi - lo).toNat = l
  induction l with
  | nil => exact rfl
  | cons i l ih => exact ⟨_, _, rfl, rfl, ih⟩
theorem rgV_eq {M : Addr → Prop} {H : Hp} {p : Addr} {lo hi : Int} (hp : H p = none) : Ext H (upd H p (.lst (rgV lo hi))) ∧ ResV M K H (upd H p (.lst (rgV lo hi))) (.ref p) (.nw (.lst (rngD lo (hi - lo).toNat))) := ⟨Ext.new hp, newL da_rgV hp⟩
theorem ye_rg1 {k : KE} (h : XE K te ρ fun r ρ1 => ∃ n : Int, r = .d (.int n) ∧ RgOk 0 n ∧ k (.nw (.lst (rngD 0 n.toNat))) ρ1) : XE K (tLstRg (tRg1 te)) ρ k := fun F H σ Q E q =>
  h F H σ _ E fun v H1 r ρ1 kp R ⟨n, er, ok, g⟩ => by
    subst er
    obtain ⟨E1, hv⟩ := R
    refine ⟨n, hv, ok, fun p hp => ?_⟩
    obtain ⟨e, z⟩ := rgV_eq (M := hot F σ ρ1) (K := K) (lo := 0) (hi := n) hp
    rw [show n - 0 = n by omega] at z
    exact q _ _ (.nw (.lst (rngD 0 n.toNat))) ρ1 (hotR.res (hotR.hot kp) e z) (ResV.rv E1 e z) g
theorem ye_rg2 {k : KE} {tb : TE} (h : XE K te ρ fun r ρ1 => ∃ m : Int, r = .d (.int m) ∧ XE K tb ρ1 fun r2 ρ2 => ∃ n : Int, r2 = .d (.int n) ∧ RgOk m n ∧ k (.nw (.lst (rngD m (n - m).toNat))) ρ2) : XE K (tLstRg (tRg2 te tb)) ρ k := fun F H σ Q E q =>
  h F H σ _ E fun v H1 r ρ1 kp R ⟨m, er, h2⟩ => by
    subst er
    obtain ⟨E1, hv⟩ := R
    refine h2 F H1 σ _ E1 fun w H2 r2 ρ2 kp2 R2 ⟨n, er2, ok, g⟩ => ?_
    subst er2
    obtain ⟨E2, hw⟩ := R2
    refine ⟨m, n, hv, hw, ok, fun p hp => ?_⟩
    obtain ⟨e, z⟩ := rgV_eq (M := hot F σ ρ2) (K := K) (lo := m) (hi := n) hp
    exact q _ _ (.nw (.lst (rngD m (n - m).toNat))) ρ2 (hotR.res ((hotR.hot kp).trans (hotR.hot kp2)) e z) (ResV.rv E2 e z) g
end

theorem ex_zip {o : Option (List D)} {P : List D → List D → Prop} {x y : D} {ds es : List D} (e : o = some [x, y]) (e2 : sameKind x y = some (ds, es)) (g : P ds es) : ∃ x y ds es, o = some [x, y] ∧ sameKind x y = some (ds, es) ∧ P ds es := ⟨x, y, ds, es, e, e2, g⟩
/-! ### t[::-1] -/
section
variable {prog : Program} {w : World} {A : Around} {E : Value → Shared → Prop} {s : Shared}
theorem adjust_rev (n : Nat) : Builtin.Slice.sliceAdjust none none (-1) (n : Int) = ((n : Int) - 1, -1) := rfl
theorem places_rev (n : Nat) : Builtin.Slice.slicePlaces ((n : Int) - 1) (-1) (-1) = n := by
  unfold Builtin.Slice.slicePlaces
  rw [if_neg (by decide)]
  by_cases h : (n : Int) - 1 > -1
  · rw [if_pos h]
    have e : ((n : Int) - 1 - -1 - 1) / (- -1) + 1 = (n : Int) := by
      rw [show (- -1 : Int) = 1 by decide, Int.ediv_one]
      omega
    rw [e, Int.toNat_natCast]
  · rw [if_neg h]
    have : n = 0 := by omega
    subst this
    rfl
theorem pick_rev (xs : Array Value) : ((List.range xs.size).filterMap fun (k : Nat) => xs[(((xs.size : Int) - 1) + (k : Int) * (-1)).toNat]?).toArray = xs.toList.reverse.toArray := by
  congr 1
  rw [← PySem.W.krv_all xs, ← List.filterMap_reverse, ← PySem.W.krv_range, List.filterMap_map]
  have cg : ∀ (l : List Nat), (∀ k ∈ l, k < xs.size) → l.filterMap (fun (k : Nat) => xs[(((xs.size : Int) - 1) + (k : Int) * (-1)).toNat]?) = l.filterMap ((fun x => xs[x]?) ∘ fun k => xs.size - 1 - k) := by
    intro l
    induction l with
    | nil => intro _; rfl
    | cons k l ih =>
      intro h
      have e : (((xs.size : Int) - 1) + (k : Int) * (-1)).toNat = xs.size - 1 - k := by
        have := h k (List.mem_cons_self ..)
        omega
      rw [List.filterMap_cons, List.filterMap_cons, ih fun k hk => h k (List.mem_cons_of_mem _ hk), e]
      rfl
  exact cg _ fun k hk => List.mem_range.mp hk
theorem getItem_tuple_rev {t sl : Addr} {items : Array Value} {vl vu vs : Value} {Q : Value → Shared → Prop} (ht : IsTup s.heap t items) (hs : s.heap.IsSliceOf sl vl vu vs) (pl : IsPart vl none) (pu : IsPart vu none) (ps : IsPart vs (some (-1)))
    (h : Q (.ref s.heap.objs.size) { s with heap := s.heap.push { cls := .type "tuple", data := .seq items.toList.reverse.toArray } })
    (hsz : items.size ≤ sizeLine) : wpAny (model prog w) A (getItem (.ref t) (.ref sl)) Q E s := by
  have htake : sizeOk (.seq items.toList.reverse.toArray) := by
    show items.toList.reverse.toArray.size ≤ sizeLine
    rw [List.size_toArray, List.length_reverse, Array.length_toList]
    exact hsz
  obtain ⟨os, hos, hcs, hds⟩ := id hs
  have hTs : s.TypeIs (.ref sl) "slice" := ⟨os, hos, hcs⟩
  unfold getItem
  try with_reducible refine wpAny_holding ?_
  first | refine wpAny_bind (wpAny_pure ?_) | skip
  refine wpAny_bind (wpAny_sequenceKey ht.typeIs (by decide) ?_)
  refine wpAny_bind (wpAny_callSpecial?_slot (name := Str.ofString "__getitem__") ht.typeIs PyProof.Rows.slot_tuple_getitem
    (wpAny_call_entry PyProof.Rows.slot_tuple_getitem ht.typeIs entry_tuple_getitem ?_ (args_tuple_getitem _ _)))
  show wpAny _ _ (Builtin.Tuple.tupleItemsOf (.ref t) >>= _) _ _ s
  refine wpAny_bind (tupleItemsOf_ ht ?_)
  refine wpAny_bind (wpAny_typeOf hTs ?_)
  rw [if_pos (by decide)]
  refine wpAny_bind ?_
  unfold Builtin.Slice.sliceApplied Builtin.Slice.sliceFields
  refine wpAny_bind (wpAny_bind (wpAny_field hos hds (x := vl) rfl (wpAny_bind (wpAny_field hos hds (x := vu) rfl (wpAny_bind (wpAny_field hos hds (x := vs) rfl (wpAny_pure ?_)))))))
  refine wpAny_bind (HT.slicePart_ ps ?_)
  show wpAny _ _ (if ((-1 : Int) == 0) = true then _ else _) _ _ s
  rw [if_neg (by decide)]
  refine wpAny_bind (HT.slicePart_ pl (wpAny_bind (HT.slicePart_ pu (wpAny_bind (wpAny_pure ?_)))))
  show wpAny _ _ (match Builtin.Slice.sliceAdjust none none (-1) (items.size : Int) with | (lo, hi) => pure (lo, (-1 : Int), Builtin.Slice.slicePlaces lo hi (-1))) _ _ s
  rw [adjust_rev]
  show wpAny _ _ (pure (((items.size : Int) - 1), (-1 : Int), Builtin.Slice.slicePlaces ((items.size : Int) - 1) (-1) (-1))) _ _ s
  rw [places_rev]
  refine wpAny_pure ?_
  have hno : ¬ ((((items.size : Int) - 1) == 0 && (-1 : Int) == 1 && items.size == items.size) = true) := by
    intro q
    rw [Bool.and_eq_true, Bool.and_eq_true] at q
    exact absurd (eq_of_beq q.1.2) (by decide)
  show wpAny _ _ (if (((items.size : Int) - 1) == 0 && (-1 : Int) == 1 && items.size == items.size) = true then _ else _) _ _ s
  rw [if_neg hno, pick_rev]
  first
    | exact wpAny_bind (m := Builtin.Tuple.tupleExact _) (wpAny_newObj_type (wpAny_pure ⟨_, rfl, wpAny_pure h⟩) htake)
    | exact wpAny_bind (m := Builtin.Tuple.tupleExact _) (wpAny_newObj_type (wpAny_bind (wpAny_pure (wpAny_pure ⟨_, rfl, wpAny_pure h⟩))) htake)
    | exact wpAny_bind (wpAny_bind (m := Builtin.Tuple.tupleExact _) (wpAny_newObj_type (wpAny_pure (wpAny_pure ⟨_, rfl, wpAny_pure h⟩)) htake))
    | exact wpAny_bind (wpAny_bind (m := Builtin.Tuple.tupleExact _) (wpAny_newObj_type (wpAny_pure ⟨_, rfl, wpAny_pure h⟩) htake))
end
def tRevT (K : PySem.W.Frag) (te : TE) : TE := fun σ H Q => te σ H fun x H1 => ∃ a xs, x = .ref a ∧ SqT K H1 a xs ∧ ∀ p, H1 p = none → Q (.ref p) (upd H1 p (.tup xs.reverse))
theorem pe_revT {X : Cx} {e : Expr} {te : TE} {k : Nat} {p1 p2 p3 pos : Pos} (he : PE X e te) : PE X (.Subscript e (.Slice none none (some (.UnaryOp .USub (.Constant (.int 1) k p1) p2)) p3) pos) (tRevT X.K te) := by
  refine ⟨fun pins s σ H Q I h => ?_⟩
  refine Subscript_ (thn (he.run pins s σ H _ I h) fun v s1 ⟨x, H1, I1, r1, q1⟩ => ?_)
  obtain ⟨a, xs, ex, hx, q⟩ := q1
  subst ex
  cases r1
  have hst : PO X (some (.UnaryOp .USub (.Constant (.int 1) k p1) p2)) (tPart (tUn (rU fun i => .int (-i)) (tC (.int 1)))) := po_some (pe_un un_neg pe_int)
  refine wpAny_Slice (thn (po_none.run pins s1 σ H1 (fun o H2 => o = none ∧ H2 = H1) I1 ⟨rfl, rfl⟩) fun vl s2 ⟨l, H2, I2, pl, el, e2⟩ => ?_)
  subst el e2
  refine thn (po_none.run pins s2 σ H2 (fun o H3 => o = none ∧ H3 = H2) I2 ⟨rfl, rfl⟩) fun vu s3 ⟨u, H3, I3, pu, eu, e3⟩ => ?_
  subst eu e3
  refine thn (hst.run pins s3 σ H3 (fun o H4 => o = some (-1) ∧ H4 = H3) I3 ⟨1, rfl, -1, rfl, rfl, rfl⟩) fun vs s4 ⟨o, H4, I4, ps, eo, e4⟩ => ?_
  subst eo e4
  have I5 : Inv X pins σ H4 { s4 with heap := s4.heap.push { cls := .type "slice", data := .fields #[vl, vu, vs] } } := I4.kept (t' := s4.toks) fun b ob q => Heap.get?_push_of_some _ q
  obtain ⟨its, r, ht, hz⟩ := I5.tuple hx
  have hlen := r.length
  show wpAny (model X.prog X.w) X.A (subscriptTail e (.Slice none none (some (.UnaryOp .USub (.Constant (.int 1) k p1) p2)) p3) (.ref a) (.ref s4.heap.objs.size)) (EP X pins σ Q) X.xe { s4 with heap := s4.heap.push { cls := .type "slice", data := .fields #[vl, vu, vs] } }
  refine tail_any (ops := [.ref a, .ref s4.heap.objs.size]) ht.typeIs (PyProof.Rows.slot_tuple_getitem.lookup) ?_ (by with_unfolding_all rfl)
  refine getItem_tuple_rev ht (Heap.IsSliceOf.new _ vl vu vs) pl pu ps ?_ (by rw [List.size_toArray]; omega)
  refine ⟨.ref _, _, I5.laid (t' := s4.toks) (o := .tup xs.reverse) (fun b ob q => Heap.get?_push_of_some _ q) (Nat.le_refl _) ?_, rfl, q _ (I5.hok.fresh (Nat.le_refl _))⟩
  exact ⟨by rw [List.length_reverse]; exact hz, _, r.reverse, IsTup.new _ _⟩
theorem ye_revT {K : PySem.W.Frag} {ρ : List Ent} {te : TE} {k : KE} (h : XE K te ρ fun r ρ1 => ∃ ds, peek ρ1 r = some (.tup ds) ∧ ∃ ρ2, frz ρ1 r = ρ2 ∧ k (.d (.tup ds.reverse)) ρ2) : XE K (tRevT K te) ρ k := fun F H σ Q E q =>
  h F H σ _ E fun v H1 r ρ1 kp Rv ⟨ds, px, ρ2, e2, g⟩ => by
    subst e2
    obtain ⟨E2, d2⟩ := Rv.frz px
    have k2 : Keep (hot F σ ρ) H (hot F σ (frz ρ1 r)) H1 := (hotR.hot kp).trans (keep_frz Rv.env)
    obtain ⟨a, vs, e, h1, h2⟩ := d2
    refine ⟨a, vs, e, h1.sq, fun p hp => ?_⟩
    have e : Ext H1 (upd H1 p (.tup vs.reverse)) := Ext.new hp
    refine q _ _ (.d (.tup ds.reverse)) _ (hotR.d (k2.trans (Keep.ext e))) ⟨E2.ex e, ?_⟩ g
    exact Da.newT h2.reverse hp fun z => (E2.hotTrk p z).ne hp
end PW
end
section
/-! PW: plain laws on data; comprehensions in plain forms. -/
namespace PW
open PySem PySem.Spec PyProof.Rows L2

/-! ### built-in data of small sizes -/
mutual
/-- no objects, no tables with keys; texts and sequences of at most 100000 -/
def D.jn : D → Bool
  | .str s => decide (s.length ≤ 100000)
  | .tup xs => decide (xs.length ≤ 100000) && D.jnL xs
  | .lst xs => decide (xs.length ≤ 100000) && D.jnL xs
  | .obj _ _ _ => false
  | .dct _ _ => false
  | _ => true
def D.jnL : List D → Bool
  | [] => true
  | d :: ds => D.jn d && D.jnL ds
end
theorem jn_bi {x : D} (h : x.jn = true) : x.isBuiltin = true := by
  cases x <;> first
    | rfl
    | cases h
theorem jnL_mem : ∀ {xs : List D} {x : D}, D.jnL xs = true → x ∈ xs → x.jn = true
  | y :: ys, x, h, hx => by
    obtain ⟨h1, h2⟩ := Bool.and_eq_true_iff.mp (show (D.jn y && D.jnL ys) = true from h)
    rcases List.mem_cons.mp hx with e | hx
    · rw [e]; exact h1
    · exact jnL_mem h2 hx
theorem jnL_of : ∀ {xs : List D}, (∀ x ∈ xs, x.jn = true) → D.jnL xs = true
  | [], _ => rfl
  | y :: ys, h => Bool.and_eq_true_iff.mpr ⟨h y (List.mem_cons_self ..), jnL_of fun x hx => h x (List.mem_cons_of_mem _ hx)⟩
theorem jn_tup {xs : List D} (h : (D.tup xs).jn = true) : xs.length ≤ 100000 ∧ ∀ x ∈ xs, x.jn = true := by
  obtain ⟨h1, h2⟩ := Bool.and_eq_true_iff.mp (show (decide (xs.length ≤ 100000) && D.jnL xs) = true from h)
  exact ⟨of_decide_eq_true h1, fun x hx => jnL_mem h2 hx⟩
theorem jn_lst {xs : List D} (h : (D.lst xs).jn = true) : xs.length ≤ 100000 ∧ ∀ x ∈ xs, x.jn = true := jn_tup (xs := xs) h
theorem tup_jn {xs : List D} (h1 : xs.length ≤ 100000) (h2 : ∀ x ∈ xs, x.jn = true) : (D.tup xs).jn = true :=
  Bool.and_eq_true_iff.mpr ⟨decide_eq_true h1, jnL_of h2⟩
theorem lst_jn {xs : List D} (h1 : xs.length ≤ 100000) (h2 : ∀ x ∈ xs, x.jn = true) : (D.lst xs).jn = true := tup_jn (xs := xs) h1 h2
theorem jn_str {s : Str} (h : (D.str s).jn = true) : s.length ≤ 100000 := of_decide_eq_true (show decide (s.length ≤ 100000) = true from h)
theorem sz5 : (100000 : Nat) ≤ sizeLine := by decide
theorem szl {n : Nat} (h : n ≤ 100000) : n ≤ sizeLine := Nat.le_trans h sz5

/-! ### == on scalars -/
theorem eqv_int (i j : Int) : PyData.eqv (D.int i).py (D.int j).py = decide (i = j) := by
  show PyData.eqv (.int i) (.int j) = _
  simp only [PyData.eqv]
  by_cases h : i = j <;> simp [h]
theorem eqv_str (i j : Str) : PyData.eqv (D.str i).py (D.str j).py = decide (i = j) := by
  show PyData.eqv (.str i) (.str j) = _
  simp only [PyData.eqv]
  by_cases h : i = j
  · simp [h]
  · rw [decide_eq_false h]
    exact beq_false_of_ne h
theorem eqv_bl (i j : Bool) : PyData.eqv (D.bl i).py (D.bl j).py = decide (i = j) := by
  show PyData.eqv (.bool i) (.bool j) = _
  simp only [PyData.eqv]
  by_cases h : i = j <;> simp [h]
section
variable {K : PySem.W.Frag} {k : Res → Prop} {i j : Int} {a b : Bool}
theorem o_eqI (g : k (.d (.bl (decide (i = j))))) : OpD K (rEqD K) (.int i) (.int j) k := o_eq rfl rfl (by rw [eqv_int]; exact g)
theorem o_neI (g : k (.d (.bl (!decide (i = j))))) : OpD K (rNeD K) (.int i) (.int j) k := o_ne rfl rfl (by rw [eqv_int]; exact g)
theorem o_eqB (g : k (.d (.bl (decide (a = b))))) : OpD K (rEqD K) (.bl a) (.bl b) k := o_eq rfl rfl (by rw [eqv_bl]; exact g)
theorem o_neB (g : k (.d (.bl (!decide (a = b))))) : OpD K (rNeD K) (.bl a) (.bl b) k := o_ne rfl rfl (by rw [eqv_bl]; exact g)
end

/-! ### comprehensions -/
def Rel2 (R : D → D → Prop) (ds acc : List D) : Prop := acc.length = ds.length ∧ ∀ (i : Nat) (d y : D), ds[i]? = some d → acc[i]? = some y → R d y
theorem rel2_map {f : D → D} {ds acc : List D} (h : Rel2 (fun d y => y = f d) ds acc) : acc = ds.map f := by
  apply List.ext_getElem
  · rw [List.length_map, h.1]
  · intro i h1 h2
    rw [List.getElem_map]
    have h3 : i < ds.length := by rw [← h.1]; exact h1
    exact h.2 i ds[i] acc[i] (List.getElem?_eq_getElem h3) (List.getElem?_eq_getElem h1)
section
variable {K : PySem.W.Frag} {ρ : List Ent} {te : TE} {tt : TT} {wi : TI} {g : TG} {vs : List Nat} {k : KE}
/-- each item gives something in R; the test is none -/
theorem ye_lcr (R : D → D → Prop) (hsl : OwnSlots g vs) (hww : ∀ σ : L2.St, wipe (wipe σ vs) vs = wipe σ vs)
    (h : XI K wi ρ fun ds ρ1 => ds.length ≤ sizeLine ∧ ∃ ρw, wipeE ρ1 vs = ρw ∧
      (∀ d, d ∈ ds → XG K g d ρw fun ρ2 => wipeE ρ2 vs = ρw ∧ XE K te ρ2 fun r ρ4 => ∃ y, peek ρ4 r = some y ∧ frz ρ4 r = ρ2 ∧ R d y) ∧
      ∀ acc, Rel2 R ds acc → k (.nw (.lst acc)) ρw) : XE K (tLc wi g tYes te vs) ρ k :=
  xe_lc hsl hww fun F H σ Q E q => h F H σ Q E fun J H' ρ1 ds W kp E1 Gv w0 ⟨hl, ρw, e, st, fin⟩ => by
    refine q J H' ρ1 ds W kp E1 Gv w0 ⟨hl, fun n acc => acc.length = n ∧ ∀ (i : Nat) (d y : D), ds[i]? = some d → acc[i]? = some y → R d y, ⟨rfl, fun i d y _ z => nomatch z⟩, ?_, ?_⟩
    · subst e
      intro i d acc hd _ ⟨hlen, hR⟩
      have hm : d ∈ ds := List.mem_of_getElem? hd
      refine fun F H σ v Q E dv q => st d hm F H σ v Q E dv fun σ' ρ' kp E' ⟨e, g⟩ => q σ' ρ' kp E' ⟨e, fun F H σ Q E q => q true H ρ' (Keep.refl _ _) E ⟨rfl, fun _ => ?_, fun z => nomatch z⟩⟩
      refine xe_mono g fun r ρ4 ⟨y, p, f, hr⟩ => ⟨y, p, f, by rw [List.length_append, hlen]; rfl, fun j d' y' h1 h2 => ?_⟩
      by_cases hj : j < acc.length
      · rw [List.getElem?_append_left hj] at h2
        exact hR j d' y' h1 h2
      · have hj2 : j = acc.length := by
          have := (List.getElem?_eq_some_iff.mp h2).1
          rw [List.length_append] at this
          simp only [List.length_cons, List.length_nil] at this
          omega
        subst hj2
        rw [List.getElem?_append_right (Nat.le_refl _), Nat.sub_self] at h2
        cases h2
        rw [hlen, hd] at h1
        cases h1
        exact hr
    · subst e
      exact fun acc _ ⟨h1, h2⟩ => fin acc ⟨h1, h2⟩
/-- each item gives f of it -/
theorem ye_lcm (f : D → D) (hsl : OwnSlots g vs) (hww : ∀ σ : L2.St, wipe (wipe σ vs) vs = wipe σ vs)
    (h : XI K wi ρ fun ds ρ1 => ds.length ≤ sizeLine ∧ ∃ ρw, wipeE ρ1 vs = ρw ∧
      (∀ d, d ∈ ds → XG K g d ρw fun ρ2 => wipeE ρ2 vs = ρw ∧ XE K te ρ2 fun r ρ4 => ∃ y, peek ρ4 r = some y ∧ frz ρ4 r = ρ2 ∧ y = f d) ∧
      k (.nw (.lst (ds.map f))) ρw) : XE K (tLc wi g tYes te vs) ρ k :=
  ye_lcr (fun d y => y = f d) hsl hww fun F H σ Q E q => h F H σ Q E fun J H' ρ1 ds W kp E1 Gv w0 ⟨hl, ρw, e, st, fin⟩ =>
    q J H' ρ1 ds W kp E1 Gv w0 ⟨hl, ρw, e, st, fun acc ha => by rw [rel2_map ha]; exact fin⟩
/-- .. under a test p -/
theorem ye_lcf (p : D → Bool) (f : D → D) (hsl : OwnSlots g vs) (hww : ∀ σ : L2.St, wipe (wipe σ vs) vs = wipe σ vs)
    (h : XI K wi ρ fun ds ρ1 => ds.length ≤ sizeLine ∧ ∃ ρw, wipeE ρ1 vs = ρw ∧
      (∀ d, d ∈ ds → XG K g d ρw fun ρ2 => wipeE ρ2 vs = ρw ∧ XT K tt ρ2 fun b ρ3 => ρ3 = ρ2 ∧ b = p d ∧ (p d = true → XE K te ρ2 fun r ρ4 => ∃ y, peek ρ4 r = some y ∧ frz ρ4 r = ρ2 ∧ y = f d)) ∧
      k (.nw (.lst ((ds.filter p).map f))) ρw) : XE K (tLc wi g tt te vs) ρ k :=
  xe_lc hsl hww fun F H σ Q E q => h F H σ Q E fun J H' ρ1 ds W kp E1 Gv w0 ⟨hl, ρw, e, st, fin⟩ => by
    refine q J H' ρ1 ds W kp E1 Gv w0 ⟨hl, fun n acc => acc = ((ds.take n).filter p).map f, rfl, ?_, ?_⟩
    · subst e
      intro i d acc hd _ ha0
      have ha : acc = ((ds.take i).filter p).map f := ha0
      have hm : d ∈ ds := List.mem_of_getElem? hd
      have hi : i < ds.length := (List.getElem?_eq_some_iff.mp hd).1
      have tk : ds.take (i + 1) = ds.take i ++ [d] := by
        rw [List.take_add_one, hd]
        rfl
      refine fun F H σ v Q E dv q => st d hm F H σ v Q E dv fun σ' ρ' kp E' ⟨e, g⟩ => q σ' ρ' kp E' ⟨e, fun F H σ Q E q => g F H σ Q E fun b H' ρ'' kp E' ⟨e2, eb, g⟩ => q b H' ρ'' kp E' ⟨e2, fun hb => ?_, fun hb => ?_⟩⟩
      · subst e2
        rw [hb] at eb
        refine xe_mono (g eb.symm) fun r ρ4 ⟨y, pk, fz, hy⟩ => ⟨y, pk, fz, ?_⟩
        show acc ++ [y] = ((ds.take (i + 1)).filter p).map f
        rw [tk, List.filter_append, List.map_append, ← ha, hy]
        congr 1
        simp [← eb]
      · rw [hb] at eb
        show acc = ((ds.take (i + 1)).filter p).map f
        rw [tk, List.filter_append, List.map_append, ← ha]
        simp [← eb]
    · subst e
      intro acc _ ha0
      have ha : acc = ((ds.take ds.length).filter p).map f := ha0
      rw [ha, List.take_length]
      exact fin
theorem c_allM {ds : List D} {p : D → Bool} {kk : Res → Prop} (g : kk (.d (.bl (ds.all p)))) : CaD K (rAll K) [.lst (ds.map fun d => .bl (p d))] kk := by
  have e : (ds.map fun d => D.bl (p d)) = (ds.map p).map D.bl := by
    rw [List.map_map]
    rfl
  rw [e]
  refine c_all ?_
  rw [List.all_map]
  exact g
theorem c_anyM {ds : List D} {p : D → Bool} {kk : Res → Prop} (g : kk (.d (.bl (ds.any p)))) : CaD K (rAny K) [.lst (ds.map fun d => .bl (p d))] kk := by
  have e : (ds.map fun d => D.bl (p d)) = (ds.map p).map D.bl := by
    rw [List.map_map]
    rfl
  rw [e]
  refine c_any ?_
  rw [List.any_map]
  exact g
theorem lc_split {ds : List D} {ρ1 ρw : List Ent} {P : D → List Ent → Prop} {Q : List Ent → Prop} (h1 : ds.length ≤ sizeLine) (e : wipeE ρ1 vs = ρw) (h2 : ∀ d, d ∈ ds → P d ρw) (h3 : Q ρw) :
    ds.length ≤ sizeLine ∧ ∃ ρw, wipeE ρ1 vs = ρw ∧ (∀ d, d ∈ ds → P d ρw) ∧ Q ρw := ⟨h1, ρw, e, h2, h3⟩
theorem lc_fin {ρ4 ρ2 : List Ent} {r : Res} {R : D → Prop} {y : D} (e1 : peek ρ4 r = some y) (e2 : frz ρ4 r = ρ2) (h : R y) : ∃ y, peek ρ4 r = some y ∧ frz ρ4 r = ρ2 ∧ R y := ⟨y, e1, e2, h⟩
theorem lcf_fin {ρ3 ρ2 : List Ent} {b c : Bool} {P : Prop} (e1 : ρ3 = ρ2) (e2 : b = c) (h : P) : ρ3 = ρ2 ∧ b = c ∧ P := ⟨e1, e2, h⟩
theorem lc_env {ρ2 ρw : List Ent} {P : Prop} (e : wipeE ρ2 vs = ρw) (h : P) : wipeE ρ2 vs = ρw ∧ P := ⟨e, h⟩
theorem fa_mem {ds : List D} {P : D → Prop} (h : ∀ d, d ∈ ds → P d) : ∀ d, d ∈ ds → P d := h
theorem br_t {b : Bool} {P : Prop} (h : b = true → P) : b = true → P := h
theorem br_f {b : Bool} {P : Prop} (h : b = false → P) : b = false → P := h
theorem ex_env {ρ : List Ent} {P : List Ent → Prop} {ρ2 : List Ent} (e : ρ = ρ2) (g : P ρ2) : ∃ ρ2, ρ = ρ2 ∧ P ρ2 := ⟨ρ2, e, g⟩
theorem ex_pk {o : Option D} {P : D → Prop} {x : D} (e : o = some x) (g : P x) : ∃ x, o = some x ∧ P x := ⟨x, e, g⟩
theorem ex_pks {o : Option (List D)} {P : List D → Prop} {x : List D} (e : o = some x) (g : P x) : ∃ x, o = some x ∧ P x := ⟨x, e, g⟩
theorem ex_op {ρ : List Ent} {r1 r2 : Res} {P : D → D → Prop} {x y : D} (e1 : peek ρ r1 = some x) (e2 : peek ρ r2 = some y) (g : P x y) : ∃ x1 x2, peek ρ r1 = some x1 ∧ peek ρ r2 = some x2 ∧ P x1 x2 := ⟨x, y, e1, e2, g⟩
theorem ex_pks2 {o : Option (List D)} {P Q : List D → Prop} {x : List D} (e : o = some x) (g1 : P x) (g : Q x) : ∃ x, o = some x ∧ P x ∧ Q x := ⟨x, e, g1, g⟩
theorem ex_pk2 {o : Option D} {P Q : D → Prop} {x : D} (e : o = some x) (g1 : P x) (g : Q x) : ∃ x, o = some x ∧ P x ∧ Q x := ⟨x, e, g1, g⟩
theorem ex_it {o : Option D} {f : D → Option (List D)} {P : D → List D → Prop} {x : D} {ds : List D} (e : o = some x) (e2 : f x = some ds) (g : P x ds) : ∃ x ds, o = some x ∧ f x = some ds ∧ P x ds := ⟨x, ds, e, e2, g⟩
theorem ex_its {o : Option (List D)} {f : D → Option (List D)} {P : D → List D → Prop} {x : D} {ds : List D} (e : o = some [x]) (e2 : f x = some ds) (g : P x ds) : ∃ x ds, o = some [x] ∧ f x = some ds ∧ P x ds := ⟨x, ds, e, e2, g⟩
theorem ex_bl {b : Bool} {P : Bool → Prop} (g : P b) : ∃ b', Res.d (.bl b) = .d (.bl b') ∧ P b' := ⟨b, rfl, g⟩
theorem ex_int {b : Int} {P : Int → Prop} (g : P b) : ∃ b', Res.d (.int b) = .d (.int b') ∧ P b' := ⟨b, rfl, g⟩
theorem ex_sc {x : D} {P : D → Prop} (s : x.scalar = true) (g : P x) : ∃ y, Res.d x = .d y ∧ y.scalar = true ∧ P y := ⟨x, rfl, s, g⟩
theorem and_br {b : Bool} {P Q : Prop} (h1 : b = true → P) (h2 : b = false → Q) : (b = true → P) ∧ (b = false → Q) := ⟨h1, h2⟩
theorem and_rb {b : Bool} {P Q : Prop} (h1 : b = false → P) (h2 : b = true → Q) : (b = false → P) ∧ (b = true → Q) := ⟨h1, h2⟩
theorem and_brT {P Q : Prop} (h : P) : (true = true → P) ∧ (true = false → Q) := ⟨fun _ => h, fun z => (by cases z)⟩
theorem and_brF {P Q : Prop} (h : Q) : (false = true → P) ∧ (false = false → Q) := ⟨fun z => (by cases z), fun _ => h⟩
theorem and_rbT {P Q : Prop} (h : P) : (false = false → P) ∧ (false = true → Q) := ⟨fun _ => h, fun z => (by cases z)⟩
theorem and_rbF {P Q : Prop} (h : Q) : (true = false → P) ∧ (true = true → Q) := ⟨fun z => (by cases z), fun _ => h⟩
theorem and_nT {P Q : Prop} (h : Q) : ((!true) = true → P) ∧ ((!true) = false → Q) := ⟨fun z => (by cases z), fun _ => h⟩
theorem and_nF {P Q : Prop} (h : P) : ((!false) = true → P) ∧ ((!false) = false → Q) := ⟨fun _ => h, fun z => (by cases z)⟩
theorem and_mT {P Q : Prop} (h : P) : ((!true) = false → P) ∧ ((!true) = true → Q) := ⟨fun _ => h, fun z => (by cases z)⟩
theorem and_mF {P Q : Prop} (h : Q) : ((!false) = false → P) ∧ ((!false) = true → Q) := ⟨fun z => (by cases z), fun _ => h⟩
theorem nv_d {x : D} : ∀ i, Res.d x ≠ .v i := fun i z => nomatch z
theorem nv_nw {x : D} : ∀ i, Res.nw x ≠ .v i := fun i z => nomatch z
end

/-! ### what a test tells -/
section
variable {x : D} {P : Prop}
theorem isTup_tup (h : x.isTup = true) : ∃ xs, x = .tup xs := by
  cases x <;> first
    | exact ⟨_, rfl⟩
    | cases h
theorem isLst_lst (h : x.isLst = true) : ∃ xs, x = .lst xs := by
  cases x <;> first
    | exact ⟨_, rfl⟩
    | cases h
theorem isStr_str (h : x.isStr = true) : ∃ xs, x = .str xs := by
  cases x <;> first
    | exact ⟨_, rfl⟩
    | cases h
theorem isNon_non (h : x.isNon = true) : x = .non := by
  cases x <;> first
    | rfl
    | cases h
theorem nbf {b : Bool} (h : (!b) = false) : b = true := by
  cases b <;> first | rfl | cases h
theorem br_tup (h : ∀ xs, x = .tup xs → P) : x.isTup = true → P := fun z => (isTup_tup z).elim h
theorem br_tupN (h : ∀ xs, x = .tup xs → P) : (!x.isTup) = false → P := fun z => (isTup_tup (nbf z)).elim h
theorem br_lst (h : ∀ xs, x = .lst xs → P) : x.isLst = true → P := fun z => (isLst_lst z).elim h
theorem br_lstN (h : ∀ xs, x = .lst xs → P) : (!x.isLst) = false → P := fun z => (isLst_lst (nbf z)).elim h
theorem br_str (h : ∀ xs, x = .str xs → P) : x.isStr = true → P := fun z => (isStr_str z).elim h
theorem br_strN (h : ∀ xs, x = .str xs → P) : (!x.isStr) = false → P := fun z => (isStr_str (nbf z)).elim h
theorem br_non (h : x = .non → P) : x.isNon = true → P := fun z => h (isNon_non z)
theorem br_nonN (h : x = .non → P) : (!x.isNon) = false → P := fun z => h (isNon_non (nbf z))
end
theorem fin_bl {kk : Res → Prop} {b b' : Bool} (g : kk (.d (.bl b'))) (e : b' = b) : kk (.d (.bl b)) := by rw [← e]; exact g
theorem fin_d {kk : Res → Prop} {b b' : D} (g : kk (.d b')) (e : b' = b) : kk (.d b) := by rw [← e]; exact g
theorem signs_one {z : Str} {P : D → Prop} (h : ∀ c, P (.str ⟨#[c]⟩)) : ∀ d, d ∈ signsD z → P d := fun d hd => by
  unfold signsD at hd
  obtain ⟨c, _, e⟩ := List.mem_map.mp hd
  rw [← e]
  exact h c
theorem signs_len {z : Str} : (signsD z).length = z.length := by
  unfold signsD
  rw [List.length_map, Array.length_toList]
  rfl
theorem cut_sub {ds : List D} {lo hi : Option Int} {d : D} (h : d ∈ PW.cutD ds lo hi) : d ∈ ds := by
  unfold PW.cutD at h
  exact List.mem_of_mem_drop (List.mem_of_mem_take h)
theorem cut_len {ds : List D} {lo hi : Option Int} : (PW.cutD ds lo hi).length ≤ ds.length := by
  unfold PW.cutD
  rw [List.length_take, List.length_drop]
  omega
theorem cutD_tail {y : D} {ys : List D} : PW.cutD (y :: ys) (some 1) none = ys := by
  have e : HT.sIx (y :: ys).length 0 (some 1) = 1 := by
    show (if (1 : Int) < 0 then ((1 : Int) + ((y :: ys).length : Int)).toNat else min (1 : Int).toNat (y :: ys).length) = 1
    rw [if_neg (by decide), List.length_cons]
    show min 1 (ys.length + 1) = 1
    omega
  unfold PW.cutD
  rw [e, HT.sIx_none, List.length_cons, List.drop_one, List.tail_cons, Nat.add_sub_cancel, List.take_length]
theorem szT {xs : List D} (h : (D.tup xs).jn = true) : xs.length ≤ sizeLine := szl (jn_tup h).1
theorem szL {xs : List D} (h : (D.lst xs).jn = true) : xs.length ≤ sizeLine := szl (jn_lst h).1
theorem szS {s : Str} (h : (D.str s).jn = true) : s.length ≤ sizeLine := szl (jn_str h)
theorem szG {s : Str} (h : (D.str s).jn = true) : (signsD s).length ≤ sizeLine := by rw [signs_len]; exact szS h
theorem szC {ds : List D} {lo hi : Option Int} (h : ds.length ≤ sizeLine) : (PW.cutD ds lo hi).length ≤ sizeLine := Nat.le_trans cut_len h
theorem jnT {xs : List D} {x : D} (h : (D.tup xs).jn = true) (hx : x ∈ xs) : x.jn = true := (jn_tup h).2 x hx
theorem jnL' {xs : List D} {x : D} (h : (D.lst xs).jn = true) (hx : x ∈ xs) : x.jn = true := (jn_lst h).2 x hx

theorem atI_0 {y : D} {ys : List D} : atI (y :: ys) 0 = some y := by
  unfold atI ixN
  rw [if_pos (Int.le_refl 0), if_pos (by rw [List.length_cons]; omega)]
  rfl
theorem atI_1 {x y : D} {ys : List D} : atI (x :: y :: ys) 1 = some y := by
  unfold atI ixN
  rw [if_pos (by decide), if_pos (by rw [List.length_cons, List.length_cons]; omega)]
  rfl
theorem atI_2 {x y z : D} {ys : List D} : atI (x :: y :: z :: ys) 2 = some z := by
  unfold atI ixN
  rw [if_pos (by decide), if_pos (by rw [List.length_cons, List.length_cons, List.length_cons]; omega)]
  rfl
theorem lenc {y : D} {ys : List D} : ((y :: ys).length : Int) = (ys.length : Int) + 1 := by rw [List.length_cons]; omega
section
variable {K : PySem.W.Frag} {x y z : D} {ys : List D} {k : Res → Prop}
theorem o_ix0 (g : k (.d y)) : OpD K (rIx K) (.tup (y :: ys)) (.int 0) k := o_ixT atI_0 g
theorem o_ix1 (g : k (.d y)) : OpD K (rIx K) (.tup (x :: y :: ys)) (.int 1) k := o_ixT atI_1 g
theorem o_ix2 (g : k (.d z)) : OpD K (rIx K) (.tup (x :: y :: z :: ys)) (.int 2) k := o_ixT atI_2 g
theorem sl_tail {kk : Res → Prop} (g : kk (.d (.tup ys))) : SlD K (rSlU K) (.tup (y :: ys)) (some 1) none kk := sl_T (by rw [cutD_tail]; exact g)
end
theorem szTl {y : D} {ys : List D} (h : (D.tup (y :: ys)).jn = true) : ys.length ≤ sizeLine := by
  have := (jn_tup h).1
  rw [List.length_cons] at this
  exact szl (by omega)
theorem ne_len {xs : List D} (h : 1 ≤ (xs.length : Int)) : xs ≠ [] := fun e => by
  rw [e] at h
  exact absurd h (by decide)
theorem o_ix0e {K : PySem.W.Frag} {xs : List D} {k : Res → Prop} (h : xs ≠ []) (g : ∀ y ys, xs = y :: ys → k (.d y)) : OpD K (rIx K) (.tup xs) (.int 0) k := by
  cases xs with
  | nil => exact absurd rfl h
  | cons y ys => exact o_ix0 (g y ys rfl)

/-! the first that fails -/
def firstBad (p : D → Bool) : Nat → List D → Option Nat
  | _, [] => none
  | n, d :: ds => if p d = true then firstBad p (n + 1) ds else some n
theorem firstBad_at {p : D → Bool} : ∀ {cs : List D} {n i : Nat} {x : D}, (∀ j y, j < i → cs[j]? = some y → p y = true) → cs[i]? = some x → p x = false → firstBad p n cs = some (n + i)
  | [], _, _, _, _, h, _ => by cases h
  | c :: cs, n, 0, x, _, h, hx => by
    cases h
    rw [firstBad, if_neg (by rw [hx]; exact Bool.false_ne_true)]
    rfl
  | c :: cs, n, i + 1, x, h0, h, hx => by
    rw [firstBad, if_pos (h0 0 c (Nat.succ_pos _) rfl), firstBad_at (i := i) (fun j y hj e => h0 (j + 1) y (Nat.succ_lt_succ hj) e) h hx]
    congr 1
    omega
theorem firstBad_none {p : D → Bool} : ∀ {cs : List D} {n : Nat}, (∀ j y, j < cs.length → cs[j]? = some y → p y = true) → firstBad p n cs = none
  | [], _, _ => rfl
  | c :: cs, n, h => by
    rw [firstBad, if_pos (h 0 c (Nat.succ_pos _) rfl)]
    exact firstBad_none fun j y hj e => h (j + 1) y (Nat.succ_lt_succ hj) e
theorem jnT2 {x : D} {xs ys : List D} (hx : x ∈ xs) (h : (D.tup ys).jn = true) (hm : D.tup xs ∈ ys) : x.jn = true := jnT (jnT h hm) hx
theorem jnTr {x : D} {xs : List D} (hx : x ∈ xs) (h : (D.tup xs).jn = true) : x.jn = true := jnT h hx
end PW
end
section
/-! PW: readings walked by values (for a def that writes into the hand), an item by a draw. -/
namespace PW
open PySem PySem.Spec PyProof.Rows L2
section
variable {K : PySem.W.Frag} {σ : L2.St} {H : Hp} {Q : VK} {ta tb tc te ti : TE} {D : Ends} {t u : TS} {i j : Int} {n m : Nat} {v w : V} {a c : Addr} {vs : List V}
theorem r_var {n : Nat} (h : σ[n]? = some (some v)) (q : Q v H) : tVar n σ H Q := ⟨v, h, q⟩
theorem r_c (q : Q v H) : tC v σ H Q := q
theorem r_op {r : R2} (h : ta σ H fun x H1 => tb σ H1 fun y H2 => r x y H2 Q) : tOp r ta tb σ H Q := h
theorem r_addI (q : Q (.int (i + j)) H) : rAddU K (.int i) (.int j) H Q := .inl (.inl (.inl ⟨i, j, rfl, rfl, q⟩))
theorem r_subI (q : Q (.int (i - j)) H) : rSubI (.int i) (.int j) H Q := ⟨i, j, rfl, rfl, q⟩
theorem r_mulI (h : CMul i j) (q : Q (.int (i * j)) H) : rMulU K (.int i) (.int j) H Q := .inl ⟨i, j, rfl, rfl, h, q⟩
theorem r_divI (h : 0 < j ∧ j < 1073741824) (q : Q (.int (i / j)) H) : rDivI (.int i) (.int j) H Q := ⟨i, j, rfl, rfl, h, q⟩
theorem r_modI (h : 0 < j) (q : Q (.int (i % j)) H) : rModI (.int i) (.int j) H Q := ⟨i, j, rfl, rfl, h, q⟩
theorem r_powI (h : CPow i j) (q : Q (.int (i ^ j.toNat)) H) : rPowI (.int i) (.int j) H Q := ⟨i, j, rfl, rfl, h, q⟩
theorem r_ltI (q : Q (.bl (decide (i < j))) H) : rLtI (.int i) (.int j) H Q := ⟨i, j, rfl, rfl, q⟩
theorem r_leI (q : Q (.bl (decide (i ≤ j))) H) : rLeI (.int i) (.int j) H Q := ⟨i, j, rfl, rfl, q⟩
theorem r_gtI (q : Q (.bl (decide (j < i))) H) : rGtI (.int i) (.int j) H Q := ⟨i, j, rfl, rfl, q⟩
theorem r_geI (q : Q (.bl (decide (j ≤ i))) H) : rGeI (.int i) (.int j) H Q := ⟨i, j, rfl, rfl, q⟩
theorem r_eqI (q : Q (.bl (decide (i = j))) H) : rEqD K (.int i) (.int j) H Q := ⟨.int i, .int j, .int i, .int j, rfl, rfl, by rw [show PyData.eqv (.int i) (.int j) = decide (i = j) from eqv_int i j]; exact q⟩
theorem r_ix (h : H a = some (.lst vs)) (e : atI vs i = some w) (q : Q w H) : rIx K (.ref a) (.int i) H Q := .inl ⟨a, vs, i, w, rfl, rfl, SqL.of h, e, q⟩
theorem r_len (h : H a = some (.lst vs)) (q : Q (.int vs.length) H) : rLenU K [.ref a] H Q := ⟨.ref a, vs.length, rfl, .inl ⟨vs, SqL.of h, rfl⟩, q⟩
theorem r_int (q : Q (.int i) H) : rIntU [.int i] H Q := .inl ⟨i, rfl, q⟩
theorem r_cb {r : List V → Hp → VK → Prop} {ta : TA} (h : ta σ H fun vs H1 => r vs H1 Q) : tCB r ta σ H Q := h
theorem r_nil {Q : List V → Hp → Prop} (q : Q [] H) : tNil σ H Q := q
theorem r_cons {Q : List V → Hp → Prop} {ts : TA} (h : te σ H fun x H1 => ts σ H1 fun xs H2 => Q (x :: xs) H2) : tCons te ts σ H Q := h
theorem r_test {Q : Bool → Hp → Prop} (h : te σ H fun x H1 => ∃ c, x = .bl c ∧ Q c H1) : tTest te σ H Q := h
theorem r_b {Q : Bool → Hp → Prop} (h : te σ H fun x H1 => ∃ c, x = .bl c ∧ Q c H1) : tB te σ H Q := h
theorem r_and {Q : Bool → Hp → Prop} {t u : TT} (h : t σ H fun c H1 => (c = true → u σ H1 Q) ∧ (c = false → Q false H1)) : tAnd t u σ H Q := by
  have e : (fun (c : Bool) (H1 : Hp) => (c = true → u σ H1 Q) ∧ (c = false → Q false H1)) = fun c H1 => if c = true then u σ H1 Q else Q false H1 := by
    funext c H1
    cases c <;> simp
  show t σ H fun c H1 => if c = true then u σ H1 Q else Q false H1
  rw [← e]
  exact h
theorem r_if {c : TT} (h : c σ H fun b H1 => (b = true → t D σ H1) ∧ (b = false → u D σ H1)) : tIfS c t u D σ H := by
  have e : (fun (b : Bool) (H1 : Hp) => (b = true → t D σ H1) ∧ (b = false → u D σ H1)) = fun b H1 => if b = true then t D σ H1 else u D σ H1 := by
    funext b H1
    cases b <;> simp
  show c σ H fun b H1 => if b = true then t D σ H1 else u D σ H1
  rw [← e]
  exact h
theorem r_bl {Q : Bool → Prop} {b : Bool} (q : Q b) : ∃ c, V.bl b = .bl c ∧ Q c := ⟨b, rfl, q⟩
theorem r_seq (h : t { D with nx := u D } σ H) : tSeq t u D σ H := h
theorem r_next (h : D.nx σ H) : tNext D σ H := h
theorem r_ret (h : te σ H D.rt) : tRet te D σ H := h
theorem r_asg {n : Nat} (h : te σ H fun x H1 => ∃ σ2, σ.set n (some x) = σ2 ∧ D.nx σ2 H1) : tAsg te (gName n) D σ H := by
  have e : (fun (x : V) (H1 : Hp) => ∃ σ2, σ.set n (some x) = σ2 ∧ D.nx σ2 H1) = fun x H1 => D.nx (σ.set n (some x)) H1 := by
    funext x H1
    exact propext ⟨fun ⟨_, e, q⟩ => by rw [e]; exact q, fun q => ⟨_, rfl, q⟩⟩
  show te σ H fun x H1 => D.nx (σ.set n (some x)) H1
  rw [← e]
  exact h
theorem r_sub {te to ti : TE} (h : te σ H fun v H1 => to σ H1 fun o H2 => ti σ H2 fun i H3 => rSetL o i v H3 fun H4 => D.nx σ H4) : tAsg te (gSub to ti rSetL) D σ H := h
theorem r_set {Q : Hp → Prop} {k : Nat} (h : H a = some (.lst vs)) (e : ixN vs.length i = some k) (q : ∀ H2, H2 a = some (.lst (vs.set k v)) → (∀ b, b ≠ a → H2 b = H b) → Q H2) : rSetL (.ref a) (.int i) v H Q :=
  ⟨a, vs, i, k, rfl, rfl, h, e, q _ upd_same fun b hb => upd_ne hb⟩
end

/-- the promise of _law_any: an item by a draw -/
def spAny (K : PySem.W.Frag) : Sp := fun vs H Q _ => ∃ (M : Addr → Prop) (a b : Addr) (xs : List V), vs = [.ref a, .ref b] ∧ Tr M H ∧ M a ∧ HandOk M K H a ∧ ((H b = some (.lst xs) ∧ b ≠ a) ∨ ColdT M K H b xs) ∧ xs ≠ [] ∧ xs.length < 1073741824 ∧
  ∀ v H', v ∈ xs → (∀ c o, c ≠ a → H c = some o → H' c = some o) → HandOk M K H' a → Q v H'
theorem da_mem {M : Addr → Prop} {K : PySem.W.Frag} {H : Hp} : ∀ {ds : List D} {vs : List V} {v : V}, DaAll M K H vs ds → v ∈ vs → ∃ d, d ∈ ds ∧ Da M K H v d
  | [], _, _, h, hv => by
    rw [show _ = [] from h] at hv
    cases hv
  | d :: ds, _, v, h, hv => by
    obtain ⟨w, r, e, h1, h2⟩ := h
    rw [e] at hv
    rcases List.mem_cons.mp hv with e2 | hv
    · rw [e2]
      exact ⟨d, List.mem_cons_self .., h1⟩
    · obtain ⟨d', q1, q2⟩ := da_mem h2 hv
      exact ⟨d', List.mem_cons_of_mem _ q1, q2⟩
section
variable {K : PySem.W.Frag} {ρ : List Ent} {k : KE} {te : TE} {i : Nat} {E : XK}
theorem da_seq {M : Addr → Prop} {H : Hp} {v : V} {x : D} {ds : List D} (h : Da M K H v x) (hi : itemsD x = some ds) : ∃ b vs, v = .ref b ∧ ((H b = some (.lst vs) ∧ ¬ M b) ∨ ColdT M K H b vs) ∧ DaAll M K H vs ds := by
  cases x with
  | lst es =>
    cases hi
    obtain ⟨b, vs, e, h1, h2⟩ := h
    exact ⟨b, vs, e, .inl ⟨h1.2, h1.1⟩, h2⟩
  | tup es =>
    cases hi
    obtain ⟨b, vs, e, h1, h2⟩ := h
    exact ⟨b, vs, e, .inr h1, h2⟩
  | _ => cases hi
/-- what is held, as a sequence of data: none of the items at a hot address -/
theorem Held.seq {F : Fr} {H : Hp} {σ : L2.St} {v : V} {r : Res} {x : D} {ds : List D} {a : Addr} (E : Env K F H σ ρ) (h : Held K F H σ ρ v r) (hp : peek ρ r = some x) (hi : itemsD x = some ds) (ha : F.hd = some a) :
    ∃ b vs, v = .ref b ∧ ((H b = some (.lst vs) ∧ b ≠ a) ∨ ColdT (hot F σ ρ) K H b vs) ∧ DaAll (hot F σ ρ) K H vs ds := by
  have hm : hot F σ ρ a := .inl (E.hand a ha).1
  have fin : Da (hot F σ ρ) K H v x → ∃ b vs, v = .ref b ∧ ((H b = some (.lst vs) ∧ b ≠ a) ∨ ColdT (hot F σ ρ) K H b vs) ∧ DaAll (hot F σ ρ) K H vs ds := fun d => by
    obtain ⟨b, vs, e, h1, h2⟩ := da_seq d hi
    refine ⟨b, vs, e, ?_, h2⟩
    rcases h1 with ⟨q1, q2⟩ | q
    · exact .inl ⟨q1, fun z => q2 (by rw [z]; exact hm)⟩
    · exact .inr q
  cases r with
  | d y => cases hp; exact fin h
  | nw y => cases hp; exact fin h
  | v j =>
    have h : σ[j]? = some (some v) := h
    have hp : peekE ρ[j]? = some x := hp
    cases e : ρ[j]? with
    | none => rw [e] at hp; cases hp
    | some en =>
      rw [e] at hp
      cases en with
      | own y =>
        cases hp
        obtain ⟨p, e2, hh, ho⟩ := E.slotOwn e
        rw [h] at e2
        cases e2
        have nM := (E.new j _ p e h).2
        cases x with
        | lst es =>
          cases hi
          obtain ⟨vs, h1, h2⟩ := ho
          exact ⟨p, vs, rfl, .inl ⟨h1, fun z => nM (by rw [z]; exact (E.hand a ha).1)⟩, h2⟩
        | dct _ _ => cases hi
        | obj _ _ _ => cases hi
        | _ => exact (show False from ho).elim
      | d y =>
        cases hp
        obtain ⟨w, e2, hd⟩ := E.slot j _ e
        rw [h] at e2
        cases e2
        exact fin hd
      | u => cases hp
      | hand => cases hp
      | pin φ => cases hp
      | big A v S => cases hp
def tAny (sp : Sp) (E : XK) (i : Nat) (te : TE) : TE := tCall sp [] E (tCons (tVar i) (tCons te tNil))
theorem xe_any (hi : ρ[i]? = some .hand) (h : XE K te ρ fun r ρ1 => ∃ x ds, peek ρ1 r = some x ∧ itemsD x = some ds ∧ ds ≠ [] ∧ ds.length < 1073741824 ∧ ∀ d, d ∈ ds → k (.d d) ρ1) : XE K (tAny (spAny K) E i te) ρ k := fun F H σ Q E0 q => by
  obtain ⟨a, ha, es⟩ := E0.slot i _ hi
  refine ⟨_, es, ?_⟩
  refine h F H σ _ E0 fun v H1 r ρ1 kp R ⟨x, ds, px, hx, n0, hl, g⟩ => ?_
  have E1 := R.env
  obtain ⟨b, vs, rfl, h1, h2⟩ := Held.seq E1 R.held px hx ha
  obtain ⟨m1, m2, m3⟩ := E1.hand a ha
  refine ⟨hot F σ ρ1, a, b, vs, rfl, hot_tr E1, .inl m1, m3, h1, fun e => n0 ?_, by rw [h2.length]; exact hl, fun w H' hw st hh => ?_⟩
  · have := h2.length
    rw [e] at this
    exact List.length_eq_zero_iff.mp this.symm
  · obtain ⟨d, hd, dw⟩ := da_mem h2 hw
    have st' : ∀ c o, F.hd ≠ some c → H1 c = some o → H' c = some o := fun c o n e => st c o (fun z => n (by rw [z]; exact ha)) e
    have E2 : Env K F H' σ ρ1 := E1.step st' fun c hc => by
      rw [ha] at hc
      cases hc
      exact hh
    have k3 : Keep (hot F σ ρ1) H1 (hot F σ ρ1) H' := fun c o n e => ⟨n, st c o (fun z => n (by rw [z]; exact .inl m1)) e⟩
    exact q w H' (.d d) ρ1 (hotR.d ((hotR.hot kp).trans k3)) ⟨E2, dw.mono k3⟩ (g d hd)
theorem ex_any {o : Option D} {f : D → Option (List D)} {P : List D → Prop} {x : D} {ds : List D} (e : o = some x) (e2 : f x = some ds) (h1 : ds ≠ []) (h2 : ds.length < 1073741824) (g : P ds) : ∃ x ds, o = some x ∧ f x = some ds ∧ ds ≠ [] ∧ ds.length < 1073741824 ∧ P ds := ⟨x, ds, e, e2, h1, h2, g⟩
end
/-- the hand behind a draw -/
theorem hand_fin {M : Addr → Prop} {K : PySem.W.Frag} {H H' : Hp} {a c : Addr} {cs : List Int} {j1 j2 j3 j4 : Int} (ma : M a) (hc : ColdL M K H c (cs.map V.int)) (st : ∀ b, b ≠ a → H' b = H b)
    (h : H' a = some (.lst [.ref c, .int j1, .int j2, .int j3, .int j4])) (h1 : 0 ≤ j1) (h2 : 0 ≤ j2) : HandOk M K H' a :=
  ⟨c, cs, j1, j2, j3, j4, h, ⟨hc.1, by rw [st c fun z => hc.1 (by rw [z]; exact ma)]; exact hc.2⟩, h1, h2⟩
end PW
end
section
/-! PW: set(list of texts); len of it. -/
namespace PW
open PySem PySem.Spec PyProof.Rows L2
open Sem (wp)

section
variable {α : Type} [DecidableEq α]
/-- the distinct ones, in the order in which they are met -/
def metStep (acc : List α) (v : α) : List α := if v ∈ acc then acc else acc ++ [v]
def metTo (val : Nat → α) : Nat → List α
  | 0 => []
  | i + 1 => metStep (metTo val i) (val i)
theorem metTo_len (val : Nat → α) : ∀ i, (metTo val i).length ≤ i
  | 0 => Nat.le_refl _
  | i + 1 => by
    have ih := metTo_len val i
    unfold metTo metStep
    split
    · omega
    · rw [List.length_append, List.length_singleton]; omega
theorem metStep_mem {acc : List α} {v k : α} : k ∈ metStep acc v ↔ k ∈ acc ∨ k = v := by
  unfold metStep
  split
  · constructor
    · exact .inl
    · intro h
      rcases h with h | h
      · exact h
      · rw [h]; assumption
  · rw [List.mem_append, List.mem_singleton]
theorem setOf_same {prog : Program} {w : World} {knd : KeyKind prog w α} {h : Heap} {a : Addr} {S S' : α → Bool} {n n' : Nat} (hS : h.SetOf knd a S n) (e : ∀ k, S k = S' k) (en : n = n') : h.SetOf knd a S' n' := by
  have q : S = S' := funext e
  subst q en
  exact hS
/-- what the set holds behind i items -/
def HasTo {prog : Program} {w : World} (knd : KeyKind prog w α) (val : Nat → α) (h : Heap) (S : Addr) (i : Nat) : Prop := h.SetOf knd S (fun k => decide (k ∈ metTo val i)) (metTo val i).length
variable {prog : Program} {w : World} {A : Around} {R : Result → Shared → Prop} {I : Addr} {fp wr : List Addr} {G : Array GenState → Array GenState → Prop} {n : Nat} {P : Nat → Value → Prop} {St : Nat → Shared → Prop} {knd : KeyKind prog w α}
theorem HasTo.move {val : Nat → α} {S : Addr} {i : Nat} {h h' : Heap} (x : HasTo knd val h S i) (k : ∀ o, h.get? S = some o → h'.get? S = some o) : HasTo knd val h' S i := by
  obtain ⟨o, es, ep, t, ho, rest⟩ := x
  exact ⟨o, es, ep, t, k o ho, rest⟩
theorem loop_has (W : WalksS prog w A.in1 I fp wr G n P St) (S : Addr) (hSf : S ∉ fp) (val : Nat → α) (hval : ∀ i v, P i v → knd.is (val i) v = true ∧ v.scannable = true) (hb : n + 1 < scanBound) :
    ∀ (k i : Nat) (s : Shared), n - i = k → i ≤ n → St i s → HasTo knd val s.heap S i → (∀ s', Moved (S :: wr) G s s' → HasTo knd val s'.heap S n → R (.ok (.ret .none)) s') →
      codeAny (model prog w) A (.builtin "set.update.loop" ⟨[.ref S, .ref I], []⟩) R s := by
  have hSw : S ∉ wr := fun h => hSf (W.sub _ h)
  have hsub : ∀ b ∈ wr, b ∈ S :: wr := fun b hb => List.mem_cons_of_mem _ hb
  intro k
  induction k with
  | zero =>
    intro i s hk hi hst hS hR
    obtain rfl : i = n := by omega
    refine codeAny_builtin F.entry_set_update_loop ?_
    rw [Around.under_plainId F.plain_set_update_loop _]
    refine wpAny_bind (W.done s _ _ hst fun s' hm => ?_)
    exact wpAny_pure (hR s' (hm.mono hsub) (hS.move fun o ho => hm.heap S o hSw ho))
  | succ k ih =>
    intro i s hk hi hst hS hR
    have hlt : i < n := by omega
    refine codeAny_builtin F.entry_set_update_loop ?_
    rw [Around.under_plainId F.plain_set_update_loop _]
    refine wpAny_bind (W.item i s _ _ hlt hst fun v s' hP hst' hm => ?_)
    obtain ⟨hk1, hk2⟩ := hval i v hP
    have hS' := hS.move fun o ho => hm.heap S o hSw ho
    show wpAny _ A.in1 (holding [v] (setAdd S v) >>= _) _ _ s'
    refine wpAny_bind (wpAny_holding ?_)
    unfold setAdd
    refine wpAny_holding ?_
    refine wpAny_bind (knd.pyHash (k := val i) hk1 ?_)
    have hroom : (metTo val i).length + 1 < scanBound := by have := metTo_len val i; omega
    refine wpAny_setAddHashed_of (knd := knd) (s := { s' with toks := s'.toks + 1 }) hk1 hk2 hS' hroom fun h' hsb hS2 => ?_
    have hSi : HasTo knd val h' S (i + 1) := setOf_same hS2 (fun k' => by
        have e : (k' ∈ metTo val (i + 1)) ↔ (k' ∈ metTo val i ∨ k' = val i) := metStep_mem
        rw [← Bool.decide_or]
        exact decide_eq_decide.mpr e.symm) (by
        show _ = (metStep (metTo val i) (val i)).length
        unfold metStep
        by_cases q : val i ∈ metTo val i
        · rw [if_pos q, if_pos (decide_eq_true q)]
        · rw [if_neg q, if_neg (by rw [decide_eq_false q]; exact Bool.false_ne_true), List.length_append, List.length_singleton])
    refine wpAny_pure ⟨plainId_quiet F.plain_set_update_loop _, ih (i + 1) _ (by omega) hlt (W.frame _ s' _ _ hst' (Nat.le_succ _) fun b hb o e => ?_) hSi fun s'' hm'' hS'' => ?_⟩
    · rw [hsb.2 b (fun h : b = S => hSf (by rw [← h]; exact hb))]; exact e
    · refine hR s'' (Moved.trans W.gtrans ((hm.mono hsub).then_heap (Nat.le_succ _) fun b o hb e => ?_) hm'') hS''
      rw [hsb.2 b (fun h : b = S => hb (by rw [h]; exact List.mem_cons_self))]; exact e
end

section
variable {α : Type} [DecidableEq α] {prog : Program} {w : World} {A : Around} {E : Value → Shared → Prop} {s : Shared} {knd : KeyKind prog w α}
set_option maxHeartbeats 3200000 in
theorem call_set_met {l : Addr} {items : Array Value} {Q : Value → Shared → Prop} (val : Nat → α) (hh : A.handled = none) (hl : s.heap.IsList l items) (hi : ∀ i v, items[i]? = some v → knd.is (val i) v = true ∧ v.scannable = true) (hb : items.size + 1 < scanBound)
    (h : ∀ (h' : Heap) (tk : Nat), HasTo knd val h' s.heap.objs.size items.size → (∀ b o, b < s.heap.objs.size → s.heap.get? b = some o → h'.get? b = some o) → Q (.ref s.heap.objs.size) { s with heap := h', toks := tk }) :
    wpAny (model prog w) A (call (.type "set") [.ref l]) Q E s := by
  obtain ⟨c, tl, hmro⟩ := PySem.F.called_set.mro
  have hmade := PySem.F.called_set.made
  have hsub := PySem.F.called_set.sub
  refine wpAny_call (codeAny_of_tree ?_)
  show wpAny _ _ (callAny (.type "set") _) _ _ _
  refine wpAny_pure ⟨Code.quiet_builtin _ (by decide +kernel), codeAny_builtin PySem.F.entry_type_call ?_⟩
  rw [Around.under_plain (weight_type_call_type "set" [.ref l] []) rfl]
  have h1 := PySem.F.called_set.notType
  have h2 := PySem.F.called_set.canCreate
  have hct := PySem.F.typeCall_set_1 (.ref l)
  repeat (any_goals (first | assumption | wp_step))

  refine codeAny_mono (code_set_new_1 (.ref l) (E := E) (Q₁ := fun obj s₁ => ∃ led : Bool, obj = .ref s.heap.objs.size ∧ s₁ = { s with heap := s.heap.push { cls := .type "set", dict := none, data := .set #[] 0 (.fresh 0 0 led) } }) fun led => ⟨led, rfl, rfl⟩) fun r s₁ hr => ?_
  cases r with
  | error e => exact hr
  | ok fl =>
    cases fl with
    | ret obj =>
      obtain ⟨led, rfl, rfl⟩ := hr
      have hS : (s.heap.push { cls := .type "set", dict := none, data := .set #[] 0 (.fresh 0 0 led) }).get? s.heap.objs.size = some { cls := .type "set", dict := none, data := .set #[] 0 (.fresh 0 0 led) } := Heap.get?_push_size _ rfl
      have hT : Shared.TypeIs { s with heap := s.heap.push { cls := .type "set", dict := none, data := .set #[] 0 (.fresh 0 0 led) } } (.ref s.heap.objs.size) "set" := ⟨_, hS, rfl⟩
      have hli := PySem.F.called_set.init.lookup
      have hbi := PySem.F.called_set.init.bind (.ref s.heap.objs.size)
      repeat (any_goals (first | assumption | wp_step))

      refine codeAny_mono (codeAny_call_builtin (R := wants (fun r s₂ => r = .none ∧ ∃ h' tk, s₂ = { s with heap := h', toks := tk } ∧
          HasTo knd val h' s.heap.objs.size items.size ∧
          (∀ b o, b < s.heap.objs.size → s.heap.get? b = some o → h'.get? b = some o)) E) PySem.F.called_set.init.plain PySem.F.entry_set_init (check_set_init_1 hT ?_)) fun r₂ s₂ hr₂ => ?_
      · obtain ⟨ol, hol, hcl, nl, hdl⟩ := hl
        obtain ⟨ocls, odict, odata, oslots⟩ := ol
        simp only at hcl hdl
        subst hcl; subst hdl
        have hol' : (s.heap.push { cls := .type "set", dict := none, data := .set #[] 0 (.fresh 0 0 led) }).get? l = some { cls := .type "list", dict := odict, data := .seq items nl, slots := oslots } := Heap.get?_push_of_some _ hol
        have hsls := PySem.F.sub_list_set
        have hslf := PySem.F.sub_list_frozenset
        have hne : (Value.type "list" == Value.type "dict") = false := by decide
        have hl1 : (s.heap.push { cls := .type "set", dict := none, data := .set #[] 0 (.fresh 0 0 led) }).IsList l items := ⟨_, hol', rfl, nl, rfl⟩
        unfold Builtin.«set.__init__» noKeywords Builtin.Frozenset.updateFrom
        generalize hPI : pyIter = PI
        wp_walk
        subst hPI

        refine wpAny_pyIter_list hl1 ?_
        refine wpAny_bind (wpAny_runValue ?_)
        have hlS : l < s.heap.objs.size := Heap.lt_size hol
        have hh3 : A.in1.in1.in1.handled = none := by simp [hh]
        have hneI : l ≠ (s.heap.push { cls := .type "set", dict := none, data := .set #[] 0 (.fresh 0 0 led) }).objs.size := by
          rw [Heap.size_push]; exact Nat.ne_of_lt (Nat.lt_succ_of_lt hlS)
        have hSf : s.heap.objs.size ∉ [(s.heap.push { cls := .type "set", dict := none, data := .set #[] 0 (.fresh 0 0 led) }).objs.size, l] := by
          rw [Heap.size_push]; simp only [List.mem_cons, List.mem_singleton, List.not_mem_nil, or_false, not_or]
          exact ⟨Nat.ne_of_lt (Nat.lt_succ_self _), Nat.ne_of_gt hlS⟩
        refine loop_has ((Walks.list hh3 _ l hneI items).toS) s.heap.objs.size
          hSf val hi hb (items.size - 0) 0 _ (by omega) (Nat.zero_le _)
          ⟨⟨_, Heap.get?_push_size _ rfl, rfl, rfl⟩, (hl1.push _)⟩ ?hS0 ?hR
        case hS0 =>
          have hget : ((s.heap.push { cls := .type "set", dict := none, data := .set #[] 0 (.fresh 0 0 led) }).push { cls := .type "list_iterator", data := .fields #[.ref l, .int 0 0] }).get? s.heap.objs.size
              = some { cls := .type "set", dict := none, data := .set #[] 0 (.fresh 0 0 led) } := Heap.get?_push_of_some _ hS
          exact setOf_same ((PyProof.Rows.setObjOf_fresh (knd := knd) led).setOf hget (by unfold scanBound; omega)) (fun _ => rfl) rfl
        case hR =>
          intro s' hm hS'
          obtain ⟨h', g', d', tk', os'⟩ := s'
          have eg : g' = s.gens := hm.gens
          have ed : d' = s.drawn := hm.drawn
          have eo : os' = s.os := hm.os
          subst eg; subst ed; subst eo
          show wpAny _ _ _ _ _ _
          refine wpAny_pure ?_
          show wpAny _ _ (ret Value.none) _ _ _
          refine wpAny_pure ⟨rfl, h', tk', rfl, hS', fun b o hb e => ?_⟩
          have hb1 : b ≠ s.heap.objs.size := Nat.ne_of_lt hb
          have hb2 : b ≠ (s.heap.push { cls := .type "set", dict := none, data := .set #[] 0 (.fresh 0 0 led) }).objs.size := by
            rw [Heap.size_push]; exact Nat.ne_of_lt (Nat.lt_succ_of_lt hb)
          exact hm.heap b o (by simp only [List.mem_cons, List.mem_singleton, List.not_mem_nil, or_false, not_or]; exact ⟨hb1, hb2⟩) (Heap.get?_push_of_some _ (Heap.get?_push_of_some _ e))

      · cases r₂ with
        | error e => exact hr₂
        | ok fl₂ =>
          cases fl₂ with
          | ret r =>
            obtain ⟨rfl, h', tk, rfl, hS', hk'⟩ := hr₂
            repeat (any_goals (first | assumption | wp_step))
            exact h _ _ hS' hk'
          | _ => exact hr₂.elim
    | _ => exact hr.elim
end
end PW
end
section
/-! PW: len(set(names)), shifts, comparisons of tuples of numbers, an item of a display by a draw. -/
namespace PW
open PySem PySem.Spec PyProof.Rows L2
/-- how many texts there are, each once -/
def distinct (xs : List Str) : Nat := (metTo (fun i => xs.getD i Str.empty) xs.length).length
theorem strs_get : ∀ {ys : List Str} {us : List Value} {i : Nat} {v : Value}, Vals (ys.map V.str) us → us[i]? = some v → ∃ t, v = .str (ys.getD i Str.empty) t
  | [], _, _, _, .nil, h => by cases h
  | y :: ys, _, 0, v, .cons r t, h => by
    cases h
    obtain ⟨k, rfl⟩ := r
    exact ⟨k, rfl⟩
  | y :: ys, _, i + 1, v, .cons r t, h => by
    obtain ⟨k, e⟩ := strs_get (i := i) t (by simpa using h)
    exact ⟨k, by rw [e]; rfl⟩
def tLenSetS (K : PySem.W.Frag) (ta : TE) : TE := fun σ H Q => ta σ H fun x H1 => ∃ (l : Addr) (xs : List Str), x = .ref l ∧ SqL K H1 l (xs.map V.str) ∧ xs.length ≤ 4000 ∧ Q (.int (distinct xs : Nat)) H1
theorem pe_lenSetS {X : Cx} {a : Expr} {ta : TE} {p p2 q pos : Pos} (hg : Gl X "len") (hm : X.mg "len" = none) (hg2 : Gl X "set") (hm2 : X.mg "set" = none) (ha : PE X a ta) (hc : X.calm = true := by rfl)
    (na : starEach [a] X.env = (false, eval a X.env) :: starEach [] X.env := by rfl) : PE X (.Call (.Name "len" p) [.Call (.Name "set" p2) [a] [] q] [] pos) (tLenSetS X.K ta) := by
  refine ⟨fun pins s σ H Q I h => ?_⟩
  refine Call_ (ld_blt I hg hm boot_len ?_)
  refine PyProof.Rows.callWith_builtin1 (PyProof.Rows.args_cons ?_ rfl) rfl rfl
  refine Call_ (ld_blt I hg2 hm2 boot_set ?_)
  refine PyProof.Rows.callWith_type1 (PyProof.Rows.args_cons (thn (ha.run pins s σ H _ I h) fun v s1 ⟨x, H1, I1, r1, q1⟩ => PyProof.Rows.args_nil ?_) na) na rfl
  obtain ⟨l, xs, rfl, hq, hl, q1⟩ := q1
  cases r1
  obtain ⟨its, r, pl, hz⟩ := I1.list hq
  have hlen : its.toArray.size = xs.length := by rw [List.size_toArray, ← r.length, List.length_map]
  refine call_set_met (knd := PySem.strKind X.prog X.w) (fun i => xs.getD i Str.empty) (I1.ok.hd hc) pl.isList (fun i v hv => ?_) (by rw [hlen]; unfold scanBound; omega) fun h' tk hS hk => ?_
  · obtain ⟨t, rfl⟩ := strs_get r (by simpa using hv)
    exact ⟨strKind_is _ _ _ _, rfl⟩
  · refine PyProof.Rows.args_nil ?_
    rw [hlen] at hS
    have hm := metTo_len (fun i => xs.getD i Str.empty) xs.length
    obtain ⟨o, es, ep, t, ho, hex, hd, _, _, _, hf, hn⟩ := hS
    have I2 : Inv X pins σ H1 { s1 with heap := h', toks := tk } := I1.kept fun b o e => hk b o (Heap.lt_size e) e
    exact call_len_set ho hex hd hf (by rw [hn] <;> omega) ⟨.int (distinct xs : Nat), H1, I2.tok _, ⟨_, by rw [hn]; rfl⟩, q1⟩
theorem met_nodup {xs : List Str} : ∀ i, i ≤ xs.length → ((metTo (fun i => xs.getD i Str.empty) i).length = i ↔ (xs.take i).Nodup) ∧ ∀ x, x ∈ metTo (fun i => xs.getD i Str.empty) i ↔ x ∈ xs.take i
  | 0, _ => ⟨⟨fun _ => by simp, fun _ => rfl⟩, fun x => by simp [metTo]⟩
  | i + 1, hi => by
    have hlt : i < xs.length := hi
    obtain ⟨ih1, ih2⟩ := met_nodup i (Nat.le_of_lt hlt)
    have e1 : xs.getD i Str.empty = xs[i] := by rw [List.getD_eq_getElem?_getD, List.getElem?_eq_getElem hlt]; rfl
    have e2 : xs.take (i + 1) = xs.take i ++ [xs[i]] := by
      rw [List.take_add_one, List.getElem?_eq_getElem hlt]
      rfl
    have hle := metTo_len (fun i => xs.getD i Str.empty) i
    refine ⟨?_, fun x => ?_⟩
    · show (metStep (metTo (fun i => xs.getD i Str.empty) i) (xs.getD i Str.empty)).length = i + 1 ↔ _
      rw [e1, e2]
      unfold metStep
      by_cases h : xs[i] ∈ metTo (fun i => xs.getD i Str.empty) i
      · rw [if_pos h]
        constructor
        · intro z; omega
        · intro z
          have := (List.nodup_append.mp z).2.2 xs[i] ((ih2 _).mp h) xs[i] (List.mem_singleton.mpr rfl)
          exact absurd rfl this
      · rw [if_neg h, List.length_append, List.length_singleton]
        constructor
        · intro z
          refine List.nodup_append.mpr ⟨ih1.mp (by omega), by simp, fun a ha b hb => ?_⟩
          rw [List.mem_singleton.mp hb]
          intro e
          exact h ((ih2 _).mpr (by rw [← e]; exact ha))
        · intro z
          have := ih1.mpr (List.nodup_append.mp z).1
          omega
    · show x ∈ metStep (metTo (fun i => xs.getD i Str.empty) i) (xs.getD i Str.empty) ↔ _
      rw [e1, e2, metStep_mem, ih2, List.mem_append, List.mem_singleton]
theorem distinct_nodup {xs : List Str} : decide ((distinct xs : Int) = (xs.length : Int)) = decide xs.Nodup := by
  have := (met_nodup (xs := xs) xs.length (Nat.le_refl _)).1
  rw [List.take_length] at this
  refine decide_eq_decide.mpr ⟨fun h => this.mp (by unfold distinct at h; omega), fun h => by unfold distinct; rw [this.mpr h]⟩
section
variable {K : PySem.W.Frag} {ρ : List Ent} {k : KE} {te : TE} {kk : Res → Prop} {i j : Int}
theorem ye_lenSet (h : XE K te ρ fun r ρ1 => ∃ xs : List Str, peek ρ1 r = some (.lst (xs.map D.str)) ∧ xs.length ≤ 4000 ∧ k (.d (.int (distinct xs : Nat))) ρ1) : XE K (tLenSetS K te) ρ k := fun F H σ Q E q =>
  h F H σ _ E fun v H1 r ρ1 kp R ⟨xs, px, hl, g⟩ => by
    obtain ⟨a, vs, e, c1, d1⟩ := (R.held.pk R.env px).lst
    have ev : vs = xs.map V.str := by
      clear hl g px c1 e
      revert vs
      induction xs with
      | nil => intro vs d; exact d
      | cons x xs ih =>
        intro vs d
        obtain ⟨w, r, e, h1, h2⟩ := d
        rw [e, show w = V.str x from h1, ih r h2]
        rfl
    subst ev
    exact ⟨a, xs, e, SqL.of c1, hl, q _ H1 (.d (.int (distinct xs : Nat))) ρ1 (hotR.d (hotR.hot kp)) ⟨R.env, rfl⟩ g⟩
theorem hu0 {k : Nat} {A : Around} (r : Room k A) : A.units < cLine := by have := r.units; omega
theorem cpow1 {j : Int} (h0 : 0 ≤ j) (h1 : j ≤ 1000) : CPow 1 j := ⟨h0, by omega, by decide⟩
theorem cmulL {i j : Int} (h0 : -(2 ^ 64) < i) (h1 : i < 2 ^ 64) : CMul i j := .inl ⟨h0, h1⟩
theorem cmulR {i j : Int} (h0 : -(2 ^ 64) < j) (h1 : j < 2 ^ 64) : CMul i j := .inr ⟨h0, h1⟩
theorem pow_cast (a : Nat) : (2 : Int) ^ a = ((2 ^ a : Nat) : Int) := by
  rw [Int.natCast_pow]
  rfl
theorem pow_le8 {a : Nat} (h : a ≤ 8) : 1 ≤ (2 : Int) ^ a ∧ (2 : Int) ^ a ≤ 256 := by
  rw [pow_cast]
  have h1 : 2 ^ a ≤ 2 ^ 8 := Nat.pow_le_pow_right (by decide) h
  have h2 : 1 ≤ 2 ^ a := Nat.one_le_two_pow
  omega
/-! shifts -/
def rShlI : R2 := rI CPow fun i j => .int (i * 2 ^ j.toNat)
def rShrI : R2 := rI (fun _ j => 0 ≤ j) fun i j => .int (i / 2 ^ j.toNat)
theorem op_shlU {X : Cx} : OpR X (binaryOp .LShift) rShlI := op_shl
theorem op_shrU {X : Cx} : OpR X (binaryOp .RShift) rShrI := op_shr
theorem o_shlI (hc : CPow i j) (g : kk (.d (.int (i * 2 ^ j.toNat)))) : OpD K rShlI (.int i) (.int j) kk := opd_val (z := .int (i * 2 ^ j.toNat)) (fun M H u v Q h1 h2 q => ⟨i, j, h1.int, h2.int, hc, q _ rfl⟩) g
theorem o_shrI (hc : 0 ≤ j) (g : kk (.d (.int (i / 2 ^ j.toNat)))) : OpD K rShrI (.int i) (.int j) kk := opd_val (z := .int (i / 2 ^ j.toNat)) (fun M H u v Q h1 h2 q => ⟨i, j, h1.int, h2.int, hc, q _ rfl⟩) g
/-! items by any place -/
theorem o_ixAnyL {ds : List D} (h0 : 0 ≤ i) (h1 : i < (ds.length : Int)) (g : ∀ d, ds[i.toNat]? = some d → kk (.d d)) : OpD K (rIx K) (.lst ds) (.int i) kk := by
  have hl : i.toNat < ds.length := by omega
  refine o_ixL (d := ds[i.toNat]) ?_ (g _ (List.getElem?_eq_getElem hl))
  unfold atI ixN
  rw [if_pos h0, if_pos h1]
  exact List.getElem?_eq_getElem hl
theorem o_ixAnyT {ds : List D} (h0 : 0 ≤ i) (h1 : i < (ds.length : Int)) (g : ∀ d, ds[i.toNat]? = some d → kk (.d d)) : OpD K (rIx K) (.tup ds) (.int i) kk := by
  have hl : i.toNat < ds.length := by omega
  refine o_ixT (d := ds[i.toNat]) ?_ (g _ (List.getElem?_eq_getElem hl))
  unfold atI ixN
  rw [if_pos h0, if_pos h1]
  exact List.getElem?_eq_getElem hl
/-! pairs of numbers by <= -/
def rLeU (K : PySem.W.Frag) : R2 := fun x y H Q => rLeI x y H Q ∨ rLeT K x y H Q
theorem op_leV {X : Cx} (hu : X.A.units < cLine) : OpR X (compareOp .LtE) (rLeU X.K) := op_le.or (op_leT hu)
def pairLe (a b c d : Int) : Bool := if a = c then decide (b ≤ d) else decide (a ≤ c)
theorem o_leUI (g : kk (.d (.bl (decide (i ≤ j))))) : OpD K (rLeU K) (.int i) (.int j) kk := opd_val (z := .bl (decide (i ≤ j))) (fun M H u v Q h1 h2 q => .inl ⟨i, j, h1.int, h2.int, q _ rfl⟩) g
theorem o_leP {a b c d : Int} (g : kk (.d (.bl (pairLe a b c d)))) : OpD K (rLeU K) (.tup [.int a, .int b]) (.tup [.int c, .int d]) kk := opd_val (z := .bl (pairLe a b c d)) (fun M H u v Q h1 h2 q => by
  obtain ⟨p, vs, rfl, c1, d1⟩ := h1.tup
  obtain ⟨p2, ws, rfl, c2, d2⟩ := h2.tup
  have e1 : vs = [a, b].map V.int := ints_inv (ns := [a, b]) d1
  have e2 : ws = [c, d].map V.int := ints_inv (ns := [c, d]) d2
  subst e1 e2
  refine .inr ⟨p, p2, [a, b], [c, d], rfl, rfl, c1, c2, ?_⟩
  have e : Ob.lexAt (fun j => decide (([a, b] : List Int).getD j 0 = ([c, d] : List Int).getD j 0)) (fun j => decide (([a, b] : List Int).getD j 0 ≤ ([c, d] : List Int).getD j 0)) (decide (([a, b] : List Int).length ≤ ([c, d] : List Int).length)) 0 (min ([a, b] : List Int).length ([c, d] : List Int).length) = pairLe a b c d := by
    unfold pairLe
    by_cases h1 : a = c
    · by_cases h2 : b = d
      · simp [Ob.lexAt, h1, h2]
      · simp [Ob.lexAt, h1, h2]
    · simp [Ob.lexAt, h1]
  rw [e]
  exact q _ rfl) g
end
end PW
end
section
/-! PWDct: dict comprehensions with keys of any kind that a dict may have (tuples too). -/
namespace PW
open PySem PySem.Spec PyProof.Rows L2
section
variable {X : Cx} {pins : List (Addr × Obj)} {σ : L2.St} {H : Hp} {s : Shared}
/-- the store of a comprehension -/
theorem d_storeG {E : Value → Shared → Prop} {A : Around} {D : Addr} {y v : V} {u r : Value} {H' : Hp} {Q : Unit → Shared → Prop} (hu : A.units + 1 < cLine) (I : Inv X pins σ H s) (g : DPut H D y v H') (ry : RelV y u) (rv : RelV v r) (h : ∀ s', Inv X pins σ H' s' → Q () s') :
    wpAny (model X.prog X.w) A (dictSet D u r) Q E s := by
  rcases g with ⟨kvs, k, e, ey, l, eH⟩ | ⟨kvs, k, b, e, ey, eb, l, eH⟩
  · obtain ⟨z, hd, vs, rel, dd⟩ := dk_of I.hok e
    rw [ey] at ry
    rw [eH] at h
    have fit : (putK kvs k v).length ≤ sizeLine := Nat.le_trans (length_putK kvs k v) l
    refine wpAny_dictSet_pairs (hsz := by rw [← rel.length]; exact z) (kV_is ry) dd fun hp d2 same => h _ (d_write I (by rw [e]; exact True.intro) same ?_ (dk_new fit hd (rel.put k rv) d2))
    obtain ⟨q, _, _, hq, _⟩ := d2
    exact ⟨q, hq⟩
  · obtain ⟨z, hd, xs, rel, dd⟩ := dt_of I.hok e
    rw [eH] at h
    have fit : (putK kvs k v).length ≤ sizeLine := Nat.le_trans (length_putK kvs k v) l
    have eu : u = Value.ref b := by rw [ey] at ry; exact ry
    rw [eu]
    refine wpAny_dictSet_heap (hsz := by rw [← Paired.length rel]; exact z) (Nat.lt_of_succ_lt hu) (key_of I.hok eb) dd fun hp d2 same => h _ ?_
    obtain ⟨q, es, ep, hq, g2, g3, g4, _, g5⟩ := d2
    refine d_write I (by rw [e]; exact True.intro) same ⟨q, hq⟩ ⟨fit, hd, _, (rel.put k eb rv).keeps fun c ys ec => (?_ : upd H D _ c = _), q, es, ep, hq, g2, g3, g4, g5⟩
    exact (upd_ne (ne_of ec e fun z => nomatch z)).trans ec
/-- {k: v for target in iter if ..}: o0 is the empty dict as its keys are told -/
def tDcG (o0 : HO) (wi : TI) (g : TG) (tt : TT) (tk tv : TE) (vs : List Nat) : TE := fun σ H Q => wi σ H fun J H1 => ∀ D, H1 D = none → ∃ W : Nat → Nat → Hp → Prop, (∃ m, W 0 m (upd H1 D o0)) ∧ ∀ i m H, W i m H → (J.stop i H ∧ Q (.ref D) H) ∨ (J.go i H ∧ ∃ N : Hp → Prop,
  (∀ H', N H' → ∃ m', m' < m ∧ W (i + 1) m' H') ∧ ∀ x H', J.yld i H x H' → g x (wipe σ vs) H' fun σ2 H2 => wipe σ2 vs = wipe σ vs ∧ tt σ2 H2 fun b H3 => if b = true then tk σ2 H3 fun y H4 => tv σ2 H4 fun z H5 => ∃ H6, DPut H5 D y z H6 ∧ N H6 else N H3)
end
section
variable {Y : Cx} {tg kx vx : Expr} {ifs : List Expr} {J : It} {fp : List Addr} {it D : Addr} {tn : Nat → Heap → Prop} {g : TG} {tt : TT} {tk tv : TE} {σ0 : L2.St} {vs : List Nat} {R : Hp → Prop} {W : Nat → Nat → Hp → Prop}
/-- what holds between two turns of the block -/
def Mid (Y : Cx) (σ0 : L2.St) (tn : Nat → Heap → Prop) (fp : List Addr) (W : Nat → Nat → Hp → Prop) (n : Nat) (s : Shared) : Prop := ∃ i H, Inv Y [] σ0 H s ∧ tn i s.heap ∧ (∀ b ∈ fp, H b = none) ∧ W i n H
/-- one turn -/
theorem mid_turn {E : Value → Shared → Prop} {F : Shared → Prop} (hu : Y.A.units + 1 < cLine) (hc : Y.calm = true) (T : Turn Y.prog Y.w Y.K tg J fp it tn) (pg : PG Y tg g) (pt : PTs Y ifs tt) (pk : PE Y kx tk) (pv : PE Y vx tv) (hxe : Y.xe = fun _ _ => False)
    (own : ∀ (σ : L2.St) (H : Hp) (s : Shared), Inv Y [] σ H s → (∀ b ∈ fp, H b = none) → ∀ b ∈ fp, FpOk Y [] H b) (hw : wipe σ0 vs = σ0)
    (turn : ∀ i m H, W i m H → (J.stop i H ∧ R H) ∨ (J.go i H ∧ ∃ N : Hp → Prop, (∀ H', N H' → ∃ m', m' < m ∧ W (i + 1) m' H') ∧ ∀ x H', J.yld i H x H' → g x σ0 H' fun σ2 H2 => wipe σ2 vs = σ0 ∧ tt σ2 H2 fun b H3 =>
      if b = true then tk σ2 H3 fun y H4 => tv σ2 H4 fun z H5 => ∃ H6, DPut H5 D y z H6 ∧ N H6 else N H3))
    (fin : ∀ H s, Inv Y [] σ0 H s → R H → F s) (n : Nat) (s : Shared) (h : Mid Y σ0 tn fp W n s) :
    wpAny (model Y.prog Y.w) Y.A (pyNext (.ref it)) (fun r s1 => match r with
      | none => F s1
      | some v => wpAny (model Y.prog Y.w) Y.A (letOwnedTupleGo tg (.ref it) v) (fun _ s2 => wpAny (model Y.prog Y.w) Y.A (assign tg Y.env v) (fun _ s3 =>
          wpAny (model Y.prog Y.w) Y.A (forIn ifs true fun c r => if r = true then do let ok ← isTrue c Y.env (eval c Y.env); pure (ForInStep.yield ok) else pure (ForInStep.yield r)) (fun ok s4 =>
            if ok = true then wpAny (model Y.prog Y.w) Y.A (eval kx Y.env) (fun kv s5 => wpAny (model Y.prog Y.w) Y.A (eval vx Y.env) (fun vv s6 => wpAny (model Y.prog Y.w) Y.A (dictSet D kv vv) (fun _ s7 => ∃ m, m < n ∧ Mid Y σ0 tn fp W m s7) E s6) E s5) E s4
            else ∃ m, m < n ∧ Mid Y σ0 tn fp W m s4) E s3) E s2) E s1) E s := by
  obtain ⟨i, H, I, st, off, w⟩ := h
  have quiet : ∀ {α : Type} {t : Sem α} {Q Q' : α → Shared → Prop} {s : Shared}, wpAny (model Y.prog Y.w) Y.A t Q Y.xe s → (∀ a s, Q a s → Q' a s) → wpAny (model Y.prog Y.w) Y.A t Q' E s := fun z q => by
    rw [hxe] at z
    exact thnF z q
  rcases turn i n H w with ⟨halt, r⟩ | ⟨go, N, less, each⟩
  · refine thnF (T.done Y rfl rfl rfl hc i [] s _ H (fun _ _ => False) I (own _ _ _ I off) st halt) fun res s1 ⟨e, I1⟩ => ?_
    rw [e]
    exact fin H s1 I1 r
  refine thnF (T.item Y rfl rfl rfl hc i [] s _ H (fun _ _ => False) I (own _ _ _ I off) st go) fun res s1 ⟨u, e, hu1⟩ => ?_
  rw [e]
  refine thnF hu1 fun _ s2 ⟨x, H2, I2, rx, yx, st2, off2⟩ => ?_
  have kept := T.obj _ _ st2
  -- from here the walk's own objects are held fast
  refine quiet (pg.run _ s2 _ H2 x u _ (I2.pinned (own _ _ _ I2 off2) kept) rx (each x H2 yx)) fun _ s3 ⟨σ3, H3, I3, w3, q3⟩ => ?_
  have ends : ∀ {s' : Shared} {H' : Hp}, Inv Y ([] ++ pinsAt fp s2.heap) σ3 H' s' → N H' → ∃ m, m < n ∧ Mid Y σ0 tn fp W m s' := fun {s' H'} J' nx => by
    obtain ⟨m, lt, w'⟩ := less H' nx
    have fast : ∀ b ∈ fp, ∀ o, s2.heap.get? b = some o → s'.heap.get? b = some o ∧ H' b = none := fun b hb o z => by
      have p := J'.pin (b, o) (List.mem_append_right _ (List.mem_append_right _ (mem_pinsAt hb z)))
      exact ⟨p.1, p.2.1⟩
    refine ⟨m, lt, i + 1, H', (J'.unpinned (pins := [])).weak (by rw [← w3, wipe_length]) fun j v z => ?_, T.keep _ _ _ st2 fun b hb o z => (fast b hb o z).1, fun b hb => ?_, w'⟩
    · rw [← w3] at z
      exact (wipe_some z).1
    · obtain ⟨o, z, _⟩ := kept b hb
      exact (fast b hb o z).2
  refine quiet (pt.run _ s3 σ3 H3 _ I3 q3) fun ok s4 ⟨H4, I4, q4⟩ => ?_
  dsimp only at q4
  by_cases hk : ok = true
  · rw [if_pos hk] at q4 ⊢
    refine quiet (pk.run _ s4 σ3 H4 _ I4 q4) fun kv s5 ⟨y, H5, I5, ry, q5⟩ => ?_
    refine quiet (pv.run _ s5 σ3 H5 _ I5 q5) fun vv s6 ⟨z, H6, I6, rz, H7, put, nx⟩ => ?_
    exact d_storeG hu I6 put ry rz fun s7 I7 => ends I7 nx
  · rw [if_neg hk] at q4 ⊢
    exact ends I4 q4
end
section
variable {X : Cx}
theorem wipe_in {i : Nat} : ∀ {vs : List Nat} {σ : L2.St}, i ∈ vs → (wipe σ vs)[i]? = if i < σ.length then some none else none
  | j :: vs, σ, h => by
    show ((wipe σ vs).set j none)[i]? = _
    by_cases e : j = i
    · rw [e, List.getElem?_set_self', ← wipe_length σ vs]
      by_cases z : i < (wipe σ vs).length
      · rw [if_pos z, List.getElem?_eq_getElem z]
        rfl
      · rw [if_neg z, List.getElem?_eq_none (Nat.le_of_not_lt z)]
        rfl
    · rw [List.getElem?_set_ne e]
      exact wipe_in ((List.mem_cons.mp h).resolve_left fun z => e z.symm)
theorem wipe_wipe (σ : L2.St) (vs : List Nat) : wipe (wipe σ vs) vs = wipe σ vs := by
  apply List.ext_getElem?
  intro i
  by_cases h : i ∈ vs
  · rw [wipe_in h, wipe_in h, wipe_length]
  · rw [wipe_out h]
/-- a dict comprehension as a value -/
theorem pe_dcG {o0 : HO} {kx vx tg iter : Expr} {ifs : List Expr} {scope : Scope} {own : List (Str × Nat)} {pos : Pos} {wi : TI} {g : TG} {tt : TT} {tk tv : TE} (ho : o0 = .dK [] ∨ o0 = .dT []) (hu : X.A.units + 1 < cLine) (hc : X.calm = true) (hN : X.N.Nodup) (hi : PI X tg iter wi)
    (ok : BlkOk X.N X.env.scope scope own) (hg : ∀ (s : Shared) (H : Hp) (C : Addr) (cl : List (Str × Addr)) (fp : List Addr), PG (X.blk s H scope (compEnvC scope cl C X.env) fp) tg g)
    (ht : ∀ (s : Shared) (H : Hp) (C : Addr) (cl : List (Str × Addr)) (fp : List Addr), PTs (X.blk s H scope (compEnvC scope cl C X.env) fp) ifs tt) (hk : ∀ (s : Shared) (H : Hp) (C : Addr) (cl : List (Str × Addr)) (fp : List Addr), PE (X.blk s H scope (compEnvC scope cl C X.env) fp) kx tk)
    (he : ∀ (s : Shared) (H : Hp) (C : Addr) (cl : List (Str × Addr)) (fp : List Addr), PE (X.blk s H scope (compEnvC scope cl C X.env) fp) vx tv) (hs : ∀ x, foldedSetIterable iter X.env x = pure x := by intro _; rfl) :
    PE X (.DictComp kx vx [⟨tg, iter, ifs, 0⟩] scope pos) (tDcG o0 wi g tt tk tv (own.map (·.2))) := by
  refine ⟨fun pins s σ H Q I h => ?_⟩
  rw [arm_eval_DictComp]
  have clo : ∀ y ∈ scope.names, y.2 = .free → ∃ c, X.env.cells.lookup y.1 = some c := fun y hy e => (ok.free y hy e).elim (fun k => I.ok.has _ (.inl k)) fun k => I.ok.has _ (.inr k)
  refine wpAny_comprehension_free rfl hs (closure_ok clo) ok.kind (fun y hy e => by rw [ok.uniq y hy, e]) (thn (hi.run pins s σ H _ I h) fun xv s1 hx => thn hx fun itv s2 ⟨it, fp, tn, J, H2, e, I2, T, st2, f2, q⟩ => ?_)
  rw [e]
  refine wpAny_newObj_type (newEnv_comp ?_)
  obtain ⟨W, ⟨m0, w0⟩, turn⟩ := q s2.heap.objs.size (I2.hok.fresh (Nat.le_refl _))
  have fit : ∀ b ∈ fp, b < s2.heap.objs.size := fun b hb => Exists.elim (T.obj _ _ st2 b hb) fun o z => Heap.lt_size z.1
  -- the empty dict is laid
  have J3 : Inv X pins σ (upd H2 s2.heap.objs.size o0) { s2 with heap := s2.heap.push { cls := .type "dict", data := .dict #[] } } := by
    refine I2.laid (t' := s2.toks) (fun b o z => Heap.get?_push_of_some _ z) (Nat.le_refl _) ?_
    rcases ho with z | z <;> rw [z]
    · exact dk_empty s2.heap I2.big
    · exact dt_empty s2.heap I2.big
  have off : ∀ b ∈ fp, upd H2 s2.heap.objs.size o0 b = none := fun b hb => (upd_ne (Nat.ne_of_lt (fit b hb))).trans (f2 b hb).1
  have big : ∀ b ∈ fp, b < (s2.heap.push { cls := .type "dict", data := .dict #[] }).objs.size := fun b hb => by
    rw [Heap.size_push]
    exact Nat.lt_succ_of_lt (fit b hb)
  have J4 := block_start J3 ok hN fun b hb => ⟨⟨off b hb, (f2 b hb).2⟩, big b hb⟩
  have st3 : tn 0 (s2.heap.push { cls := .type "dict", data := .dict #[] }) := T.keep _ _ _ st2 fun b _ o z => Heap.get?_push_of_some _ z
  generalize hH3 : upd H2 s2.heap.objs.size o0 = H3 at J3 J4 off w0
  generalize hD : s2.heap.objs.size = D at turn
  generalize hp3 : s2.heap.push { cls := .type "dict", data := .dict #[] } = p3 at J3 J4 st3 big
  generalize hce : compEnvC scope (cellsFrom (p3.objs.size + 1) scope.names (cloFrom X.env.cells scope.names [])) p3.objs.size X.env = ce at J4
  have pg := hg { s2 with heap := p3 } H3 p3.objs.size (cellsFrom (p3.objs.size + 1) scope.names (cloFrom X.env.cells scope.names [])) fp
  have pt := ht { s2 with heap := p3 } H3 p3.objs.size (cellsFrom (p3.objs.size + 1) scope.names (cloFrom X.env.cells scope.names [])) fp
  have pk := hk { s2 with heap := p3 } H3 p3.objs.size (cellsFrom (p3.objs.size + 1) scope.names (cloFrom X.env.cells scope.names [])) fp
  have pv := he { s2 with heap := p3 } H3 p3.objs.size (cellsFrom (p3.objs.size + 1) scope.names (cloFrom X.env.cells scope.names [])) fp
  rw [hce] at pg pt pk pv
  have cl : ce.locals = p3.objs.size := by rw [← hce] <;> rfl
  have st4 : tn 0 (pushCells (p3.push { cls := .type "dict", data := .dict #[] }) scope.names) := T.keep _ _ _ st3 fun b _ o z => pushCells_keeps _ _ _ _ (Heap.get?_push_of_some _ z)
  have ownF : ∀ (σ' : L2.St) (H' : Hp) (s' : Shared), Inv (X.blk { s2 with heap := p3 } H3 scope ce fp) [] σ' H' s' → (∀ b ∈ fp, H' b = none) → ∀ b ∈ fp, FpOk (X.blk { s2 with heap := p3 } H3 scope ce fp) [] H' b := fun σ' H' s' J' hn b hb =>
    ⟨hn b hb, (J'.ok.exf b hb).1, J'.ok.exfs b hb, .inl hb, (fun x c z => (J'.ok.exf b hb).2 x c z), fun p hp => (List.not_mem_nil (show p ∈ ([] : List (Addr × Obj)) from hp)).elim⟩
  refine (fun loop => ?_) (compLoop_anyD (prog := X.prog) (w := X.w) (A := X.A) (R := compPost (model X.prog X.w) X.A X.xe none (EP X pins σ Q) (.ref D) p3.objs.size) (pos := pos) (scope := scope) (iter := iter) (it := .ref it)
    (Mid (X.blk { s2 with heap := p3 } H3 scope ce fp) (wipe σ (own.map (·.2))) tn fp W)
    (mid_turn (Y := X.blk { s2 with heap := p3 } H3 scope ce fp) (σ0 := wipe σ (own.map (·.2))) (vs := own.map (·.2)) (R := fun H' => Q (.ref D) H') hu hc T pg pt pk pv rfl ownF (wipe_wipe _ _) turn
      (fun H' s' J' q' => ?_)) m0 ⟨0, H3, J4, st4, off, w0⟩)
  · subst hce
    exact codeAny_compStart_dict loop (T.self X.A 0 _ _ _ st4 loop)
  · have K7 : Inv X pins σ H' s' := J3.call' (ch := fp) J'.os J'.base J'.hok J'.bare fun b hb => ⟨(f2 b hb).2.2.2.1, (f2 b hb).2.1, (f2 b hb).2.2.2.2.1, (f2 b hb).2.2.2.2.2⟩
    obtain ⟨m, hn, _⟩ := J'.loc
    have hn : s'.heap.Ns p3.objs.size m := by
      have z : s'.heap.Ns ce.locals m := hn
      rw [cl] at z
      exact z
    have nC : H' p3.objs.size = none := by
      have z : H' ce.locals = none := J'.free
      rw [cl] at z
      exact z
    obtain ⟨f0, f1, _, f3, f4, f5⟩ := J3.fpOk (Nat.le_refl _) nC
    exact ⟨m, hn, fun h2 same => ⟨.ref D, H', K7.turned (t' := s'.toks) (fun b o hb z => (same.2 b hb).trans z) f0 f1 f3 f4 f5, rfl, q'⟩⟩
end
end PW
end
section
/-! PWDc: dicts whose keys are tuples, as data: made by a comprehension, asked, read. -/
namespace PW
open PySem PySem.Spec PyProof.Rows L2
/-- a key as data -/
def keyO : Key → D
  | .inl i => .int i
  | .inr x => .str x
def keyD (k : List Key) : D := .tup (k.map keyO)
theorem key_vals {M : Addr → Prop} {K : PySem.W.Frag} {H : Hp} : ∀ {k : List Key} {vs : List V}, DaAll M K H vs (k.map keyO) → vs = k.map kV
  | [], vs, h => h
  | .inl i :: k, vs, h => by
    obtain ⟨v, r, e, h1, h2⟩ := h
    rw [e, show v = .int i from h1, key_vals h2]
    rfl
  | .inr x :: k, vs, h => by
    obtain ⟨v, r, e, h1, h2⟩ := h
    rw [e, show v = .str x from h1, key_vals h2]
    rfl
theorem key_at {M : Addr → Prop} {K : PySem.W.Frag} {H : Hp} {v : V} {k : List Key} (h : Pk M K H v (keyD k)) : ∃ b, v = .ref b ∧ H b = some (.tup (k.map kV)) := by
  rcases h with h | ⟨p, _, _, h⟩
  · obtain ⟨a, vs, e, c, d⟩ := h
    exact ⟨a, e, by rw [← key_vals d]; exact c.2⟩
  · exact (show False from h).elim
theorem valV_fresh {kvs : List (List Key × V)} {k : List Key} (h : k ∉ kvs.map (·.1)) : valV kvs k = none := by
  induction kvs with
  | nil => rfl
  | cons p r ih =>
    have h1 : p.1 ≠ k := fun e => h (by rw [← e]; exact List.mem_cons_self)
    have h2 : k ∉ r.map (·.1) := fun e => h (List.mem_cons_of_mem _ e)
    have := ih h2
    simp only [valV, List.find?_cons, h1, decide_false] at this ⊢
    exact this
section
variable {K : PySem.W.Frag} {ρ : List Ent} {tk tv : TE} {wi : TI} {g : TG} {vs : List Nat} {k : KE}
/-- {tk: tv for x in ..}, its keys all different -/
theorem xe_dc (hsl : OwnSlots g vs) (hww : ∀ σ : L2.St, wipe (wipe σ vs) vs = wipe σ vs)
    (h : XI K wi ρ fun ds ρ1 => ds.length < sizeLine ∧ ∃ (kf : D → List Key) (vf : D → D), (ds.map kf).Nodup ∧
      (∀ d, d ∈ ds → XG K g d (wipeE ρ1 vs) fun ρ2 => wipeE ρ2 vs = wipeE ρ1 vs ∧ XE K tk ρ2 fun r1 ρ3 => XE K tv ρ3 fun r2 ρ4 => peek ρ4 r1 = some (keyD (kf d)) ∧ peek ρ4 r2 = some (vf d) ∧ frz ρ4 r2 = ρ2) ∧
      k (.nw (.dct (ds.map kf) (ds.map vf))) (wipeE ρ1 vs)) : XE K (tDcG (.dT []) wi g tYes tk tv vs) ρ k := fun F H σ Q E q => by
  refine h F H σ _ E fun J H1 ρ1 ds W kp E1 Gv w0 ⟨hsz, kf, vf, hnd, step, fin⟩ Dl hD => ?_
  have h0 := h0_none E1 hD
  have hh : ∀ a, F.hd = some a → F.H0 a ≠ none := fun a e => (E1.hand a e).2.1
  have agr : ∀ {F' : Fr} {H' : Hp}, Env K F' H' σ ρ1 → Env K F' H' (wipe σ vs) (wipeE ρ1 vs) ∧ ∀ b, hot F' (wipe σ vs) (wipeE ρ1 vs) b → hot F' σ ρ1 b := fun e => e.agree (wipeE_len _ _) (wipe_length _ _) fun i e he => by
    rcases wipeE_get he with q | ⟨q1, q2⟩
    · exact .inl q
    · exact .inr ⟨q1, wipe_get q2⟩
  have agb : ∀ {F' : Fr} {H' : Hp}, Env K F' H' (wipe σ vs) (wipeE ρ1 vs) → Env K F' H' σ (wipeE ρ1 vs) ∧ ∀ b, hot F' σ (wipeE ρ1 vs) b → hot F' (wipe σ vs) (wipeE ρ1 vs) b := fun e => e.agree rfl (wipe_length _ _).symm fun i e he => by
    rcases wipeE_get he with q | ⟨q1, q2⟩
    · exact .inl q
    · exact .inr ⟨he, (wipe_get q2).symm⟩
  have A1 := agr E1
  let Z : Nat → Hp → Prop := fun i H' => i ≤ ds.length ∧ Env K (F.push Dl) H' (wipe σ vs) (wipeE ρ1 vs) ∧ OwnAt (hot (F.push Dl) (wipe σ vs) (wipeE ρ1 vs)) K H' Dl (.dct ((ds.take i).map kf) ((ds.take i).map vf)) ∧
    W (hot (F.push Dl) (wipe σ vs) (wipeE ρ1 vs)) H' ∧ Keep (hot F σ ρ1) H1 (hot (F.push Dl) (wipe σ vs) (wipeE ρ1 vs)) H'
  have e0 : Ext H1 (upd H1 Dl (.dT [])) := Ext.new hD
  have E1p : Env K (F.push Dl) (upd H1 Dl (.dT [])) (wipe σ vs) (wipeE ρ1 vs) := A1.1.push hD e0 (by rw [upd_same]; trivial)
  have pushless : ∀ b, hot (F.push Dl) (wipe σ vs) (wipeE ρ1 vs) b → hot F σ ρ1 b ∨ b = Dl := fun b hb => by
    rcases hb with hb | hb
    · rcases hb with hb | hb
      · exact .inl (.inl hb)
      · exact .inr hb
    · exact .inl (A1.2 b (.inr hb))
  have k0 : Keep (hot F σ ρ1) H1 (hot (F.push Dl) (wipe σ vs) (wipeE ρ1 vs)) (upd H1 Dl (.dT [])) := fun b o n e => ⟨fun z => (pushless b z).elim n fun z => (by rw [z, hD] at e; cases e), e0 b o e⟩
  have z0 : Z 0 (upd H1 Dl (.dT [])) := ⟨Nat.zero_le _, E1p, ⟨[], upd_same, rfl, rfl⟩, Gv.keep _ _ _ _ w0 k0, k0⟩
  refine ⟨fun i m H' => m = ds.length - i ∧ Z i H', ⟨ds.length, rfl, z0⟩, ?_⟩
  rintro i m H' ⟨rfl, hi, E', ho, w', k'⟩
  by_cases hlt : i < ds.length
  · have hd : ds[i]? = some ds[i] := by simp [hlt]
    have hm : ds[i] ∈ ds := List.getElem_mem hlt
    have htake : ds.take (i + 1) = ds.take i ++ [ds[i]] := by rw [List.take_succ, hd]; rfl
    refine .inr ⟨Gv.go _ _ i w' hlt, Z (i + 1), fun H2 z => ⟨ds.length - (i + 1), by omega, rfl, z⟩, fun x H2 y => ?_⟩
    obtain ⟨ex, hx⟩ := Gv.yld _ _ i x H2 _ (hot_tr E') w' hd y
    have k2 : Keep (hot (F.push Dl) (wipe σ vs) (wipeE ρ1 vs)) H' (hot (F.push Dl) (wipe σ vs) (wipeE ρ1 vs)) H2 := Keep.ext ex
    have w2 := Gv.keep _ _ _ _ w' k2
    obtain ⟨us, hDl, hks, dacc⟩ := ho
    have hD2 := ex _ _ hDl
    have E2 := (E'.ex ex).pin h0 hD2
    have dacc2 := dacc.mono k2
    have go := step _ hm (F.pin Dl (.dT us)) H2 (wipe σ vs) x
    have conv := hsl (wipe σ vs) x H2 (fun σ2 H2 => tYes σ2 H2 fun b H3 => if b = true then tk σ2 H3 fun y H4 => tv σ2 H4 fun z H5 => ∃ H6, DPut H5 Dl y z H6 ∧ Z (i + 1) H6 else Z (i + 1) H3)
    rw [hww] at conv
    refine conv (go _ E2 hx fun σ3 ρ3 k3 E3 ⟨hwe, body⟩ hws => ?_)
    have agc : ∀ {F' : Fr} {H' : Hp}, Env K F' H' σ3 ρ3 → Env K F' H' (wipe σ vs) (wipeE ρ1 vs) ∧ ∀ b, hot F' (wipe σ vs) (wipeE ρ1 vs) b → hot F' σ3 ρ3 b := fun e => e.agree (by rw [← hwe, wipeE_len]) (by rw [← hws, wipe_length]) fun i e he => by
      rw [← hwe] at he
      rcases wipeE_get he with q | ⟨q1, q2⟩
      · exact .inl q
      · exact .inr ⟨q1, by rw [← hws]; exact wipe_get q2⟩
    have nd : F.hd ≠ some Dl := fun z => (hh Dl z) h0
    show tk σ3 H2 fun y H4 => tv σ3 H4 fun z H5 => ∃ H6, DPut H5 Dl y z H6 ∧ Z (i + 1) H6
    refine body (F.pin Dl (.dT us)) H2 σ3 _ E3 fun y H4 r1 ρ4 k4 R4 h2 => h2 (F.pin Dl (.dT us)) H4 σ3 _ R4.env fun z H5 r2 ρ5 k5 R5 ⟨p1, p2, hf⟩ => ?_
    obtain ⟨b, eb, hb⟩ := key_at ((R4.held.keep (hotR.hot k5)).pk R5.env p1)
    obtain ⟨E5, d5⟩ := R5.frz p2
    have kf5 := keep_frz (r := r2) R5.env
    rw [hf] at E5 d5 kf5
    have k45 := ((hotR.hot k4).trans (hotR.hot k5)).trans kf5
    have hD5 : H5 Dl = some (.dT us) := E5.go Dl _ nd upd_same
    have hul : us.length = i := by
      have e := congrArg List.length hks
      rw [List.length_map, List.length_map, List.length_take] at e
      omega
    have hfresh : kf ds[i] ∉ us.map (·.1) := by
      rw [hks]
      intro hmem
      have h2 : (ds.take (i + 1)).map kf = (ds.take i).map kf ++ [kf ds[i]] := by rw [htake, List.map_append]; rfl
      have h3 : ((ds.take (i + 1)).map kf).Nodup := hnd.sublist ((List.take_sublist _ _).map kf)
      rw [h2] at h3
      exact (List.nodup_append.mp h3).2.2 _ hmem _ (List.mem_singleton.mpr rfl) rfl
    refine ⟨upd H5 Dl (.dT (us ++ [(kf ds[i], z)])), ?_, ?_⟩
    · rw [eb]
      have e := putK_new (kvs := us) (k := kf ds[i]) z (valV_fresh hfresh)
      rw [← e]
      exact DPut.t hD5 hb (by omega)
    · obtain ⟨E6, less⟩ := agc E5
      have E7 := (E6.unpin (pk_none E1 h0) h0 hh).poke (o := .dT (us ++ [(kf ds[i], z)])) h0
      have hDh : hot (F.pin Dl (.dT us)) σ3 ρ3 Dl := .inl (.inr rfl)
      have k6 : Keep (hot (F.pin Dl (.dT us)) σ3 ρ3) H5 (hot (F.push Dl) (wipe σ vs) (wipeE ρ1 vs)) (upd H5 Dl (.dT (us ++ [(kf ds[i], z)]))) := fun b o n e => ⟨fun z => n (less b z), by rw [upd_ne fun z => n (by rw [z]; exact hDh)]; exact e⟩
      have k3' : Keep (hot (F.push Dl) (wipe σ vs) (wipeE ρ1 vs)) H2 (hot (F.pin Dl (.dT us)) σ3 ρ3) H2 := k3
      have kk := (k3'.trans k45).trans k6
      refine ⟨hlt, E7, ⟨us ++ [(kf ds[i], z)], upd_same, ?_, ?_⟩, Gv.keep _ _ _ _ w2 kk, (k'.trans k2).trans kk⟩
      · rw [htake, List.map_append, List.map_append, hks]
        rfl
      · rw [htake, List.map_append, List.map_append]
        exact (((dacc2.mono k3).mono k45).append (DaAll.one d5)).mono k6
  · have e : i = ds.length := by omega
    subst e
    refine .inl ⟨Gv.stop _ _ _ w' (Nat.le_refl _), ?_⟩
    rw [List.take_length] at ho
    have Eb := agb E'
    refine q _ H' (.nw (.dct (ds.map kf) (ds.map vf))) _ ?_ ⟨Dl, rfl, h0, fun z => ?_, Eb.1, ho.mono (fun b o n e => ⟨fun z => n (Eb.2 b z), e⟩) fun _ z => z⟩ fin
    · intro b o n e
      obtain ⟨q1, q2⟩ := kp b o n e
      obtain ⟨q3, q4⟩ := k' b o q1 q2
      refine ⟨fun z => ?_, q4⟩
      rcases z with z | ⟨_, z⟩
      · exact q3 (Eb.2 b (by
          rcases z with z | z
          · exact .inl (.inl z)
          · exact .inr z))
      · cases z
        exact q3 (.inl (.inr rfl))
    · have q : hot F σ ρ1 Dl := by
        rcases z with z | ⟨j, e, h1, h2⟩
        · exact .inl z
        · rcases wipeE_get h1 with q | ⟨q1, q2⟩
          · rw [q] at h2; exact (show False from h2).elim
          · exact .inr ⟨j, e, q1, h2⟩
      exact (E1.hotTrk Dl q).ne hD
end
/-! ### a key asked for, a value read -/
def rInK : R2 := fun y x H Q => ∃ a o, x = .ref a ∧ DGet H a y o ∧ Q (.bl o.isSome) H
def rNotInK : R2 := fun y x H Q => ∃ a o, x = .ref a ∧ DGet H a y o ∧ Q (.bl (!o.isSome)) H
theorem op_inK {X : Cx} (hu : X.A.units + 1 < cLine) : OpR X (compareOp .In) rInK := by
  intro pins s σ H x y v u Q I rx ry h
  obtain ⟨a, o, e, g, q⟩ := h
  subst e
  cases ry
  exact d_in hu I g rx fun s' I' => ⟨.bl _, H, I', rfl, q⟩
theorem op_notInK {X : Cx} (hu : X.A.units + 1 < cLine) : OpR X (compareOp .NotIn) rNotInK := by
  intro pins s σ H x y v u Q I rx ry h
  obtain ⟨a, o, e, g, q⟩ := h
  subst e
  cases ry
  exact d_notIn hu I g rx fun s' I' => ⟨.bl _, H, I', rfl, q⟩
/-- what a dict's data has at a key -/
def dget (ks : List (List Key)) (xs : List D) (k : List Key) : Option D := match ks, xs with
  | a :: ks, x :: xs => if a = k then some x else dget ks xs k
  | _, _ => none
theorem valV_get {M : Addr → Prop} {K : PySem.W.Frag} {H : Hp} {k : List Key} : ∀ {kvs : List (List Key × V)} {xs : List D}, DaAll M K H (kvs.map (·.2)) xs →
    (∀ x, dget (kvs.map (·.1)) xs k = some x → ∃ v, valV kvs k = some v ∧ Da M K H v x) ∧ (dget (kvs.map (·.1)) xs k = none → valV kvs k = none)
  | [], xs, h => by
    have e : xs = [] := by
      cases xs with
      | nil => rfl
      | cons d ds => obtain ⟨v, r, e, _⟩ := h; cases e
    subst e
    exact ⟨fun x z => (by cases z), fun _ => rfl⟩
  | p :: r, [], h => by cases (show List.map (·.2) (p :: r) = [] from h)
  | p :: r, d :: ds, h => by
    obtain ⟨v, w, e, h1, h2⟩ := h
    cases e
    have ih := valV_get (k := k) h2
    by_cases z : p.1 = k
    · have e1 : dget ((p :: r).map (·.1)) (d :: ds) k = some d := if_pos z
      rw [e1]
      exact ⟨fun x q => ⟨p.2, valV_pos z, by cases q; exact h1⟩, fun q => by cases q⟩
    · have e1 : dget ((p :: r).map (·.1)) (d :: ds) k = dget (r.map (·.1)) ds k := if_neg z
      have e2 : valV (p :: r) k = valV r k := by simp [valV, List.find?_cons, z]
      rw [e1, e2]
      exact ih
theorem pk_dct {M : Addr → Prop} {K : PySem.W.Frag} {H : Hp} {v : V} {ks : List (List Key)} {xs : List D} (h : Pk M K H v (.dct ks xs)) : ∃ a kvs, v = .ref a ∧ H a = some (.dT kvs) ∧ kvs.map (·.1) = ks ∧ DaAll M K H (kvs.map (·.2)) xs := by
  rcases h with h | ⟨p, e, _, h⟩
  · obtain ⟨a, kvs, e, _, h1, h2, h3⟩ := h
    exact ⟨a, kvs, e, h1, h2, h3⟩
  · obtain ⟨kvs, h1, h2, h3⟩ := h
    exact ⟨p, kvs, e, h1, h2, h3⟩
section
variable {K : PySem.W.Frag} {ρ : List Ent} {td ty te : TE} {k : KE} {ks : List (List Key)} {xs : List D} {q : List Key} {kk : Res → Prop}
theorem get_some {M : Addr → Prop} {H : Hp} {u v : V} (h1 : Pk M K H u (keyD q)) (h2 : Pk M K H v (.dct ks xs)) : ∃ a o, v = .ref a ∧ DGet H a u o ∧ o.isSome = (dget ks xs q).isSome := by
  obtain ⟨b, eb, hb⟩ := key_at h1
  obtain ⟨a, kvs, ea, ha, hk, hx⟩ := pk_dct h2
  subst eb
  refine ⟨a, valV kvs q, ea, DGet.t ha hb, ?_⟩
  obtain ⟨g1, g2⟩ := valV_get (k := q) hx
  rw [hk] at g1 g2
  cases e : dget ks xs q with
  | none =>
    rw [g2 e]
    rfl
  | some x =>
    obtain ⟨w, e2, _⟩ := g1 x e
    rw [e2]
    rfl
theorem o_inK (g : kk (.d (.bl (dget ks xs q).isSome))) : OpD K rInK (keyD q) (.dct ks xs) kk := opd_val (z := .bl (dget ks xs q).isSome) (fun M H u v Q h1 h2 fin => by
  obtain ⟨a, o, ea, hg, ho⟩ := get_some h1 h2
  exact ⟨a, o, ea, hg, fin _ (by rw [ho]; rfl)⟩) g
theorem o_notInK (g : kk (.d (.bl (!(dget ks xs q).isSome)))) : OpD K rNotInK (keyD q) (.dct ks xs) kk := opd_val (z := .bl (!(dget ks xs q).isSome)) (fun M H u v Q h1 h2 fin => by
  obtain ⟨a, o, ea, hg, ho⟩ := get_some h1 h2
  exact ⟨a, o, ea, hg, fin _ (by rw [ho]; rfl)⟩) g
theorem xe_dget (h : XE K td ρ fun r1 ρ1 => XE K ty ρ1 fun r2 ρ2 => ∃ ks xs q x, peek ρ2 r1 = some (.dct ks xs) ∧ peek ρ2 r2 = some (keyD q) ∧ dget ks xs q = some x ∧ k (.d x) ρ2) : XE K (tDGet td ty) ρ k := fun F H σ Q E fin =>
  h F H σ _ E fun v H1 r1 ρ1 kp R1 h2 => h2 F H1 σ _ R1.env fun u H2 r2 ρ2 kp2 R2 ⟨ks, xs, q, x, p1, p2, e, g⟩ => by
    obtain ⟨b, eb, hb⟩ := key_at (R2.held.pk R2.env p2)
    obtain ⟨a, kvs, ea, ha, hk, hx⟩ := pk_dct ((R1.held.keep (hotR.hot kp2)).pk R2.env p1)
    subst eb
    obtain ⟨g1, _⟩ := valV_get (k := q) hx
    rw [hk] at g1
    obtain ⟨w, e2, hw⟩ := g1 x e
    refine ⟨a, w, ea, ?_, fin w H2 (.d x) ρ2 (hotR.d ((hotR.hot kp).trans (hotR.hot kp2))) ⟨R2.env, hw⟩ g⟩
    rw [← e2]
    exact DGet.t ha hb
/-- a field of an instance -/
def fget (ns : List Str) (xs : List D) (f : Str) : Option D := match ns, xs with
  | a :: ns, x :: xs => if f = a then some x else fget ns xs f
  | _, _ => none
theorem fld_get {M : Addr → Prop} {H : Hp} {f : Str} : ∀ {fs : List (Str × V)} {xs : List D} {x : D}, DaAll M K H (fs.map (·.2)) xs → fget (fs.map (·.1)) xs f = some x → ∃ v, fs.lookup f = some v ∧ Da M K H v x
  | [], xs, x, _, e => by cases xs <;> cases e
  | p :: r, [], x, _, e => by cases e
  | p :: r, d :: ds, x, h, e => by
    obtain ⟨v, w, e1, h1, h2⟩ := h
    cases e1
    obtain ⟨p1, p2⟩ := p
    have e : (if f = p1 then some d else fget (r.map (·.1)) ds f) = some x := e
    by_cases z : f = p1
    · rw [if_pos z] at e
      cases e
      exact ⟨p2, by simp [List.lookup, z], h1⟩
    · rw [if_neg z] at e
      obtain ⟨v, e2, e3⟩ := fld_get h2 e
      refine ⟨v, ?_, e3⟩
      have z2 : (f == p1) = false := by simpa using z
      simp [List.lookup, z2, e2]
theorem xe_fld {f : Str} (h : XE K te ρ fun r ρ1 => ∃ C ns xs x, peek ρ1 r = some (.obj C ns xs) ∧ Cls K C ∧ NoAttr K C f ∧ fget ns xs f = some x ∧ k (.d x) ρ1) : XE K (tFld K te f) ρ k := fun F H σ Q E fin =>
  h F H σ _ E fun v H1 r ρ1 kp R1 ⟨C, ns, xs, x, p, hc, hn, e, g⟩ => by
    rcases R1.held.pk R1.env p with h | ⟨a, ea, _, dx, fs, h1, h2, h3⟩
    · obtain ⟨a, dx, fs, ea, _, h1, h2, h3⟩ := h
      rw [← h2] at e
      obtain ⟨w, e1, e2⟩ := fld_get h3 e
      exact ⟨a, C, dx, fs, w, ea, h1, hc, hn, e1, fin w H1 (.d x) ρ1 (hotR.d (hotR.hot kp)) ⟨R1.env, e2⟩ g⟩
    · rw [← h2] at e
      obtain ⟨w, e1, e2⟩ := fld_get h3 e
      exact ⟨a, C, dx, fs, w, ea, h1, hc, hn, e1, fin w H1 (.d x) ρ1 (hotR.d (hotR.hot kp)) ⟨R1.env, e2⟩ g⟩
end
end PW
end
section
/-! PWTree: what is never reached; methods of instances as data; sorted ints; the lesser of two. -/
namespace PW
open PySem PySem.Spec PyProof.Rows L2
/-- a statement that is never reached -/
def tDead : TS := fun _ _ _ => False
theorem ps_dead {X : Cx} {st : Stmt} : PS X st tDead := ⟨fun _ _ _ _ _ _ h => (show False from h).elim⟩
def rMin2 : List V → Hp → VK → Prop := fun xs H Q => ∃ i j, xs = [.int i, .int j] ∧ Q (.int (if j < i then j else i)) H
section
variable {K : PySem.W.Frag} {ρ : List Ent} {te : TE} {k : KE} {i j : Int} {kk : Res → Prop} {C : Addr} {m : Str} {w : WF} {E : XK}
theorem xs_dead {Φ : Post} (h : False) : XS K tDead ρ Φ := h.elim
theorem c_min2 (g : kk (.d (.int (if j < i then j else i)))) : CaD K rMin2 [.int i, .int j] kk := fun M H us Q tr hl h q => by
  match us, hl with
  | [u, v], _ =>
    have h1 : u = .int i := (h 0 u (.int i) rfl rfl).int
    have h2 : v = .int j := (h 1 v (.int j) rfl rfl).int
    exact ⟨i, j, by rw [h1, h2], q _ H (.d (.int (if j < i then j else i))) (Ext.refl H) rfl g⟩
theorem lookup_none {m : Str} : ∀ {fs : List (Str × V)}, (fs.map (·.1)).contains m = false → fs.lookup m = none
  | [], _ => rfl
  | p :: r, h => by
    obtain ⟨p1, p2⟩ := p
    have h : ((m == p1) || (r.map (·.1)).contains m) = false := h
    obtain ⟨h1, h2⟩ := Bool.or_eq_false_iff.mp h
    simp [List.lookup, h1, lookup_none h2]
/-- o.m(), o an instance as data -/
theorem xe_mt0 (h : XE K te ρ fun r ρ1 => ∃ ns xs, peek ρ1 r = some (.obj C ns xs) ∧ ns.contains m = false ∧ ∃ ρ2, frz ρ1 r = ρ2 ∧ w [.obj C ns xs] fun z => k z ρ2) : XE K (tMeth C m (spW K w) [] E te tNil) ρ k := fun F H σ Q E0 q =>
  h F H σ _ E0 fun v H1 r ρ1 kp R1 ⟨ns, xs, p, hn, ρ2, e, g⟩ => by
    obtain ⟨E2, d2⟩ := R1.frz p
    have k2 := keep_frz (r := r) R1.env
    rw [e] at E2 d2 k2
    obtain ⟨a, dx, fs, ea, hM, h1, h2, h3⟩ := id d2
    refine ⟨a, dx, fs, ea, h1, lookup_none (by rw [h2]; exact hn), ?_⟩
    refine ⟨_, [.obj C ns xs], _, hot_tr E2, ⟨v, [], rfl, d2, rfl⟩, g, fun v2 H' r2 ex hr kr => q v2 H' r2 _ (hotR.res ((hotR.hot kp).trans k2) ex hr) (ResV.rv E2 ex hr) kr⟩
end
end PW
end
section
/-! PWTry: try .. except C as n: .., further clauses, where all that is raised is of the first clause. -/
namespace PW
open PySem PySem.Spec PyProof.Rows L2
/-- how the suite of a named clause ends: the name is gone -/
def Ends.less (D : Ends) (i : Nat) : Ends := ⟨fun σ H => D.nx (σ.set i none) H, D.rt, fun σ H => D.bk (σ.set i none) H, fun σ H => D.ct (σ.set i none) H⟩
def wFirst (K : PySem.W.Frag) (c : Value) (i : Nat) (ts : Addr → Value → Option Addr → TS) (D : Ends) : WX := fun cls d σ H => PySem.W.exmOne K cls c = some true ∧ ∀ a, H a = none → ts a cls d (Ends.less D i) (σ.set i (some (.ref a))) H
section
variable {X : Cx} {x n : Str} {c : Value} {i : Nat} {body suite : List Stmt} {b1 : Stmt} {hds : List ExceptHandler} {np pos pos' : Pos} {tb : WX → TS} {ts : Addr → Value → Option Addr → TS}
theorem ps_try_first (hs : X.stack = X.env :: X.outer) (hf : X.env.frame = some X.env.locals) (hN : X.N.Nodup) (hi : X.N[i]? = some n) (hln : X.env.kindOf n = some .local) (hc : Names X x c)
    (hb : ∀ (W : WX) (pn : List (Addr × Obj)) (xe : Value → Shared → Prop), Takes (X.tr pn xe) W → PassesOwn (model X.prog X.w) X.A X.env xe → PSs (X.tr pn xe) body (tb W))
    (hsu : ∀ (a : Addr) (oe : Obj) (cls : Value) (d : Option Addr) (pn : List (Addr × Obj)), Zc cls d oe → (∃ vs, oe.data = .fields vs) → PSs (X.suite a ((a, oe) :: pn)) (b1 :: suite) (ts a cls d)) :
    PS X (.Try body (.ExceptHandler (some (.Name x np)) (some n) (b1 :: suite) pos' :: hds) [] [] pos) (fun D σ H => tb (wFirst X.K c i ts D) D σ H) := by
  refine ⟨fun pins s σ H D I0 h => ?_⟩
  have k0 := I0.ok
  have fr0 : X.A.frames = some (X.env :: X.outer) := k0.frames.trans (congrArg some hs)
  have hbody := (hb (wFirst X.K c i ts D) (X.pn ++ pins) (fun e s1 => wpAny (model X.prog X.w) X.A (noteFrame e X.env) (fun _ s2 => wpAny (model X.prog X.w) X.A (setFlight e none) (fun _ s3 =>
    wpAny (model X.prog X.w) X.A (handleBy e X.env (.ExceptHandler (some (.Name x np)) (some n) (b1 :: suite) pos' :: hds)) (SP X pins D) X.xe s3) X.xe s2) X.xe s1) (fun u s' caught => ?_) PassesOwn.looking).run [] s σ H D (I0.toTry _) h
  · refine wpAny_Try_except (wpAny_mono hbody (fun fl s1 e1 => ?_) fun _ _ z => z)
    cases fl with
    | next => obtain ⟨σ1, H1, J1, q1⟩ := e1; exact wpAny_execs_nil ⟨σ1, H1, J1.ofTry k0, q1⟩
    | brk => obtain ⟨σ1, H1, J1, q1⟩ := e1; exact ⟨σ1, H1, J1.ofTry k0, q1⟩
    | cont => obtain ⟨σ1, H1, J1, q1⟩ := e1; exact ⟨σ1, H1, J1.ofTry k0, q1⟩
    | ret u => obtain ⟨v1, σ1, H1, J1, r1, q1⟩ := e1; exact ⟨v1, σ1, H1, J1.ofTry k0, r1, q1⟩
  · obtain ⟨a, B, sI, pins1, σ1, H1, cls, d, rfl, J0, nb, up, sky, na, os, ag, isC, go⟩ := caught
    have J1 : Inv X pins σ1 H1 sI := J0.ofTry k0
    rw [hs] at sky
    show wpAny (model X.prog X.w) X.A (noteFrame (.ref a) X.env) _ _ s'
    refine Sky.land Zc.steady fr0 hf sky fun h3 fl3 up3 => ?_
    have J3 := (J1.landed (s' := { s' with heap := h3 }) nb fl3.1 (up.trans up3) os ag : Inv X pins σ1 H1 { s' with heap := h3 })
    obtain ⟨oe3, vs3, e3, z3, d3⟩ := fl3.there
    have far : a ∉ frs (X.env :: X.outer) := fun hm => by
      obtain ⟨_, o', e', hnf⟩ := fl3.2.2.1.mem hm
      rw [e3] at e'
      cases e'
      exact hnf _ d3
    have far1 : a ≠ X.env.locals := fun z => far (List.mem_filterMap.mpr ⟨X.env, List.mem_cons_self, by rw [hf, z]⟩)
    have far2 : a ∉ X.fs := fun hm => by
      obtain ⟨w1, w2, w3⟩ := List.mem_filterMap.mp hm
      exact far (List.mem_filterMap.mpr ⟨w1, List.mem_cons_of_mem _ w2, w3⟩)
    have S3 := J3.suite e3 d3 na far1 far2
    refine wpAny_handleBy_cons (codeAny_handlers_test ?_) (fun q => nomatch q)
    have lt : PySem.W.Looks (model X.prog X.w) h3 (typeOf (.ref a)) cls := fun _ _ _ _ k q => wpAny_typeOf_ref (k _ _ e3) (by rw [z3.1]; exact q)
    have named : ∀ {Q : Value → Shared → Prop} {E : Value → Shared → Prop}, Q c { s' with heap := h3 } → wpAny (model X.prog X.w) (X.A.mark (some (.ref a))) (eval (.Name x np) X.env) Q E { s' with heap := h3 } := fun {Q E} q => by
      rcases hc with ⟨hg, hdbg, hm | ⟨hm, hv, hnn⟩⟩
      · exact ld_glob (X := X.suite a ((a, oe3) :: (X.pn ++ pins))) S3 hg hm q hdbg
      · exact ld_blt (X := X.suite a ((a, oe3) :: (X.pn ++ pins))) S3 hg hm hv q hnn hdbg
    refine named ((PySem.W.exm_one (M := model X.prog X.w) J3.kIn lt isC).here ?_)
    refine codeAny_handlers_suite_as (HandSPX.lands_againZ fl3 fun h4 fl4 up4 => ?_)
    have J4 := (J1.landed (s' := { s' with heap := h4 }) nb fl4.1 ((up.trans up3).trans up4) os ag : Inv X pins σ1 H1 { s' with heap := h4 })
    obtain ⟨oe4, vs4, e4, z4, d4⟩ := fl4.there
    have S4 := J4.suite e4 d4 na far1 far2
    refine store_ok (X := X.suite a ((a, oe4) :: (X.pn ++ pins))) (v := .ref a) S4 hN hi (.inl hln) rfl (fun s5 S5 => ?_) (.inr hln)
    refine wpAny_mono ((hsu a oe4 cls d (X.pn ++ pins) z4 ⟨_, d4⟩).run [] s5 _ H1 _ S5 (go a na)) (fun fl s6 e6 => ?_) (fun _ _ z => z.elim)
    have leave : ∀ {σ6 : L2.St} {H6 : Hp} {Q : Shared → Prop}, Inv (X.suite a ((a, oe4) :: (X.pn ++ pins))) [] σ6 H6 s6 → (∀ s7, Inv X pins (σ6.set i none) H6 s7 → Q s7) →
        wpAny (model X.prog X.w) X.A (do bindName X.env n .none; unbindBehindTheSuite X.env n pos') (fun _ s7 => Q s7) X.xe s6 := fun S6 hq => gone_ok (S6.unsuite k0) hN hi hln hq
    cases fl with
    | next => obtain ⟨σ6, H6, S6, q6⟩ := e6; exact leave S6 fun s7 J7 => ⟨_, _, J7, q6⟩
    | brk => obtain ⟨σ6, H6, S6, q6⟩ := e6; exact leave S6 fun s7 J7 => ⟨_, _, J7, q6⟩
    | cont => obtain ⟨σ6, H6, S6, q6⟩ := e6; exact leave S6 fun s7 J7 => ⟨_, _, J7, q6⟩
    | ret u => obtain ⟨v6, σ6, H6, S6, r6, q6⟩ := e6; exact leave S6 fun s7 J7 => ⟨_, _, _, J7, r6, q6⟩
end
/-! ### == of an own class -/
section
variable {X : Cx} {k : Nat} {C f : Addr} {fd : FuncData} {ps : List Str} {sp : Sp}
/-- a == b by a's own __eq__, b an instance of the class or a tuple -/
def rEqOwn (K : PySem.W.Frag) (C : Addr) (sp : Sp) : R2 := fun x y H Q => ∃ a dx fs b, x = .ref a ∧ H a = some (.ins C dx fs) ∧ y = .ref b ∧ ((∃ dy gs, H b = some (.ins C dy gs)) ∨ ∃ ys, SqT K H b ys) ∧
  sp [x, y] H (fun v H' => ∃ c, v = .bl c ∧ Q v H') (fun _ _ _ => False)
theorem op_eqOwn (F : FnOk X.prog X.w X.K X.mg X.base CX0 k f fd ps sp) (hr : Room k X.A) (hs : PySem.W.findIn X.K (.ref C) "__eq__" = some (some (.ref f))) (hf : PySem.W.isFn X.K (.ref f) = true) (hb : Binds X.K fd ps [])
    (nt : PySem.W.notFirst X.K C (.type "tuple") = true) : OpR X (compareOp .Eq) (rEqOwn X.K C sp) := by
  intro pins s σ H x y u v Q I rx ry hq
  obtain ⟨a, dx, fs, b, rfl, ha, rfl, hy, hsp⟩ := hq
  cases rx
  cases ry
  obtain ⟨mA, J, _⟩ := ins_get I.hok ha
  obtain ⟨od, J, _⟩ := J.look
  obtain ⟨m, hF⟩ := I.fr
  have two : Vals [V.ref a, V.ref b] [Value.ref a, Value.ref b] := .cons rfl (.cons rfl .nil)
  have fin : wpAny (model X.prog X.w) X.A (call (.ref f) [.ref a, .ref b]) (PySem.W.CmpBack (EP X pins σ Q)) X.xe s := by
    refine wpAny_mono (run_fn (ds := []) (dvs := []) (E := fun _ _ _ => False) F hr hb .nil (fun _ _ _ _ _ _ _ z => z.elim) I two hsp) (fun w s' hw => ?_) fun _ _ z => z
    obtain ⟨z, H', I', rz, c, ez, q⟩ := hw
    subst ez
    cases rz
    exact ⟨.bl c, H', I', rfl, q⟩
  show wpAny (model X.prog X.w) X.A (richCompare .Eq (.ref a) (.ref b)) (EP X pins σ Q) X.xe s
  rcases hy with ⟨dy, gs, hb2⟩ | ⟨ys, hq2⟩
  · obtain ⟨mB, J2, _⟩ := ins_get I.hok hb2
    obtain ⟨od2, J2, _⟩ := J2.look
    exact PySem.W.cmp_K (op := .Eq) (tb := .ref C) hr.units0 hF I.ok.mod.kin J J2.type (by simp [PySem.W.notFirst]) hs hf fin
  · obtain ⟨its, rv, ⟨o, ho, hc, _⟩, hz⟩ := I.tuple hq2
    exact PySem.W.cmp_K (op := .Eq) (tb := .type "tuple") hr.units0 hF I.ok.mod.kin J (fun _ _ _ _ k q => wpAny_typeOf_ref (k _ _ ho) (by rw [hc]; exact q)) nt hs hf fin
end
end PW
end
section
/-! PWTryM: try with several clauses, named ones and others; raising an own error without a field; contracts that may raise. -/
namespace PW
open PySem PySem.Spec PyProof.Rows L2
/-- a clause: its class, the slot of its name, its suite -/
abbrev Cla := Value × Option Nat × (Addr → Value → Option Addr → TS)
def wMix (K : PySem.W.Frag) (Wout : WX) (D : Ends) : List Cla → WX
  | [] => Wout
  | (c, none, ts) :: r => fun cls d σ H => ∃ b, PySem.W.exmOne K cls c = some b ∧ (b = true → ∀ a, H a = none → ts a cls d D σ H) ∧ (b = false → wMix K Wout D r cls d σ H)
  | (c, some i, ts) :: r => fun cls d σ H => ∃ b, PySem.W.exmOne K cls c = some b ∧ (b = true → ∀ a, H a = none → ts a cls d (Ends.less D i) (σ.set i (some (.ref a))) H) ∧ (b = false → wMix K Wout D r cls d σ H)
inductive HdsM (X : Cx) : List ExceptHandler → List Cla → Prop
  | nil : HdsM X [] []
  | cons {x : Str} {c : Value} {ts : Addr → Value → Option Addr → TS} {b₀ : Stmt} {suite : List Stmt} {np pos' : Pos} {hds : List ExceptHandler} {l : List Cla} (hc : Names X x c)
      (hsu : ∀ (a : Addr) (oe : Obj) (cls : Value) (d : Option Addr) (pn : List (Addr × Obj)), Zc cls d oe → (∃ vs, oe.data = .fields vs) → PSs (X.suite a ((a, oe) :: pn)) (b₀ :: suite) (ts a cls d)) (r : HdsM X hds l) :
      HdsM X (.ExceptHandler (some (.Name x np)) none (b₀ :: suite) pos' :: hds) ((c, none, ts) :: l)
  | named {x n : Str} {i : Nat} {c : Value} {ts : Addr → Value → Option Addr → TS} {b₀ : Stmt} {suite : List Stmt} {np pos' : Pos} {hds : List ExceptHandler} {l : List Cla} (hN : X.N.Nodup) (hi : X.N[i]? = some n) (hln : X.env.kindOf n = some .local) (hc : Names X x c)
      (hsu : ∀ (a : Addr) (oe : Obj) (cls : Value) (d : Option Addr) (pn : List (Addr × Obj)), Zc cls d oe → (∃ vs, oe.data = .fields vs) → PSs (X.suite a ((a, oe) :: pn)) (b₀ :: suite) (ts a cls d)) (r : HdsM X hds l) :
      HdsM X (.ExceptHandler (some (.Name x np)) (some n) (b₀ :: suite) pos' :: hds) ((c, some i, ts) :: l)
section
variable {X : Cx} {body : List Stmt} {h₀ : ExceptHandler} {hds : List ExceptHandler} {l : List Cla} {pos : Pos} {tb : WX → TS} {Wout : WX}
theorem ps_try_mix (hs : X.stack = X.env :: X.outer) (hf : X.env.frame = some X.env.locals) (tk : Takes X Wout)
    (hb : ∀ (W : WX) (pn : List (Addr × Obj)) (xe : Value → Shared → Prop), Takes (X.tr pn xe) W → PassesOwn (model X.prog X.w) X.A X.env xe → PSs (X.tr pn xe) body (tb W))
    (hh : HdsM X (h₀ :: hds) l) : PS X (.Try body (h₀ :: hds) [] [] pos) (fun D σ H => tb (wMix X.K Wout D l) D σ H) := by
  refine ⟨fun pins s σ H D I h => ?_⟩
  have ok := I.ok
  have hfr : X.A.frames = some (X.env :: X.outer) := by rw [ok.frames, hs]
  refine wpAny_Try_except ?_
  refine wpAny_mono ((hb (wMix X.K Wout D l) (X.pn ++ pins) (fun e s₁ => wpAny (model X.prog X.w) X.A (noteFrame e X.env) (fun _ s₂ => wpAny (model X.prog X.w) X.A (setFlight e none) (fun _ s₃ =>
    wpAny (model X.prog X.w) X.A (handleBy e X.env (h₀ :: hds)) (SP X pins D) X.xe s₃) X.xe s₂) X.xe s₁) (fun u s' xx => ?_) PassesOwn.looking).run [] s σ H D (I.toTry _) h) (fun f s1 hsp => ?_) (fun e s1 he => he)
  · obtain ⟨a, B, sI, pins', σ', H', cls, d, rfl, J', nb, up, sky, na, os, ag, w⟩ := xx
    have J : Inv X pins σ' H' sI := J'.ofTry ok
    have sky' : Sky B (X.env :: X.outer) a (Zc cls d) X.env.locals s'.heap := by rw [← hs]; exact sky
    show wpAny (model X.prog X.w) X.A (noteFrame (.ref a) X.env) _ _ _
    refine Sky.land Zc.steady hfr hf sky' fun h3 fl3 up3 => ?_
    have J3 : Inv X pins σ' H' { s' with heap := h3 } := J.landed nb fl3.1 (up.trans up3) os ag
    obtain ⟨oe3, vs3, he3, hz3, hd3⟩ := fl3.there
    have notFr : ∀ {h : Heap} {o : Obj} {vs : Array Value}, h.FunFrames B (X.env :: X.outer) → h.get? a = some o → o.data = .fields vs → a ∉ frs (X.env :: X.outer) := fun {h o vs} ff e dd hm => by
      obtain ⟨_, o', e', hnf⟩ := ff.mem hm
      rw [e] at e'; cases e'
      exact hnf _ dd
    have nfr := notFr fl3.2.2.1 he3 hd3
    have nL : a ≠ X.env.locals := fun z => nfr (List.mem_filterMap.mpr ⟨X.env, List.mem_cons_self, by rw [hf, z]⟩)
    have nF : a ∉ X.fs := fun hm => by
      obtain ⟨e, he, q⟩ := List.mem_filterMap.mp hm
      exact nfr (List.mem_filterMap.mpr ⟨e, List.mem_cons_of_mem _ he, q⟩)
    have S3 := J3.suite he3 hd3 na nL nF
    have LT : PySem.W.Looks (model X.prog X.w) h3 (typeOf (.ref a)) cls := fun A Q E s k q => wpAny_typeOf_ref (k _ _ he3) (by rw [hz3.1]; exact q)
    have test : ∀ {x : Str} {c : Value} {np : Pos} {Q : Value → Shared → Prop} {E : Value → Shared → Prop}, Names X x c → Q c { s' with heap := h3 } → wpAny (model X.prog X.w) (X.A.mark (some (.ref a))) (eval (.Name x np) X.env) Q E { s' with heap := h3 } := fun {x c np Q E} hc q => by
      obtain ⟨hg, hdbg, hm | ⟨hm, hv, hnn⟩⟩ := hc
      · exact ld_glob (X := X.suite a ((a, oe3) :: (X.pn ++ pins))) S3 hg hm q hdbg
      · exact ld_blt (X := X.suite a ((a, oe3) :: (X.pn ++ pins))) S3 hg hm hv q hnn hdbg
    have go : ∀ {hds' : List ExceptHandler} {l' : List Cla}, HdsM X hds' l' → wMix X.K Wout D l' cls d σ' H' →
        wpAny (model X.prog X.w) X.A (handleBy (.ref a) X.env hds') (SP X pins D) X.xe { s' with heap := h3 } := by
      intro hds' l' hk
      induction hk with
      | nil =>
        intro w
        refine wpAny_handleBy_nil ?_
        obtain ⟨k1, k2, k3, oe, vs, T, oT, ts', he, hz, hd, h1, hr⟩ := id fl3
        unfold PySem.passOn
        refine wpAny_bind (wpAny_field he hd h1 ?_)
        rw [if_neg (show ¬ ((Value.ref T == Value.none) = true) from by simp)]
        have fin : wpAny (model X.prog X.w) X.A (setFlight (.ref a) X.env.frame) (fun _ s4 => wpAny (model X.prog X.w) X.A (throw (.ref a) : Sem Flow) (SP X pins D) X.xe s4) X.xe { s' with heap := h3 } := by
          rw [hf]
          refine HandSPX.setFlight_upZ fl3 fun h4 hh4 up4 => wpAny_throw (tk _ _ ?_)
          exact ⟨a, B, sI, pins, σ', H', cls, d, rfl, J, nb, (up.trans up3).trans up4, .inr (.inr (by rw [hs]; exact hh4)), na, os, ag, w⟩
        first
          | exact wpAny_bind (wpAny_pure (wpAny_bind fin))
          | exact wpAny_bind fin
      | @cons x c ts b₀ suite np pos' hds2 l2 hc hsu r ih =>
        intro w
        obtain ⟨b, hb1, hyes, hno⟩ := w
        refine wpAny_handleBy_cons (codeAny_handlers_test ?_) (by intro q; cases q)
        have LM := PySem.W.exm_one (M := model X.prog X.w) (J3.kIn) LT hb1
        refine test hc (LM.here ?_)
        cases b with
        | true =>
          refine codeAny_handlers_suite ?_
          refine HandSPX.lands_againZ fl3 fun h4 fl4 up4 => ?_
          have J4 : Inv X pins σ' H' { s' with heap := h4 } := J.landed nb fl4.1 ((up.trans up3).trans up4) os ag
          obtain ⟨oe4, vs4, he4, hz4, hd4⟩ := fl4.there
          have S4 := J4.suite he4 hd4 na nL nF
          refine wpAny_mono ((hsu a oe4 cls d (X.pn ++ pins) hz4 ⟨_, hd4⟩).run [] _ _ H' _ S4 (hyes rfl a na)) (fun f s6 hsp => ?_) (fun _ _ z => False.elim z)
          cases f with
          | next =>
            obtain ⟨σ6, H6, S6, q6⟩ := hsp
            exact ⟨_, _, S6.unsuite ok, q6⟩
          | brk =>
            obtain ⟨σ6, H6, S6, q6⟩ := hsp
            exact ⟨_, _, S6.unsuite ok, q6⟩
          | cont =>
            obtain ⟨σ6, H6, S6, q6⟩ := hsp
            exact ⟨_, _, S6.unsuite ok, q6⟩
          | ret u =>
            obtain ⟨v6, σ6, H6, S6, r6, q6⟩ := hsp
            exact ⟨_, _, _, S6.unsuite ok, r6, q6⟩
        | false =>
          show wpAny _ X.A (handleBy (.ref a) X.env hds2) _ _ _
          exact ih (hno rfl)
      | @named x n i c ts b₀ suite np pos' hds2 l2 hN hi hln hc hsu r ih =>
        intro w
        obtain ⟨b, hb1, hyes, hno⟩ := w
        refine wpAny_handleBy_cons (codeAny_handlers_test ?_) (by intro q; cases q)
        have LM := PySem.W.exm_one (M := model X.prog X.w) (J3.kIn) LT hb1
        refine test hc (LM.here ?_)
        cases b with
        | true =>
          refine codeAny_handlers_suite_as (HandSPX.lands_againZ fl3 fun h4 fl4 up4 => ?_)
          have J4 : Inv X pins σ' H' { s' with heap := h4 } := J.landed nb fl4.1 ((up.trans up3).trans up4) os ag
          obtain ⟨oe4, vs4, he4, hz4, hd4⟩ := fl4.there
          have S4 := J4.suite he4 hd4 na nL nF
          refine store_ok (X := X.suite a ((a, oe4) :: (X.pn ++ pins))) (v := .ref a) S4 hN hi (.inl hln) rfl (fun s5 S5 => ?_) (.inr hln)
          refine wpAny_mono ((hsu a oe4 cls d (X.pn ++ pins) hz4 ⟨_, hd4⟩).run [] s5 _ H' _ S5 (hyes rfl a na)) (fun fl s6 e6 => ?_) (fun _ _ z => z.elim)
          have leave : ∀ {σ6 : L2.St} {H6 : Hp} {Q : Shared → Prop}, Inv (X.suite a ((a, oe4) :: (X.pn ++ pins))) [] σ6 H6 s6 → (∀ s7, Inv X pins (σ6.set i none) H6 s7 → Q s7) →
              wpAny (model X.prog X.w) X.A (do bindName X.env n .none; unbindBehindTheSuite X.env n pos') (fun _ s7 => Q s7) X.xe s6 := fun S6 hq => gone_ok (S6.unsuite ok) hN hi hln hq
          cases fl with
          | next => obtain ⟨σ6, H6, S6, q6⟩ := e6; exact leave S6 fun s7 J7 => ⟨_, _, J7, q6⟩
          | brk => obtain ⟨σ6, H6, S6, q6⟩ := e6; exact leave S6 fun s7 J7 => ⟨_, _, J7, q6⟩
          | cont => obtain ⟨σ6, H6, S6, q6⟩ := e6; exact leave S6 fun s7 J7 => ⟨_, _, J7, q6⟩
          | ret u => obtain ⟨v6, σ6, H6, S6, r6, q6⟩ := e6; exact leave S6 fun s7 J7 => ⟨_, _, _, J7, r6, q6⟩
        | false =>
          show wpAny _ X.A (handleBy (.ref a) X.env hds2) _ _ _
          exact ih (hno rfl)
    exact go hh w
  · cases f with
    | next =>
      obtain ⟨σ', H', J', q⟩ := hsp
      exact wpAny_execs_nil ⟨σ', H', J'.ofTry ok, q⟩
    | brk =>
      obtain ⟨σ', H', J', q⟩ := hsp
      exact ⟨σ', H', J'.ofTry ok, q⟩
    | cont =>
      obtain ⟨σ', H', J', q⟩ := hsp
      exact ⟨σ', H', J'.ofTry ok, q⟩
    | ret u =>
      obtain ⟨v, σ', H', J', r, q⟩ := hsp
      exact ⟨v, σ', H', J'.ofTry ok, r, q⟩
end
/-! ### raise C(), C an own error without a field -/
section
variable {X : Cx} {C : Addr} {x : Str}
theorem pmk_own0 {bmB : List Value} {B newId initId : String} {p pos : Pos} (F : ExcBaseFacts B newId initId bmB) (q : PySem.W.excIn X.K C bmB newId = true) (gC : X.mg x = some (.ref C)) (kC : PySem.W.keepIn X.K (.ref C) = true) (r : Raises X (.ref C)) (hg : Gl X x)
    (hdb : (x == ("__debug__" : Str)) = false := by decide) : PMk X (.Call (.Name x p) [] [] pos) (fun _ H Q => Q (.ref C) none H) := by
  intro pins s σ H Q I h
  refine wpAny_Call_Name_kw (ld_glob I hg gC ?_ hdb)
  refine PySem.W.callWith_K0 I.kIn kC ?_
  show wpAny _ _ (call (.ref C) []) _ _ _
  obtain ⟨bm, N, nm, qn, bs, hdct, sn, sub, ab, col, dd, k0, k1, k2, k3, k5, mN, hC, hN, hni, T⟩ := exc_obj I.kIn q
  refine wpAny_call_exc_subT F T hC hN hni (fun h' e hm => ?_) (Nat.zero_le _)
  exact mk_of I hm r h (I.hok.gone hm.new)
/-- what an own error class over own bases over ValueError, without an __init__, must say -/
structure Exc0 (K : PySem.W.Frag) (C : Addr) : Prop where
  ex : PySem.W.excIn K C [.type "ValueError", .type "Exception", .type "BaseException", .type "object"] "ValueError.__new__" = true
  kC : PySem.W.keepIn K (.ref C) = true
  s : PySem.W.subIn K (.ref C) (.type "BaseException") = some true
  t : PySem.W.typeIn K (.ref C) = some (.type "type")
  e : ExcC K C
  te : PySem.W.exmOne K (.ref C) (.ref C) = some true
def tRaise0 (C : Addr) (W : WX) : TS := fun _ σ H => W (.ref C) none σ H
theorem ps_raise0 {W : WX} {p pos pos2 : Pos} (hc : X.calm = true) (T : Exc0 X.K C) (gC : X.mg x = some (.ref C)) (tk : Takes X W) (hg : Gl X x) (hdb : (x == ("__debug__" : Str)) = false := by decide) :
    PS X (.Raise (some (.Call (.Name x p) [] [] pos)) none pos2) (tRaise0 C W) := ps_raise hc tk (pmk_own0 PySem.F.excBase_ValueError T.ex gC T.kC (raises_own T.s T.t) hg hdb)
/-- isinstance(e, c), e the error that the suite holds, of the class D, without a dict -/
def rIsE0 (K : PySem.W.Frag) (D a : Addr) (cls : Value) (d : Option Addr) : List V → Hp → VK → Prop := fun xs H Q => ∃ (c : V) (cv : Value) (b : Bool), xs = [.ref a, c] ∧ cls = .ref D ∧ d = none ∧ (∀ u, RelV c u → u = cv) ∧ PySem.W.kitOne K (.ref D) cv = some b ∧ Q (.bl b) H
theorem call_isE0 {a D : Addr} {oe : Obj} {cls : Value} {d : Option Addr} {pn : List (Addr × Obj)} (C : ExcC X.K D) (hz : Zc cls d oe) (hf : ∃ vs, oe.data = .fields vs) : CallR (X.suite a ((a, oe) :: pn)) (.builtin "isinstance") (rIsE0 X.K D a cls d) := by
  intro pins s σ H xs us Q I r h
  obtain ⟨c, cv, b, rfl, ecl, ed, hcv, e, q⟩ := h
  subst ecl ed
  exact call_isE (X := X) (pn := pn) C hz hf pins s σ H _ _ Q I r ⟨c, cv, b, rfl, hcv, e, q⟩
end
/-! ### contracts that may raise C() -/
/-- on the data wb it raises C -/
def spR (K : PySem.W.Frag) (C : Addr) (wb : List D → Prop) : Sp := fun vs H _ E => ∃ (M : Addr → Prop) (ds : List D), Tr M H ∧ DaAll M K H vs ds ∧ wb ds ∧ ∀ H', Ext H H' → E (.ref C) none H'
def spWR (K : PySem.W.Frag) (w : WF) (C : Addr) (wb : List D → Prop) : Sp := fun vs H Q E => spW K w vs H Q E ∨ spR K C wb vs H Q E
/-- t raises C, the slots as they are -/
def XR (K : PySem.W.Frag) (t : TS) (W : WX) (ρ : List Ent) (C : Addr) : Prop := ∀ (F : Fr) (H : Hp) (σ : L2.St) (Dn : Ends), Env K F H σ ρ → (∀ H' ρ', Keep (hot F σ ρ) H (hot F σ ρ') H' → Env K F H' σ ρ' → W (.ref C) none σ H') → t Dn σ H
section
variable {K : PySem.W.Frag} {ρ : List Ent} {C : Addr} {W : WX} {t u : TS} {te : TE} {ta : TA} {c : TT} {w : WF} {wb : List D → Prop} {k : PW.KE} {E : XK}
theorem xr_raise : XR K (tRaise0 C W) W ρ C := fun F H σ Dn E q => q H ρ (Keep.refl _ _) E
theorem xr_drop (h : XE K te ρ fun _ ρ' => XR K u W ρ' C) : XR K (tSeq (tDrop te) u) W ρ C := fun F H σ Dn E q =>
  h F H σ _ E fun v H1 r ρ1 kp R g => g F H1 σ Dn R.env fun H' ρ' k2 E' => q H' ρ' ((hotR.hot kp).trans k2) E'
theorem xr_if (h : XT K c ρ fun b ρ' => (b = true → XR K t W ρ' C) ∧ (b = false → XR K u W ρ' C)) : XR K (tIfS c t u) W ρ C := fun F H σ Dn E q =>
  h F H σ _ E fun b H1 ρ1 kp E1 g => by
    cases b with
    | true => exact g.1 rfl F H1 σ Dn E1 fun H' ρ' k2 E' => q H' ρ' (kp.trans k2) E'
    | false => exact g.2 rfl F H1 σ Dn E1 fun H' ρ' k2 E' => q H' ρ' (kp.trans k2) E'
/-- an if whose branch does nothing, then more -/
theorem xr_seqIf (h : XT K c ρ fun b ρ' => (b = true → XR K t W ρ' C) ∧ (b = false → XR K u W ρ' C)) : XR K (tSeq (tIfS c t tNext) u) W ρ C := fun F H σ Dn E q =>
  h F H σ _ E fun b H1 ρ1 kp E1 g => by
    cases b with
    | true => exact g.1 rfl F H1 σ _ E1 fun H' ρ' k2 E' => q H' ρ' (kp.trans k2) E'
    | false => exact g.2 rfl F H1 σ Dn E1 fun H' ρ' k2 E' => q H' ρ' (kp.trans k2) E'
/-- a seq whose first part raises -/
theorem xr_seqL (h : XR K t W ρ C) : XR K (tSeq t u) W ρ C := fun F H σ Dn E q => h F H σ _ E q
/-- the call raises; what would follow does not matter -/
def XRE (K : PySem.W.Frag) (te : TE) (W : WX) (ρ : List Ent) (C : Addr) : Prop := ∀ (F : Fr) (H : Hp) (σ : L2.St) (Q : VK), Env K F H σ ρ → (∀ H' ρ', Keep (hot F σ ρ) H (hot F σ ρ') H' → Env K F H' σ ρ' → W (.ref C) none σ H') → te σ H Q
theorem xre_call (h : XA K ta ρ fun rs ρ1 => ∃ xs, peekAll ρ1 rs = some xs ∧ wb xs) : XRE K (L2.tCallS (spWR K w C wb) (WE W) ta) W ρ C := fun F H σ Q E q =>
  h F H σ _ E fun vs H1 rs ρ1 kp E1 hs ⟨xs, px, g⟩ => by
    obtain ⟨E2, d2, k2⟩ := HeldAll.frz E1 hs px
    refine .inr ⟨_, xs, hot_tr E2, d2, g, fun H' ex => q H' _ ((kp.trans k2).trans (Keep.ext ex)) (E2.ex ex)⟩
theorem xr_dropE (h : XRE K te W ρ C) : XR K (tDrop te) W ρ C := fun F H σ Dn E q => h F H σ _ E q
theorem xr_asgE {j : Nat} (h : XRE K te W ρ C) : XR K (tAsg te (gName j)) W ρ C := fun F H σ Dn E q => h F H σ _ E q
theorem xr_retE (h : XRE K te W ρ C) : XR K (tRet te) W ρ C := fun F H σ Dn E q => h F H σ _ E q
/-- a call that does not raise -/
theorem ye_callL (h : XA K ta ρ fun rs ρ1 => ∃ xs, peekAll ρ1 rs = some xs ∧ ∃ ρ2, frzAll ρ1 rs = ρ2 ∧ w xs fun z => k z ρ2) : XE K (L2.tCallS (spWR K w C wb) (WE W) ta) ρ k := fun F H σ Q E0 q =>
  h F H σ _ E0 fun vs H1 rs ρ1 kp E1 hs ⟨xs, px, ρ2, e, g⟩ => by
    subst e
    obtain ⟨E2, d2, k2⟩ := HeldAll.frz E1 hs px
    exact .inl ⟨_, xs, _, hot_tr E2, d2, g, fun v H' r ex hr kr => q v H' r _ (hotR.res (kp.trans k2) ex hr) (ResV.rv E2 ex hr) kr⟩
theorem ye_callN (h : XA K ta ρ fun rs ρ1 => ∃ xs, peekAll ρ1 rs = some xs ∧ ∃ ρ2, frzAll ρ1 rs = ρ2 ∧ w xs fun z => k z ρ2) : XE K (tCall (spWR K w C wb) [] E ta) ρ k := fun F H σ Q E0 q =>
  h F H σ _ E0 fun vs H1 rs ρ1 kp E1 hs ⟨xs, px, ρ2, e, g⟩ => by
    subst e
    obtain ⟨E2, d2, k2⟩ := HeldAll.frz E1 hs px
    rw [List.append_nil]
    exact .inl ⟨_, xs, _, hot_tr E2, d2, g, fun v H' r ex hr kr => q v H' r _ (hotR.res (kp.trans k2) ex hr) (ResV.rv E2 ex hr) kr⟩
end
/-! ### bodies and calls of such defs -/
section
variable {K : PySem.W.Frag} {w : WF} {C : Addr} {wb : List D → Prop} {vs : List V} {H : Hp} {Q : VK} {E : XK} {N : List Str} {t : TS} {n : Nat}
theorem len_wr (h : spWR K w C wb vs H Q E) (hl : ∀ ds kk, w ds kk → ds.length = n) (hb : ∀ ds, wb ds → ds.length = n) : vs.length = n := by
  rcases h with ⟨M, ds, kk, _, d, hw, _⟩ | ⟨M, ds, _, d, hw, _⟩
  · rw [d.length]
    exact hl ds kk hw
  · rw [d.length]
    exact hb ds hw
theorem entry_wr (h : spWR K w C wb vs H Q E) (good : ∀ ds kk, w ds kk → XS K t (ini N.length ds) { nx := fun _ => kk (.d .non), rt := fun r _ => kk r }) (bad : ∀ ds, wb ds → XR K t (fun cls d _ H => E cls d H) (ini N.length ds) C) :
    t { nx := fun _ H' => Q .non H', rt := Q } (L2.start N vs) H := by
  rcases h with h | ⟨M, ds, tr, d, hw, fin⟩
  · exact entry_w h good
  · exact bad ds hw (fr M H none) H _ _ (env_ini (N := N) tr d) fun H' ρ' _ E' => fin H' fun b o e => E'.go b o (fun z => nomatch z) e
end
theorem pass_none {X : Cx} : Passes (L2.CX X.prog X.w) X (fun _ _ _ => False) := fun _ _ _ _ _ _ _ c => by
  obtain ⟨_, _, _, _, _, _, _, _, _, _, _, _, z⟩ := c
  exact z.elim
/-- a def that may be called by its name, and may raise -/
structure CalX (P : Program) (w : World) (K : PySem.W.Frag) (mg : Str → Option Value) (base : Heap) (k : Nat) (x : Str) (sp : Sp) : Prop where
  ex : ∃ (f : Addr) (fd : FuncData) (ps : List Str), FnOk P w K mg base (L2.CX P w) k f fd ps sp ∧ mg x = some (.ref f) ∧ PySem.W.keepIn K (.ref f) = true ∧ Binds K fd ps []
section
variable {X : Cx} {k j : Nat} {x : Str} {sp : Sp} {p pos : Pos} {e : Expr} {es : List Expr} {t : TA} {W : WX}
theorem pe_cX (c : CalX X.prog X.w X.K X.mg X.base k x sp) (hr : Room j X.A) (hk : k ≤ j) (hg : Gl X x) (ha : PA X (e :: es) t)
    (hdb : (x == ("__debug__" : Str)) = false := by decide) (he : starEach (e :: es) X.env = (false, eval e X.env) :: starEach es X.env := by rfl) (hpl : (backTo pos (starEach es X.env)).any (·.1) = false := by rfl) :
    PE X (.Call (.Name x p) (e :: es) [] pos) (tCall sp [] E0 t) := by
  obtain ⟨f, fd, ps, F, hm, kp, b⟩ := c.ex
  exact pe_call F (hr.mono hk) hg hm kp b .nil pass_none ha hdb he hpl
theorem pe_cS (c : CalX X.prog X.w X.K X.mg X.base k x sp) (hr : Room j X.A) (hk : k ≤ j) (hg : Gl X x) (tk : Takes X W) (ha : PA X (e :: es) t)
    (hdb : (x == ("__debug__" : Str)) = false := by decide) (he : starEach (e :: es) X.env = (false, eval e X.env) :: starEach es X.env := by rfl) (hpl : (backTo pos (starEach es X.env)).any (·.1) = false := by rfl) :
    PE X (.Call (.Name x p) (e :: es) [] pos) (L2.tCallS sp (WE W) t) := by
  obtain ⟨f, fd, ps, F, hm, kp, b⟩ := c.ex
  exact pe_callS F (hr.mono hk) hg hm kp b (fun σ => passAt tk σ) ha hdb he hpl
end
end PW
end
section
/-! PWSortD: sorted(d) of a dict with tuple keys (ints and texts), any length. -/
namespace PW
open PySem PySem.Spec PyProof.Rows L2
def keyPy : Key → PyData
  | .inl i => .int i
  | .inr s => .str s
def encK (k : List Key) : PyData := .tuple (k.map keyPy)
def leK (a b : List Key) : Bool := PySem.W.dataLe false encK a b
/-- these tuples, at these places -/
def Keyed (H : Hp) (ks : List (List Key)) (bs : List Addr) : Prop := Paired (fun (k : List Key) (b : Addr) => H b = some (.tup (k.map kV))) ks bs
/-- the keys may be sorted: alike, none empty -/
def KeysOk (ks : List (List Key)) : Prop := PySem.W.AllAlike (ks.map encK) ∧ ∀ k ∈ ks, k ≠ []
def rSortedDT : List V → Hp → VK → Prop := fun xs H Q => ∃ (d : Addr) (kvs : List (List Key × V)), xs = [.ref d] ∧ Rd H d (.dT kvs) ∧ KeysOk (kvs.map (·.1)) ∧
  ∀ p bs, H p = none → Keyed H ((kvs.map (·.1)).mergeSort leK) bs → Q (.ref p) (upd H p (.lst (bs.map V.ref)))
theorem dpAll_key {K : PySem.W.Frag} {H : Hp} : ∀ k : List Key, DpAll K H (k.map kV) (k.map keyPy)
  | [] => .nil
  | .inl i :: r => .cons (.int i) (dpAll_key r)
  | .inr s :: r => .cons (.str s) (dpAll_key r)
theorem depth_keys : ∀ k : List Key, PyData.depthAll (k.map keyPy) = 0
  | [] => by simp [PyData.depthAll]
  | .inl i :: r => by
    show PyData.depthAll (.int i :: r.map keyPy) = 0
    simp only [PyData.depthAll, PyData.depth, depth_keys r]
    rfl
  | .inr s :: r => by
    show PyData.depthAll (.str s :: r.map keyPy) = 0
    simp only [PyData.depthAll, PyData.depth, depth_keys r]
    rfl
theorem each_of {α β : Type} {R : α → β → Prop} : ∀ {as : List α} {bs : List β}, as.length = bs.length → (∀ (j : Nat) (a : α) (b : β), as[j]? = some a → bs[j]? = some b → R a b) → PySem.W.EachIs R as bs
  | [], [], _, _ => .nil
  | a :: as, b :: bs, hl, h => .cons (h 0 a b rfl rfl) (each_of (by simpa using hl) fun j x y e1 e2 => h (j + 1) x y (by simpa using e1) (by simpa using e2))
  | [], _ :: _, hl, _ => by simp at hl
  | _ :: _, [], hl, _ => by simp at hl
theorem keyed_out {H : Hp} : ∀ {out : List Value} {ks : List (List Key)}, PySem.W.EachIs (fun v (k : List Key) => ∃ b, v = Value.ref b ∧ H b = some (.tup (k.map kV))) out ks → ∃ bs : List Addr, out = bs.map Value.ref ∧ Keyed H ks bs
  | _, _, .nil => ⟨[], rfl, .nil⟩
  | _, _, .cons h t => by
    obtain ⟨b, rfl, hb⟩ := h
    obtain ⟨bs, e, hk⟩ := keyed_out t
    exact ⟨b :: bs, by rw [e]; rfl, .cons hb hk⟩
section
variable {X : Cx}
theorem cr_sortedDT (hc : X.calm = true) (hu : X.A.units + 10 < cLine) : CallR X (.builtin "sorted") rSortedDT := by
  intro pins s σ H xs us Q I r h
  obtain ⟨d, kvs, rfl, hd, ⟨hal, hne⟩, q⟩ := h
  obtain ⟨u, rfl, rx⟩ := r.one
  cases rx
  obtain ⟨z, hs, ks, pr, o, es, ep, ho, hx, hdt, he, hn⟩ := (show ObjOk X.prog X.w H s.heap d (.dT kvs) from hd.ok I.hok)
  have l1 : es.size = ks.length := size_of_entries he
  have l2 : kvs.length = ks.length := Paired.length pr
  have hsz : es.size ≤ sizeLine := by omega
  refine Calls.call_function_entry PyProof.Rows.kind_sorted PyProof.Rows.plain_sorted PyProof.Rows.entry_sorted (PyProof.Rows.args_sorted1 _) ?_
  unfold Builtin.«sorted»
  refine wpAny_bind (m := checkCount "sorted" 1 1 _) (wpAny_pure ?_)
  refine wpAny_bind (PySem.W.kdu_collect (A := X.A.in1) (kdl_raw hs hx hdt) (I.ok.hd hc) ho hsz fun h' tk acc hk it => ?_)
  have ea : acc.toList = ks.map fun x => Value.ref x.2.1 := by
    have hl : acc.toList.length = ks.length := by rw [Array.length_toList, it.1]; exact l1
    apply List.ext_getElem?
    intro j
    rw [List.getElem?_map]
    cases hj : acc.toList[j]? with
    | none =>
      have h1 := List.getElem?_eq_none_iff.mp hj
      rw [List.getElem?_eq_none (by omega)]
      all_goals rfl
    | some v =>
      obtain ⟨en, hen, hv⟩ := it.2 j v (by rw [← Array.getElem?_toList]; exact hj)
      have qe := entry_at he j
      rw [hen] at qe
      cases hb : ks[j]? with
      | none =>
        rw [hb] at qe
        exact nomatch (show some en = none from qe)
      | some b =>
        rw [hb] at qe
        have e2 : en = entryOfKey (tupleKind (mixKind X.prog X.w)) b := Option.some.inj qe
        rw [hv, e2]
        all_goals rfl
  have hlen : acc.toList.length = kvs.length := by rw [ea, List.length_map]; omega
  have I1 : Inv X pins σ H { s with heap := h', toks := tk } := I.kept hk
  refine wpAny_bind (wpAny_newList ?_ (by rw [hlen]; exact z))
  have hoL : (h'.push (seqObj "list" acc.toList.toArray 0)).get? h'.objs.size = some (seqObj "list" acc.toList.toArray 0) := Heap.get?_push_size _ rfl
  show wpAny _ _ _ _ _ { s with heap := h'.push (seqObj "list" acc.toList.toArray 0), toks := tk }
  have keyAt : ∀ (j : Nat) (v : Value) (k : List Key), acc.toList[j]? = some v → (kvs.map (·.1))[j]? = some k → ∃ b, v = Value.ref b ∧ H b = some (.tup (k.map kV)) := by
    intro j v k e1 e2
    rw [ea, List.getElem?_map] at e1
    rw [List.getElem?_map] at e2
    cases q1 : ks[j]? with
    | none => rw [q1] at e1; cases e1
    | some x =>
      cases q2 : kvs[j]? with
      | none => rw [q2] at e2; cases e2
      | some y =>
        rw [q1] at e1
        rw [q2] at e2
        cases e1
        cases e2
        obtain ⟨y', e3, f1, f2, f3⟩ := L2.DX.pget pr q1
        rw [q2] at e3
        cases e3
        exact ⟨_, rfl, f2⟩
  have hlk : acc.toList.length = (kvs.map (·.1)).length := by rw [List.length_map]; exact hlen
  have eR : PySem.W.EachIs (fun v (k : List Key) => ∃ b, v = Value.ref b ∧ H b = some (.tup (k.map kV))) acc.toList (kvs.map (·.1)) := each_of hlk keyAt
  have er : PySem.W.EachIs (fun v (k : List Key) => ∃ as, Reads (h'.push (seqObj "list" acc.toList.toArray 0)) v (encK k) as ∧ h'.objs.size ∉ as) acc.toList (kvs.map (·.1)) := each_of hlk fun j v k e1 e2 => by
    obtain ⟨b, rfl, hb⟩ := keyAt j v k e1 e2
    obtain ⟨as, ra⟩ := Dp.reads I1 (encK k) (.ref b) (.ref b) (.tup (SqT.of hb) (dpAll_key k)) rfl
    refine ⟨as, Reads.keeps (fun b o e => Heap.get?_push_of_some _ e) ra, fun hm => ?_⟩
    obtain ⟨o, ho⟩ := PyProof.On.reads_mem_get ra _ hm
    exact absurd (Heap.lt_size ho) (Nat.lt_irrefl _)
  have hkS : PySem.W.Sortable ((kvs.map (·.1)).map encK) := .inl fun dd hdd => by
    obtain ⟨k, hk1, rfl⟩ := List.mem_map.mp hdd
    match k, hne k hk1 with
    | [], hn => exact absurd rfl hn
    | x :: r, _ => exact ⟨_, _, rfl⟩
  refine wpAny_bind (wpAny_holding (PySem.W.list_sort_data (β := List Key) (enc := encK) (R := fun v (k : List Key) => ∃ b, v = Value.ref b ∧ H b = some (.tup (k.map kV))) (s := { s with heap := h'.push (seqObj "list" acc.toList.toArray 0), toks := tk }) hoL eR er hal hkS
    (by rw [List.length_map]; exact z) (fun k _ => ?_) fun out ol oe => ?_))
  · show X.A.units + 1 + 1 + (encK k).depth < cLine
    have e : (encK k).depth = 1 + PyData.depthAll (k.map keyPy) := by unfold encK; simp only [PyData.depth]; first | rfl | omega
    rw [e, depth_keys]
    omega
  · obtain ⟨bs, eo, hkd⟩ := keyed_out oe
    obtain ⟨e', he'⟩ := PyProof.Rows.sortedHeap_at (vs := acc.toList) (out := List.toArray out) hoL
    have hz : (bs.map V.ref).length ≤ sizeLine := by
      have e := congrArg List.length eo
      rw [List.length_map] at e
      rw [List.length_map, ← e, ol, List.length_map]
      exact z
    refine wpAny_pure ⟨_, rfl, .ref h'.objs.size, upd H h'.objs.size (.lst (bs.map V.ref)), I1.laid (t' := tk) (fun b u e => ?_) (Nat.le_refl _)
      (show ObjOk X.prog X.w _ _ _ (.lst (bs.map V.ref)) from ⟨hz, out, e', by rw [eo]; exact vals_refs bs, he'⟩), rfl, q _ _ (I1.hok.fresh (Nat.le_refl _)) hkd⟩
    have hb : b < h'.objs.size := Heap.lt_size e
    rw [PyProof.Rows.sortedHeap_old (Nat.ne_of_lt hb) (by rw [size_push']; exact Nat.lt_succ_of_lt hb)]
    exact Heap.get?_push_of_some _ e
end
end PW
end
section
/-! PWDict2: sorted(d), d[k] = v, tuple.index: rules on data. -/
namespace PW
open PySem PySem.Spec PyProof.Rows L2
theorem da_key {M : Addr → Prop} {K : PySem.W.Frag} {H : Hp} : ∀ k : List Key, DaAll M K H (k.map kV) (k.map keyO)
  | [] => rfl
  | .inl i :: r => ⟨.int i, _, rfl, rfl, da_key r⟩
  | .inr s :: r => ⟨.str s, _, rfl, rfl, da_key r⟩
theorem keyed_da {M : Addr → Prop} {K : PySem.W.Frag} {H : Hp} (tr : Tr M H) : ∀ {ks : List (List Key)} {bs : List Addr}, Keyed H ks bs → DaAll M K H (bs.map V.ref) (ks.map keyD)
  | _, _, .nil => rfl
  | _, _, .cons (a := k) (b := b) h t => by
    refine ⟨.ref b, _, rfl, ⟨b, k.map kV, rfl, ⟨fun z => ?_, h⟩, da_key k⟩, keyed_da tr t⟩
    have q := tr b z
    rw [h] at q
    exact q
section
variable {K : PySem.W.Frag} {ρ : List Ent} {k : KE} {kk : Res → Prop} {ks : List (List Key)} {xs : List D} {q : List Key} {y : D} {i : Nat}
theorem c_sortedDT (hk : KeysOk ks) (g : kk (.nw (.lst ((ks.mergeSort leK).map keyD)))) : CaD K rSortedDT [.dct ks xs] kk := fun M H us Q tr hl h fin => by
  match us, hl with
  | [u], _ =>
    obtain ⟨a, kvs, rfl, ha, ek, hx⟩ := pk_dct (h 0 u (.dct ks xs) rfl rfl)
    subst ek
    refine ⟨a, kvs, rfl, .inl ha, hk, fun p bs hp hb => ?_⟩
    exact fin _ _ (.nw (.lst _)) (Ext.new hp) (newL (keyed_da tr hb) hp) g
/-- d[q] = y as data -/
def dputK (ks : List (List Key)) (q : List Key) : List (List Key) := if (ks.any fun a => decide (a = q)) = true then ks else ks ++ [q]
def dputX : List (List Key) → List D → List Key → D → List D
  | a :: ks, x :: xs, q, y => if a = q then y :: xs else x :: dputX ks xs q y
  | _, _, _, y => [y]
theorem putK_keys {q : List Key} {v : V} : ∀ kvs : List (List Key × V), (putK kvs q v).map (·.1) = dputK (kvs.map (·.1)) q := fun kvs => by
  have ec : ((kvs.map (·.1)).any fun a => decide (a = q)) = kvs.any fun kv => decide (kv.1 = q) := by
    rw [List.any_map]
    rfl
  unfold putK dputK
  rw [ec]
  split
  · rw [List.map_map]
    refine List.map_congr_left fun p _ => ?_
    show (if p.1 = q then (p.1, v) else p).1 = p.1
    split <;> rfl
  · rw [List.map_append]
    rfl
theorem putK_vals {M : Addr → Prop} {H : Hp} {q : List Key} {v : V} {y : D} (hy : Da M K H v y) : ∀ {kvs : List (List Key × V)} {xs : List D}, (kvs.map (·.1)).Nodup → DaAll M K H (kvs.map (·.2)) xs → DaAll M K H ((putK kvs q v).map (·.2)) (dputX (kvs.map (·.1)) xs q y)
  | [], xs, _, h => by
    have e : xs = [] := by
      cases xs with
      | nil => rfl
      | cons d ds => obtain ⟨v, r, e, _⟩ := h; cases e
    subst e
    exact ⟨v, [], rfl, hy, rfl⟩
  | p :: r, [], _, h => by cases (show List.map (·.2) (p :: r) = [] from h)
  | p :: r, d :: ds, hn, h => by
    obtain ⟨w, ws, e, h1, h2⟩ := h
    cases e
    have hn' := List.nodup_cons.mp (show (p.1 :: r.map (·.1)).Nodup from hn)
    have ih := putK_vals (q := q) (v := v) hy hn'.2 h2
    show DaAll M K H ((putK (p :: r) q v).map (·.2)) (if p.1 = q then y :: ds else d :: dputX (r.map (·.1)) ds q y)
    by_cases e : p.1 = q
    · rw [if_pos e]
      have e1 : putK (p :: r) q v = (p.1, v) :: r := by
        unfold putK
        rw [if_pos (by simp [e]), List.map_cons, if_pos e]
        congr 1
        have : ∀ x ∈ r, (if x.1 = q then (x.1, v) else x) = x := fun x hx => if_neg fun z => hn'.1 (by rw [e, ← z]; exact List.mem_map.mpr ⟨x, hx, rfl⟩)
        rw [List.map_congr_left this, List.map_id']
      rw [e1]
      exact ⟨v, _, rfl, hy, h2⟩
    · rw [if_neg e]
      have e1 : putK (p :: r) q v = p :: putK r q v := by
        unfold putK
        rw [List.any_cons, decide_eq_false e, Bool.false_or]
        split
        · rw [List.map_cons, if_neg e]
        · rfl
      rw [e1]
      exact ⟨p.2, _, rfl, h1, ih⟩
theorem ys_dput {Φ : Post} {tv ty : TE} (h : XE K tv ρ fun r ρ1 => ∃ y, peek ρ1 r = some y ∧ ∃ ρ', frz ρ1 r = ρ' ∧ ∃ x0, ρ'[i]? = some (.own x0) ∧ XE K ty ρ' fun r2 ρ2 => ∃ (q : List Key) (ks : List (List Key)) (xs : List D), r2 = .d (keyD q) ∧ ρ2[i]? = some (.own (.dct ks xs)) ∧ ks.Nodup ∧ ks.length < 100000 ∧
    ∃ ρ3, ρ2.set i (.own (.dct (dputK ks q) (dputX ks xs q y))) = ρ3 ∧ Φ.nx ρ3) : XS K (sDPut (tVar i) ty tv) ρ Φ := fun F H σ Dn E I => h F H σ _ E fun v H1 r ρ1 kp R ⟨y, py, ρ', eρ, x0, he0, h2⟩ => by
  obtain ⟨E1, d1⟩ := R.frz py
  have kf := keep_frz (r := r) R.env
  rw [eρ] at E1 d1 kf
  obtain ⟨p, hs, ho⟩ := E1.slot i _ he0
  refine ⟨_, hs, h2 F H1 σ _ E1 fun w H2 r2 ρ2 kp2 R2 ⟨q, ks, xs, e2, he, hn, hlk, ρ3, e3, g⟩ => ?_⟩
  subst e2 e3
  obtain ⟨E2, hw⟩ := R2
  obtain ⟨p', hs', kvs, ho1, ho2, ho3⟩ := E2.slot i _ he
  rw [hs] at hs'
  cases hs'
  subst ho2
  obtain ⟨b, eb, hb⟩ := key_at (.inl hw)
  have hp : hot F σ ρ2 p := hot.own he hs
  have k1 := ((hotR.hot kp).trans kf).trans (hotR.hot kp2)
  have hl : kvs.length < sizeLine := by rw [List.length_map] at hlk; rw [sizeLine_eq]; omega
  refine ⟨p, _, rfl, by rw [eb]; exact DPut.t ho1 hb hl, ?_⟩
  have dy : Da (hot F σ ρ2) K H2 v y := d1.mono (hotR.hot kp2)
  have ho' : OwnAt (hot F σ ρ2) K (upd H2 p (.dT (putK kvs q v))) p (.dct (dputK (kvs.map (·.1)) q) (dputX (kvs.map (·.1)) xs q y)) := by
    refine ⟨_, upd_same, putK_keys kvs, (putK_vals dy hn ho3).mono fun c o m e => ⟨m, ?_⟩⟩
    rw [upd_ne fun z => m (by rw [z]; exact hp)]
    exact e
  exact I.nx _ _ _ (k1.trans (keep_write he hs)) (E2.write he hs ho') g
end
end PW
end
section
namespace LawK54
/-! what holds of a lot: plain -/
section
variable {α : Type} [DecidableEq α]
/-- by a ground, or by a clause that is not left out -/
inductive Hold (cs : List (List α × α)) (B : α → Prop) (w : Option Nat) : α → Prop
  | base {k : α} : B k → Hold cs B w k
  | step {i : Nat} {body : List α} {head : α} : cs[i]? = some (body, head) → w ≠ some i → (∀ b ∈ body, Hold cs B w b) → Hold cs B w head
/-- nothing more is to be had -/
def Shut (cs : List (List α × α)) (w : Option Nat) (S : α → Prop) : Prop := ∀ i body head, cs[i]? = some (body, head) → w ≠ some i → (∀ b ∈ body, S b) → S head
variable {cs : List (List α × α)} {B S : α → Prop} {w : Option Nat}
theorem hold_in (h1 : ∀ k, B k → S k) (h2 : Shut cs w S) : ∀ {k : α}, Hold cs B w k → S k := fun {k} h => by
  induction h with
  | base h => exact h1 _ h
  | step h n _ ih => exact h2 _ _ _ h n ih
/-- reasons: each known thing by a ground or by a clause of things known that came before -/
theorem hold_by {known : α → Prop} {rank : α → Nat} {k : Nat} (h : ∀ x, known x → B x ∨ ∃ i body, cs[i]? = some (body, x) ∧ i ≠ k ∧ ∀ b ∈ body, known b ∧ rank b < rank x) : ∀ x, known x → Hold cs B (some k) x := by
  have key : ∀ (n : Nat) (x : α), rank x < n → known x → Hold cs B (some k) x := fun n => by
    induction n with
    | zero => exact fun x hx => absurd hx (Nat.not_lt_zero _)
    | succ n ih =>
      intro x hx hk
      rcases h x hk with hb | ⟨i, body, e, hi, hb⟩
      · exact .base hb
      · exact .step e (fun z => hi (by injection z with z; exact z.symm)) fun b hbm => ih b (by have := (hb b hbm).2; omega) (hb b hbm).1
  exact fun x hx => key _ x (Nat.lt_succ_self _) hx
theorem hold_less {k : Nat} : ∀ {x : α}, Hold cs B (some k) x → Hold cs B none x := fun {x} h => by
  induction h with
  | base h => exact .base h
  | step h _ _ ih => exact .step h (fun z => nomatch z) ih
end
/-- ascending lists of the same numbers are one -/
theorem asc_eq : ∀ {xs ys : List Int}, xs.Pairwise (· < ·) → ys.Pairwise (· < ·) → (∀ z, z ∈ xs ↔ z ∈ ys) → xs = ys
  | [], [], _, _, _ => rfl
  | [], y :: ys, _, _, h => nomatch (h y).mpr (List.mem_cons_self ..)
  | x :: xs, [], _, _, h => nomatch (h x).mp (List.mem_cons_self ..)
  | x :: xs, y :: ys, h1, h2, h => by
    obtain ⟨a1, a2⟩ := List.pairwise_cons.mp h1
    obtain ⟨b1, b2⟩ := List.pairwise_cons.mp h2
    have e : x = y := by
      rcases List.mem_cons.mp ((h x).mp (List.mem_cons_self ..)) with e | e
      · exact e
      · rcases List.mem_cons.mp ((h y).mpr (List.mem_cons_self ..)) with e2 | e2
        · exact e2.symm
        · have := b1 x e
          have := a1 y e2
          omega
    subst e
    congr 1
    refine asc_eq a2 b2 fun z => ⟨fun hz => ?_, fun hz => ?_⟩
    · rcases List.mem_cons.mp ((h z).mp (List.mem_cons_of_mem _ hz)) with e | e
      · have := a1 z hz
        omega
      · exact e
    · rcases List.mem_cons.mp ((h z).mpr (List.mem_cons_of_mem _ hz)) with e | e
      · have := b1 z hz
        omega
      · exact e
section
variable {α : Type} [DecidableEq α] {cs : List (List α × α)}
/-- how many clauses have their heads in a collection -/
def inN (cs : List (List α × α)) (ks : List α) : Nat := (cs.filter fun c => decide (c.2 ∈ ks)).length
theorem inN_le (ks : List α) : inN cs ks ≤ cs.length := List.length_filter_le ..
theorem filter_more {β : Type} {p q : β → Bool} : ∀ {xs : List β}, (∀ x ∈ xs, p x = true → q x = true) → (∃ x ∈ xs, p x = false ∧ q x = true) → (xs.filter p).length < (xs.filter q).length
  | [], _, h => by obtain ⟨x, hx, _⟩ := h; cases hx
  | y :: ys, h1, h2 => by
    have t1 : ∀ x ∈ ys, p x = true → q x = true := fun x hx => h1 x (List.mem_cons_of_mem _ hx)
    have le : (ys.filter p).length ≤ (ys.filter q).length := by
      clear h2 h1
      induction ys with
      | nil => exact Nat.le_refl _
      | cons z zs ih =>
        have i1 := ih fun x hx => t1 x (List.mem_cons_of_mem _ hx)
        have z1 := t1 z (List.mem_cons_self ..)
        by_cases hp : p z = true
        · rw [List.filter_cons_of_pos hp, List.filter_cons_of_pos (z1 hp), List.length_cons, List.length_cons]
          omega
        · rw [List.filter_cons_of_neg hp]
          by_cases hq : q z = true
          · rw [List.filter_cons_of_pos hq, List.length_cons]
            omega
          · rw [List.filter_cons_of_neg hq]
            exact i1
    obtain ⟨x, hx, px, qx⟩ := h2
    rcases List.mem_cons.mp hx with e | hx
    · subst e
      rw [List.filter_cons_of_neg (by rw [px]; exact Bool.false_ne_true), List.filter_cons_of_pos qx, List.length_cons]
      omega
    · have i1 := filter_more t1 ⟨x, hx, px, qx⟩
      by_cases hp : p y = true
      · rw [List.filter_cons_of_pos hp, List.filter_cons_of_pos (h1 y (List.mem_cons_self ..) hp), List.length_cons, List.length_cons]
        omega
      · rw [List.filter_cons_of_neg hp]
        by_cases hq : q y = true
        · rw [List.filter_cons_of_pos hq, List.length_cons]
          omega
        · rw [List.filter_cons_of_neg hq]
          exact i1
/-- one more head: more clauses -/
theorem inN_more {ks ks' : List α} (h : ∀ k ∈ ks, k ∈ ks') {i : Nat} {body : List α} {head : α} (e : cs[i]? = some (body, head)) (h1 : head ∉ ks) (h2 : head ∈ ks') : inN cs ks < inN cs ks' :=
  filter_more (fun x _ hx => decide_eq_true (h _ (of_decide_eq_true hx))) ⟨_, List.mem_of_getElem? e, decide_eq_false h1, decide_eq_true h2⟩
end
end LawK54
end
section
namespace LawK54
open PySem PySem.Spec PyProof.Rows L2 PW
def isInteger (x : D) : Bool := x.isInt && !x.isBool
def w_is_integer : WF := fun ds k => ∃ x, ds = [x] ∧ x.isBuiltin = true ∧ k (.d (.bl (isInteger x)))
def isWithin (x : D) (a b : Int) : Bool := match x with
  | .int i => decide (a ≤ i) && decide (i ≤ b)
  | _ => false
def w_is_within : WF := fun ds k => ∃ x a b, ds = [x, .int a, .int b] ∧ x.isBuiltin = true ∧ k (.d (.bl (isWithin x a b)))
def isTupleOf (x : D) (n : Int) : Bool := match x with
  | .tup ds => decide ((ds.length : Int) = n)
  | _ => false
def w_is_tuple_of : WF := fun ds k => ∃ x n, ds = [x, .int n] ∧ x.isBuiltin = true ∧ k (.d (.bl (isTupleOf x n)))
def letters : Str := "abcdefghijklmnopqrstuvwxyz"
def letterD (d : D) : Bool := match d with
  | .str s => match s.cps.toList with
    | [c] => decide (c ∈ letters.cps.toList)
    | _ => false
  | _ => false
def isFact (x : D) : Bool := match x with
  | .tup (.str s :: rest) => decide ((rest.length : Int) + 1 ≤ 1 + 4) && (decide (1 ≤ (s.length : Int)) && decide ((s.length : Int) ≤ 12)) && (signsD s).all letterD && rest.all fun d => isWithin d 0 999999999999
  | _ => false
def w_fact : WF := fun ds k => ∃ x, ds = [x] ∧ x.jn = true ∧ k (.d (.bl (isFact x)))
abbrev w_is_fact : WF := w_fact
abbrev w_law_is_fact : WF := w_fact
def isClause (x : D) : Bool := match x with
  | .tup [.tup body, head] => !decide (4 < (body.length : Int)) && body.all isFact && isFact head
  | _ => false
def w_is_clause : WF := fun ds k => ∃ x, ds = [x] ∧ x.jn = true ∧ k (.d (.bl (isClause x)))
def isGround (x : D) : Bool := match x with
  | .tup fs => decide ((fs.length : Int) ≤ 5000) && fs.all isFact
  | _ => false
def w_is_ground : WF := fun ds k => ∃ x, ds = [x] ∧ x.jn = true ∧ k (.d (.bl (isGround x)))
def badPart (c g : D) : D := match c with
  | .tup cs => if 20000 < (cs.length : Int) then .str "clauses" else match g with
    | .tup gs => if 60 < (gs.length : Int) then .str "grounds" else match firstBad isClause 0 cs with
      | some n => .int n
      | none => match firstBad isGround 0 gs with
        | some n => .tup [.str "ground", .int n]
        | none => .non
    | _ => .str "grounds"
  | _ => .str "clauses"
def w_bad_part : WF := fun ds k => ∃ c g, ds = [c, g] ∧ c.jn = true ∧ g.jn = true ∧ k (.d (badPart c g))
def w_law_is_number : WF := fun ds k => ∃ x n, ds = [x, .int n] ∧ x.isBuiltin = true ∧ k (.d (.bl (isWithin x 0 (n - 1))))
def w_law_rule_fault : WF := fun ds k => ∃ c g, ds = [c, g] ∧ c.jn = true ∧ g.jn = true ∧ (∀ cs, c = .tup cs → cs.length ≤ 20000) ∧ (∀ gs, g = .tup gs → ∀ fs, .tup fs ∈ gs → fs.length ≤ 5000) ∧ k (.d (badPart c g))
def w_law_draw : WF := fun ds k => ∃ many, ds = [.int many] ∧ 0 < many ∧ many < 1073741824 ∧ ∀ r, 0 ≤ r → r < many → k (.d (.int r))
section
variable {x c g : D} {a b n : Int} {k : Res → Prop}
theorem i_is_integer (h : x.isBuiltin = true) (q : k (.d (.bl (isInteger x)))) : w_is_integer [x] k := ⟨x, rfl, h, q⟩
theorem i_is_within (h : x.isBuiltin = true) (q : k (.d (.bl (isWithin x a b)))) : w_is_within [x, .int a, .int b] k := ⟨x, a, b, rfl, h, q⟩
theorem i_is_tuple_of (h : x.isBuiltin = true) (q : k (.d (.bl (isTupleOf x n)))) : w_is_tuple_of [x, .int n] k := ⟨x, n, rfl, h, q⟩
theorem i_fact (h : x.jn = true) (q : k (.d (.bl (isFact x)))) : w_fact [x] k := ⟨x, rfl, h, q⟩
theorem i_is_clause (h : x.jn = true) (q : k (.d (.bl (isClause x)))) : w_is_clause [x] k := ⟨x, rfl, h, q⟩
theorem i_is_ground (h : x.jn = true) (q : k (.d (.bl (isGround x)))) : w_is_ground [x] k := ⟨x, rfl, h, q⟩
theorem i_law_is_number (h : x.isBuiltin = true) (q : k (.d (.bl (isWithin x 0 (n - 1))))) : w_law_is_number [x, .int n] k := ⟨x, n, rfl, h, q⟩
theorem i_law_draw (h : 0 < n) (h2 : n < 1073741824) (q : ∀ r, 0 ≤ r → r < n → k (.d (.int r))) : w_law_draw [.int n] k := ⟨n, rfl, h, h2, q⟩
end
theorem len_is_integer : ∀ ds k, w_is_integer ds k → ds.length = 1 := fun _ _ ⟨_, e, _⟩ => by rw [e]; rfl
theorem len_is_within : ∀ ds k, w_is_within ds k → ds.length = 3 := fun _ _ ⟨_, _, _, e, _⟩ => by rw [e]; rfl
theorem len_is_tuple_of : ∀ ds k, w_is_tuple_of ds k → ds.length = 2 := fun _ _ ⟨_, _, e, _⟩ => by rw [e]; rfl
theorem len_is_fact : ∀ ds k, w_is_fact ds k → ds.length = 1 := fun _ _ ⟨_, e, _⟩ => by rw [e]; rfl
theorem len_law_is_fact : ∀ ds k, w_law_is_fact ds k → ds.length = 1 := fun _ _ ⟨_, e, _⟩ => by rw [e]; rfl
theorem len_is_clause : ∀ ds k, w_is_clause ds k → ds.length = 1 := fun _ _ ⟨_, e, _⟩ => by rw [e]; rfl
theorem len_is_ground : ∀ ds k, w_is_ground ds k → ds.length = 1 := fun _ _ ⟨_, e, _⟩ => by rw [e]; rfl
theorem len_bad_part : ∀ ds k, w_bad_part ds k → ds.length = 2 := fun _ _ ⟨_, _, e, _⟩ => by rw [e]; rfl
theorem len_law_is_number : ∀ ds k, w_law_is_number ds k → ds.length = 2 := fun _ _ ⟨_, _, e, _⟩ => by rw [e]; rfl
theorem len_law_rule_fault : ∀ ds k, w_law_rule_fault ds k → ds.length = 2 := fun _ _ ⟨_, _, e, _⟩ => by rw [e]; rfl
theorem len_law_draw : ∀ ds k, w_law_draw ds k → ds.length + 1 = 2 := fun _ _ ⟨_, e, _⟩ => by rw [e]; rfl
theorem hu1 {k : Nat} {A : Around} (r : Room k A) : A.units + 1 < cLine := by have := r.units; omega
/-! drawn things -/
theorem szlt {n : Nat} (h : n < 100000) : n < sizeLine := Nat.lt_of_lt_of_le h (by decide)
theorem int_mem {d : D} {is : List Int} (h : d ∈ is.map D.int) : ∃ i : Int, d = .int i ∧ i ∈ is := by
  obtain ⟨i, hi, e⟩ := List.mem_map.mp h
  exact ⟨i, e.symm, hi⟩
theorem isFact_form {d : D} (h : isFact d = true) : ∃ s ys, d = .tup (.str s :: ys) ∧ ys.length ≤ 4 ∧ 1 ≤ s.length ∧ s.length ≤ 12 ∧ (signsD s).all letterD = true ∧ ∀ y ∈ ys, ∃ i : Int, y = .int i ∧ 0 ≤ i ∧ i ≤ 999999999999 := by
  cases d with
  | tup xs =>
    cases xs with
    | nil => cases h
    | cons x ys =>
      cases x with
      | str s =>
        have h : ((decide ((ys.length : Int) + 1 ≤ 1 + 4) && (decide (1 ≤ (s.length : Int)) && decide ((s.length : Int) ≤ 12)) && (signsD s).all letterD && ys.all fun d => isWithin d 0 999999999999)) = true := h
        simp only [Bool.and_eq_true, decide_eq_true_eq] at h
        obtain ⟨⟨⟨h1, h2, h3⟩, h4⟩, h5⟩ := h
        refine ⟨s, ys, rfl, by omega, by omega, by omega, h4, fun y hy => ?_⟩
        have h6 := List.all_eq_true.mp h5 y hy
        cases y with
        | int i =>
          have h7 : (decide (0 ≤ i) && decide (i ≤ 999999999999)) = true := h6
          simp only [Bool.and_eq_true, decide_eq_true_eq] at h7
          exact ⟨i, rfl, h7.1, h7.2⟩
        | _ => cases h6
      | _ => cases h
  | _ => cases h
theorem str_lay {s : Str} (h2 : (signsD s).all letterD = true) : PyData.canLay0 (.str s) = true := by
  simp only [PyData.canLay0]
  refine Array.all_eq_true_iff_forall_mem.mpr fun c hc => ?_
  have hm : D.str ⟨#[c]⟩ ∈ signsD s := List.mem_map.mpr ⟨c, by simpa using hc, rfl⟩
  have hl : c ∈ letters.cps.toList := of_decide_eq_true (List.all_eq_true.mp h2 _ hm)
  have e : letters.cps.toList = [97, 98, 99, 100, 101, 102, 103, 104, 105, 106, 107, 108, 109, 110, 111, 112, 113, 114, 115, 116, 117, 118, 119, 120, 121, 122] := by decide +kernel
  rw [e] at hl
  simp only [List.mem_cons, List.not_mem_nil, or_false] at hl
  exact decide_eq_true (by omega)
/-- plain data, so deep at most -/
def Sh (n : Nat) (x : D) : Prop := D.pln x = true ∧ (D.py x).canLay0 = true ∧ (D.py x).depth ≤ n
theorem Sh.mono {n m : Nat} {x : D} (h : Sh n x) (e : n ≤ m) : Sh m x := ⟨h.1, h.2.1, Nat.le_trans h.2.2 e⟩
theorem Sh.sh {n : Nat} {x : D} (h : Sh n x) (e : n ≤ 64) : x.sh = true := Bool.and_eq_true_iff.mpr ⟨h.1, Bool.and_eq_true_iff.mpr ⟨h.2.1, decide_eq_true (Nat.le_trans h.2.2 e)⟩⟩
theorem shL {n : Nat} : ∀ {xs : List D}, (∀ x ∈ xs, Sh n x) → D.plnL xs = true ∧ PyData.canLayAll0 (D.pyL xs) = true ∧ PyData.depthAll (D.pyL xs) ≤ n
  | [], _ => ⟨rfl, rfl, Nat.zero_le _⟩
  | y :: ys, h => by
    obtain ⟨a1, a2, a3⟩ := h y (List.mem_cons_self ..)
    obtain ⟨b1, b2, b3⟩ := shL fun x hx => h x (List.mem_cons_of_mem _ hx)
    refine ⟨Bool.and_eq_true_iff.mpr ⟨a1, b1⟩, ?_, ?_⟩
    · simp only [D.pyL, PyData.canLayAll0, a2, b2, Bool.and_self]
    · simp only [D.pyL, PyData.depthAll]
      omega
theorem sh_tup {n : Nat} {xs : List D} (h : ∀ x ∈ xs, Sh n x) : Sh (n + 1) (.tup xs) := by
  obtain ⟨h1, h2, h3⟩ := shL h
  refine ⟨h1, ?_, ?_⟩
  · simpa only [D.py, PyData.canLay0] using h2
  · simp only [D.py, PyData.depth]
    omega
theorem sh_lst {n : Nat} {xs : List D} (h : ∀ x ∈ xs, Sh n x) : Sh (n + 1) (.lst xs) := by
  obtain ⟨h1, h2, h3⟩ := shL h
  refine ⟨h1, ?_, ?_⟩
  · simpa only [D.py, PyData.canLay0] using h2
  · simp only [D.py, PyData.depth]
    omega
theorem sh_int {i : Int} : Sh 0 (.int i) := ⟨rfl, rfl, by simp only [D.py, PyData.depth]; omega⟩
theorem sh_bl {b : Bool} : Sh 0 (.bl b) := ⟨rfl, rfl, by simp only [D.py, PyData.depth]; omega⟩
theorem sh_non : Sh 0 .non := ⟨rfl, rfl, by simp only [D.py, PyData.depth]; omega⟩
theorem sh_strL {s : Str} (h : (signsD s).all letterD = true) : Sh 0 (.str s) := ⟨rfl, str_lay h, by simp only [D.py, PyData.depth]; omega⟩
theorem fact_sh {d : D} (h : isFact d = true) : Sh 1 d := by
  obtain ⟨s, ys, rfl, _, _, _, h4, h5⟩ := isFact_form h
  refine sh_tup fun x hx => ?_
  rcases List.mem_cons.mp hx with e | hx
  · rw [e]; exact sh_strL h4
  · obtain ⟨i, e, _⟩ := h5 x hx
    rw [e]; exact sh_int
theorem jn_T {xs : List D} (hl : xs.length ≤ 100000) (h : ∀ x ∈ xs, x.jn = true) : (D.tup xs).jn = true := Bool.and_eq_true_iff.mpr ⟨decide_eq_true hl, jnL_of h⟩
theorem jn_L {xs : List D} (hl : xs.length ≤ 100000) (h : ∀ x ∈ xs, x.jn = true) : (D.lst xs).jn = true := Bool.and_eq_true_iff.mpr ⟨decide_eq_true hl, jnL_of h⟩
theorem fact_jn {d : D} (h : isFact d = true) : d.jn = true := by
  obtain ⟨s, ys, rfl, h1, _, h3, h4, h5⟩ := isFact_form h
  refine jn_T (by rw [List.length_cons]; omega) fun x hx => ?_
  rcases List.mem_cons.mp hx with e | hx
  · rw [e]; exact decide_eq_true (by omega)
  · obtain ⟨i, e, _⟩ := h5 x hx
    rw [e]; rfl
/-- the key that a fact is -/
def keyF : D → List Key
  | .tup (.str s :: ys) => .inr s :: ys.map fun y => match y with
    | .int i => .inl i
    | _ => .inl 0
  | _ => []
theorem fact_key {d : D} (h : isFact d = true) : d = keyD (keyF d) := by
  obtain ⟨s, ys, rfl, _, _, _, _, h5⟩ := isFact_form h
  show D.tup (.str s :: ys) = .tup (.str s :: (ys.map fun y => match y with | .int i => (.inl i : Key) | _ => .inl 0).map keyO)
  congr 2
  rw [List.map_map]
  refine (List.map_id ys).symm.trans (List.map_congr_left fun y hy => ?_)
  obtain ⟨i, e, _⟩ := h5 y hy
  rw [e]; rfl
theorem isClause_form {c : D} (h : isClause c = true) : ∃ body head, c = .tup [.tup body, head] ∧ body.length ≤ 4 ∧ (∀ x ∈ body, isFact x = true) ∧ isFact head = true := by
  unfold isClause at h
  split at h
  · rename_i body head
    simp only [Bool.and_eq_true, Bool.not_eq_true', decide_eq_false_iff_not] at h
    exact ⟨body, head, rfl, by omega, fun x hx => List.all_eq_true.mp h.1.2 x hx, h.2⟩
  · cases h
theorem isGround_form {g : D} (h : isGround g = true) : ∃ fs, g = .tup fs ∧ fs.length ≤ 5000 ∧ ∀ x ∈ fs, isFact x = true := by
  unfold isGround at h
  split at h
  · rename_i fs
    simp only [Bool.and_eq_true, decide_eq_true_eq] at h
    exact ⟨fs, rfl, by omega, fun x hx => List.all_eq_true.mp h.2 x hx⟩
  · cases h
theorem clause_of {body : List D} {head : D} (h1 : body.length ≤ 4) (h2 : ∀ x ∈ body, isFact x = true) (h3 : isFact head = true) : isClause (.tup [.tup body, head]) = true := by
  simp only [isClause, Bool.and_eq_true, Bool.not_eq_true', decide_eq_false_iff_not]
  exact ⟨⟨by omega, List.all_eq_true.mpr h2⟩, h3⟩
theorem ground_of {fs : List D} (h1 : fs.length ≤ 5000) (h2 : ∀ x ∈ fs, isFact x = true) : isGround (.tup fs) = true := by
  simp only [isGround, Bool.and_eq_true, decide_eq_true_eq]
  exact ⟨by omega, List.all_eq_true.mpr h2⟩
theorem clause_jn {c : D} (h : isClause c = true) : c.jn = true := by
  obtain ⟨body, head, rfl, h1, h2, h3⟩ := isClause_form h
  refine jn_T (by show 2 ≤ 100000; decide) fun x hx => ?_
  rcases List.mem_cons.mp hx with e | hx
  · rw [e]; exact jn_T (by omega) fun x hx => fact_jn (h2 x hx)
  · rw [List.mem_singleton.mp hx]; exact fact_jn h3
theorem ground_jn {g : D} (h : isGround g = true) : g.jn = true := by
  obtain ⟨fs, rfl, h1, h2⟩ := isGround_form h
  exact jn_T (by omega) fun x hx => fact_jn (h2 x hx)
theorem clause_sh {c : D} (h : isClause c = true) : Sh 3 c := by
  obtain ⟨body, head, rfl, h1, h2, h3⟩ := isClause_form h
  refine sh_tup (n := 2) fun x hx => ?_
  rcases List.mem_cons.mp hx with e | hx
  · rw [e]; exact sh_tup fun x hx => fact_sh (h2 x hx)
  · rw [List.mem_singleton.mp hx]; exact (fact_sh h3).mono (by decide)
theorem ground_sh {g : D} (h : isGround g = true) : Sh 3 g := by
  obtain ⟨fs, rfl, h1, h2⟩ := isGround_form h
  exact (sh_tup fun x hx => fact_sh (h2 x hx)).mono (by decide)
/-- the parts of a rule that is drawn -/
structure Parts (cs gs : List D) : Prop where
  cl : ∀ c ∈ cs, isClause c = true
  gr : ∀ g ∈ gs, isGround g = true
  few : cs.length ≤ 60
  fewG : gs.length ≤ 7
  fewF : ∀ fs, D.tup fs ∈ gs → fs.length ≤ 3
section
variable {cs gs : List D}
theorem Parts.jn1 (h : Parts cs gs) : (D.tup cs).jn = true := jn_T (by have := h.few; omega) fun x hx => clause_jn (h.cl x hx)
theorem Parts.jn2 (h : Parts cs gs) : (D.tup gs).jn = true := jn_T (by have := h.fewG; omega) fun x hx => ground_jn (h.gr x hx)
theorem Parts.sh1 (h : Parts cs gs) : Sh 4 (.tup cs) := sh_tup fun x hx => clause_sh (h.cl x hx)
theorem Parts.sh2 (h : Parts cs gs) : Sh 4 (.tup gs) := sh_tup fun x hx => ground_sh (h.gr x hx)
theorem good_of {cs gs : List D} (h1 : cs.length ≤ 20000) (h2 : gs.length ≤ 60) (h3 : ∀ c ∈ cs, isClause c = true) (h4 : ∀ g ∈ gs, isGround g = true) : badPart (.tup cs) (.tup gs) = .non := by
  show (if 20000 < (cs.length : Int) then _ else if 60 < (gs.length : Int) then _ else _) = _
  rw [if_neg (by omega), if_neg (by omega), firstBad_none fun j y _ hy => h3 y (List.mem_of_getElem? hy)]
  show (match firstBad isGround 0 gs with | some n => D.tup [.str "ground", .int n] | none => D.non) = _
  rw [firstBad_none fun j y _ hy => h4 y (List.mem_of_getElem? hy)]
theorem Parts.good (h : Parts cs gs) : badPart (.tup cs) (.tup gs) = .non := good_of (by have := h.few; omega) (by have := h.fewG; omega) h.cl h.gr
end
theorem firstBad_all {p : D → Bool} : ∀ {xs : List D} {n : Nat}, firstBad p n xs = none → ∀ x ∈ xs, p x = true
  | [], _, _, x, hx => nomatch hx
  | y :: ys, n, h, x, hx => by
    unfold firstBad at h
    cases hp : p y with
    | true =>
      rw [hp] at h
      rcases List.mem_cons.mp hx with e | hx
      · rw [e]; exact hp
      · exact firstBad_all h x hx
    | false =>
      rw [hp] at h
      cases h
/-- what a good rule is -/
theorem good_form {c g : D} (h : badPart c g = .non) : ∃ cs gs, c = .tup cs ∧ g = .tup gs ∧ cs.length ≤ 20000 ∧ gs.length ≤ 60 ∧ (∀ x ∈ cs, isClause x = true) ∧ ∀ x ∈ gs, isGround x = true := by
  unfold badPart at h
  split at h
  · rename_i cs
    split at h
    · cases h
    · split at h
      · rename_i gs
        split at h
        · cases h
        · split at h
          · cases h
          · rename_i h1 h2 h3
            split at h
            · cases h
            · rename_i h4
              exact ⟨cs, gs, rfl, rfl, by omega, by omega, firstBad_all h3, firstBad_all h4⟩
      · cases h
  · cases h
def Nst (x : D) : Prop := x.jn = true ∧ ∀ ys, x = .tup ys → ys.length ≤ 1
def w_law_nested : WF := fun ds k => ds = [] ∧ ∀ x, Nst x → k (.d x)
def w_law_fact : WF := fun ds k => ds = [] ∧ ∀ x, isFact x = true → k (.d x)
def w_law_pool : WF := fun ds k => ∃ m : Int, ds = [.int m] ∧ 0 ≤ m ∧ m ≤ 13 ∧ ∀ xs, xs ≠ [] → xs.length ≤ 14 → (∀ x ∈ xs, isFact x = true) → k (.nw (.lst xs))
def w_law_parts : WF := fun ds k => ∃ m g : Int, ds = [.int m, .int g] ∧ 0 < m ∧ m ≤ 30 ∧ 0 ≤ g ∧ g ≤ 7 ∧ ∀ cs gs, Parts cs gs → (gs.length : Int) = g → k (.d (.tup [.tup cs, .tup gs]))
/-- the facts of some grounds, in order -/
def factsG (gs : List D) : List D := gs.flatMap fun g => match g with
  | .tup fs => fs
  | _ => []
def w_law_ground_facts : WF := fun ds k => ∃ cs gs : List D, ds = [.tup [.tup cs, .tup gs], .lst ((List.range gs.length).map fun i => D.int (i : Nat))] ∧ Parts cs gs ∧ k (.nw (.lst (factsG gs)))
def w_law_bad_fact : WF := fun ds k => ds = [] ∧ ∀ x, x.jn = true → k (.d x)
/-- what is told of a spoilt rule -/
structure Bent (c g : D) : Prop where
  j1 : c.jn = true
  j2 : g.jn = true
  l1 : ∀ cs, c = .tup cs → cs.length ≤ 20000
  l2 : ∀ gs, g = .tup gs → ∀ fs, .tup fs ∈ gs → fs.length ≤ 5000
def w_law_spoilt : WF := fun ds k => ∃ cs gs : List D, ds = [.tup [.tup cs, .tup gs]] ∧ Parts cs gs ∧ ∀ c g, Bent c g → k (.d (.tup [c, g]))
section
variable {k : Res → Prop} {cs gs : List D} {m g : Int}
theorem i_law_nested (q : ∀ x, Nst x → k (.d x)) : w_law_nested [] k := ⟨rfl, q⟩
theorem i_law_fact (q : ∀ x, isFact x = true → k (.d x)) : w_law_fact [] k := ⟨rfl, q⟩
theorem i_law_pool (h0 : 0 ≤ m) (h1 : m ≤ 13) (q : ∀ xs, xs ≠ [] → xs.length ≤ 14 → (∀ x ∈ xs, isFact x = true) → k (.nw (.lst xs))) : w_law_pool [.int m] k := ⟨m, rfl, h0, h1, q⟩
theorem i_law_parts (h0 : 0 < m) (h1 : m ≤ 30) (h2 : 0 ≤ g) (h3 : g ≤ 7) (q : ∀ cs gs, Parts cs gs → (gs.length : Int) = g → k (.d (.tup [.tup cs, .tup gs]))) : w_law_parts [.int m, .int g] k := ⟨m, g, rfl, h0, h1, h2, h3, q⟩
theorem i_law_ground_facts (h : Parts cs gs) (q : k (.nw (.lst (factsG gs)))) : w_law_ground_facts [.tup [.tup cs, .tup gs], .lst ((List.range gs.length).map fun i => D.int (i : Nat))] k := ⟨cs, gs, rfl, h, q⟩
theorem i_law_bad_fact (q : ∀ x, x.jn = true → k (.d x)) : w_law_bad_fact [] k := ⟨rfl, q⟩
theorem i_law_spoilt (h : Parts cs gs) (q : ∀ c g, Bent c g → k (.d (.tup [c, g]))) : w_law_spoilt [.tup [.tup cs, .tup gs]] k := ⟨cs, gs, rfl, h, q⟩
theorem i_law_rule_fault {c g : D} (h : Bent c g) (q : k (.d (badPart c g))) : w_law_rule_fault [c, g] k := ⟨c, g, rfl, h.j1, h.j2, h.l1, h.l2, q⟩
end
theorem len_law_nested : ∀ ds k, w_law_nested ds k → ds.length + 1 = 1 := fun _ _ ⟨e, _⟩ => by rw [e]; rfl
theorem len_law_fact : ∀ ds k, w_law_fact ds k → ds.length + 1 = 1 := fun _ _ ⟨e, _⟩ => by rw [e]; rfl
theorem len_law_pool : ∀ ds k, w_law_pool ds k → ds.length + 1 = 2 := fun _ _ ⟨_, e, _⟩ => by rw [e]; rfl
theorem len_law_parts : ∀ ds k, w_law_parts ds k → ds.length + 1 = 3 := fun _ _ ⟨_, _, e, _⟩ => by rw [e]; rfl
theorem len_law_ground_facts : ∀ ds k, w_law_ground_facts ds k → ds.length = 2 := fun _ _ ⟨_, _, e, _⟩ => by rw [e]; rfl
theorem len_law_bad_fact : ∀ ds k, w_law_bad_fact ds k → ds.length + 1 = 1 := fun _ _ ⟨e, _⟩ => by rw [e]; rfl
theorem len_law_spoilt : ∀ ds k, w_law_spoilt ds k → ds.length + 1 = 2 := fun _ _ ⟨_, _, e, _⟩ => by rw [e]; rfl
theorem len_law_any {K : PySem.W.Frag} {vs : List V} {H : Hp} {Q : VK} {E : XK} (h : spAny K vs H Q E) : vs.length = 2 := by
  obtain ⟨_, _, _, _, e, _⟩ := h
  rw [e]; rfl
/-- a lot of so many grounds -/
def Lot (m : Int) (is : List Int) : Prop := is.Pairwise (· < ·) ∧ ∀ i ∈ is, 0 ≤ i ∧ i < m
abbrev lotD (is : List Int) : D := .tup (is.map D.int)
def w_law_asked : WF := fun ds k => ∃ cs gs : List D, ds = [.tup [.tup cs, .tup gs]] ∧ Parts cs gs ∧ ∀ f, isFact f = true → k (.d f)
def w_law_lot : WF := fun ds k => ∃ m : Int, ds = [.int m] ∧ 0 < m ∧ m ≤ 7 ∧ ∀ is, Lot m is → k (.d (lotD is))
theorem i_law_asked {cs gs : List D} {k : Res → Prop} (h : Parts cs gs) (q : ∀ f, isFact f = true → k (.d f)) : w_law_asked [.tup [.tup cs, .tup gs]] k := ⟨cs, gs, rfl, h, q⟩
theorem i_law_lot {m : Int} {k : Res → Prop} (h0 : 0 < m) (h1 : m ≤ 7) (q : ∀ is, Lot m is → k (.d (lotD is))) : w_law_lot [.int m] k := ⟨m, rfl, h0, h1, q⟩
theorem len_law_asked : ∀ ds k, w_law_asked ds k → ds.length + 1 = 2 := fun _ _ ⟨_, _, e, _⟩ => by rw [e]; rfl
theorem len_law_lot : ∀ ds k, w_law_lot ds k → ds.length + 1 = 2 := fun _ _ ⟨_, e, _⟩ => by rw [e]; rfl
/-- a clause's facts as keys -/
def clK (c : D) : List (List Key) × List Key := match c with
  | .tup [.tup body, head] => (body.map keyF, keyF head)
  | _ => ([], [])
/-- held by a ground of the lot -/
def Base (gs : List D) (is : List Int) (q : List Key) : Prop := ∃ i ∈ is, ∃ fs, gs[i.toNat]? = some (.tup fs) ∧ q ∈ fs.map keyF
def outD : Option Nat → D
  | none => .non
  | some n => .int (n : Int)
abbrev HoldL (cs gs : List D) (is : List Int) (w : Option Nat) : List Key → Prop := Hold (cs.map clK) (Base gs is) w
def w_law_rounds : WF := fun ds k => ∃ (cs gs : List D) (is : List Int) (w : Option Nat), ds = [.tup [.tup cs, .tup gs], lotD is, outD w] ∧ Parts cs gs ∧ Lot gs.length is ∧
  ∀ ks xs, xs.length = ks.length → (∀ q, q ∈ ks ↔ HoldL cs gs is w q) → k (.nw (.dct ks xs))
theorem i_law_rounds {cs gs : List D} {is : List Int} {w : Option Nat} {k : Res → Prop} (h : Parts cs gs) (hl : Lot gs.length is) (q : ∀ ks xs, xs.length = ks.length → (∀ q, q ∈ ks ↔ HoldL cs gs is w q) → k (.nw (.dct ks xs))) : w_law_rounds [.tup [.tup cs, .tup gs], lotD is, outD w] k := ⟨cs, gs, is, w, rfl, h, hl, q⟩
theorem len_law_rounds : ∀ ds k, w_law_rounds ds k → ds.length = 3 := fun _ _ ⟨_, _, _, _, e, _⟩ => by rw [e]; rfl
end LawK54
end
section
namespace LawK54
open PySem PySem.Spec PyProof.Rows L2 C8 PW
theorem sc_is_integer : FnScope ["thing"] ["thing"] (defScope s_is_integer) := ⟨rfl, rfl, rfl, by decide +kernel, rfl, by decide +kernel, by decide +kernel⟩
theorem sc_is_within : FnScope ["thing", "least", "most"] ["thing", "least", "most"] (defScope s_is_within) := ⟨rfl, rfl, rfl, by decide +kernel, rfl, by decide +kernel, by decide +kernel⟩
theorem sc_is_tuple_of : FnScope ["thing", "size"] ["thing", "size"] (defScope s_is_tuple_of) := ⟨rfl, rfl, rfl, by decide +kernel, rfl, by decide +kernel, by decide +kernel⟩
theorem sc_is_fact : FnScope ["thing", "number", "sign"] ["thing"] (defScope s_is_fact) := ⟨rfl, rfl, rfl, by decide +kernel, rfl, by decide +kernel, by decide +kernel⟩
theorem sc_is_clause : FnScope ["thing", "one"] ["thing"] (defScope s_is_clause) := ⟨rfl, rfl, rfl, by decide +kernel, rfl, by decide +kernel, by decide +kernel⟩
theorem sc_is_ground : FnScope ["thing", "one"] ["thing"] (defScope s_is_ground) := ⟨rfl, rfl, rfl, by decide +kernel, rfl, by decide +kernel, by decide +kernel⟩
theorem sc_bad_part : FnScope ["clauses", "grounds", "number", "clause", "ground"] ["clauses", "grounds"] (defScope s_bad_part) := ⟨rfl, rfl, rfl, by decide +kernel, rfl, by decide +kernel, by decide +kernel⟩
theorem sc_law_draw : FnScope ["hand", "many", "cell", "digit", "number"] ["hand", "many"] (defScope s_law_draw) := ⟨rfl, rfl, rfl, by decide +kernel, rfl, by decide +kernel, by decide +kernel⟩
theorem sc_law_any : FnScope ["hand", "items"] ["hand", "items"] (defScope s_law_any) := ⟨rfl, rfl, rfl, by decide +kernel, rfl, by decide +kernel, by decide +kernel⟩
theorem sc_law_fact : FnScope ["hand", "word", "k"] ["hand"] (defScope s_law_fact) := ⟨rfl, rfl, rfl, by decide +kernel, rfl, by decide +kernel, by decide +kernel⟩
theorem sc_law_pool : FnScope ["hand", "many", "found", "turn", "one"] ["hand", "many"] (defScope s_law_pool) := ⟨rfl, rfl, rfl, by decide +kernel, rfl, by decide +kernel, by decide +kernel⟩
theorem sc_law_parts : FnScope ["hand", "most", "grounds", "pool", "clauses", "found", "turn", "size", "k"] ["hand", "most", "grounds"] (defScope s_law_parts) := ⟨rfl, rfl, rfl, by decide +kernel, rfl, by decide +kernel, by decide +kernel⟩
theorem sc_law_ground_facts : FnScope ["parts", "lot", "found", "number"] ["parts", "lot"] (defScope s_law_ground_facts) := ⟨rfl, rfl, rfl, by decide +kernel, rfl, by decide +kernel, by decide +kernel⟩
theorem sc_law_asked : FnScope ["hand", "parts", "some", "body", "head"] ["hand", "parts"] (defScope s_law_asked) := ⟨rfl, rfl, rfl, by decide +kernel, rfl, by decide +kernel, by decide +kernel⟩
theorem sc_law_lot : FnScope ["hand", "many", "k"] ["hand", "many"] (defScope s_law_lot) := ⟨rfl, rfl, rfl, by decide +kernel, rfl, by decide +kernel, by decide +kernel⟩
theorem sc_Rule_init : FnScope ["self", "clauses", "grounds", "bad"] ["self", "clauses", "grounds"] (defScope s_Rule_init) := ⟨rfl, rfl, rfl, by decide +kernel, rfl, by decide +kernel, by decide +kernel⟩
theorem sc_Rule_users : FnScope ["self", "found", "number", "body", "head", "one"] ["self"] (defScope s_Rule_users) := ⟨rfl, rfl, rfl, by decide +kernel, rfl, by decide +kernel, by decide +kernel⟩
theorem sc_unlike : FnScope ["items", "one"] ["items"] (defScope s_unlike) := ⟨rfl, rfl, rfl, by decide +kernel, rfl, by decide +kernel, by decide +kernel⟩
theorem sc_check_fact : FnScope ["thing"] ["thing"] (defScope s_check_fact) := ⟨rfl, rfl, rfl, by decide +kernel, rfl, by decide +kernel, by decide +kernel⟩
theorem sc_check_lot : FnScope ["rule", "thing", "one", "other"] ["rule", "thing"] (defScope s_check_lot) := ⟨rfl, rfl, rfl, by decide +kernel, rfl, by decide +kernel, by decide +kernel⟩
theorem sc_ground_facts : FnScope ["rule", "lot", "found", "number", "one"] ["rule", "lot"] (defScope s_ground_facts) := ⟨rfl, rfl, rfl, by decide +kernel, rfl, by decide +kernel, by decide +kernel⟩
theorem sc_Spread_init : FnScope ["self", "rule", "lot", "left_out", "users", "layer", "ready", "count", "one", "told", "body", "head", "number", "many"] ["self", "rule", "lot", "left_out"] (defScope s_Spread_init) := ⟨rfl, rfl, rfl, by decide +kernel, rfl, by decide +kernel, by decide +kernel⟩
theorem sc_Spread_met : FnScope ["self", "numbers", "found", "number"] ["self", "numbers"] (defScope s_Spread_met) := ⟨rfl, rfl, rfl, by decide +kernel, rfl, by decide +kernel, by decide +kernel⟩
theorem sc_Spread_drawn : FnScope ["self", "ready", "count", "found", "number", "head"] ["self", "ready", "count"] (defScope s_Spread_drawn) := ⟨rfl, rfl, rfl, by decide +kernel, rfl, by decide +kernel, by decide +kernel⟩
theorem sc_spread : FnScope ["rule", "lot"] ["rule", "lot"] (defScope s_spread) := ⟨rfl, rfl, rfl, by decide +kernel, rfl, by decide +kernel, by decide +kernel⟩
theorem sc_led_from : FnScope ["rule", "found", "fact", "known", "waiting", "one", "word", "number"] ["rule", "found", "fact"] (defScope s_led_from) := ⟨rfl, rfl, rfl, by decide +kernel, rfl, by decide +kernel, by decide +kernel⟩
theorem sc_reasons : FnScope ["rule", "lot", "fact", "found", "one"] ["rule", "lot", "fact"] (defScope s_reasons) := ⟨rfl, rfl, rfl, by decide +kernel, rfl, by decide +kernel, by decide +kernel⟩
theorem sc_needed : FnScope ["rule", "lot", "fact", "told", "used", "one", "word", "number"] ["rule", "lot", "fact"] (defScope s_needed) := ⟨rfl, rfl, rfl, by decide +kernel, rfl, by decide +kernel, by decide +kernel⟩
theorem sc_law_hand : FnScope ["script", "cells", "cell"] ["script"] (defScope s_law_hand) := ⟨rfl, rfl, rfl, by decide +kernel, rfl, by decide +kernel, by decide +kernel⟩
theorem sc_law_is : FnScope ["given", "due", "one", "two"] ["given", "due"] (defScope s_law_is) := ⟨rfl, rfl, rfl, by decide +kernel, rfl, by decide +kernel, by decide +kernel⟩
theorem sc_law_made : FnScope ["parts"] ["parts"] (defScope s_law_made) := ⟨rfl, rfl, rfl, by decide +kernel, rfl, by decide +kernel, by decide +kernel⟩
theorem sc_law_rounds : FnScope ["parts", "lot", "without", "found", "number", "one", "turn", "fresh", "body", "head"] ["parts", "lot", "without"] (defScope s_law_rounds) := ⟨rfl, rfl, rfl, by decide +kernel, rfl, by decide +kernel, by decide +kernel⟩
theorem sc_law_main : FnScope ["script", "hand", "turn", "many", "parts", "rule", "again", "lot", "fact", "due", "numbers", "k"] ["script"] (defScope s_law_main) := ⟨rfl, rfl, rfl, by decide +kernel, rfl, by decide +kernel, by decide +kernel⟩
structure Gx (K : PySem.W.Frag) (mg : Str → Option Value) : Prop where
  b_all : mg "all" = none
  b_bool : mg "bool" = none
  b_enumerate : mg "enumerate" = none
  b_int : mg "int" = none
  b_isinstance : mg "isinstance" = none
  b_len : mg "len" = none
  b_list : mg "list" = none
  b_range : mg "range" = none
  b_str : mg "str" = none
  b_tuple : mg "tuple" = none
  k_GROUND : ∃ u, mg "GROUND" = some u ∧ RelV (.str "ground") u
  k_LETTERS : ∃ u, mg "LETTERS" = some u ∧ RelV (.str "abcdefghijklmnopqrstuvwxyz") u
  k_MOST_BODY : ∃ u, mg "MOST_BODY" = some u ∧ RelV (.int 4) u
  k_MOST_CLAUSES : ∃ u, mg "MOST_CLAUSES" = some u ∧ RelV (.int 20000) u
  k_MOST_FACTS : ∃ u, mg "MOST_FACTS" = some u ∧ RelV (.int 5000) u
  k_MOST_GROUNDS : ∃ u, mg "MOST_GROUNDS" = some u ∧ RelV (.int 60) u
  k_MOST_NUMBER : ∃ u, mg "MOST_NUMBER" = some u ∧ RelV (.int 999999999999) u
  k_MOST_PLACES : ∃ u, mg "MOST_PLACES" = some u ∧ RelV (.int 4) u
  k_MOST_SIGNS : ∃ u, mg "MOST_SIGNS" = some u ∧ RelV (.int 12) u
  f_is_integer : ∃ f fd, FunD K "is_integer" "is_integer" (defArgs s_is_integer) (defBody s_is_integer) (defScope s_is_integer) [] [] f fd ∧ mg "is_integer" = some (.ref f)
  f_is_within : ∃ f fd, FunD K "is_within" "is_within" (defArgs s_is_within) (defBody s_is_within) (defScope s_is_within) [] [] f fd ∧ mg "is_within" = some (.ref f)
  f_is_tuple_of : ∃ f fd, FunD K "is_tuple_of" "is_tuple_of" (defArgs s_is_tuple_of) (defBody s_is_tuple_of) (defScope s_is_tuple_of) [] [] f fd ∧ mg "is_tuple_of" = some (.ref f)
  f_is_fact : ∃ f fd, FunD K "is_fact" "is_fact" (defArgs s_is_fact) (defBody s_is_fact) (defScope s_is_fact) [] [] f fd ∧ mg "is_fact" = some (.ref f)
  f_is_clause : ∃ f fd, FunD K "is_clause" "is_clause" (defArgs s_is_clause) (defBody s_is_clause) (defScope s_is_clause) [] [] f fd ∧ mg "is_clause" = some (.ref f)
  f_is_ground : ∃ f fd, FunD K "is_ground" "is_ground" (defArgs s_is_ground) (defBody s_is_ground) (defScope s_is_ground) [] [] f fd ∧ mg "is_ground" = some (.ref f)
  f_bad_part : ∃ f fd, FunD K "bad_part" "bad_part" (defArgs s_bad_part) (defBody s_bad_part) (defScope s_bad_part) [] [] f fd ∧ mg "bad_part" = some (.ref f)
  f_law_draw : ∃ f fd, FunD K "_law_draw" "_law_draw" (defArgs s_law_draw) (defBody s_law_draw) (defScope s_law_draw) [] [] f fd ∧ mg "_law_draw" = some (.ref f)
  f_law_any : ∃ f fd, FunD K "_law_any" "_law_any" (defArgs s_law_any) (defBody s_law_any) (defScope s_law_any) [] [] f fd ∧ mg "_law_any" = some (.ref f)
  f_law_fact : ∃ f fd, FunD K "_law_fact" "_law_fact" (defArgs s_law_fact) (defBody s_law_fact) (defScope s_law_fact) [] [] f fd ∧ mg "_law_fact" = some (.ref f)
  f_law_pool : ∃ f fd, FunD K "_law_pool" "_law_pool" (defArgs s_law_pool) (defBody s_law_pool) (defScope s_law_pool) [] [] f fd ∧ mg "_law_pool" = some (.ref f)
  f_law_parts : ∃ f fd, FunD K "_law_parts" "_law_parts" (defArgs s_law_parts) (defBody s_law_parts) (defScope s_law_parts) [] [] f fd ∧ mg "_law_parts" = some (.ref f)
  f_law_ground_facts : ∃ f fd, FunD K "_law_ground_facts" "_law_ground_facts" (defArgs s_law_ground_facts) (defBody s_law_ground_facts) (defScope s_law_ground_facts) [] [] f fd ∧ mg "_law_ground_facts" = some (.ref f)
  f_law_asked : ∃ f fd, FunD K "_law_asked" "_law_asked" (defArgs s_law_asked) (defBody s_law_asked) (defScope s_law_asked) [] [] f fd ∧ mg "_law_asked" = some (.ref f)
  f_law_lot : ∃ f fd, FunD K "_law_lot" "_law_lot" (defArgs s_law_lot) (defBody s_law_lot) (defScope s_law_lot) [] [] f fd ∧ mg "_law_lot" = some (.ref f)
  f_unlike : ∃ f fd, FunD K "unlike" "unlike" (defArgs s_unlike) (defBody s_unlike) (defScope s_unlike) [] [] f fd ∧ mg "unlike" = some (.ref f)
  f_check_fact : ∃ f fd, FunD K "check_fact" "check_fact" (defArgs s_check_fact) (defBody s_check_fact) (defScope s_check_fact) [] [] f fd ∧ mg "check_fact" = some (.ref f)
  f_check_lot : ∃ f fd, FunD K "check_lot" "check_lot" (defArgs s_check_lot) (defBody s_check_lot) (defScope s_check_lot) [] [] f fd ∧ mg "check_lot" = some (.ref f)
  f_ground_facts : ∃ f fd, FunD K "ground_facts" "ground_facts" (defArgs s_ground_facts) (defBody s_ground_facts) (defScope s_ground_facts) [] [] f fd ∧ mg "ground_facts" = some (.ref f)
  f_spread : ∃ f fd, FunD K "spread" "spread" (defArgs s_spread) (defBody s_spread) (defScope s_spread) [] [] f fd ∧ mg "spread" = some (.ref f)
  f_led_from : ∃ f fd, FunD K "led_from" "led_from" (defArgs s_led_from) (defBody s_led_from) (defScope s_led_from) [] [] f fd ∧ mg "led_from" = some (.ref f)
  f_reasons : ∃ f fd, FunD K "reasons" "reasons" (defArgs s_reasons) (defBody s_reasons) (defScope s_reasons) [] [] f fd ∧ mg "reasons" = some (.ref f)
  f_needed : ∃ f fd, FunD K "needed" "needed" (defArgs s_needed) (defBody s_needed) (defScope s_needed) [] [] f fd ∧ mg "needed" = some (.ref f)
  f_law_hand : ∃ f fd, FunD K "_law_hand" "_law_hand" (defArgs s_law_hand) (defBody s_law_hand) (defScope s_law_hand) [] [] f fd ∧ mg "_law_hand" = some (.ref f)
  f_law_is : ∃ f fd, FunD K "_law_is" "_law_is" (defArgs s_law_is) (defBody s_law_is) (defScope s_law_is) [] [] f fd ∧ mg "_law_is" = some (.ref f)
  f_law_made : ∃ f fd, FunD K "_law_made" "_law_made" (defArgs s_law_made) (defBody s_law_made) (defScope s_law_made) [] [] f fd ∧ mg "_law_made" = some (.ref f)
  f_law_rounds : ∃ f fd, FunD K "_law_rounds" "_law_rounds" (defArgs s_law_rounds) (defBody s_law_rounds) (defScope s_law_rounds) [] [] f fd ∧ mg "_law_rounds" = some (.ref f)
  f_law_main : ∃ f fd, FunD K "law" "law" (defArgs s_law_main) (defBody s_law_main) (defScope s_law_main) [] [] f fd ∧ mg "law" = some (.ref f)
  b_super : mg "super" = none
  b_sorted : mg "sorted" = none
  b_zip : mg "zip" = none
  b_abs : mg "abs" = none
  c_Rule : mg "Rule" = some (.ref (He.ga K "Rule"))
  c_BadRule : mg "BadRule" = some (.ref (He.ga K "BadRule"))
  c_PostError : mg "PostError" = some (.ref (He.ga K "PostError"))
  c_NoLot : mg "NoLot" = some (.ref (He.ga K "NoLot"))
  c_NoFact : mg "NoFact" = some (.ref (He.ga K "NoFact"))
  c_Spread : mg "Spread" = some (.ref (He.ga K "Spread"))
  k_CLAUSE : ∃ u, mg "CLAUSE" = some u ∧ RelV (.str "clause") u
end LawK54
end
section
/-! PWRev: tuple(reversed(t)), t a tuple. -/
namespace PW
open PySem PySem.Spec PyProof.Rows RT
theorem rt_nolen : typeLookup (.type "reversed") "__len__" = pure none := by rw [typeLookup_type, builtinLookup_eq_fast]; kernel_rfl
theorem rt_hint : Slot "reversed" "__length_hint__" "reversed.__length_hint__" :=
  .of (owner := "reversed") (n := "__length_hint__") (by rw [typeLookup_type, builtinLookup_eq_fast]; kernel_rfl) (by decide +kernel) (by decide +kernel) (by decide +kernel)
    (by first | exact .inl (by decide +kernel) | exact .inr (by decide +kernel)) (by rw [isSubtype_type]; kernel_rfl)
theorem rt_hint_entry : entryFor table "reversed.__length_hint__" = some Builtin.«reversed.__length_hint__» := entryFor_of_tree (by kernel_rfl)
theorem rt_hint_args (a : Value) : argsOk "reversed.__length_hint__" ⟨[a], []⟩ := by unfold argsOk; kernel_rfl
theorem rt_walks {prog : Program} {w : World} {A : Around} (hh : A.handled = none) (I t : Addr) (hne : t ≠ I) (items : Array Value) (hsz : items.size ≤ sizeLine) :
    Walks prog w A I [I, t] [I] items.size (fun i v => items[items.size - 1 - i]? = some v) (fun i h => i ≤ items.size ∧ IsRt h I t ((items.size : Int) - 1 - (i : Int)) ∧ IsTup h t items) where
  sub := fun b hb => by simp at hb; simp [hb]
  frame := fun _ _ _ x hk => ⟨x.1, x.2.1.at fun o e => hk I (by simp) o e, by obtain ⟨o, ho, r⟩ := x.2.2; exact ⟨o, hk t (by simp) o ho, r⟩⟩
  item := fun i s Q E hi x hQ => by
    have e : (items.size : Int) - 1 - (i : Int) = ((items.size - 1 - i : Nat) : Int) := by omega
    have hit := x.2.1
    rw [e] at hit
    have hx : items[items.size - 1 - i]? = some (items[items.size - 1 - i]'(by omega)) := Array.getElem?_eq_getElem (by omega)
    refine next_rt_item hit x.2.2 hx hsz fun h' hit' hs' => ?_
    have e2 : ((items.size - 1 - i : Nat) : Int) - 1 = (items.size : Int) - 1 - ((i + 1 : Nat) : Int) := by omega
    rw [e2] at hit'
    exact hQ _ h' (s.toks + 1) hx ⟨hi, hit', by obtain ⟨o, ho, r⟩ := x.2.2; exact ⟨o, (hs'.2 t hne).trans ho, r⟩⟩ fun b o hb eo => hs'.extBut b o (fun h => hb (by simp [h])) eo
  done := fun s Q E x hQ => by
    have e : (items.size : Int) - 1 - (items.size : Int) = -1 := by omega
    have hit := x.2.1
    rw [e] at hit
    exact next_rt_end hh hit fun h' he' => hQ h' s.toks fun b o hb eo => he' b o (fun h => hb (by simp [h])) eo
  self := fun _ _ _ _ x hQ => iter_rt x.2.1 hQ
section
variable {prog : Program} {w : World} {A : Around} {E : Value → Shared → Prop} {s : Shared}
theorem rt_hint_run {it t : Addr} {items : Array Value} {P : Fin → Shared → Prop} (hit : IsRt s.heap it t ((items.size : Int) - 1)) (ht : IsTup s.heap t items) (hsz : items.size ≤ sizeLine)
    (hP : ∀ tk u, P (.done (.ret (.int items.size u))) { s with toks := tk }) : wpAny (model prog w) A (Builtin.«reversed.__length_hint__» ⟨[.ref it], []⟩) P E s := by
  obtain ⟨o, ho, hc, hd⟩ := id hit
  rw [sizeLine_eq] at hsz
  unfold Builtin.«reversed.__length_hint__»
  refine wpAny_bind (wpAny_of_eq (a := Value.ref it) rfl ?_)
  try dsimp only
  refine wpAny_bind (wpAny_field ho hd (x := .ref t) rfl ?_)
  try dsimp only
  rw [if_neg (show ¬ ((Value.ref t == Value.none) = true) from by simp)]
  try dsimp only
  refine wpAny_bind (len_tuple ht (by omega) ?_)
  try dsimp only
  refine wpAny_bind (wpAny_of_eq (a := some ((items.size : Nat) : Int)) rfl ?_)
  try dsimp only
  refine wpAny_bind (wpAny_field (s := { s with toks := s.toks + 1 + 1 }) ho hd (x := rawInt ((items.size : Int) - 1)) rfl ?_)
  show wpAny _ _ (if ((items.size : Nat) : Int) < (items.size : Int) - 1 + 1 then _ else _) _ _ _
  rw [if_neg (by omega), show (items.size : Int) - 1 + 1 = items.size by omega]
  show wpAny _ _ (mkInt _ >>= fun v => ret v) _ _ _
  refine wpAny_bind (wpAny_mkInt ?_)
  exact wpAny_pure (hP _ _)
theorem rt_collect {it t : Addr} {items : Array Value} {Q : List Value → Shared → Prop} (hh : A.handled = none) (hit : IsRt s.heap it t ((items.size : Int) - 1)) (ht : IsTup s.heap t items) (hne : t ≠ it) (hn : items.size ≤ sizeLine)
    (hQ : ∀ (h' : Heap) (tk : Nat) (acc : Array Value), (∀ b o, b ≠ it → s.heap.get? b = some o → h'.get? b = some o) → ItemsOf (fun i v => items[items.size - 1 - i]? = some v) acc items.size → Q acc.toList { s with heap := h', toks := tk }) :
    wpAny (model prog w) A (collect (.ref it)) Q E s := by
  have W := (rt_walks (prog := prog) (w := w) (A := A.in1) hh it t hne items hn).toS
  obtain ⟨oi, hoi, _⟩ := id hit
  obtain ⟨ol, hol, _⟩ := id ht
  have hSi : s.heap.objs.size ≠ it := Nat.ne_of_gt (Heap.lt_size hoi)
  have hSt : s.heap.objs.size ≠ t := Nat.ne_of_gt (Heap.lt_size hol)
  have hSf : s.heap.objs.size ∉ [it, t] := by simp only [List.mem_cons, List.not_mem_nil, or_false, not_or]; exact ⟨hSi, hSt⟩
  unfold collect
  refine wpAny_bind (wpAny_runValue (codeAny_builtin F.entry_proto_collect ?_))
  rw [Around.under_plainId F.plain_proto_collect _]
  show wpAny _ A.in1 (newList [] >>= fun l' => again (.builtin "list.__iadd__" ⟨[l', .ref it], []⟩)) _ _ s
  refine wpAny_bind (wpAny_newObj_type ?_)
  refine wpAny_pure ⟨plainId_quiet F.plain_list_iadd _, codeAny_builtin F.entry_list_iadd ?_⟩
  rw [Around.under_plainId F.plain_list_iadd _]
  have k1 : ∀ b o, s.heap.get? b = some o → (s.heap.push { cls := .type "list", data := .seq ([] : List Value).toArray }).get? b = some o := fun b o e => Heap.get?_push_of_some _ e
  have hS₁ : (s.heap.push { cls := .type "list", data := .seq ([] : List Value).toArray }).get? s.heap.objs.size = some { cls := .type "list", data := .seq ([] : List Value).toArray } := Heap.get?_push_size _ rfl
  have hit1 : IsRt (s.heap.push { cls := .type "list", data := .seq ([] : List Value).toArray }) it t ((items.size : Int) - 1) := hit.at fun o e => k1 _ o e
  have ht1 : IsTup (s.heap.push { cls := .type "list", data := .seq ([] : List Value).toArray }) t items := ht.keeps k1
  have hT : ∀ tk, ({ s with heap := s.heap.push { cls := .type "list", data := .seq ([] : List Value).toArray }, toks := tk } : Shared).TypeIs (.ref it) "reversed" := fun tk => by
    obtain ⟨o, ho, hc, _⟩ := hit1
    exact ⟨o, ho, hc⟩
  have h1 : Builtin.List.listSameRef (.ref s.heap.objs.size) (.ref it) = false := by simp [Builtin.List.listSameRef, hSi]
  show wpAny _ A.in1 (Builtin.List.listExtendWith (.ref s.heap.objs.size) (.ref it) (.ref s.heap.objs.size)) _ _ _
  unfold Builtin.List.listExtendWith
  refine wpAny_bind (wpAny_typeOf (hT _) ?_)
  rw [if_neg (by rw [h1]; decide)]
  refine wpAny_bind (iter_rt (s := { s with heap := s.heap.push { cls := .type "list", data := .seq ([] : List Value).toArray } }) hit1 ?_)
  refine wpAny_bind (wpAny_holding ?_)
  unfold Builtin.List.listLengthHint
  refine wpAny_bind (wpAny_specialOf (hT _) rt_nolen ?_)
  show wpAny _ A.in1 (specialOf (Value.ref it) (Str.ofString "__length_hint__") >>= _) _ _ _
  refine wpAny_bind (wpAny_specialOf (hT _) rt_hint.lookup ?_)
  generalize hid : ("reversed.__length_hint__" : String) = id0
  wp_delta
  rw [show splitId id0 = some ("reversed", "__length_hint__") from by subst hid; decide +kernel]
  subst hid
  refine wpAny_bind (wpAny_isInstance (b := true) (hT _) (by rw [isSubtype_type]; kernel_rfl) ?_)
  rw [if_neg (show ¬ ((!true) = true) from by decide)]
  try dsimp only
  rw [if_neg (by decide)]
  refine wpAny_bind (wpAny_rule ?_)
  refine wpAny_bind (wpAny_of_eq (rt_hint.bind _) ?_)
  try dsimp only
  refine wpAny_bind (wpAny_attempt (wpAny_call_entry rt_hint (hT _) rt_hint_entry (rt_hint_run (s := { s with heap := s.heap.push { cls := .type "list", data := .seq ([] : List Value).toArray } }) hit1 ht1 hn fun tk u => ?_) (rt_hint_args _)))
  refine ⟨_, rfl, ?_⟩
  try dsimp only
  have ea : ∀ z : Int, asInt? (Value.int z u) = pure (some z) := fun z => rfl
  rw [ea]
  rw [pure_bind]
  try dsimp only
  have hn' := hn
  rw [sizeLine_eq] at hn'
  rw [if_neg (show ¬ ((!Builtin.List.listFitsIndex ((items.size : Nat) : Int)) = true) from by
      have e : Builtin.List.listFitsIndex ((items.size : Nat) : Int) = true := by
        unfold Builtin.List.listFitsIndex
        rw [decide_eq_true (by omega), decide_eq_true (by omega)]
        rfl
      rw [e]
      decide), if_neg (show ¬ (((items.size : Nat) : Int) < 0) from by omega), if_neg (show ¬ (Builtin.List.listTooLong (((items.size : Nat) : Int)).toNat = true) from by
      unfold Builtin.List.listTooLong
      rw [decide_eq_false (by rw [Int.toNat_natCast]; omega)]
      exact Bool.false_ne_true)]
  refine wpAny_pure ?_
  have e0 : ((items.size : Nat) : Int) - 1 - ((0 : Nat) : Int) = (items.size : Int) - 1 := by omega
  have oth1 : ∀ b o, s.heap.get? b = some o → b ≠ s.heap.objs.size := fun b o e => Nat.ne_of_lt (Heap.lt_size e)
  cases hz : (((items.size : Nat) : Int) != 0) with
  | false =>
    rw [if_neg (by decide)]
    refine wpAny_pure ⟨plainId_quiet F.plain_extend_loop _, codeAny_extend_loopS W hn _ hSf _ items.size 0 _ _ _ rfl (Nat.zero_le _) ⟨Nat.zero_le _, by rw [e0]; exact hit1, ht1⟩ hS₁ (ItemsOf.nil _) fun s' acc' c' hm hS' hacc => ?_⟩
    show wpAny _ A (load s.heap.objs.size >>= _) _ _ s'
    refine wpAny_bind (wpAny_load hS' (wpAny_pure ?_))
    rw [Moved.eq_with hm]
    refine hQ s'.heap s'.toks acc' (fun b o hb e => hm.heap b o (fun hmem => ?_) (k1 b o e)) hacc
    rcases List.mem_cons.mp hmem with e' | hmem
    · exact oth1 b o e e'
    · exact hb (List.mem_singleton.mp hmem)
  | true =>
    rw [if_pos (Bool.true_or _)]
    refine wpAny_bind (wpAny_rule ?_)
    refine wpAny_bind ?_
    show wpAny _ A.in1 (updateSeq s.heap.objs.size (·.push .none) >>= fun _ => updateSeq s.heap.objs.size (·.pop)) _ _ _
    refine wpAny_bind (wpAny_updateSeq hS₁ rfl ?_)
    have hS₂ := Heap.get?_update_self (Obj.mapSeq (·.push Value.none)) hS₁ rfl
    refine wpAny_updateSeq hS₂ rfl ?_
    have hS₃ := Heap.get?_update_self (Obj.mapSeq (·.pop)) hS₂ rfl
    have oth : ∀ b o, b ≠ s.heap.objs.size → (s.heap.push { cls := .type "list", data := .seq ([] : List Value).toArray }).get? b = some o →
        (((s.heap.push { cls := .type "list", data := .seq ([] : List Value).toArray }).update s.heap.objs.size (Obj.mapSeq (·.push Value.none))).update s.heap.objs.size (Obj.mapSeq (·.pop))).get? b = some o :=
      fun b o hb e => (Heap.get?_update_other _ _ (Ne.symm hb)).trans ((Heap.get?_update_other _ _ (Ne.symm hb)).trans e)
    refine wpAny_pure ⟨plainId_quiet F.plain_extend_loop _, codeAny_extend_loopS W hn _ hSf _ items.size 0 _ _ _ rfl (Nat.zero_le _) ⟨Nat.zero_le _, by rw [e0]; exact hit1.at fun o e => oth _ _ (Ne.symm hSi) e, by obtain ⟨o, ho, r⟩ := ht1; exact ⟨o, oth _ _ (Ne.symm hSt) ho, r⟩⟩ hS₃ (ItemsOf.nil _) fun s' acc' c' hm hS' hacc => ?_⟩
    show wpAny _ A (load s.heap.objs.size >>= _) _ _ s'
    refine wpAny_bind (wpAny_load hS' (wpAny_pure ?_))
    rw [Moved.eq_with hm]
    refine hQ s'.heap s'.toks acc' (fun b o hb e => hm.heap b o (fun hmem => ?_) (oth _ _ (oth1 b o e) (k1 b o e))) hacc
    rcases List.mem_cons.mp hmem with e' | hmem
    · exact oth1 b o e e'
    · exact hb (List.mem_singleton.mp hmem)
theorem rt_tuple_new {it t : Addr} {items : Array Value} {Q₁ : Value → Shared → Prop} (hh : A.handled = none) (hit : IsRt s.heap it t ((items.size : Int) - 1)) (ht : IsTup s.heap t items) (hne : t ≠ it) (hn : items.size ≤ sizeLine)
    (h : ∀ (h' : Heap) (tk : Nat) (acc : Array Value), (∀ b o, b ≠ it → s.heap.get? b = some o → h'.get? b = some o) → ItemsOf (fun i v => items[items.size - 1 - i]? = some v) acc items.size →
      Q₁ (.ref h'.objs.size) { s with heap := h'.push { cls := .type "tuple", data := .seq acc }, toks := tk }) :
    codeAny (model prog w) A (.call (.builtin "tuple.__new__") ⟨[.type "tuple", .ref it], []⟩) (wants Q₁ E) s := by
  refine codeAny_of_tree ?_
  show wpAny _ A.in1 (do checkBuiltinCall "tuple.__new__" ⟨[.type "tuple", .ref it], []⟩; again (.builtin "tuple.__new__" ⟨[.type "tuple", .ref it], []⟩)) _ _ s
  refine wpAny_bind (wpAny_of_eq (F.newCall_tuple_1 _) (wpAny_pure ⟨plainId_quiet F.plain_tuple_new _, codeAny_builtin F.entry_tuple_new ?_⟩))
  rw [Around.under_plainId F.plain_tuple_new _]
  have hsub := sub_tuple_self
  have hinit := init_tuple_lookup
  have hmh := madeHere_tuple
  have hTI : s.TypeIs (.ref it) "reversed" := hit.typeIs
  have hh1 : A.in1.handled = none := hh
  wp_walk using wpAny_typeOf hTI, rt_collect (A := A.in1) hh1 hit ht hne hn
  intro h' tk acc hk hacc
  show wpAny _ _ (Builtin.Tuple.tupleExact acc.toList.toArray >>= fun v => ret v) _ _ _
  unfold Builtin.Tuple.tupleExact
  refine wpAny_bind (wpAny_newObj_type ?_ (by show acc.toList.toArray.size ≤ sizeLine; simp only [Array.toArray_toList]; rw [hacc.1]; exact hn))
  refine wpAny_pure ?_
  have e : acc.toList.toArray = acc := by simp
  rw [e]
  exact h h' tk acc hk hacc
theorem rt_call_tuple {it t : Addr} {items : Array Value} {Q : Value → Shared → Prop} (hh : A.handled = none) (hit : IsRt s.heap it t ((items.size : Int) - 1)) (ht : IsTup s.heap t items) (hne : t ≠ it) (hn : items.size ≤ sizeLine)
    (hQ : ∀ (h' : Heap) (tk : Nat) (acc : Array Value), (∀ b o, b ≠ it → s.heap.get? b = some o → h'.get? b = some o) → ItemsOf (fun i v => items[items.size - 1 - i]? = some v) acc items.size →
      Q (.ref h'.objs.size) { s with heap := h'.push { cls := .type "tuple", data := .seq acc }, toks := tk }) :
    wpAny (model prog w) A (call (.type "tuple") [.ref it]) Q E s := by
  refine callType_codes (Q₁ := fun obj s₁ => s₁.TypeIs obj "tuple" ∧ Q obj s₁) F.called_tuple (F.typeCall_tuple_1 _) F.entry_object_init
    (rt_tuple_new (A := A.in1) hh hit ht hne hn fun h' tk acc hk hacc => ⟨⟨_, Heap.get?_push_size _ rfl, rfl⟩, hQ h' tk acc hk hacc⟩) fun obj s₁ h₁ => ?_
  exact ⟨h₁.1, F.args_object_init_2 obj _, object_init_meets F.called_tuple.init.lookup F.called_tuple.made (by decide) prog w A.in1 _ s₁ ⟨h₁.1, rfl, h₁.2⟩⟩
end
section
open L2
/-- tuple(reversed(x)), x a tuple -/
def tTupRevT (K : PySem.W.Frag) (te : TE) : TE := fun σ H Q => te σ H fun v H1 => ∃ (a : Addr) (xs : List V), v = .ref a ∧ SqT K H1 a xs ∧ ∀ q, H1 q = none → Q (.ref q) (upd H1 q (.tup xs.reverse))
variable {X : Cx}
theorem pe_tupRevT {e : Expr} {te : TE} {p p2 pos pos2 : Pos} (hc : X.calm = true) (hg : Gl X "tuple") (hm : X.mg "tuple" = none) (hg2 : Gl X "reversed") (hm2 : X.mg "reversed" = none) (he : PE X e te)
    (hs : starEach [e] X.env = (false, eval e X.env) :: starEach [] X.env := by rfl)
    (hs2 : starEach [.Call (.Name "reversed" p2) [e] [] pos2] X.env = (false, eval (.Call (.Name "reversed" p2) [e] [] pos2) X.env) :: starEach [] X.env := by rfl) :
    PE X (.Call (.Name "tuple" p) [.Call (.Name "reversed" p2) [e] [] pos2] [] pos) (tTupRevT X.K te) := by
  refine ⟨fun pins s σ H Q I h => ?_⟩
  refine Call_ (ld_blt I hg hm boot_tuple (PyProof.Rows.callWith_type1 (args_cons (Call_ (ld_blt I hg2 hm2 PyProof.Rows.boot_reversed (PyProof.Rows.callWith_type1 (args_cons (thn (he.run pins s σ H _ I h) fun u s1 ⟨v, H1, I1, r1, q1⟩ => args_nil ?_) hs) hs rfl))) hs2) hs2 rfl))
  obtain ⟨a, xs, ev, hq, q⟩ := q1
  subst ev
  obtain rfl : u = Value.ref a := r1
  obtain ⟨its, rv, p', hz⟩ := I1.tuple hq
  have hlv := rv.length
  have hsl := hz
  rw [sizeLine_eq] at hsl
  refine call_reversed_tup p' (fun A E Q k => len_tuple p' (by simp only [List.size_toArray] <;> omega) k) (args_nil ?_)
  have k0 : ∀ b o, s1.heap.get? b = some o → (s1.heap.push (rtObj a ((its.toArray.size : Int) - 1))).get? b = some o := fun b o e => Heap.get?_push_of_some _ e
  have I2 : Inv X pins σ H1 { s1 with heap := s1.heap.push (rtObj a ((its.toArray.size : Int) - 1)), toks := s1.toks + 1 + 1 } := I1.kept (t' := s1.toks + 1 + 1) k0
  obtain ⟨f0, f1, f2, f3, f4, f5⟩ := I1.fpOk (H' := H1) (b := s1.heap.objs.size) (Nat.le_refl _) (I1.hok.fresh (Nat.le_refl _))
  obtain ⟨ol, hol, _⟩ := id p'
  have hne : a ≠ s1.heap.objs.size := Nat.ne_of_lt (Heap.lt_size hol)
  have hn : its.toArray.size ≤ sizeLine := by rw [List.size_toArray, ← rv.length]; exact hz
  refine rt_call_tuple (s := { s1 with heap := s1.heap.push (rtObj a ((its.toArray.size : Int) - 1)), toks := s1.toks + 1 + 1 }) (I1.ok.hd hc) ⟨_, Heap.get?_push_size _ rfl, rfl, rfl⟩ (IsTup.keeps p' k0) hne hn fun h' tk acc hk hi => ?_
  have I3 : Inv X pins σ H1 { s1 with heap := h', toks := tk } := I2.turned (t' := tk) (fun b o hb e => hk b o hb e) f0 f1 f3 f4 f5
  refine ⟨.ref h'.objs.size, upd H1 h'.objs.size (.tup xs.reverse), I3.laid (t' := tk) (fun c o e => Heap.get?_push_of_some _ e) (Nat.le_refl _) (show ObjOk X.prog X.w _ _ _ (.tup xs.reverse) from ⟨by rw [List.length_reverse]; exact hz, acc.toList, vals_rev rv hi, ?_⟩), rfl, q _ (I3.hok.fresh (Nat.le_refl _))⟩
  rw [Array.toArray_toList]
  exact IsTup.new _ _
end
end PW
end
section
namespace LawK54
open PySem PySem.Spec PyProof.Rows L2 C8 PW
def t_is_integer (K : PySem.W.Frag) : TS :=
  (tRet (tAndV (tCB (rIsi K) (tCons (tVar 0) (tCons (tC (.ty "int")) tNil))) (tNotV (tCB (rIsi K) (tCons (tVar 0) (tCons (tC (.ty "bool")) tNil))))))
def t_is_within (K : PySem.W.Frag) : TS :=
  (tRet (tAndV (PW.tCallS (spW K w_is_integer) L2.E0 (tCons (tVar 0) tNil)) (tChain rLeI rLeI (tVar 1) (tVar 0) (tVar 2))))
def t_is_tuple_of (K : PySem.W.Frag) : TS :=
  (tRet (tAndV (tCB (rIsi K) (tCons (tVar 0) (tCons (tC (.ty "tuple")) tNil))) (tOp (rEqD K) (tCB (rLenU K) (tCons (tVar 0) tNil)) (tVar 1))))
def t_is_fact (K : PySem.W.Frag) : TS :=
  (tSeq (tIfS (tOr (tNot (tB (tCB (rIsi K) (tCons (tVar 0) (tCons (tC (.ty "tuple")) tNil))))) (tOr (tNot (tTest (tChain rLeI rLeI (tC (.int 1)) (tCB (rLenU K) (tCons (tVar 0) tNil)) (tOp (rAddU K) (tC (.int 1)) (tC (.int 4)))))) (tNot (tB (tCB (rIsi K) (tCons (tOp (rIx K) (tVar 0) (tC (.int 0))) (tCons (tC (.ty "str")) tNil)))))))
  (tRet (tC (.bl false)))
  tNext)
  (tSeq (tIfS (tOr (tNot (tTest (tChain rLeI rLeI (tC (.int 1)) (tCB (rLenU K) (tCons (tOp (rIx K) (tVar 0) (tC (.int 0))) tNil)) (tC (.int 12))))) (tNot (tB (tCB (rAll K) (tCons (tLc (iSeqU K (tOp (rIx K) (tVar 0) (tC (.int 0)))) (gName 2) tYes (tOp (rInU K) (tVar 2) (tC (.str "abcdefghijklmnopqrstuvwxyz"))) [2]) tNil)))))
  (tRet (tC (.bl false)))
  tNext)
  (tRet (tCB (rAll K) (tCons (tLc (iSeqU K (tSl (rSlU K) (tVar 0) (tPart (tC (.int 1))) tNoPart)) (gName 1) tYes (PW.tCallS (spW K w_is_within) L2.E0 (tCons (tVar 1) (tCons (tC (.int 0)) (tCons (tC (.int 999999999999)) tNil)))) [1]) tNil)))))
def t_is_clause (K : PySem.W.Frag) : TS :=
  (tSeq (tIfS (tOr (tNot (tB (PW.tCallS (spW K w_is_tuple_of) L2.E0 (tCons (tVar 0) (tCons (tC (.int 2)) tNil))))) (tOr (tNot (tB (tCB (rIsi K) (tCons (tOp (rIx K) (tVar 0) (tC (.int 0))) (tCons (tC (.ty "tuple")) tNil))))) (tTest (tOp rGtI (tCB (rLenU K) (tCons (tOp (rIx K) (tVar 0) (tC (.int 0))) tNil)) (tC (.int 4))))))
  (tRet (tC (.bl false)))
  tNext)
  (tRet (tAndV (tCB (rAll K) (tCons (tLc (iSeqU K (tOp (rIx K) (tVar 0) (tC (.int 0)))) (gName 1) tYes (PW.tCallS (spW K w_is_fact) L2.E0 (tCons (tVar 1) tNil)) [1]) tNil)) (PW.tCallS (spW K w_is_fact) L2.E0 (tCons (tOp (rIx K) (tVar 0) (tC (.int 1))) tNil)))))
def t_is_ground (K : PySem.W.Frag) : TS :=
  (tRet (tAndV (tCB (rIsi K) (tCons (tVar 0) (tCons (tC (.ty "tuple")) tNil))) (tAndV (tOp rLeI (tCB (rLenU K) (tCons (tVar 0) tNil)) (tC (.int 5000))) (tCB (rAll K) (tCons (tLc (iSeqU K (tVar 0)) (gName 1) tYes (PW.tCallS (spW K w_is_fact) L2.E0 (tCons (tVar 1) tNil)) [1]) tNil)))))
def t_bad_part (K : PySem.W.Frag) : TS :=
  (tSeq (tIfS (tOr (tNot (tB (tCB (rIsi K) (tCons (tVar 0) (tCons (tC (.ty "tuple")) tNil))))) (tTest (tOp rGtI (tCB (rLenU K) (tCons (tVar 0) tNil)) (tC (.int 20000)))))
  (tRet (tC (.str "clauses")))
  tNext)
  (tSeq (tIfS (tOr (tNot (tB (tCB (rIsi K) (tCons (tVar 1) (tCons (tC (.ty "tuple")) tNil))))) (tTest (tOp rGtI (tCB (rLenU K) (tCons (tVar 1) tNil)) (tC (.int 60)))))
  (tRet (tC (.str "grounds")))
  tNext)
  (tSeq (tFor (iEnuU K (tCons (tVar 0) tNil)) (gTup K 2 (gCons (gName 2) (gCons (gName 3) gNil)))
  (tIfS (tNot (tB (PW.tCallS (spW K w_is_clause) L2.E0 (tCons (tVar 3) tNil))))
  (tRet (tVar 2))
  tNext))
  (tSeq (tFor (iEnuU K (tCons (tVar 1) tNil)) (gTup K 2 (gCons (gName 2) (gCons (gName 4) gNil)))
  (tIfS (tNot (tB (PW.tCallS (spW K w_is_ground) L2.E0 (tCons (tVar 4) tNil))))
  (tRet (tTup (tCons (tC (.str "ground")) (tCons (tVar 2) tNil))))
  tNext))
  (tRet (tC .non))))))
def t_law_draw (K : PySem.W.Frag) : TS :=
  (tSeq (tIfS (tAnd (tTest (tOp (rEqD K) (tOp (rIx K) (tVar 0) (tC (.int 2))) (tC (.int 0)))) (tTest (tOp rLtI (tOp (rIx K) (tVar 0) (tC (.int 1))) (tCB (rLenU K) (tCons (tOp (rIx K) (tVar 0) (tC (.int 0))) tNil)))))
  (tSeq (tAsg (tOp (rIx K) (tOp (rIx K) (tVar 0) (tC (.int 0))) (tOp (rIx K) (tVar 0) (tC (.int 1)))) (gName 2))
  (tSeq (tAsg (tOp (rAddU K) (tOp (rIx K) (tVar 0) (tC (.int 1))) (tC (.int 1))) (gSub (tVar 0) (tC (.int 1)) rSetL))
  (tSeq (tAsg (tOp rModI (tCB rIntU (tCons (tOp (rAddU K) (tOp (rAddU K) (tOp (rMulU K) (tOp (rIx K) (tVar 0) (tC (.int 3))) (tC (.int 69621))) (tVar 2)) (tC (.int 11))) tNil)) (tC (.int 2147483629))) (gSub (tVar 0) (tC (.int 3)) rSetL))
  (tIfS (tTest (tOp rGeI (tVar 2) (tOp rPowI (tC (.int 10)) (tC (.int 18)))))
  (tAsg (tVar 2) (gSub (tVar 0) (tC (.int 2)) rSetL))
  tNext))))
  tNext)
  (tSeq (tIfS (tTest (tOp rGtI (tOp (rIx K) (tVar 0) (tC (.int 2))) (tC (.int 0))))
  (tSeq (tAsg (tOp rModI (tCB rIntU (tCons (tOp (rIx K) (tVar 0) (tC (.int 2))) tNil)) (tVar 1)) (gName 3))
  (tSeq (tAsg (tOp rDivI (tOp (rIx K) (tVar 0) (tC (.int 2))) (tVar 1)) (gSub (tVar 0) (tC (.int 2)) rSetL))
  (tRet (tVar 3))))
  tNext)
  (tSeq (tAsg (tOp (rAddU K) (tOp (rIx K) (tVar 0) (tC (.int 4))) (tC (.int 1))) (gSub (tVar 0) (tC (.int 4)) rSetL))
  (tSeq (tAsg (tOp rModI (tCB rIntU (tCons (tOp (rMulU K) (tCB rIntU (tCons (tOp (rAddU K) (tOp (rIx K) (tVar 0) (tC (.int 3))) (tOp (rMulU K) (tC (.int 7919)) (tOp (rIx K) (tVar 0) (tC (.int 4))))) tNil)) (tC (.int 48271))) tNil)) (tC (.int 2147483647))) (gName 4))
  (tSeq (tAsg (tOp rModI (tCB rIntU (tCons (tOp (rMulU K) (tVar 4) (tOp (rAddU K) (tOp rDivI (tVar 4) (tC (.int 1009))) (tC (.int 69621)))) tNil)) (tC (.int 2147483647))) (gName 4))
  (tSeq (tAsg (tOp rModI (tCB rIntU (tCons (tOp (rMulU K) (tVar 4) (tOp (rAddU K) (tOp rDivI (tVar 4) (tC (.int 2003))) (tC (.int 40692)))) tNil)) (tC (.int 2147483399))) (gName 4))
  (tRet (tOp rModI (tCB rIntU (tCons (tOp rDivI (tVar 4) (tC (.int 16))) tNil)) (tVar 1)))))))))
def t_law_any (K : PySem.W.Frag) : TS :=
  (tRet (tOp (rIx K) (tVar 1) (PW.tCallH (spH K w_law_draw) L2.E0 0 (tCons (tCB (rLenU K) (tCons (tVar 1) tNil)) tNil))))
def t_law_fact (K : PySem.W.Frag) : TS :=
  (tSeq (tIfS (tTest (tOp (rEqD K) (PW.tCallH (spH K w_law_draw) L2.E0 0 (tCons (tC (.int 40)) tNil)) (tC (.int 0))))
  (tRet (tTup (tCons (tSl (rSlU K) (tC (.str "abcdefghijkl")) (tPart (PW.tCallH (spH K w_law_draw) L2.E0 0 (tCons (tC (.int 5)) tNil))) tNoPart) (tCons (tC (.int 999999999999)) (tCons (tC (.int 0)) (tCons (PW.tCallH (spH K w_law_draw) L2.E0 0 (tCons (tC (.int 3)) tNil)) (tCons (tC (.int 7)) tNil)))))))
  tNext)
  (tSeq (tAsg (tAny (spAny K) L2.E0 0 (tLst (tCons (tC (.str "a")) (tCons (tC (.str "b")) (tCons (tC (.str "path")) (tCons (tC (.str "turn")) tNil)))))) (gName 1))
  (tRet (tOp (rAddU K) (tTup (tCons (tVar 1) tNil)) (tCB (rTupU K) (tCons (tLc (iRng1 (tCons (PW.tCallH (spH K w_law_draw) L2.E0 0 (tCons (tC (.int 3)) tNil)) tNil)) (gName 2) tYes (PW.tCallH (spH K w_law_draw) L2.E0 0 (tCons (tC (.int 3)) tNil)) [2]) tNil))))))
def t_law_pool (K : PySem.W.Frag) : TS :=
  (tSeq (tAsg (tLst (tCons (tTup (tCons (tC (.str "a")) tNil)) tNil)) (gName 2))
  (tSeq (tFor (iRng1 (tCons (tVar 1) tNil)) (gName 3)
  (tSeq (tAsg (PW.tCallH (spH K w_law_fact) L2.E0 0 tNil) (gName 4))
  (tIfS (tTest (tOp (rNotInU K) (tVar 4) (tVar 2)))
  (tDrop (tBM K "list" rAppend (tVar 2) (tCons (tVar 4) tNil)))
  tNext)))
  (tRet (tVar 2))))
def t_law_parts (K : PySem.W.Frag) : TS :=
  (tSeq (tAsg (tTup (tCons (PW.tCallH (spH K w_law_pool) L2.E0 0 (tCons (tOp (rAddU K) (tC (.int 3)) (PW.tCallH (spH K w_law_draw) L2.E0 0 (tCons (tC (.int 10)) tNil))) tNil)) (tCons (tLst tNil) (tCons (tLst tNil) tNil)))) (gTup K 3 (gCons (gName 3) (gCons (gName 4) (gCons (gName 5) gNil)))))
  (tSeq (tFor (iRng1 (tCons (PW.tCallH (spH K w_law_draw) L2.E0 0 (tCons (tVar 1) tNil)) tNil)) (gName 6)
  (tSeq (tAsg (tAny (spAny K) L2.E0 0 (tLst (tCons (tC (.int 0)) (tCons (tC (.int 1)) (tCons (tC (.int 1)) (tCons (tC (.int 1)) (tCons (tC (.int 2)) (tCons (tC (.int 2)) (tCons (tC (.int 2)) (tCons (tC (.int 3)) (tCons (tC (.int 4)) tNil))))))))))) (gName 7))
  (tSeq (tAsg (tIf (tAnd (tTest (tOp (rEqD K) (tVar 7) (tC (.int 0)))) (tTest (tOp rGtI (PW.tCallH (spH K w_law_draw) L2.E0 0 (tCons (tC (.int 3)) tNil)) (tC (.int 0))))) (tC (.int 1)) (tVar 7)) (gName 7))
  (tSeq (tDrop (tBM K "list" rAppend (tVar 4) (tCons (tTup (tCons (tCB (rTupU K) (tCons (tLc (iRng1 (tCons (tVar 7) tNil)) (gName 8) tYes (tAny (spAny K) L2.E0 0 (tVar 3)) [8]) tNil)) (tCons (tAny (spAny K) L2.E0 0 (tVar 3)) tNil))) tNil)))
  (tIfS (tTest (tOp (rEqD K) (PW.tCallH (spH K w_law_draw) L2.E0 0 (tCons (tC (.int 12)) tNil)) (tC (.int 0))))
  (tDrop (tBM K "list" rAppend (tVar 4) (tCons (tAny (spAny K) L2.E0 0 (tVar 4)) tNil)))
  tNext)))))
  (tSeq (tFor (iRng1 (tCons (tVar 2) tNil)) (gName 6)
  (tDrop (tBM K "list" rAppend (tVar 5) (tCons (tCB (rTupU K) (tCons (tLc (iRng1 (tCons (tAny (spAny K) L2.E0 0 (tLst (tCons (tC (.int 0)) (tCons (tC (.int 1)) (tCons (tC (.int 1)) (tCons (tC (.int 2)) (tCons (tC (.int 2)) (tCons (tC (.int 3)) tNil)))))))) tNil)) (gName 8) tYes (tAny (spAny K) L2.E0 0 (tVar 3)) [8]) tNil)) tNil))))
  (tRet (tTup (tCons (tCB (rTupU K) (tCons (tVar 4) tNil)) (tCons (tCB (rTupU K) (tCons (tVar 5) tNil)) tNil)))))))
def t_law_ground_facts (K : PySem.W.Frag) : TS :=
  (tSeq (tAsg (tLst tNil) (gName 2))
  (tSeq (tFor (iSeqU K (tVar 1)) (gName 3)
  (tDrop (tBM K "list" rExtend (tVar 2) (tCons (tCB (rLstU K) (tCons (tOp (rIx K) (tOp (rIx K) (tVar 0) (tC (.int 1))) (tVar 3)) tNil)) tNil))))
  (tRet (tVar 2))))
def t_law_asked (K : PySem.W.Frag) : TS :=
  (tSeq (tAsg (tOp (rAddU K) (tLc (iSeqU K (tOp (rIx K) (tVar 1) (tC (.int 0)))) (gTup K 2 (gCons (gName 3) (gCons (gName 4) gNil))) tYes (tVar 4) [3, 4]) (tCall (spW K w_law_ground_facts) [] L2.E0 (tCons (tVar 1) (tCons (tLstRg (tRg1 (tCB (rLenU K) (tCons (tOp (rIx K) (tVar 1) (tC (.int 1))) tNil)))) tNil)))) (gName 2))
  (tRet (tIf (tOr (tTest (tOp (rEqD K) (tCB (rLenU K) (tCons (tVar 2) tNil)) (tC (.int 0)))) (tTest (tOp (rEqD K) (PW.tCallH (spH K w_law_draw) L2.E0 0 (tCons (tC (.int 6)) tNil)) (tC (.int 0))))) (PW.tCallH (spH K w_law_fact) L2.E0 0 tNil) (tAny (spAny K) L2.E0 0 (tVar 2)))))
def t_law_lot (K : PySem.W.Frag) : TS :=
  (tSeq (tIfS (tTest (tOp (rEqD K) (PW.tCallH (spH K w_law_draw) L2.E0 0 (tCons (tC (.int 4)) tNil)) (tC (.int 0))))
  (tRet (tCB (rTupU K) (tCons (tLstRg (tRg1 (tVar 1))) tNil)))
  tNext)
  (tRet (tCB (rTupU K) (tCons (tLc (iRng1 (tCons (tVar 1) tNil)) (gName 2) (tTest (tOp (rEqD K) (PW.tCallH (spH K w_law_draw) L2.E0 0 (tCons (tC (.int 2)) tNil)) (tC (.int 0)))) (tVar 2) [2]) tNil))))
def t_law_rounds (K : PySem.W.Frag) : TS :=
  (tSeq (tAsg tDNewT (gName 3))
  (tSeq (tFor (iSeqU K (tVar 1)) (gName 4)
  (tFor (iSeqU K (tOp (rIx K) (tOp (rIx K) (tVar 0) (tC (.int 1))) (tVar 4))) (gName 5)
  (sDPut (tVar 3) (tVar 5) (tC (.int 0)))))
  (tSeq (tFor (iRng1 (tCons (tOp (rAddU K) (tCB (rLenU K) (tCons (tOp (rIx K) (tVar 0) (tC (.int 0))) tNil)) (tC (.int 1))) tNil)) (gName 6)
  (tSeq (tAsg (tLst tNil) (gName 7))
  (tSeq (tFor (iRng1 (tCons (tCB (rLenU K) (tCons (tOp (rIx K) (tVar 0) (tC (.int 0))) tNil)) tNil)) (gName 4)
  (tSeq (tAsg (tOp (rIx K) (tOp (rIx K) (tVar 0) (tC (.int 0))) (tVar 4)) (gTup K 2 (gCons (gName 8) (gCons (gName 9) gNil))))
  (tIfS (tAnd (tTest (tOp (rNeD K) (tVar 4) (tVar 2))) (tAnd (tTest (tOp rNotInK (tVar 9) (tVar 3))) (tB (tCB (rAll K) (tCons (tLc (iSeqU K (tVar 8)) (gName 5) tYes (tOp rInK (tVar 5) (tVar 3)) [5]) tNil)))))
  (tDrop (tBM K "list" rAppend (tVar 7) (tCons (tVar 9) tNil)))
  tNext)))
  (tSeq (tIfS (tTest (tOp (rEqD K) (tVar 7) (tLst tNil)))
  tBreak
  tNext)
  (tFor (iSeqU K (tVar 7)) (gName 5)
  (sDPut (tVar 3) (tVar 5) (tOp (rAddU K) (tVar 6) (tC (.int 1)))))))))
  (tRet (tVar 3)))))
end LawK54
end
section
open PySem PySem.Spec PyProof.Rows L2 PW
local macro_rules | `(tactic| walk_at "env") => `(tactic| (first | (dsimp only [sto, stoE, frz, frzE, frzAll, wipeE, Res.ent, List.set, List.getElem?_cons_zero, List.getElem?_cons_succ]; done) | (dsimp only [sto, stoE, frz, frzE, frzAll, wipeE, Res.ent, List.set, List.getElem?_cons_zero, List.getElem?_cons_succ]; rfl) | rfl))
local macro_rules | `(tactic| walk_at "mem") => `(tactic| first | assumption | exact cut_sub (by assumption) | exact List.mem_cons_of_mem _ (by assumption) | (simp only [List.mem_cons, true_or, or_true]; done))
local macro_rules | `(tactic| walk_at "jn") => `(tactic| first | assumption | with_unfolding_all exact rfl | exact jnTr (by assumption) (by assumption) | exact jnTr (cut_sub (by assumption)) (by assumption) | exact jnTr (List.mem_cons_of_mem _ (by assumption)) (by assumption) | exact jnT (by assumption) (by walk_at "mem") | exact jnL' (by assumption) (by walk_at "mem") | exact jnT2 (by assumption) (by assumption) (by walk_at "mem"))
local macro_rules | `(tactic| walk_at "sz") => `(tactic| first | with_unfolding_all exact Nat.le_of_ble_eq_true rfl | assumption | exact szl (by assumption) | exact szS (by walk_at "jn") | exact szT (by walk_at "jn") | exact szTl (by assumption) | exact szL (by walk_at "jn") | exact szG (by walk_at "jn") | ((with_reducible show (PW.cutD _ _ _).length ≤ _); refine szC ?_; walk_at "sz") | with_unfolding_all exact szl (Nat.le_of_ble_eq_true rfl))
local macro_rules | `(tactic| walk_at "bi") => `(tactic| first | with_unfolding_all exact rfl | assumption | exact jn_bi (by walk_at "jn"))
local macro_rules | `(tactic| walk_at "pw") => `(tactic| first
  | ((with_reducible show PW.XE _ _ _ _); first | with_reducible refine xe_var_d (by with_unfolding_all exact rfl) ?_ | with_reducible refine xe_var_o (by with_unfolding_all exact rfl) ?_ | with_reducible refine xe_int ?_ | with_reducible refine xe_str ?_ | with_reducible refine xe_bl ?_ | with_reducible refine xe_non ?_ | with_reducible refine ye_emp ?_ | with_reducible refine xe_op ?_ | with_reducible refine xe_un ?_ | with_reducible refine xe_if ?_ | with_reducible refine xe_andV ?_ | with_reducible refine xe_orV ?_ | with_reducible refine xe_notV ?_ | with_reducible refine xe_chain ?_ | with_reducible refine xe_isi D.isTup isi_tuple ?_ | with_reducible refine xe_isi D.isLst isi_list ?_ | with_reducible refine xe_isi D.isStr isi_str ?_ | with_reducible refine xe_isi D.isInt isi_int ?_ | with_reducible refine xe_isi D.isBool isi_bool ?_ | with_reducible refine xe_isi D.isDct isi_dict ?_ | with_reducible refine xe_isi2 D.isTup D.isLst isi_tuple isi_list ?_ | with_reducible refine ye_lenSet ?_ | with_reducible refine ye_join ?_ | with_reducible refine xe_cb ?_ | with_reducible refine xe_callS ?_ | with_reducible refine ye_callH (by with_unfolding_all exact rfl) ?_ | with_reducible refine ye_call ?_ | with_reducible refine ye_tup ?_ | with_reducible refine ye_lst ?_ | with_reducible refine xe_sl ?_ | with_reducible refine ye_revT ?_ | with_reducible refine ye_rg1 ?_ | with_reducible refine ye_rg2 ?_ | with_reducible refine ye_meth (by with_unfolding_all exact rfl) (fun _ _ _ h => ty_list h) ?_ | with_reducible refine ye_meth0 (by with_unfolding_all exact rfl) (fun _ _ _ h => ty_list h) ?_)
  | ((with_reducible show PW.XA _ _ _ _); first | with_reducible refine xa_nil ?_ | with_reducible refine xa_cons ?_)
  | ((with_reducible show PW.XT _ _ _ _); first | with_reducible refine xt_yes ?_ | with_reducible refine xt_test ?_ | with_reducible refine xt_B ?_ | with_reducible refine xt_not ?_ | with_reducible refine xt_and ?_ | with_reducible refine xt_or ?_)
  | ((with_reducible show PW.XS _ _ _ _); first | with_reducible refine xs_seq ?_ | with_reducible refine xs_next ?_ | with_reducible refine ys_asg ?_ | with_reducible refine xs_if ?_ | with_reducible refine ys_ret ?_ | with_reducible refine xs_retN ?_ | with_reducible refine xs_drop ?_ | with_reducible refine xs_break ?_ | with_reducible refine xs_cont ?_ | with_reducible refine ys_par (by with_unfolding_all decide) ?_ | with_reducible refine ys_par3 (by with_unfolding_all decide) (by with_unfolding_all decide) (by with_unfolding_all decide) ?_ | with_reducible refine ys_unp2 (by with_unfolding_all decide) ?_ | with_reducible refine ys_unp3 (by with_unfolding_all decide) (by with_unfolding_all decide) (by with_unfolding_all decide) ?_ | with_reducible refine ys_setix ?_ | with_reducible refine ys_asgG ?_ | with_reducible refine xs_for ?_)
  | ((with_reducible show PW.OpD _ _ _ _ _); first | with_reducible refine o_addI ?_ | with_reducible refine o_subI ?_ | with_reducible refine o_mulI (by first | with_unfolding_all exact .inl ⟨by decide, by decide⟩ | with_unfolding_all exact .inr ⟨by decide, by decide⟩) ?_ | with_reducible refine o_mulI (cmulL (by omega) (by omega)) ?_ | with_reducible refine o_mulI (cmulR (by omega) (by omega)) ?_ | with_reducible refine o_divI (by with_unfolding_all exact ⟨by decide, by decide⟩) ?_ | with_reducible refine o_modI (by with_unfolding_all decide) ?_ | with_reducible refine o_powI (by with_unfolding_all exact ⟨by decide, by decide, by decide⟩) ?_ | with_reducible refine o_ltI ?_ | with_reducible refine o_leI ?_ | with_reducible refine o_leUI ?_ | with_reducible refine o_leP ?_ | with_reducible refine o_shlI (cpow1 (by omega) (by omega)) ?_ | with_reducible refine o_gtI ?_ | with_reducible refine o_geI ?_ | with_reducible refine o_eqI ?_ | with_reducible refine o_neI ?_ | with_reducible refine o_eqB ?_ | with_reducible refine o_neB ?_ | with_reducible refine o_isNo ?_ | with_reducible refine o_isNotNo ?_ | with_reducible refine o_isBo ?_ | with_reducible refine o_isNotBo ?_ | with_reducible refine o_inC ?_ | with_reducible refine o_notInC ?_ | with_reducible refine o_ix0 ?_ | with_reducible refine o_ix1 ?_ | with_reducible refine o_ix2 ?_ | ((with_reducible show PW.OpD _ (rIx _) (.tup _) (.int 0) _); refine o_ix0e (ne_len (by omega)) ?_; intro y ys e; subst e) | with_reducible refine o_ixT (by with_unfolding_all exact rfl) ?_ | with_reducible refine o_ixL (by with_unfolding_all exact rfl) ?_)
  | ((with_reducible show PW.CaD _ _ _ _); first | with_reducible refine c_lenT ?_ | with_reducible refine c_lenL ?_ | with_reducible refine c_intI ?_ | with_reducible refine c_intB ?_ | with_reducible refine c_absI ?_ | with_reducible refine c_allM ?_ | with_reducible refine c_anyM ?_ | with_reducible refine c_tupL ?_ | with_reducible refine c_tupT ?_ | with_reducible refine c_lstL ?_ | with_reducible refine c_lstT ?_ | ((with_reducible show CaD _ (rLenU _) [.str _] _); with_reducible refine c_lenS (by walk_at "sz") ?_))
  | ((with_reducible show PW.XI _ _ _ _); first | with_reducible refine yi_seqU ?_ | with_reducible refine yi_enum ?_ | with_reducible refine yi_zip ?_ | with_reducible refine xi_range1 ?_ | with_reducible refine xi_range2 ?_)
  | ((with_reducible show PW.XG _ _ _ _ _); first | with_reducible refine yg_name ?_ | with_reducible refine xg_tup (by with_unfolding_all exact rfl) ?_)
  | ((with_reducible show PW.XGs _ _ _ _ _); first | with_reducible refine xgs_nil ?_ | with_reducible refine xgs_cons ?_)
  | ((with_reducible show PW.XM _ _ _ _ _); first | with_reducible refine xm_nil ?_ | with_reducible refine xm_cons ?_)
  | ((with_reducible show PW.XO _ _ _ _); first | with_reducible refine xo_none ?_ | with_reducible refine xo_some ?_)
  | ((with_reducible show PW.SlD _ _ _ _ _ _); first | with_reducible refine sl_tail ?_ | with_reducible refine sl_T ?_ | with_reducible refine sl_L ?_)
  | ((with_reducible show PW.UnD _ _ _ _); first | with_reducible refine u_neg ?_)
  | ((with_reducible show PW.back _ _ _); first | with_reducible refine back_d ?_ | with_reducible refine back_nw ?_ | with_reducible refine back_v (by with_unfolding_all exact rfl) ?_)
  | walk_at "cnt"
  | walk_at "br")
local macro_rules | `(tactic| walk_at "cnt") => `(tactic| first
  | with_reducible refine ex_env (by walk_at "env") ?_
  | ((with_reducible show ∃ x : List D, _ = some x ∧ x.length ≤ _ ∧ _); with_reducible refine ex_pks2 (by with_unfolding_all exact rfl) (by walk_at "sz") ?_)
  | with_reducible refine ex_pks (by with_unfolding_all exact rfl) ?_
  | ((with_reducible show ∃ x : D, _ = some x ∧ x.isBuiltin = true ∧ _); with_reducible refine ex_pk2 (by with_unfolding_all exact rfl) (by walk_at "bi") ?_)
  | with_reducible refine lc_fin (by with_unfolding_all exact rfl) (by with_unfolding_all exact rfl) ?_
  | with_reducible refine lcf_fin (by with_unfolding_all exact rfl) (by with_unfolding_all exact rfl) ?_
  | with_reducible refine ex_pk (by with_unfolding_all exact rfl) ?_
  | with_reducible refine ex_op (by with_unfolding_all exact rfl) (by with_unfolding_all exact rfl) ?_
  | with_reducible refine ex_it (by with_unfolding_all exact rfl) (by with_unfolding_all exact rfl) ?_
  | with_reducible refine ex_its (by with_unfolding_all exact rfl) (by with_unfolding_all exact rfl) ?_
  | with_reducible refine ex_zip (by with_unfolding_all exact rfl) (by with_unfolding_all exact rfl) ?_
  | with_reducible refine ex_bl ?_
  | with_reducible refine ex_int ?_
  | with_reducible refine ex_sc (by with_unfolding_all exact rfl) ?_
  | with_reducible refine and_brT ?_
  | with_reducible refine and_brF ?_
  | with_reducible refine and_rbT ?_
  | with_reducible refine and_rbF ?_
  | with_reducible refine and_nT ?_
  | with_reducible refine and_nF ?_
  | with_reducible refine and_mT ?_
  | with_reducible refine and_mF ?_
  | with_reducible refine and_br ?_ ?_
  | with_reducible refine and_rb ?_ ?_
  | with_reducible refine ⟨nv_d, ?_⟩
  | with_reducible refine ⟨nv_nw, ?_⟩)
local macro_rules | `(tactic| walk_at "br") => `(tactic| first
  | (with_reducible refine br_tup ?_; intro xs e; subst e)
  | (with_reducible refine br_tupN ?_; intro xs e; subst e)
  | (with_reducible refine br_lst ?_; intro xs e; subst e)
  | (with_reducible refine br_lstN ?_; intro xs e; subst e)
  | (with_reducible refine br_str ?_; intro xs e; subst e)
  | (with_reducible refine br_strN ?_; intro xs e; subst e)
  | (with_reducible refine br_non ?_; intro e; subst e)
  | (with_reducible refine br_nonN ?_; intro e; subst e)
  | (with_reducible refine br_t ?_; intro h; first | (cases h; done) | (simp only [lenc, List.length_nil, decide_eq_true_eq, decide_eq_false_iff_not] at h; omega) | exact absurd (show true = false from h) (by decide) | exact absurd (show false = true from h) (by decide) | (simp only [lenc, List.length_nil, Bool.not_eq_true', Bool.not_eq_false', decide_eq_true_eq, decide_eq_false_iff_not] at h) | skip)
  | (with_reducible refine br_f ?_; intro h; first | (cases h; done) | (simp only [lenc, List.length_nil, decide_eq_true_eq, decide_eq_false_iff_not] at h; omega) | exact absurd (show true = false from h) (by decide) | exact absurd (show false = true from h) (by decide) | (simp only [lenc, List.length_nil, Bool.not_eq_true', Bool.not_eq_false', decide_eq_true_eq, decide_eq_false_iff_not] at h) | skip)
  | (with_reducible refine signs_one ?_; intro c)
  | (with_reducible refine fa_mem ?_; intro d hd)
  | ((with_reducible show _ ≤ sizeLine ∧ _); with_reducible refine lc_split (by walk_at "sz") (by walk_at "env") ?_ ?_)
  | ((with_reducible show wipeE _ _ = _ ∧ _); with_reducible refine lc_env (by walk_at "env") ?_)
  | ((with_reducible show (_ : D) = _); exact rfl))
local macro_rules | `(tactic| walk_at "pws") => `(tactic| repeat' walk_at "pw")
section
namespace LawK54
open PySem PySem.Spec PyProof.Rows L2 C8 PW
local macro_rules | `(tactic| walk_at "pw") => `(tactic| first
  | ((with_reducible show w_is_integer _ _); with_reducible refine i_is_integer (by walk_at "bi") ?_) | ((with_reducible show w_is_within _ _); with_reducible refine i_is_within (by walk_at "bi") ?_) | ((with_reducible show w_is_tuple_of _ _); with_reducible refine i_is_tuple_of (by walk_at "bi") ?_)
  | ((with_reducible show w_law_is_number _ _); with_reducible refine i_law_is_number (by walk_at "bi") ?_))
abbrev Fin (kk : Res → Prop) : Post := { nx := fun _ => kk (.d .non), rt := fun r _ => kk r }
theorem isInteger_int {x : D} (h : isInteger x = true) : ∃ i, x = .int i := by
  cases x <;> first
    | exact ⟨_, rfl⟩
    | exact absurd h (by decide)
    | cases h
theorem isInteger_not {x : D} (h : isInteger x = false) : ∀ a b, isWithin x a b = false := by
  cases x <;> first
    | exact fun _ _ => rfl
    | exact absurd h (by decide)
    | cases h
theorem not_tup {x : D} (h : x.isTup = false) : ∀ n, isTupleOf x n = false := by
  cases x <;> first
    | exact fun _ => rfl
    | cases h
theorem isFact_notTup {x : D} (h : x.isTup = false) : isFact x = false := by
  cases x <;> first
    | rfl
    | cases h
theorem isFact_notStr {y : D} {ys : List D} (h : y.isStr = false) : isFact (.tup (y :: ys)) = false := by
  cases y <;> first
    | rfl
    | cases h
theorem pure_is_integer {K : PySem.W.Frag} : ∀ ds kk, w_is_integer ds kk → XS K (t_is_integer K) (ini 1 ds) { nx := fun _ => kk (.d .non), rt := fun r _ => kk r } := by
  rintro _ kk ⟨x, rfl, hx, g⟩
  show XS K (t_is_integer K) [.d x] (Fin kk)
  unfold t_is_integer
  walk_at "pws"
  all_goals (refine fin_bl g ?_; simp [isInteger, *]; done)
theorem pure_is_within {K : PySem.W.Frag} : ∀ ds kk, w_is_within ds kk → XS K (t_is_within K) (ini 3 ds) { nx := fun _ => kk (.d .non), rt := fun r _ => kk r } := by
  rintro _ kk ⟨x, a, b, rfl, hx, g⟩
  show XS K (t_is_within K) [.d x, .d (.int a), .d (.int b)] (Fin kk)
  unfold t_is_within
  by_cases h : isInteger x = true
  · obtain ⟨i, rfl⟩ := isInteger_int h
    walk_at "pws"
    all_goals first
      | (rename_i z; exact absurd (show true = false from z) (by decide))
      | (refine fin_bl g ?_; simp [isWithin, *]; done)
      | (refine fin_bl g ?_; simp [isWithin]; omega; done)
  · rw [Bool.not_eq_true] at h
    walk_at "pws"
    all_goals first
      | (refine fin_bl g ?_; simp [isInteger_not h]; done)
      | (rename_i z; rw [h] at z; cases z)
theorem pure_is_tuple_of {K : PySem.W.Frag} : ∀ ds kk, w_is_tuple_of ds kk → XS K (t_is_tuple_of K) (ini 2 ds) { nx := fun _ => kk (.d .non), rt := fun r _ => kk r } := by
  rintro _ kk ⟨x, n, rfl, hx, g⟩
  show XS K (t_is_tuple_of K) [.d x, .d (.int n)] (Fin kk)
  unfold t_is_tuple_of
  walk_at "pws"
  · exact g
  · (refine fin_bl g ?_; simp [not_tup, *]; done)
theorem isFact_len {xs : List D} (h : ¬ ((xs.length : Int) ≤ 1 + 4)) : isFact (.tup xs) = false := by
  cases xs with
  | nil => rfl
  | cons y ys =>
    rw [lenc] at h
    cases y <;> simp only [isFact, decide_eq_false h, Bool.false_and]
theorem isFact_len0 {xs : List D} (h : ¬ (1 ≤ (xs.length : Int))) : isFact (.tup xs) = false := by
  cases xs with
  | nil => rfl
  | cons y ys =>
    rw [lenc] at h
    omega
theorem isFact_letters {s : Str} {ys : List D} (h : (signsD s).all letterD = false) : isFact (.tup (.str s :: ys)) = false := by
  simp only [isFact, h, Bool.and_false, Bool.false_and]
theorem lenFact {s : Str} {ys : List D} (h : ¬ (1 ≤ (s.length : Int)) ∨ ¬ ((s.length : Int) ≤ 12)) : isFact (.tup (.str s :: ys)) = false := by
  rcases h with h | h <;> simp only [isFact, decide_eq_false h, Bool.and_false, Bool.false_and]
theorem isFact_of {s : Str} {ys : List D} (h1 : ((.str s :: ys : List D).length : Int) ≤ 1 + 4) (h2 : 1 ≤ (s.length : Int)) (h3 : (s.length : Int) ≤ 12) (h4 : (signsD s).all letterD = true) :
    isFact (.tup (.str s :: ys)) = ys.all fun d => isWithin d 0 999999999999 := by
  rw [lenc] at h1
  simp only [isFact, decide_eq_true h1, decide_eq_true h2, decide_eq_true h3, h4, Bool.true_and]
section
local macro_rules | `(tactic| walk_at "pw") => `(tactic| first
  | with_reducible refine ye_lcm (vs := [2]) (fun d => .bl (letterD d)) own_name wipe1 ?_
  | with_reducible refine ye_lcm (vs := [1]) (fun d => .bl (isWithin d 0 999999999999)) own_name wipe1 ?_)
theorem pure_is_fact {K : PySem.W.Frag} : ∀ ds kk, w_is_fact ds kk → XS K (t_is_fact K) (ini 3 ds) { nx := fun _ => kk (.d .non), rt := fun r _ => kk r } := by
  rintro _ kk ⟨x, rfl, hx, g⟩
  show XS K (t_is_fact K) [.d x, .u, .u] (Fin kk)
  unfold t_is_fact
  walk_at "pws"
  all_goals first
    | exact fin_bl g (isFact_notTup (by assumption))
    | exact fin_bl g (isFact_notStr (by assumption))
    | (refine fin_bl g (isFact_len ?_); omega)
    | exact fin_bl g (isFact_len0 (by assumption))
    | exact fin_bl g (lenFact (.inl (by assumption)))
    | exact fin_bl g (lenFact (.inr (by assumption)))
    | exact fin_bl g (isFact_letters (by assumption))
    | (refine fin_bl g (isFact_of ?_ ?_ ?_ ?_) <;> first | assumption | omega)
end
section
local macro_rules | `(tactic| walk_at "pw") => `(tactic| first
  | ((with_reducible show w_fact _ _); with_reducible refine i_fact (by walk_at "jn") ?_)
  | with_reducible refine ye_lcm (vs := [1]) (fun d => .bl (isFact d)) own_name wipe1 ?_)
theorem pure_is_ground {K : PySem.W.Frag} : ∀ ds kk, w_is_ground ds kk → XS K (t_is_ground K) (ini 2 ds) { nx := fun _ => kk (.d .non), rt := fun r _ => kk r } := by
  rintro _ kk ⟨x, rfl, hx, g⟩
  show XS K (t_is_ground K) [.d x, .u] (Fin kk)
  unfold t_is_ground
  cases x
  all_goals walk_at "pws"
  all_goals first
    | exact g
    | cases hx
    | (refine fin_bl g ?_; simp only [isGround, decide_eq_true (by assumption : _ ≤ (5000 : Int)), Bool.true_and]; done)
    | (refine fin_bl g ?_; simp only [isGround, decide_eq_false (by assumption : ¬ _ ≤ (5000 : Int)), Bool.false_and]; done)
theorem isTupleOf_2 {x : D} (h : isTupleOf x 2 = true) : ∃ a b, x = .tup [a, b] := by
  cases x with
  | tup xs =>
    have h2 : (xs.length : Int) = 2 := of_decide_eq_true h
    match xs, h2 with
    | [a, b], _ => exact ⟨a, b, rfl⟩
    | [], h => cases h
    | [_], h => cases h
    | _ :: _ :: _ :: _, h => simp only [List.length_cons] at h; omega
  | _ => cases h
theorem br_two {x : D} {P : Prop} (h : ∀ a b, x = .tup [a, b] → P) : isTupleOf x 2 = true → P := fun z => by
  obtain ⟨a, b, e⟩ := isTupleOf_2 z
  exact h a b e
theorem br_twoN {x : D} {P : Prop} (h : ∀ a b, x = .tup [a, b] → P) : (!isTupleOf x 2) = false → P := fun z => by
  obtain ⟨a, b, e⟩ := isTupleOf_2 (nbf z)
  exact h a b e
theorem isClause_not2 {x : D} (h : isTupleOf x 2 = false) : isClause x = false := by
  unfold isClause
  split
  · cases h
  · rfl
theorem isClause_of {xs : List D} {b : D} (h1 : ¬ 4 < (xs.length : Int)) (h2 : xs.all isFact = true) : isClause (.tup [.tup xs, b]) = isFact b := by
  simp only [isClause, decide_eq_false h1, h2, Bool.not_false, Bool.true_and]
theorem isClause_bad {xs : List D} {b : D} (h2 : xs.all isFact = false) : isClause (.tup [.tup xs, b]) = false := by
  simp only [isClause, h2, Bool.false_and, Bool.and_false]
theorem isClause_long {xs : List D} {b : D} (h1 : 4 < (xs.length : Int)) : isClause (.tup [.tup xs, b]) = false := by
  simp only [isClause, decide_eq_true h1, Bool.not_true, Bool.false_and]
theorem isClause_notT {a b : D} (h : a.isTup = false) : isClause (.tup [a, b]) = false := by
  cases a <;> first
    | rfl
    | cases h
section
local macro_rules | `(tactic| walk_at "pw") => `(tactic| first
  | (with_reducible refine br_two ?_; intro a b e; subst e)
  | (with_reducible refine br_twoN ?_; intro a b e; subst e))
theorem pure_is_clause {K : PySem.W.Frag} : ∀ ds kk, w_is_clause ds kk → XS K (t_is_clause K) (ini 2 ds) { nx := fun _ => kk (.d .non), rt := fun r _ => kk r } := by
  rintro _ kk ⟨x, rfl, hx, g⟩
  show XS K (t_is_clause K) [.d x, .u] (Fin kk)
  unfold t_is_clause
  walk_at "pws"
  all_goals first
    | exact fin_bl g (isClause_not2 (by assumption))
    | exact fin_bl g (isClause_notT (by assumption))
    | exact fin_bl g (isClause_of (by assumption) (by assumption))
    | exact fin_bl g (isClause_bad (by assumption))
    | exact fin_bl g (isClause_long (by assumption))
end
end
section
local macro_rules | `(tactic| walk_at "pw") => `(tactic| first
  | ((with_reducible show w_is_clause _ _); with_reducible refine i_is_clause (by walk_at "jn") ?_)
  | ((with_reducible show w_is_ground _ _); with_reducible refine i_is_ground (by walk_at "jn") ?_))
theorem badPart_c {c q : D} (h : c.isTup = false) : badPart c q = .str "clauses" := by
  cases c <;> first
    | rfl
    | cases h
theorem badPart_c2 {cs : List D} {q : D} (h : 20000 < (cs.length : Int)) : badPart (.tup cs) q = .str "clauses" := by
  simp only [badPart, if_pos h]
theorem badPart_g {cs : List D} {q : D} (h : ¬ 20000 < (cs.length : Int)) (h2 : q.isTup = false) : badPart (.tup cs) q = .str "grounds" := by
  cases q <;> first
    | (cases h2; done)
    | simp only [badPart, if_neg h]
theorem badPart_g2 {cs gs : List D} (h : ¬ 20000 < (cs.length : Int)) (h2 : 60 < (gs.length : Int)) : badPart (.tup cs) (.tup gs) = .str "grounds" := by
  simp only [badPart, if_neg h, if_pos h2]
theorem badPart_i {cs gs : List D} {i : Nat} {x : D} (h : ¬ 20000 < (cs.length : Int)) (h2 : ¬ 60 < (gs.length : Int)) (h3 : ∀ j y, j < i → cs[j]? = some y → isClause y = true) (h4 : cs[i]? = some x) (h5 : isClause x = false) : badPart (.tup cs) (.tup gs) = .int i := by
  simp only [badPart, if_neg h, if_neg h2, firstBad_at h3 h4 h5, Nat.zero_add]
theorem badPart_j {cs gs : List D} {i : Nat} {x : D} (h : ¬ 20000 < (cs.length : Int)) (h2 : ¬ 60 < (gs.length : Int)) (h0 : ∀ j y, j < cs.length → cs[j]? = some y → isClause y = true)
    (h3 : ∀ j y, j < i → gs[j]? = some y → isGround y = true) (h4 : gs[i]? = some x) (h5 : isGround x = false) : badPart (.tup cs) (.tup gs) = .tup [.str "ground", .int i] := by
  simp only [badPart, if_neg h, if_neg h2, firstBad_none h0, firstBad_at h3 h4 h5, Nat.zero_add]
theorem badPart_n {cs gs : List D} (h : ¬ 20000 < (cs.length : Int)) (h2 : ¬ 60 < (gs.length : Int)) (h0 : ∀ j y, j < cs.length → cs[j]? = some y → isClause y = true)
    (h3 : ∀ j y, j < gs.length → gs[j]? = some y → isGround y = true) : badPart (.tup cs) (.tup gs) = .non := by
  simp only [badPart, if_neg h, if_neg h2, firstBad_none h0, firstBad_none h3]
theorem allTo {p : D → Bool} {cs : List D} {i : Nat} {x : D} (h : ∀ j y, j < i → cs[j]? = some y → p y = true) (hx : cs[i]? = some x) (hp : p x = true) : ∀ j y, j < i + 1 → cs[j]? = some y → p y = true := fun j y hj e => by
  by_cases hi : j = i
  · rw [hi, hx] at e
    cases e
    exact hp
  · exact h j y (by omega) e
theorem pure_bad_part {K : PySem.W.Frag} : ∀ ds kk, w_bad_part ds kk → XS K (t_bad_part K) (ini 5 ds) { nx := fun _ => kk (.d .non), rt := fun r _ => kk r } := by
  rintro _ kk ⟨c, q, rfl, hc, hq, g⟩
  show XS K (t_bad_part K) [.d c, .d q, .u, .u, .u] (Fin kk)
  unfold t_bad_part
  walk_at "pws"
  · exact fin_d g (badPart_c2 (by assumption))
  · exact fin_d g (badPart_g2 (by assumption) (by assumption))
  · rename_i cs h1 gs h2
    refine ⟨fun i ρ => (∃ e2 e3, ρ = [.d (.tup cs), .d (.tup gs), e2, e3, .u]) ∧ ∀ j y, j < i → cs[j]? = some y → isClause y = true, ⟨⟨_, _, rfl⟩, fun j y hj => absurd hj (Nat.not_lt_zero _)⟩, ?_, ?_⟩
    · rintro i d ρ' hd ⟨⟨e2, e3, rfl⟩, hp⟩
      obtain ⟨x, hx, rfl⟩ := enumFrom_at hd
      rw [Nat.zero_add]
      have hm := List.mem_of_getElem? hx
      walk_at "pws"
      · rename_i hb
        exact fin_d g (badPart_i h1 h2 hp hx hb)
      · rename_i hb
        exact ⟨⟨_, _, rfl⟩, allTo hp hx hb⟩
    · rintro ρ' ⟨⟨e2, e3, rfl⟩, hp⟩
      rw [enumFrom_len] at hp
      walk_at "pws"
      refine ⟨fun i ρ => (∃ e2 e4, ρ = [.d (.tup cs), .d (.tup gs), e2, e3, e4]) ∧ ∀ j y, j < i → gs[j]? = some y → isGround y = true, ⟨⟨_, _, rfl⟩, fun j y hj => absurd hj (Nat.not_lt_zero _)⟩, ?_, ?_⟩
      · rintro i d ρ' hd ⟨⟨e2, e4, rfl⟩, hp2⟩
        obtain ⟨x, hx, rfl⟩ := enumFrom_at hd
        rw [Nat.zero_add]
        have hm := List.mem_of_getElem? hx
        walk_at "pws"
        · rename_i hb
          exact fin_d g (badPart_j h1 h2 hp hp2 hx hb)
        · rename_i hb
          exact ⟨⟨_, _, rfl⟩, allTo hp2 hx hb⟩
      · rintro ρ' ⟨⟨e2, e4, rfl⟩, hp2⟩
        rw [enumFrom_len] at hp2
        walk_at "pws"
        exact fin_d g (badPart_n h1 h2 hp hp2)
  · exact fin_d g (badPart_g (by assumption) (by assumption))
  · exact fin_d g (badPart_c (by assumption))
end
theorem pw18 {x : Int} (h : (10 : Int) ^ Int.toNat 18 ≤ x) : 0 ≤ x := Int.le_trans (by decide) h
theorem cmul_l {i j : Int} (h1 : -(2 ^ 64) < i) (h2 : i < 2 ^ 64) : CMul i j := .inl ⟨h1, h2⟩
theorem r_modG {H : Hp} {Q : VK} {i j : Int} (h : 0 < j) (q : ∀ x, 0 ≤ x → x < j → Q (.int x) H) : rModI (.int i) (.int j) H Q := r_modI h (q _ (Int.emod_nonneg _ (by omega)) (Int.emod_lt_of_pos _ h))
def Only (a : Addr) (H H0 : Hp) : Prop := ∀ b, b ≠ a → H b = H0 b
theorem ex_st {σ σ2 : L2.St} {P : L2.St → Prop} (e : σ = σ2) (g : P σ2) : ∃ σ2, σ = σ2 ∧ P σ2 := ⟨σ2, e, g⟩
theorem hp_c {H H0 : Hp} {a c : Addr} {o : HO} (st : Only a H H0) (hca : c ≠ a) (hcc : H0 c = some o) : H c = some o := (st c hca).trans hcc
theorem r_setB {H H0 : Hp} {a : Addr} {vs : List V} {v : V} {i : Int} {Q : Hp → Prop} {k : Nat} (st : Only a H H0) (h : H a = some (.lst vs)) (e : ixN vs.length i = some k)
    (q : ∀ H2, H2 a = some (.lst (vs.set k v)) → Only a H2 H0 → Q H2) : rSetL (.ref a) (.int i) v H Q := r_set h e fun H2 h2 k2 => q H2 h2 fun b hb => (k2 b hb).trans (st b hb)
theorem r_ixc {K : PySem.W.Frag} {H : Hp} {Q : VK} {c : Addr} {cs : List Int} {i : Int} (h : H c = some (.lst (cs.map V.int))) (h0 : 0 ≤ i) (h1 : i < ((cs.map V.int).length : Int)) (q : ∀ x, Q (.int x) H) : rIx K (.ref c) (.int i) H Q := by
  rw [List.length_map] at h1
  have hl : i.toNat < cs.length := by omega
  refine r_ix h (w := .int cs[i.toNat]) ?_ (q _)
  unfold atI ixN
  rw [List.length_map, if_pos h0, if_pos h1]
  simp [hl]
local macro_rules | `(tactic| walk_at "hp") => `(tactic| first | assumption | exact hp_c (by assumption) (by assumption) (by assumption))
local macro_rules | `(tactic| walk_at "raw") => `(tactic| first
  | with_reducible refine r_seq ?_ | with_reducible refine r_next ?_ | with_reducible refine r_ret ?_ | with_reducible refine r_asg ?_ | with_reducible refine r_sub ?_ | with_reducible refine r_if ?_
  | with_reducible refine r_var (by with_unfolding_all exact rfl) ?_ | with_reducible refine r_c ?_ | with_reducible refine r_op ?_ | with_reducible refine r_cb ?_ | with_reducible refine r_cons ?_ | with_reducible refine r_nil ?_
  | with_reducible refine r_test ?_ | with_reducible refine r_b ?_ | with_reducible refine r_and ?_ | with_reducible refine r_bl ?_
  | with_reducible refine r_addI ?_ | with_reducible refine r_subI ?_ | with_reducible refine r_ltI ?_ | with_reducible refine r_leI ?_ | with_reducible refine r_gtI ?_ | with_reducible refine r_geI ?_ | with_reducible refine r_eqI ?_ | with_reducible refine r_int ?_
  | with_reducible refine r_mulI (by first | with_unfolding_all exact .inl ⟨by decide, by decide⟩ | with_unfolding_all exact .inr ⟨by decide, by decide⟩) ?_
  | (with_reducible refine r_mulI (cmul_l ?_ ?_) ?_; omega; omega)
  | with_reducible refine r_divI (by first | with_unfolding_all exact ⟨by decide, by decide⟩ | exact ⟨by assumption, by assumption⟩) ?_
  | (with_reducible refine r_modG (by first | with_unfolding_all decide | assumption) ?_; intro x hx0 hx1)
  | with_reducible refine r_powI (by with_unfolding_all exact ⟨by decide, by decide, by decide⟩) ?_
  | ((with_reducible show rIx _ (.ref _) (.int _) _ _); refine r_ix (by walk_at "hp") (by with_unfolding_all exact rfl) ?_)
  | ((with_reducible show rIx _ (.ref _) (.int _) _ _); refine r_ixc (by walk_at "hp") (by assumption) (of_decide_eq_true (by assumption)) ?_; intro x)
  | ((with_reducible show rLenU _ [.ref _] _ _); refine r_len (by walk_at "hp") ?_)
  | ((with_reducible show rSetL (.ref _) (.int _) _ _ _); refine r_setB (by assumption) (by walk_at "hp") (by with_unfolding_all exact rfl) ?_; intro H2 h2 k2; simp only [Int.reduceToNat, List.set] at h2)
  | with_reducible refine ex_st (by first | (dsimp only [List.set]; done) | (dsimp only [List.set]; rfl)) ?_
  | (with_reducible refine and_brT ?_) | (with_reducible refine and_brF ?_) | (with_reducible refine and_br ?_ ?_)
  | (with_reducible refine br_t ?_; intro h) | (with_reducible refine br_f ?_; intro h))
theorem body_law_draw {K : PySem.W.Frag} {vs : List V} {H : Hp} {Q : VK} {E : XK} (h : spH K w_law_draw vs H Q E) : t_law_draw K { nx := fun _ H' => Q .non H', rt := Q } (L2.start ["hand", "many", "cell", "digit", "number"] vs) H := by
  obtain ⟨M, a, ws, ds, kk, rfl, tr, ma, ho, d, ⟨many, rfl, m0, m1, g⟩, fin⟩ := h
  obtain ⟨w, rfl, hw⟩ := da1 d
  have ew : w = .int many := hw
  subst ew
  clear hw d
  obtain ⟨c, cs, i1, i2, i3, i4, ha, hc, p1, p2⟩ := ho
  have hca : c ≠ a := fun z => hc.1 (by rw [z]; exact ma)
  have hcc := hc.2
  have st0 : Only a H H := fun b _ => rfl
  have dfin : ∀ (H' : Hp) (r j1 j2 j3 j4 : Int), Only a H' H → H' a = some (.lst [.ref c, .int j1, .int j2, .int j3, .int j4]) → 0 ≤ j1 → 0 ≤ j2 → 0 ≤ r → r < many → Q (.int r) H' := fun H' r j1 j2 j3 j4 st h h1 h2 h3 h4 => by
    refine fin (.int r) H' (.d (.int r)) (fun b o nb e => by rw [st b nb]; exact e) ?_ rfl (g r h3 h4)
    refine HandOk.mono (hand_fin ma hc st h h1 h2) (fun b o n e => ⟨fun z => ?_, e⟩) fun _ z => z
    rcases z with z | ⟨⟨_, z⟩, _⟩
    · exact n z
    · cases z
  clear fin g tr
  show t_law_draw K _ [some (.ref a), some (.int many), none, none, none] H
  unfold t_law_draw
  repeat' walk_at "raw"
  all_goals (try dsimp only)
  all_goals simp only [decide_eq_true_eq, decide_eq_false_iff_not] at *
  all_goals refine dfin _ _ _ _ _ _ (by assumption) (by walk_at "hp") ?_ ?_ ?_ ?_
  all_goals first
    | omega
    | exact pw18 (by assumption)
    | exact Int.emod_nonneg _ (by omega)
    | exact Int.emod_lt_of_pos _ (by omega)
    | exact Int.ediv_nonneg (by omega) (by omega)
    | trace_state

end LawK54
end
section
namespace LawK54
open PySem PySem.Spec PyProof.Rows L2 C8 PW
local macro_rules | `(tactic| walk_at "jn") => `(tactic| first | exact fact_jn (by assumption) | exact clause_jn (by assumption) | exact ground_jn (by assumption))
local macro_rules | `(tactic| walk_at "pw") => `(tactic| first
  | ((with_reducible show w_is_integer _ _); with_reducible refine i_is_integer (by walk_at "bi") ?_) | ((with_reducible show w_is_within _ _); with_reducible refine i_is_within (by walk_at "bi") ?_) | ((with_reducible show w_is_tuple_of _ _); with_reducible refine i_is_tuple_of (by walk_at "bi") ?_)
  | ((with_reducible show w_law_is_number _ _); with_reducible refine i_law_is_number (by walk_at "bi") ?_)
  | ((with_reducible show w_fact _ _); with_reducible refine i_fact (by walk_at "jn") ?_)
  | ((with_reducible show w_is_clause _ _); with_reducible refine i_is_clause (by walk_at "jn") ?_)
  | ((with_reducible show w_is_ground _ _); with_reducible refine i_is_ground (by walk_at "jn") ?_)
  | ((with_reducible show w_law_draw _ _); refine i_law_draw (by first | omega | decide) (by first | omega | decide) ?_; intro r h0 h1)
  | with_reducible refine xe_any (by with_unfolding_all exact rfl) ?_
  | ((with_reducible show ∃ x ds, _ = some x ∧ itemsD x = some ds ∧ ds ≠ [] ∧ ds.length < 1073741824 ∧ _); refine ex_any (by with_unfolding_all exact rfl) (by with_unfolding_all exact rfl) (by first | assumption | (intro z; cases z; done) | exact List.append_ne_nil_of_right_ne_nil _ (List.cons_ne_nil _ _)) (by first | omega | (simp only [List.length_append, List.length_cons, List.length_nil]; omega) | decide) ?_; intro d hd)
  | ((with_reducible show w_law_fact _ _); refine i_law_fact ?_; intro f hf)
  | ((with_reducible show w_law_nested _ _); refine i_law_nested ?_; intro f hf; have hfj := hf.1))
local macro_rules | `(tactic| walk_at "sz") => `(tactic| first | (rw [rngD_len]; refine szl ?_; omega))
local macro_rules | `(tactic| walk_at "pw") => `(tactic| first
  | ((with_reducible show ∃ xs x, _ = some xs ∧ ∃ ρ2, _ = ρ2 ∧ ρ2[_]? = some (Ent.own x) ∧ MtD _ rAppend x xs _); refine ⟨_, _, rfl, _, rfl, rfl, m_append (szlt (by first | omega | (simp only [List.length_append, List.length_cons, List.length_nil]; omega))) ?_⟩)
  | ((with_reducible show ∃ n, _ = some [D.int n] ∧ -2 ^ 62 ≤ n ∧ n < 2 ^ 62 ∧ _); refine ⟨_, rfl, by omega, by omega, ?_⟩))
theorem body_law_any {K : PySem.W.Frag} {vs : List V} {H : Hp} {Q : VK} {E : XK} (h : spAny K vs H Q E) : t_law_any K { nx := fun _ H' => Q .non H', rt := Q } (L2.start ["hand", "items"] vs) H := by
  obtain ⟨M, a, b, xs, rfl, tr, ma, ho, hb, n0, hl, fin⟩ := h
  show t_law_any K _ [some (.ref a), some (.ref b)] H
  unfold t_law_any
  refine r_ret ?_
  refine ⟨.ref b, rfl, ?_⟩
  show (PW.tCallH (spH K w_law_draw) L2.E0 0 (tCons (tCB (rLenU K) (tCons (tVar 1) tNil)) tNil)) [some (.ref a), some (.ref b)] H _
  have key : ∀ (r : Int) (H2 : Hp), 0 ≤ r → r < (xs.length : Int) → (∀ c o, c ≠ a → H c = some o → H2 c = some o) → HandOk M K H2 a → rIx K (.ref b) (.int r) H2 Q := fun r H2 h0 h1 st hh => by
    have hr : r.toNat < xs.length := by omega
    have e : atI xs r = some xs[r.toNat] := by
      unfold atI ixN
      rw [if_pos h0, if_pos h1]
      simp [hr]
    have q := fin xs[r.toNat] H2 (List.getElem_mem hr) st hh
    rcases hb with ⟨hb, nb⟩ | hb
    · exact r_ix (st b _ nb hb) e q
    · have nb : b ≠ a := fun z => hb.1 (by rw [z]; exact ma)
      exact .inr (.inl ⟨b, xs, r, _, rfl, rfl, SqT.of (st b _ nb hb.2), e, q⟩)
  have len : LenV K (.ref b) H xs.length := by
    rcases hb with ⟨hb, nb⟩ | hb
    · exact .inl ⟨xs, SqL.of hb, rfl⟩
    · exact .inr ⟨xs, SqT.of hb.2, rfl⟩
  have ln : 0 < (xs.length : Int) := by
    have := List.length_pos_iff.mpr n0
    omega
  refine ⟨.ref a, rfl, .ref b, rfl, .ref b, xs.length, rfl, len, ?_⟩
  refine ⟨M, a, [.int xs.length], [.int xs.length], fun r => ∃ i : Int, r = .d (.int i) ∧ 0 ≤ i ∧ i < (xs.length : Int), rfl, tr, ma, ho, ⟨.int xs.length, [], rfl, rfl, rfl⟩, ⟨xs.length, rfl, ln, by omega, fun r h0 h1 => ⟨r, rfl, h0, h1⟩⟩, fun v H2 r st hh hr ⟨i, er, h0, h1⟩ => ?_⟩
  subst er
  have ev : v = .int i := hr
  rw [ev]
  exact key i H2 h0 h1 st (HandOk.mono hh (fun c o n e => ⟨fun z => n (.inl z), e⟩) fun _ z => z)
section
variable {K : PySem.W.Frag} {k : Res → Prop}
set_option pp.maxSteps 700
theorem word_fact {w : Str} {ys : List D} (hw : w ∈ (["a", "b", "path", "turn"] : List Str)) (hl : ys.length ≤ 4) (hy : ∀ y ∈ ys, ∃ i : Int, y = .int i ∧ 0 ≤ i ∧ i ≤ 999999999999) : isFact (.tup (.str w :: ys)) = true := by
  have h1 : (decide (1 ≤ (w.length : Int)) && decide ((w.length : Int) ≤ 12) && (signsD w).all letterD) = true := by
    simp only [List.mem_cons, List.not_mem_nil, or_false] at hw
    rcases hw with rfl | rfl | rfl | rfl <;> decide +kernel
  simp only [Bool.and_eq_true, decide_eq_true_eq] at h1
  refine (isFact_of (by rw [lenc]; omega) h1.1.1 h1.1.2 h1.2).trans (List.all_eq_true.mpr fun y hy2 => ?_)
  obtain ⟨i, rfl, h2, h3⟩ := hy y hy2
  show (decide (0 ≤ i) && decide (i ≤ 999999999999)) = true
  rw [decide_eq_true h2, decide_eq_true h3]
  rfl
theorem slice_facts {r q : Int} (h0 : 0 ≤ r) (h1 : r < 5) (q0 : 0 ≤ q) (q1 : q < 3) : isFact (.tup [.str (cutS "abcdefghijkl" (some r) none), .int 999999999999, .int 0, .int q, .int 7]) = true := by
  have hr : r = 0 ∨ r = 1 ∨ r = 2 ∨ r = 3 ∨ r = 4 := by omega
  have hq : q = 0 ∨ q = 1 ∨ q = 2 := by omega
  rcases hr with rfl | rfl | rfl | rfl | rfl <;> rcases hq with rfl | rfl | rfl <;> decide +kernel
theorem rel2_mem {R : D → D → Prop} {ds acc : List D} {S : D → Prop} (h : Rel2 R ds acc) (hs : ∀ d y, d ∈ ds → R d y → S y) : ∀ y ∈ acc, S y := fun y hy => by
  obtain ⟨i, hi, e⟩ := List.getElem_of_mem hy
  have h2 : i < ds.length := by rw [← h.1]; exact hi
  exact hs ds[i] y (List.getElem_mem h2) (h.2 i ds[i] y (List.getElem?_eq_getElem h2) (by rw [List.getElem?_eq_getElem hi, e]))
section
local macro_rules | `(tactic| walk_at "pw") => `(tactic| first
  | ((with_reducible show SlD _ _ (.str _) _ _ _); refine sl_S (by decide) ?_)
  | (with_reducible refine ye_lcr (vs := [2]) (fun d y => ∃ i : Int, y = .int i ∧ 0 ≤ i ∧ i < 3) own_name wipe1 ?_)
  | ((with_reducible show ∃ n, _ = some [D.int n] ∧ -2 ^ 62 ≤ n ∧ n < 2 ^ 62 ∧ _); refine ⟨_, rfl, by omega, by omega, ?_⟩)
  | ((with_reducible show ∃ i : Int, D.int _ = D.int i ∧ 0 ≤ i ∧ i < 3); exact ⟨_, rfl, by assumption, by assumption⟩))
theorem pure_law_fact : ∀ ds kk, w_law_fact ds kk → XS K (t_law_fact K) (iniH 3 ds) { nx := fun _ => kk (.d .non), rt := fun r _ => kk r } := by
  rintro _ kk ⟨rfl, g⟩
  show XS K (t_law_fact K) [.hand, .u, .u] (Fin kk)
  unfold t_law_fact
  walk_at "pws"
  · exact g _ (slice_facts (by assumption) (by assumption) (by assumption) (by assumption))
  · rename_i d hd r r0 r1
    intro acc hr
    have hl : acc.length ≤ 3 := by
      have e := hr.1
      rw [rngD_len] at e
      omega
    have hm := rel2_mem (S := fun y => ∃ i : Int, y = .int i ∧ 0 ≤ i ∧ i ≤ 999999999999) hr fun d y _ ⟨i, e, h1, h2⟩ => ⟨i, e, h1, by omega⟩
    have hw : ∃ w, d = .str w ∧ w ∈ (["a", "b", "path", "turn"] : List Str) := by
      simp only [List.mem_cons, List.not_mem_nil, or_false] at hd
      rcases hd with rfl | rfl | rfl | rfl
      · exact ⟨_, rfl, by decide⟩
      · exact ⟨_, rfl, by decide⟩
      · exact ⟨_, rfl, by decide⟩
      · exact ⟨_, rfl, by decide⟩
    obtain ⟨w, rfl, hw⟩ := hw
    walk_at "pws"
    refine o_addT (szl (by show [D.str w].length + acc.length ≤ 100000; simp only [List.length_cons, List.length_nil]; omega)) ?_
    walk_at "pws"
    exact g (.tup (.str w :: acc)) (word_fact hw (by omega) hm)
theorem pure_law_pool : ∀ ds kk, w_law_pool ds kk → XS K (t_law_pool K) (iniH 5 ds) { nx := fun _ => kk (.d .non), rt := fun r _ => kk r } := by
  rintro _ kk ⟨m, rfl, m0, m1, g⟩
  show XS K (t_law_pool K) [.hand, .d (.int m), .u, .u, .u] (Fin kk)
  unfold t_law_pool
  walk_at "pws"
  refine ⟨fun i ρ => ∃ xs e3 e4, ρ = [.hand, .d (.int m), .own (.lst xs), e3, e4] ∧ xs ≠ [] ∧ xs.length ≤ i + 1 ∧ (∀ x ∈ xs, isFact x = true), ⟨_, _, _, rfl, by decide, by decide, fun x hx => by rw [List.mem_singleton.mp hx]; decide +kernel⟩, ?_, ?_⟩
  · rintro i d ρ' hd ⟨xs, e3, e4, rfl, n0, hl, hx⟩
    obtain ⟨rfl, hi⟩ := rngD_at hd
    have hm : Sh 2 (.lst xs) := sh_lst fun x hx2 => fact_sh (hx x hx2)
    walk_at "pws"
    rename_i f hf
    refine o_notInL ((fact_sh hf).sh (by decide)) (hm.sh (by decide)) ?_
    walk_at "pws"
    · exact ⟨_, _, _, rfl, by simp, by rw [List.length_append]; simp only [List.length_cons, List.length_nil]; omega, fun x hx2 => (List.mem_append.mp hx2).elim (hx x) fun z => by rw [List.mem_singleton.mp z]; exact hf⟩
    · exact ⟨_, _, _, rfl, n0, by omega, hx⟩
  · rintro ρ' ⟨xs, e3, e4, rfl, n0, hl, hx⟩
    rw [rngD_len] at hl
    walk_at "pws"
    exact g xs n0 (by omega) hx
end
end

end LawK54
end
section
namespace LawK54
open PySem PySem.Spec PyProof.Rows L2 C8 PW
local macro_rules | `(tactic| walk_at "jn") => `(tactic| first | exact fact_jn (by assumption) | exact clause_jn (by assumption) | exact ground_jn (by assumption))
local macro_rules | `(tactic| walk_at "pw") => `(tactic| first
  | ((with_reducible show w_is_integer _ _); with_reducible refine i_is_integer (by walk_at "bi") ?_) | ((with_reducible show w_is_within _ _); with_reducible refine i_is_within (by walk_at "bi") ?_) | ((with_reducible show w_is_tuple_of _ _); with_reducible refine i_is_tuple_of (by walk_at "bi") ?_)
  | ((with_reducible show w_law_is_number _ _); with_reducible refine i_law_is_number (by walk_at "bi") ?_)
  | ((with_reducible show w_fact _ _); with_reducible refine i_fact (by walk_at "jn") ?_)
  | ((with_reducible show w_is_clause _ _); with_reducible refine i_is_clause (by walk_at "jn") ?_)
  | ((with_reducible show w_is_ground _ _); with_reducible refine i_is_ground (by walk_at "jn") ?_)
  | ((with_reducible show w_law_draw _ _); refine i_law_draw (by first | omega | decide) (by first | omega | decide) ?_; intro r h0 h1)
  | with_reducible refine xe_any (by with_unfolding_all exact rfl) ?_
  | ((with_reducible show ∃ x ds, _ = some x ∧ itemsD x = some ds ∧ ds ≠ [] ∧ ds.length < 1073741824 ∧ _); refine ex_any (by with_unfolding_all exact rfl) (by with_unfolding_all exact rfl) (by first | assumption | (intro z; cases z; done) | exact List.append_ne_nil_of_right_ne_nil _ (List.cons_ne_nil _ _)) (by first | omega | (simp only [List.length_append, List.length_cons, List.length_nil]; omega) | decide) ?_; intro d hd)
  | ((with_reducible show w_law_fact _ _); refine i_law_fact ?_; intro f hf)
  | ((with_reducible show w_law_nested _ _); refine i_law_nested ?_; intro f hf; have hfj := hf.1))
local macro_rules | `(tactic| walk_at "sz") => `(tactic| first | (rw [rngD_len]; refine szl ?_; omega))
local macro_rules | `(tactic| walk_at "pw") => `(tactic| first
  | ((with_reducible show ∃ xs x, _ = some xs ∧ ∃ ρ2, _ = ρ2 ∧ ρ2[_]? = some (Ent.own x) ∧ MtD _ rAppend x xs _); refine ⟨_, _, rfl, _, rfl, rfl, m_append (szlt (by first | omega | (simp only [List.length_append, List.length_cons, List.length_nil]; omega))) ?_⟩)
  | ((with_reducible show ∃ n, _ = some [D.int n] ∧ -2 ^ 62 ≤ n ∧ n < 2 ^ 62 ∧ _); refine ⟨_, rfl, by omega, by omega, ?_⟩))
/-! the two loops of _law_parts -/
def t_pa (K : PySem.W.Frag) : TS :=
  (tSeq (tAsg (tAny (spAny K) L2.E0 0 (tLst (tCons (tC (.int 0)) (tCons (tC (.int 1)) (tCons (tC (.int 1)) (tCons (tC (.int 1)) (tCons (tC (.int 2)) (tCons (tC (.int 2)) (tCons (tC (.int 2)) (tCons (tC (.int 3)) (tCons (tC (.int 4)) tNil))))))))))) (gName 7))
  (tSeq (tAsg (tIf (tAnd (tTest (tOp (rEqD K) (tVar 7) (tC (.int 0)))) (tTest (tOp rGtI (PW.tCallH (spH K w_law_draw) L2.E0 0 (tCons (tC (.int 3)) tNil)) (tC (.int 0))))) (tC (.int 1)) (tVar 7)) (gName 7))
  (tSeq (tDrop (tBM K "list" rAppend (tVar 4) (tCons (tTup (tCons (tCB (rTupU K) (tCons (tLc (iRng1 (tCons (tVar 7) tNil)) (gName 8) tYes (tAny (spAny K) L2.E0 0 (tVar 3)) [8]) tNil)) (tCons (tAny (spAny K) L2.E0 0 (tVar 3)) tNil))) tNil)))
  (tIfS (tTest (tOp (rEqD K) (PW.tCallH (spH K w_law_draw) L2.E0 0 (tCons (tC (.int 12)) tNil)) (tC (.int 0))))
  (tDrop (tBM K "list" rAppend (tVar 4) (tCons (tAny (spAny K) L2.E0 0 (tVar 4)) tNil)))
  tNext))))
def t_pb (K : PySem.W.Frag) : TS :=
  (tDrop (tBM K "list" rAppend (tVar 5) (tCons (tCB (rTupU K) (tCons (tLc (iRng1 (tCons (tAny (spAny K) L2.E0 0 (tLst (tCons (tC (.int 0)) (tCons (tC (.int 1)) (tCons (tC (.int 1)) (tCons (tC (.int 2)) (tCons (tC (.int 2)) (tCons (tC (.int 3)) tNil)))))))) tNil)) (gName 8) tYes (tAny (spAny K) L2.E0 0 (tVar 3)) [8]) tNil)) tNil)))
section
variable {K : PySem.W.Frag} {Φ : Post}
local macro_rules | `(tactic| walk_at "pw") => `(tactic| first
  | (with_reducible refine ye_lcr (vs := [8]) (fun d y => isFact y = true) own_name wipe1 ?_)
  | ((with_reducible show ∃ n, _ = some [D.int n] ∧ -2 ^ 62 ≤ n ∧ n < 2 ^ 62 ∧ _); refine ⟨_, rfl, by omega, by omega, ?_⟩)
  | ((with_reducible show w_law_pool _ _); refine i_law_pool (by omega) (by omega) ?_; intro xs n0 hl hf))
theorem rel_facts {n : Nat} {P : List D → Prop} (h : ∀ acc, acc.length = n → (∀ x ∈ acc, isFact x = true) → P acc) : ∀ acc, Rel2 (fun _ y => isFact y = true) (rngD 0 n) acc → P acc := fun acc hr => h acc (by have e := hr.1; rwa [rngD_len] at e) (rel2_mem hr fun _ _ _ z => z)
theorem fact_mem {d : D} {xs : List D} (hd : d ∈ xs) (h : ∀ x ∈ xs, isFact x = true) : isFact d = true := h d hd
theorem cl_app {cs : List D} {body : List D} {head : D} (hcl : ∀ c ∈ cs, isClause c = true) (h1 : body.length ≤ 4) (h2 : ∀ x ∈ body, isFact x = true) (h3 : isFact head = true) : ∀ c ∈ cs ++ [.tup [.tup body, head]], isClause c = true := fun c hc => (List.mem_append.mp hc).elim (hcl c) fun z => by rw [List.mem_singleton.mp z]; exact clause_of h1 h2 h3
theorem cl_app2 {cs : List D} {c : D} (hcl : ∀ c ∈ cs, isClause c = true) (h : c ∈ cs) : ∀ c' ∈ cs ++ [c], isClause c' = true := fun x hx => (List.mem_append.mp hx).elim (hcl x) fun z => by rw [List.mem_singleton.mp z]; exact hcl c h
local macro_rules | `(tactic| walk_at "pw") => `(tactic| first
  | (with_reducible refine rel_facts ?_; intro acc hn hfa)
  | ((with_reducible show isFact _ = true); exact fact_mem (by assumption) (by assumption)))
set_option pp.maxSteps 700
theorem xs_pa {m gn : Int} {xs cs : List D} {e6 e7 e8 : Ent} (n0 : xs ≠ []) (hl : xs.length ≤ 14) (hf : ∀ x ∈ xs, isFact x = true) (hc : cs.length ≤ 60) (hcl : ∀ c ∈ cs, isClause c = true)
    (g : ∀ cs' e7 e8, cs'.length ≤ cs.length + 2 → (∀ c ∈ cs', isClause c = true) → Φ.nx [.hand, .d (.int m), .d (.int gn), .own (.lst xs), .own (.lst cs'), .own (.lst []), e6, e7, e8]) :
    XS K (t_pa K) [.hand, .d (.int m), .d (.int gn), .own (.lst xs), .own (.lst cs), .own (.lst []), e6, e7, e8] Φ := by
  unfold t_pa
  walk_at "pws"
  rename_i d hd
  obtain ⟨i, rfl, hi⟩ := int_mem (is := [0, 1, 1, 1, 2, 2, 2, 3, 4]) hd
  have hi2 : 0 ≤ i ∧ i ≤ 4 := by
    simp only [List.mem_cons, List.not_mem_nil, or_false] at hi
    omega
  obtain ⟨i0, i4⟩ := hi2
  have nx : 0 < xs.length := List.length_pos_iff.mpr n0
  clear hi hd
  walk_at "pws"
  all_goals refine g _ _ _ (by simp only [List.length_append, List.length_cons, List.length_nil]; omega) ?_
  all_goals first
    | exact cl_app hcl (by omega) (by assumption) (fact_mem (by assumption) hf)
    | exact cl_app2 (cl_app hcl (by omega) (by assumption) (fact_mem (by assumption) hf)) (by assumption)
    | (refine cl_app2 ?_ (by assumption); refine cl_app hcl ?_ ?_ ?_; omega; assumption; exact fact_mem (by assumption) hf)
    | (refine cl_app hcl ?_ ?_ ?_; omega; assumption; exact fact_mem (by assumption) hf)
theorem xs_pb {m gn : Int} {xs cs gs : List D} {e6 e7 e8 : Ent} (n0 : xs ≠ []) (hl : xs.length ≤ 14) (hf : ∀ x ∈ xs, isFact x = true) (hc : gs.length ≤ 60)
    (g : ∀ fs e8, fs.length ≤ 3 → (∀ x ∈ fs, isFact x = true) → Φ.nx [.hand, .d (.int m), .d (.int gn), .own (.lst xs), .own (.lst cs), .own (.lst (gs ++ [.tup fs])), e6, e7, e8]) :
    XS K (t_pb K) [.hand, .d (.int m), .d (.int gn), .own (.lst xs), .own (.lst cs), .own (.lst gs), e6, e7, e8] Φ := by
  unfold t_pb
  walk_at "pws"
  rename_i d hd
  obtain ⟨i, rfl, hi⟩ := int_mem (is := [0, 1, 1, 2, 2, 3]) hd
  have hi2 : 0 ≤ i ∧ i ≤ 3 := by
    simp only [List.mem_cons, List.not_mem_nil, or_false] at hi
    omega
  obtain ⟨i0, i4⟩ := hi2
  have nx : 0 < xs.length := List.length_pos_iff.mpr n0
  clear hi hd
  walk_at "pws"
  all_goals refine g _ _ (by omega) (by assumption)
theorem pure_law_parts : ∀ ds kk, w_law_parts ds kk → XS K (t_law_parts K) (iniH 9 ds) { nx := fun _ => kk (.d .non), rt := fun r _ => kk r } := by
  rintro _ kk ⟨m, gn, rfl, m0, m1, g0, g1, g⟩
  show XS K (t_law_parts K) [.hand, .d (.int m), .d (.int gn), .u, .u, .u, .u, .u, .u] (Fin kk)
  unfold t_law_parts
  walk_at "pws"
  rename_i r r0 r1 xs n0 hl hf t t0 t1
  refine ⟨fun i ρ => ∃ cs e6 e7 e8, ρ = [.hand, .d (.int m), .d (.int gn), .own (.lst xs), .own (.lst cs), .own (.lst []), e6, e7, e8] ∧ cs.length ≤ 2 * i ∧ (∀ c ∈ cs, isClause c = true), ⟨_, _, _, _, rfl, Nat.le_refl _, fun x hx => nomatch hx⟩, ?_, ?_⟩
  · rintro i d ρ' hd ⟨cs, e6, e7, e8, rfl, hc, hcl⟩
    obtain ⟨rfl, hi⟩ := rngD_at hd
    refine yg_name ⟨_, rfl, ?_⟩
    refine xs_pa n0 hl hf (by omega) hcl fun cs' e7 e8 h1 h2 => ⟨cs', _, _, _, rfl, by omega, h2⟩
  · rintro ρ' ⟨cs, e6, e7, e8, rfl, hc, hcl⟩
    rw [rngD_len] at hc
    walk_at "pws"
    refine ⟨fun i ρ => ∃ gs e6 e7 e8, ρ = [.hand, .d (.int m), .d (.int gn), .own (.lst xs), .own (.lst cs), .own (.lst gs), e6, e7, e8] ∧ gs.length = i ∧ (∀ c ∈ gs, isGround c = true) ∧ ∀ fs, D.tup fs ∈ gs → fs.length ≤ 3, ⟨_, _, _, _, rfl, rfl, (fun x hx => nomatch hx), fun fs hx => nomatch hx⟩, ?_, ?_⟩
    · rintro i d ρ' hd ⟨gs, e6, e7, e8, rfl, hg, hgr, hf3⟩
      obtain ⟨rfl, hi⟩ := rngD_at hd
      refine yg_name ⟨_, rfl, ?_⟩
      refine xs_pb n0 hl hf (by omega) fun fs e8 h1 h2 => ⟨gs ++ [.tup fs], _, _, _, rfl, by simp only [List.length_append, List.length_cons, List.length_nil]; omega, fun c hc2 => (List.mem_append.mp hc2).elim (hgr c) fun z => by rw [List.mem_singleton.mp z]; exact ground_of (by omega) h2, fun fs' hx => (List.mem_append.mp hx).elim (hf3 fs') fun z => ?_⟩
      cases List.mem_singleton.mp z
      exact h1
    · rintro ρ' ⟨gs, e6, e7, e8, rfl, hg, hgr, hf3⟩
      rw [rngD_len] at hg
      walk_at "pws"
      exact g cs gs ⟨hcl, hgr, by omega, by omega, hf3⟩ (by omega)
end

end LawK54
end
section
namespace LawK54
open PySem PySem.Spec PyProof.Rows L2 C8 PW
local macro_rules | `(tactic| walk_at "jn") => `(tactic| first | exact fact_jn (by assumption) | exact clause_jn (by assumption) | exact ground_jn (by assumption))
local macro_rules | `(tactic| walk_at "pw") => `(tactic| first
  | ((with_reducible show w_is_integer _ _); with_reducible refine i_is_integer (by walk_at "bi") ?_) | ((with_reducible show w_is_within _ _); with_reducible refine i_is_within (by walk_at "bi") ?_) | ((with_reducible show w_is_tuple_of _ _); with_reducible refine i_is_tuple_of (by walk_at "bi") ?_)
  | ((with_reducible show w_law_is_number _ _); with_reducible refine i_law_is_number (by walk_at "bi") ?_)
  | ((with_reducible show w_fact _ _); with_reducible refine i_fact (by walk_at "jn") ?_)
  | ((with_reducible show w_is_clause _ _); with_reducible refine i_is_clause (by walk_at "jn") ?_)
  | ((with_reducible show w_is_ground _ _); with_reducible refine i_is_ground (by walk_at "jn") ?_)
  | ((with_reducible show w_law_draw _ _); refine i_law_draw (by first | omega | decide) (by first | omega | decide) ?_; intro r h0 h1)
  | with_reducible refine xe_any (by with_unfolding_all exact rfl) ?_
  | ((with_reducible show ∃ x ds, _ = some x ∧ itemsD x = some ds ∧ ds ≠ [] ∧ ds.length < 1073741824 ∧ _); refine ex_any (by with_unfolding_all exact rfl) (by with_unfolding_all exact rfl) (by first | assumption | (intro z; cases z; done) | exact List.append_ne_nil_of_right_ne_nil _ (List.cons_ne_nil _ _)) (by first | omega | (simp only [List.length_append, List.length_cons, List.length_nil]; omega) | decide) ?_; intro d hd)
  | ((with_reducible show w_law_fact _ _); refine i_law_fact ?_; intro f hf)
  | ((with_reducible show w_law_nested _ _); refine i_law_nested ?_; intro f hf; have hfj := hf.1))
local macro_rules | `(tactic| walk_at "sz") => `(tactic| first | (rw [rngD_len]; refine szl ?_; omega))
local macro_rules | `(tactic| walk_at "pw") => `(tactic| first
  | ((with_reducible show ∃ xs x, _ = some xs ∧ ∃ ρ2, _ = ρ2 ∧ ρ2[_]? = some (Ent.own x) ∧ MtD _ rAppend x xs _); refine ⟨_, _, rfl, _, rfl, rfl, m_append (szlt (by first | omega | (simp only [List.length_append, List.length_cons, List.length_nil]; omega))) ?_⟩)
  | ((with_reducible show ∃ n, _ = some [D.int n] ∧ -2 ^ 62 ≤ n ∧ n < 2 ^ 62 ∧ _); refine ⟨_, rfl, by omega, by omega, ?_⟩))
set_option pp.maxSteps 700
section
variable {K : PySem.W.Frag}
theorem factsG_take {gs : List D} {i : Nat} {g : D} (h : gs[i]? = some g) : factsG (gs.take (i + 1)) = factsG (gs.take i) ++ factsG [g] := by
  unfold factsG
  rw [List.take_succ, h, List.flatMap_append]
  rfl
theorem factsG_len {gs : List D} (h : ∀ fs, D.tup fs ∈ gs → fs.length ≤ 3) : (factsG gs).length ≤ 3 * gs.length := by
  induction gs with
  | nil => exact Nat.le_refl _
  | cons g r ih =>
    have e : factsG (g :: r) = factsG [g] ++ factsG r := by unfold factsG; simp
    rw [e, List.length_append, List.length_cons]
    have h1 := ih fun fs hf => h fs (List.mem_cons_of_mem _ hf)
    have h2 : (factsG [g]).length ≤ 3 := by
      cases g with
      | tup fs =>
        have := h fs (List.mem_cons_self ..)
        simpa [factsG] using this
      | _ => simp [factsG]
    omega
section
theorem pure_law_ground_facts : ∀ ds kk, w_law_ground_facts ds kk → XS K (t_law_ground_facts K) (ini 4 ds) { nx := fun _ => kk (.d .non), rt := fun r _ => kk r } := by
  rintro _ kk ⟨cs, gs, rfl, hP, g⟩
  show XS K (t_law_ground_facts K) [.d (.tup [.tup cs, .tup gs]), .d (.lst ((List.range gs.length).map fun i => D.int (i : Nat))), .u, .u] (Fin kk)
  unfold t_law_ground_facts
  walk_at "pws"
  refine ⟨fun i ρ => ∃ e3, ρ = [.d (.tup [.tup cs, .tup gs]), .d (.lst ((List.range gs.length).map fun i => D.int (i : Nat))), .own (.lst (factsG (gs.take i))), e3], ⟨_, by rw [List.take_zero]; rfl⟩, ?_, ?_⟩
  · rintro i d ρ' hd ⟨e3, rfl⟩
    have hi : i < gs.length ∧ d = .int (i : Nat) := by
      rw [List.getElem?_map] at hd
      by_cases hi : i < gs.length
      · rw [List.getElem?_range hi] at hd
        cases hd
        exact ⟨hi, rfl⟩
      · rw [List.getElem?_eq_none (by rw [List.length_range]; omega)] at hd
        cases hd
    obtain ⟨hi, rfl⟩ := hi
    obtain ⟨fs, ef, h1, h2⟩ := isGround_form (hP.gr gs[i] (List.getElem_mem hi))
    have eg : gs[i]? = some (.tup fs) := by rw [List.getElem?_eq_getElem hi, ef]
    have hfs := hP.fewF fs (by rw [← ef]; exact List.getElem_mem hi)
    have ht2 : factsG (gs.take (i + 1)) = factsG (gs.take i) ++ fs := by rw [factsG_take eg]; simp [factsG]
    have hl := factsG_len (gs := gs.take i) fun fs hf => hP.fewF fs (List.mem_of_mem_take hf)
    have hl2 : (gs.take i).length ≤ 7 := Nat.le_trans (List.length_take_le' ..) hP.fewG
    walk_at "pws"
    refine o_ixAnyT (by omega) (by omega) ?_
    intro d hd2
    rw [Int.toNat_natCast, eg] at hd2
    cases hd2
    walk_at "pws"
    refine ⟨_, _, rfl, _, rfl, rfl, m_extend (szl (by omega)) ?_⟩
    walk_at "pws"
    exact ⟨_, by rw [ht2]⟩
  · rintro ρ' ⟨e3, rfl⟩
    rw [List.length_map, List.length_range, List.take_length]
    walk_at "pws"
    exact g
end
end

end LawK54
end
section
namespace LawK54
open PySem PySem.Spec PyProof.Rows L2 C8 PW
local macro_rules | `(tactic| walk_at "jn") => `(tactic| first | exact fact_jn (by assumption) | exact clause_jn (by assumption) | exact ground_jn (by assumption))
local macro_rules | `(tactic| walk_at "pw") => `(tactic| first
  | ((with_reducible show w_is_integer _ _); with_reducible refine i_is_integer (by walk_at "bi") ?_) | ((with_reducible show w_is_within _ _); with_reducible refine i_is_within (by walk_at "bi") ?_) | ((with_reducible show w_is_tuple_of _ _); with_reducible refine i_is_tuple_of (by walk_at "bi") ?_)
  | ((with_reducible show w_law_is_number _ _); with_reducible refine i_law_is_number (by walk_at "bi") ?_)
  | ((with_reducible show w_fact _ _); with_reducible refine i_fact (by walk_at "jn") ?_)
  | ((with_reducible show w_is_clause _ _); with_reducible refine i_is_clause (by walk_at "jn") ?_)
  | ((with_reducible show w_is_ground _ _); with_reducible refine i_is_ground (by walk_at "jn") ?_)
  | ((with_reducible show w_law_draw _ _); refine i_law_draw (by first | omega | decide) (by first | omega | decide) ?_; intro r h0 h1)
  | with_reducible refine xe_any (by with_unfolding_all exact rfl) ?_
  | ((with_reducible show ∃ x ds, _ = some x ∧ itemsD x = some ds ∧ ds ≠ [] ∧ ds.length < 1073741824 ∧ _); refine ex_any (by with_unfolding_all exact rfl) (by with_unfolding_all exact rfl) (by first | assumption | (intro z; cases z; done) | exact List.append_ne_nil_of_right_ne_nil _ (List.cons_ne_nil _ _)) (by first | omega | (simp only [List.length_append, List.length_cons, List.length_nil]; omega) | decide) ?_; intro d hd)
  | ((with_reducible show w_law_fact _ _); refine i_law_fact ?_; intro f hf)
  | ((with_reducible show w_law_nested _ _); refine i_law_nested ?_; intro f hf; have hfj := hf.1))
local macro_rules | `(tactic| walk_at "sz") => `(tactic| first | (rw [rngD_len]; refine szl ?_; omega))
local macro_rules | `(tactic| walk_at "pw") => `(tactic| first
  | ((with_reducible show ∃ xs x, _ = some xs ∧ ∃ ρ2, _ = ρ2 ∧ ρ2[_]? = some (Ent.own x) ∧ MtD _ rAppend x xs _); refine ⟨_, _, rfl, _, rfl, rfl, m_append (szlt (by first | omega | (simp only [List.length_append, List.length_cons, List.length_nil]; omega))) ?_⟩)
  | ((with_reducible show ∃ n, _ = some [D.int n] ∧ -2 ^ 62 ≤ n ∧ n < 2 ^ 62 ∧ _); refine ⟨_, rfl, by omega, by omega, ?_⟩))
set_option pp.maxSteps 500
section
variable {K : PySem.W.Frag}
/-- what is gathered so far is in P; the test may draw -/
theorem ye_lcP {ρ : List Ent} {te : TE} {tt : TT} {wi : TI} {g : TG} {vs : List Nat} {k : PW.KE} (P : Nat → List D → Prop) (hsl : OwnSlots g vs) (hww : ∀ σ : L2.St, wipe (wipe σ vs) vs = wipe σ vs)
    (h : XI K wi ρ fun ds ρ1 => ds.length ≤ sizeLine ∧ ∃ ρw, wipeE ρ1 vs = ρw ∧ P 0 [] ∧
      (∀ i d acc, ds[i]? = some d → P i acc → XG K g d ρw fun ρ2 => wipeE ρ2 vs = ρw ∧ XT K tt ρ2 fun b ρ3 => ρ3 = ρ2 ∧ (b = true → PW.XE K te ρ3 fun r ρ4 => ∃ y, peek ρ4 r = some y ∧ frz ρ4 r = ρ2 ∧ P (i + 1) (acc ++ [y])) ∧ (b = false → P (i + 1) acc)) ∧
      ∀ acc, acc.length ≤ ds.length → P ds.length acc → k (.nw (.lst acc)) ρw) : PW.XE K (tLc wi g tt te vs) ρ k :=
  xe_lc hsl hww fun F H σ Q E q => h F H σ Q E fun J H' ρ1 ds W kp E1 Gv w0 ⟨hl, ρw, e, p0, st, fin⟩ => by
    subst e
    exact q J H' ρ1 ds W kp E1 Gv w0 ⟨hl, P, p0, fun i d acc hd _ hp => st i d acc hd hp, fin⟩
theorem rngD0 {n : Nat} : rngD 0 n = (List.range n).map fun i => D.int (i : Nat) := by
  unfold rngD
  exact List.map_congr_left fun i _ => by rw [Int.zero_add]
theorem lot_range (n : Nat) : Lot n ((List.range n).map fun (i : Nat) => (i : Int)) := by
  refine ⟨?_, fun i hi => ?_⟩
  · refine List.pairwise_map.mpr ?_
    exact List.pairwise_lt_range.imp fun h => by omega
  · obtain ⟨j, hj, rfl⟩ := List.mem_map.mp hi
    have := List.mem_range.mp hj
    omega
theorem lot_add {n : Nat} {is : List Int} (h : Lot n is) : Lot ((n + 1 : Nat) : Int) (is ++ [(n : Int)]) := by
  refine ⟨List.pairwise_append.mpr ⟨h.1, List.pairwise_singleton _ _, fun a ha b hb => ?_⟩, fun i hi => ?_⟩
  · rw [List.mem_singleton.mp hb]
    exact (h.2 a ha).2
  · rcases List.mem_append.mp hi with hi | hi
    · have := h.2 i hi
      omega
    · rw [List.mem_singleton.mp hi]
      omega
theorem lot_more {n : Nat} {is : List Int} (h : Lot n is) : Lot ((n + 1 : Nat) : Int) is := ⟨h.1, fun i hi => by have := h.2 i hi; omega⟩
theorem clause_two {cs : List D} (h : ∀ c ∈ cs, isClause c = true) {d : D} (hd : d ∈ cs) : ∃ b a, d = .tup [b, a] ∧ isFact a = true := by
  obtain ⟨body, head, e, _, _, h3⟩ := isClause_form (h d hd)
  exact ⟨_, _, e, h3⟩
theorem factsG_mem {gs : List D} (h : ∀ g ∈ gs, isGround g = true) : ∀ x ∈ factsG gs, isFact x = true := fun x hx => by
  obtain ⟨g, hg, hx2⟩ := List.mem_flatMap.mp hx
  obtain ⟨fs, rfl, _, h2⟩ := isGround_form (h g hg)
  exact h2 x hx2
section
local macro_rules | `(tactic| walk_at "pw") => `(tactic| first
  | with_reducible refine ye_lcr (vs := [3, 4]) (fun d y => isFact y = true) (own_pair (by decide)) (wipe2 (by decide)) ?_)
theorem pure_law_asked : ∀ ds kk, w_law_asked ds kk → XS K (t_law_asked K) (iniH 5 ds) { nx := fun _ => kk (.d .non), rt := fun r _ => kk r } := by
  rintro _ kk ⟨cs, gs, rfl, hP, g⟩
  show XS K (t_law_asked K) [.hand, .d (.tup [.tup cs, .tup gs]), .u, .u, .u] (Fin kk)
  unfold t_law_asked
  have few := hP.few
  have fewG := hP.fewG
  walk_at "pws"
  refine ⟨szl (by omega), _, rfl, fun d hd => ?_, fun acc hr => ?_⟩
  · obtain ⟨b, a, rfl, ha⟩ := clause_two hP.cl hd
    walk_at "pws"
    exact ha
  · have hm : ∀ x ∈ acc, isFact x = true := rel2_mem hr fun _ _ _ z => z
    have hl : acc.length ≤ 60 := by rw [hr.1]; exact few
    have hg := factsG_mem hP.gr
    have hgl := factsG_len hP.fewF
    walk_at "pws"
    refine ⟨by unfold RgOk; omega, ?_⟩
    walk_at "pws"
    rw [Int.toNat_natCast, rngD0]
    refine i_law_ground_facts hP ?_
    walk_at "pws"
    refine o_addL (szl (by omega)) ?_
    walk_at "pws"
    all_goals first
      | exact g _ (by assumption)
      | skip
    rename_i hz _ _ _ _
    refine ⟨fun z => ?_, by rw [List.length_append]; omega, fun d hd => g d ((List.mem_append.mp hd).elim (hm d) (hg d))⟩
    rw [z] at hz
    exact hz rfl
end
theorem pure_law_lot : ∀ ds kk, w_law_lot ds kk → XS K (t_law_lot K) (iniH 3 ds) { nx := fun _ => kk (.d .non), rt := fun r _ => kk r } := by
  rintro _ kk ⟨m, rfl, m0, m1, g⟩
  show XS K (t_law_lot K) [.hand, .d (.int m), .u] (Fin kk)
  unfold t_law_lot
  walk_at "pws"
  · refine ⟨by unfold RgOk; omega, ?_⟩
    walk_at "pws"
    have e : rngD 0 m.toNat = ((List.range m.toNat).map fun (i : Nat) => (i : Int)).map D.int := by
      rw [rngD0, List.map_map]
      rfl
    rw [e]
    have hl := lot_range m.toNat
    rw [show ((m.toNat : Nat) : Int) = m by omega] at hl
    exact g _ hl
  · refine ye_lcP (vs := [2]) (fun n acc => ∃ is : List Int, acc = is.map D.int ∧ Lot n is) own_name wipe1 ?_
    walk_at "pws"
    refine ⟨by rw [rngD_len]; exact szl (by omega), _, rfl, ⟨[], rfl, List.Pairwise.nil, fun i hi => nomatch hi⟩, ?_, ?_⟩
    · rintro i d acc hd ⟨is, rfl, hL⟩
      obtain ⟨rfl, hi⟩ := rngD_at hd
      rw [Int.zero_add]
      walk_at "pws"
      refine ⟨rfl, fun _ => ?_, fun _ => ⟨is, rfl, lot_more hL⟩⟩
      walk_at "pws"
      exact ⟨is ++ [(i : Int)], by rw [List.map_append]; rfl, lot_add hL⟩
    · rintro acc _ ⟨is, rfl, hL⟩
      rw [rngD_len] at hL
      rw [show ((m.toNat : Nat) : Int) = m by omega] at hL
      walk_at "pws"
      exact g is hL
end

end LawK54
end
section
namespace LawK54
open PySem PySem.Spec PyProof.Rows L2 C8 PW
local macro_rules | `(tactic| walk_at "jn") => `(tactic| first | exact fact_jn (by assumption) | exact clause_jn (by assumption) | exact ground_jn (by assumption))
local macro_rules | `(tactic| walk_at "pw") => `(tactic| first
  | ((with_reducible show w_is_integer _ _); with_reducible refine i_is_integer (by walk_at "bi") ?_) | ((with_reducible show w_is_within _ _); with_reducible refine i_is_within (by walk_at "bi") ?_) | ((with_reducible show w_is_tuple_of _ _); with_reducible refine i_is_tuple_of (by walk_at "bi") ?_)
  | ((with_reducible show w_law_is_number _ _); with_reducible refine i_law_is_number (by walk_at "bi") ?_)
  | ((with_reducible show w_fact _ _); with_reducible refine i_fact (by walk_at "jn") ?_)
  | ((with_reducible show w_is_clause _ _); with_reducible refine i_is_clause (by walk_at "jn") ?_)
  | ((with_reducible show w_is_ground _ _); with_reducible refine i_is_ground (by walk_at "jn") ?_)
  | ((with_reducible show w_law_draw _ _); refine i_law_draw (by first | omega | decide) (by first | omega | decide) ?_; intro r h0 h1)
  | with_reducible refine xe_any (by with_unfolding_all exact rfl) ?_
  | ((with_reducible show ∃ x ds, _ = some x ∧ itemsD x = some ds ∧ ds ≠ [] ∧ ds.length < 1073741824 ∧ _); refine ex_any (by with_unfolding_all exact rfl) (by with_unfolding_all exact rfl) (by first | assumption | (intro z; cases z; done) | exact List.append_ne_nil_of_right_ne_nil _ (List.cons_ne_nil _ _)) (by first | omega | (simp only [List.length_append, List.length_cons, List.length_nil]; omega) | decide) ?_; intro d hd)
  | ((with_reducible show w_law_fact _ _); refine i_law_fact ?_; intro f hf)
  | ((with_reducible show w_law_nested _ _); refine i_law_nested ?_; intro f hf; have hfj := hf.1))
local macro_rules | `(tactic| walk_at "sz") => `(tactic| first | (rw [rngD_len]; refine szl ?_; omega))
local macro_rules | `(tactic| walk_at "pw") => `(tactic| first
  | ((with_reducible show ∃ xs x, _ = some xs ∧ ∃ ρ2, _ = ρ2 ∧ ρ2[_]? = some (Ent.own x) ∧ MtD _ rAppend x xs _); refine ⟨_, _, rfl, _, rfl, rfl, m_append (szlt (by first | omega | (simp only [List.length_append, List.length_cons, List.length_nil]; omega))) ?_⟩)
  | ((with_reducible show ∃ n, _ = some [D.int n] ∧ -2 ^ 62 ≤ n ∧ n < 2 ^ 62 ∧ _); refine ⟨_, rfl, by omega, by omega, ?_⟩))
set_option pp.maxSteps 500
section
variable {ks : List (List Key)} {xs : List D} {q : List Key} {y : D}
theorem dputK_mem {q' : List Key} : q' ∈ dputK ks q ↔ q' ∈ ks ∨ q' = q := by
  unfold dputK
  split
  · rename_i h
    obtain ⟨a, ha, e⟩ := List.any_eq_true.mp h
    have e := of_decide_eq_true e
    exact ⟨.inl, fun z => z.elim id fun z => by rw [z, ← e]; exact ha⟩
  · rw [List.mem_append, List.mem_singleton]
theorem dputK_nd (h : ks.Nodup) : (dputK ks q).Nodup := by
  unfold dputK
  split
  · exact h
  · rename_i hn
    refine List.nodup_append.mpr ⟨h, by simp, fun a ha b hb z => hn ?_⟩
    rw [List.mem_singleton.mp hb] at z
    exact List.any_eq_true.mpr ⟨a, ha, decide_eq_true z⟩
theorem dputK_len : (dputK ks q).length ≤ ks.length + 1 := by
  unfold dputK
  split
  · omega
  · rw [List.length_append]
    exact Nat.le_refl _
theorem dputX_len : ∀ {ks : List (List Key)} {xs : List D}, xs.length = ks.length → (dputX ks xs q y).length = (dputK ks q).length
  | [], [], _ => rfl
  | a :: ks, [], h => by cases h
  | [], x :: xs, h => by cases h
  | a :: ks, x :: xs, h => by
    have h2 : xs.length = ks.length := by simpa using h
    have ih := dputX_len h2
    unfold dputX
    by_cases e : a = q
    · rw [if_pos e]
      have e2 : dputK (a :: ks) q = a :: ks := by
        unfold dputK
        rw [if_pos]
        rw [List.any_cons, decide_eq_true e, Bool.true_or]
      rw [e2, List.length_cons, List.length_cons, h2]
    · rw [if_neg e]
      have e2 : dputK (a :: ks) q = a :: dputK ks q := by
        unfold dputK
        rw [List.any_cons, decide_eq_false e, Bool.false_or]
        split <;> rfl
      rw [e2, List.length_cons, List.length_cons, ih]
end
/-- a dict of facts -/
structure Dk (ks : List (List Key)) (xs : List D) (n : Nat) : Prop where
  nd : ks.Nodup
  len : xs.length = ks.length
  few : ks.length ≤ n
theorem Dk.put {ks : List (List Key)} {xs : List D} {n : Nat} (h : Dk ks xs n) (q : List Key) (y : D) : Dk (dputK ks q) (dputX ks xs q y) (n + 1) := ⟨dputK_nd h.nd, dputX_len h.len, Nat.le_trans dputK_len (Nat.succ_le_succ h.few)⟩
theorem Dk.mono {ks : List (List Key)} {xs : List D} {n m : Nat} (h : Dk ks xs n) (e : n ≤ m) : Dk ks xs m := ⟨h.nd, h.len, Nat.le_trans h.few e⟩
theorem ye_dnewT {K : PySem.W.Frag} {ρ : List Ent} {k : PW.KE} (g : k (.nw (.dct [] [])) ρ) : PW.XE K tDNewT ρ k := fun F H σ Q E q p hp => by
  have e : PW.Ext H (upd H p (.dT [])) := PW.Ext.new hp
  have z : ResV (hot F σ ρ) K H (upd H p (.dT [])) (.ref p) (.nw (.dct [] [])) := ⟨p, rfl, hp, [], upd_same, rfl, rfl⟩
  exact q _ _ _ ρ (hotR.res (Keep.refl _ _) e z) (ResV.rv E e z) g
/-! the loops of _law_rounds -/
def t_ra (K : PySem.W.Frag) : TS := (tFor (iSeqU K (tOp (rIx K) (tOp (rIx K) (tVar 0) (tC (.int 1))) (tVar 4))) (gName 5)
  (sDPut (tVar 3) (tVar 5) (tC (.int 0))))
def t_rb (K : PySem.W.Frag) : TS := (tSeq (tAsg (tOp (rIx K) (tOp (rIx K) (tVar 0) (tC (.int 0))) (tVar 4)) (gTup K 2 (gCons (gName 8) (gCons (gName 9) gNil))))
  (tIfS (tAnd (tTest (tOp (rNeD K) (tVar 4) (tVar 2))) (tAnd (tTest (tOp rNotInK (tVar 9) (tVar 3))) (tB (tCB (rAll K) (tCons (tLc (iSeqU K (tVar 8)) (gName 5) tYes (tOp rInK (tVar 5) (tVar 3)) [5]) tNil)))))
  (tDrop (tBM K "list" rAppend (tVar 7) (tCons (tVar 9) tNil)))
  tNext))
def t_rc (K : PySem.W.Frag) : TS := (tFor (iSeqU K (tVar 7)) (gName 5)
  (sDPut (tVar 3) (tVar 5) (tOp (rAddU K) (tVar 6) (tC (.int 1)))))
section
variable {K : PySem.W.Frag} {Φ : Post} {cs gs : List D} {is : List Int} {w : Option Nat} {ks : List (List Key)} {xs : List D} {e4 e5 e6 e7 e8 e9 : Ent} {n : Nat}
theorem ys_dputF {i : Nat} {ρ : List Ent} {y f : D} (hf : isFact f = true) (hi : ρ[i]? = some (.own (.dct ks xs))) (hk : Dk ks xs n) (hn : n < 100000) {tv ty : TE} (hv : PW.XE K tv ρ fun r ρ1 => ρ1 = ρ ∧ r = .d y) (hy : PW.XE K ty ρ fun r ρ1 => ρ1 = ρ ∧ r = .d f)
    (g : Φ.nx (ρ.set i (.own (.dct (dputK ks (keyF f)) (dputX ks xs (keyF f) y))))) : XS K (sDPut (tVar i) ty tv) ρ Φ := by
  refine ys_dput (xe_mono hv fun r ρ1 ⟨e1, e2⟩ => ?_)
  subst e1 e2
  refine ⟨y, rfl, _, rfl, _, hi, xe_mono hy fun r ρ2 ⟨e1, e2⟩ => ?_⟩
  subst e1 e2
  exact ⟨keyF f, ks, xs, by rw [← fact_key hf], hi, hk.nd, by have := hk.few; omega, _, rfl, g⟩
theorem xs_ra {i : Int} {fs : List D} (hP : Parts cs gs) (i0 : 0 ≤ i) (hg : gs[i.toNat]? = some (.tup fs)) (hk : Dk ks xs n) (hn : n + 3 < 100000)
    (g : ∀ ks' xs' e5, Dk ks' xs' (n + 3) → (∀ q, q ∈ ks' ↔ q ∈ ks ∨ q ∈ fs.map keyF) → Φ.nx [.d (.tup [.tup cs, .tup gs]), .d (lotD is), .d (outD w), .own (.dct ks' xs'), .d (.int i), e5, e6, e7, e8, e9]) :
    XS K (t_ra K) [.d (.tup [.tup cs, .tup gs]), .d (lotD is), .d (outD w), .own (.dct ks xs), .d (.int i), e5, e6, e7, e8, e9] Φ := by
  unfold t_ra
  have hfs := hP.fewF fs (List.mem_of_getElem? hg)
  have hff : ∀ x ∈ fs, isFact x = true := by
    obtain ⟨fs', e, _, h2⟩ := isGround_form (hP.gr _ (List.mem_of_getElem? hg))
    cases e
    exact h2
  have hlt : i.toNat < gs.length := (List.getElem?_eq_some_iff.mp hg).1
  walk_at "pws"
  refine o_ixAnyT i0 (by omega) ?_
  intro d hd
  rw [hg] at hd
  cases hd
  walk_at "pws"
  refine ⟨fun j ρ => ∃ ks' xs' e5, ρ = [.d (.tup [.tup cs, .tup gs]), .d (lotD is), .d (outD w), .own (.dct ks' xs'), .d (.int i), e5, e6, e7, e8, e9] ∧ Dk ks' xs' (n + j) ∧ ∀ q, q ∈ ks' ↔ q ∈ ks ∨ q ∈ (fs.take j).map keyF, ⟨ks, xs, _, rfl, hk, fun q => ⟨.inl, fun z => z.elim id fun z => by rw [List.take_zero] at z; cases z⟩⟩, ?_, ?_⟩
  · rintro j f ρ' hj ⟨ks', xs', e5, rfl, hk', hm⟩
    have hfj := hff f (List.mem_of_getElem? hj)
    have jl : j < fs.length := (List.getElem?_eq_some_iff.mp hj).1
    refine yg_name ⟨_, rfl, ?_⟩
    refine ys_dputF hfj rfl hk' (by omega) (xe_int ⟨rfl, rfl⟩) (xe_var_d rfl ⟨rfl, rfl⟩) ?_
    refine ⟨_, _, _, rfl, hk'.put _ _, fun q => ?_⟩
    rw [dputK_mem, hm, List.take_add_one, hj, List.map_append, List.mem_append]
    simp only [Option.toList_some, List.map_cons, List.map_nil, List.mem_singleton]
    exact ⟨fun z => z.elim (fun z => z.elim .inl fun z => .inr (.inl z)) fun z => .inr (.inr z), fun z => z.elim (fun z => .inl (.inl z)) fun z => z.elim (fun z => .inl (.inr z)) .inr⟩
  · rintro ρ' ⟨ks', xs', e5, rfl, hk', hm⟩
    rw [List.take_length] at hm
    exact g ks' xs' e5 (hk'.mono (by omega)) hm
end

end LawK54
end
section
namespace LawK54
open PySem PySem.Spec PyProof.Rows L2 C8 PW
local macro_rules | `(tactic| walk_at "jn") => `(tactic| first | exact fact_jn (by assumption) | exact clause_jn (by assumption) | exact ground_jn (by assumption))
local macro_rules | `(tactic| walk_at "pw") => `(tactic| first
  | ((with_reducible show w_is_integer _ _); with_reducible refine i_is_integer (by walk_at "bi") ?_) | ((with_reducible show w_is_within _ _); with_reducible refine i_is_within (by walk_at "bi") ?_) | ((with_reducible show w_is_tuple_of _ _); with_reducible refine i_is_tuple_of (by walk_at "bi") ?_)
  | ((with_reducible show w_law_is_number _ _); with_reducible refine i_law_is_number (by walk_at "bi") ?_)
  | ((with_reducible show w_fact _ _); with_reducible refine i_fact (by walk_at "jn") ?_)
  | ((with_reducible show w_is_clause _ _); with_reducible refine i_is_clause (by walk_at "jn") ?_)
  | ((with_reducible show w_is_ground _ _); with_reducible refine i_is_ground (by walk_at "jn") ?_)
  | ((with_reducible show w_law_draw _ _); refine i_law_draw (by first | omega | decide) (by first | omega | decide) ?_; intro r h0 h1)
  | with_reducible refine xe_any (by with_unfolding_all exact rfl) ?_
  | ((with_reducible show ∃ x ds, _ = some x ∧ itemsD x = some ds ∧ ds ≠ [] ∧ ds.length < 1073741824 ∧ _); refine ex_any (by with_unfolding_all exact rfl) (by with_unfolding_all exact rfl) (by first | assumption | (intro z; cases z; done) | exact List.append_ne_nil_of_right_ne_nil _ (List.cons_ne_nil _ _)) (by first | omega | (simp only [List.length_append, List.length_cons, List.length_nil]; omega) | decide) ?_; intro d hd)
  | ((with_reducible show w_law_fact _ _); refine i_law_fact ?_; intro f hf)
  | ((with_reducible show w_law_nested _ _); refine i_law_nested ?_; intro f hf; have hfj := hf.1))
local macro_rules | `(tactic| walk_at "sz") => `(tactic| first | (rw [rngD_len]; refine szl ?_; omega))
local macro_rules | `(tactic| walk_at "pw") => `(tactic| first
  | ((with_reducible show ∃ xs x, _ = some xs ∧ ∃ ρ2, _ = ρ2 ∧ ρ2[_]? = some (Ent.own x) ∧ MtD _ rAppend x xs _); refine ⟨_, _, rfl, _, rfl, rfl, m_append (szlt (by first | omega | (simp only [List.length_append, List.length_cons, List.length_nil]; omega))) ?_⟩)
  | ((with_reducible show ∃ n, _ = some [D.int n] ∧ -2 ^ 62 ≤ n ∧ n < 2 ^ 62 ∧ _); refine ⟨_, rfl, by omega, by omega, ?_⟩))
set_option pp.maxSteps 500
section
variable {K : PySem.W.Frag} {Φ : Post} {cs gs : List D} {is : List Int} {w : Option Nat} {ks : List (List Key)} {xs : List D} {e4 e5 e6 e7 e8 e9 : Ent} {n : Nat}
theorem dget_some {q : List Key} : ∀ {ks : List (List Key)} {xs : List D}, xs.length = ks.length → ((dget ks xs q).isSome = true ↔ q ∈ ks)
  | [], [], _ => by simp [dget]
  | a :: ks, [], h => by cases h
  | [], x :: xs, h => by cases h
  | a :: ks, x :: xs, h => by
    have h2 : xs.length = ks.length := by simpa using h
    have ih := dget_some (q := q) h2
    unfold dget
    by_cases e : a = q
    · rw [if_pos e]
      exact ⟨fun _ => by rw [e]; exact List.mem_cons_self .., fun _ => rfl⟩
    · rw [if_neg e, ih, List.mem_cons]
      exact ⟨.inr, fun z => z.elim (fun z => absurd z.symm e) id⟩
theorem o_inF {d : D} {kk : Res → Prop} (hf : isFact d = true) (g : kk (.d (.bl (dget ks xs (keyF d)).isSome))) : OpD K rInK d (.dct ks xs) kk := by
  rw [fact_key hf]
  exact o_inK g
theorem o_notInF {d : D} {kk : Res → Prop} (hf : isFact d = true) (g : kk (.d (.bl (!(dget ks xs (keyF d)).isSome)))) : OpD K rNotInK d (.dct ks xs) kk := by
  rw [fact_key hf]
  exact o_notInK g
theorem o_neOut {j : Nat} {kk : Res → Prop} (g : kk (.d (.bl (decide (w ≠ some j))))) : OpD K (rNeD K) (.int (j : Int)) (outD w) kk := by
  cases w with
  | none =>
    refine o_ne (sh_int.sh (by decide)) (sh_non.sh (by decide)) ?_
    have e : (!PyData.eqv (D.int (j : Int)).py (outD none).py) = decide ((none : Option Nat) ≠ some j) := by
      simp [D.py, outD, PyData.eqv]
    rw [e]
    exact g
  | some m =>
    refine o_ne (sh_int.sh (by decide)) (sh_int.sh (by decide)) ?_
    have e : (!PyData.eqv (D.int (j : Int)).py (outD (some m)).py) = decide ((some m : Option Nat) ≠ some j) := by
      show (!PyData.eqv (D.int (j : Int)).py (D.int (m : Int)).py) = _
      rw [eqv_int]
      by_cases h : m = j
      · subst h; simp
      · have h2 : ¬ (j : Int) = (m : Int) := by omega
        simp [h, h2]
    rw [e]
    exact g
/-- the clause gives its head now -/
def Ripe (w : Option Nat) (ks : List (List Key)) (j : Nat) (c : D) : Prop := w ≠ some j ∧ (clK c).2 ∉ ks ∧ ∀ b ∈ (clK c).1, b ∈ ks
section
local macro_rules | `(tactic| walk_at "pw") => `(tactic| first
  | with_reducible refine ye_lcm (vs := [5]) (fun d => .bl (dget ks xs (keyF d)).isSome) own_name wipe1 ?_
  | ((with_reducible show OpD _ (rNeD _) (.int _) (outD _) _); refine o_neOut ?_))
theorem xs_rb {j : Nat} {c : D} {fr : List D} (hP : Parts cs gs) (hc : cs[j]? = some c) (hk : Dk ks xs n) (hl : fr.length ≤ j)
    (g : ∀ fr' e5 e8 e9, ((Ripe w ks j c ∧ ∃ hd : D, isFact hd = true ∧ keyF hd = (clK c).2 ∧ fr' = fr ++ [hd]) ∨ (¬ Ripe w ks j c ∧ fr' = fr)) → Φ.nx [.d (.tup [.tup cs, .tup gs]), .d (lotD is), .d (outD w), .own (.dct ks xs), .d (.int (j : Int)), e5, e6, .own (.lst fr'), e8, e9]) :
    XS K (t_rb K) [.d (.tup [.tup cs, .tup gs]), .d (lotD is), .d (outD w), .own (.dct ks xs), .d (.int (j : Int)), e5, e6, .own (.lst fr), e8, e9] Φ := by
  unfold t_rb
  have few := hP.few
  have hj : j < cs.length := (List.getElem?_eq_some_iff.mp hc).1
  obtain ⟨body, head, rfl, b4, hb, hh⟩ := isClause_form (hP.cl c (List.mem_of_getElem? hc))
  walk_at "pws"
  refine o_ixAnyT (by omega) (by omega) ?_
  intro d hd
  rw [Int.toNat_natCast, hc] at hd
  cases hd
  walk_at "pws"
  · rename_i hw
    refine o_notInF hh ?_
    walk_at "pws"
    · rename_i hn
      have hn2 : keyF head ∉ ks := fun z => by rw [(dget_some hk.len).mpr z] at hn; cases hn
      refine ⟨szl (by omega), _, rfl, fun d hd => ?_, ?_⟩
      · have hdf := hb d hd
        walk_at "pws"
        refine o_inF hdf ?_
        walk_at "pws"
      · have all_ : (body.all fun d => (dget ks xs (keyF d)).isSome) = true ↔ ∀ b ∈ body.map keyF, b ∈ ks := by
          rw [List.all_eq_true]
          exact ⟨fun z b hb2 => by obtain ⟨d, hd, e⟩ := List.mem_map.mp hb2; rw [← e]; exact (dget_some hk.len).mp (z d hd), fun z d hd => (dget_some hk.len).mpr (z _ (List.mem_map.mpr ⟨d, hd, rfl⟩))⟩
        walk_at "pws"
        · rename_i ha
          exact g _ _ _ _ (.inl ⟨⟨hw, hn2, all_.mp ha⟩, head, hh, rfl, rfl⟩)
        · rename_i ha
          exact g _ _ _ _ (.inr ⟨fun z => (by rw [all_.mpr z.2.2] at ha; cases ha), rfl⟩)
    · rename_i hn
      exact g _ _ _ _ (.inr ⟨fun z => z.2.1 ((dget_some hk.len).mp hn), rfl⟩)
  · rename_i hw
    exact g _ _ _ _ (.inr ⟨fun z => hw z.1, rfl⟩)
end
/-- the fresh ones are put in -/
theorem xs_rc {t : Int} {fr : List D} (hf : ∀ x ∈ fr, isFact x = true) (hk : Dk ks xs n) (hn : n + fr.length < 100000)
    (g : ∀ ks' xs' e5, Dk ks' xs' (n + fr.length) → (∀ q, q ∈ ks' ↔ q ∈ ks ∨ q ∈ fr.map keyF) → Φ.nx [.d (.tup [.tup cs, .tup gs]), .d (lotD is), .d (outD w), .own (.dct ks' xs'), e4, e5, .d (.int t), .d (.lst fr), e8, e9]) :
    XS K (t_rc K) [.d (.tup [.tup cs, .tup gs]), .d (lotD is), .d (outD w), .own (.dct ks xs), e4, e5, .d (.int t), .own (.lst fr), e8, e9] Φ := by
  unfold t_rc
  walk_at "pws"
  refine ⟨fun j ρ => ∃ ks' xs' e5, ρ = [.d (.tup [.tup cs, .tup gs]), .d (lotD is), .d (outD w), .own (.dct ks' xs'), e4, e5, .d (.int t), .d (.lst fr), e8, e9] ∧ Dk ks' xs' (n + j) ∧ ∀ q, q ∈ ks' ↔ q ∈ ks ∨ q ∈ (fr.take j).map keyF, ⟨ks, xs, _, rfl, hk, fun q => ⟨.inl, fun z => z.elim id fun z => by rw [List.take_zero] at z; cases z⟩⟩, ?_, ?_⟩
  · rintro j f ρ' hj ⟨ks', xs', e5, rfl, hk', hm⟩
    have hfj := hf f (List.mem_of_getElem? hj)
    have jl : j < fr.length := (List.getElem?_eq_some_iff.mp hj).1
    refine yg_name ⟨_, rfl, ?_⟩
    refine ys_dputF hfj rfl hk' (by omega) (y := .int (t + 1)) ?_ (xe_var_d rfl ⟨rfl, rfl⟩) ?_
    · walk_at "pws"
      exact ⟨rfl, rfl⟩
    refine ⟨_, _, _, rfl, hk'.put _ _, fun q => ?_⟩
    rw [dputK_mem, hm, List.take_add_one, hj, List.map_append, List.mem_append]
    simp only [Option.toList_some, List.map_cons, List.map_nil, List.mem_singleton]
    exact ⟨fun z => z.elim (fun z => z.elim .inl fun z => .inr (.inl z)) fun z => .inr (.inr z), fun z => z.elim (fun z => .inl (.inl z)) fun z => z.elim (fun z => .inl (.inr z)) .inr⟩
  · rintro ρ' ⟨ks', xs', e5, rfl, hk', hm⟩
    rw [List.take_length] at hm
    exact g ks' xs' e5 (hk'.mono (by omega)) hm
end

end LawK54
end
section
namespace LawK54
open PySem PySem.Spec PyProof.Rows L2 C8 PW
local macro_rules | `(tactic| walk_at "jn") => `(tactic| first | exact fact_jn (by assumption) | exact clause_jn (by assumption) | exact ground_jn (by assumption))
local macro_rules | `(tactic| walk_at "pw") => `(tactic| first
  | ((with_reducible show w_is_integer _ _); with_reducible refine i_is_integer (by walk_at "bi") ?_) | ((with_reducible show w_is_within _ _); with_reducible refine i_is_within (by walk_at "bi") ?_) | ((with_reducible show w_is_tuple_of _ _); with_reducible refine i_is_tuple_of (by walk_at "bi") ?_)
  | ((with_reducible show w_law_is_number _ _); with_reducible refine i_law_is_number (by walk_at "bi") ?_)
  | ((with_reducible show w_fact _ _); with_reducible refine i_fact (by walk_at "jn") ?_)
  | ((with_reducible show w_is_clause _ _); with_reducible refine i_is_clause (by walk_at "jn") ?_)
  | ((with_reducible show w_is_ground _ _); with_reducible refine i_is_ground (by walk_at "jn") ?_)
  | ((with_reducible show w_law_draw _ _); refine i_law_draw (by first | omega | decide) (by first | omega | decide) ?_; intro r h0 h1)
  | with_reducible refine xe_any (by with_unfolding_all exact rfl) ?_
  | ((with_reducible show ∃ x ds, _ = some x ∧ itemsD x = some ds ∧ ds ≠ [] ∧ ds.length < 1073741824 ∧ _); refine ex_any (by with_unfolding_all exact rfl) (by with_unfolding_all exact rfl) (by first | assumption | (intro z; cases z; done) | exact List.append_ne_nil_of_right_ne_nil _ (List.cons_ne_nil _ _)) (by first | omega | (simp only [List.length_append, List.length_cons, List.length_nil]; omega) | decide) ?_; intro d hd)
  | ((with_reducible show w_law_fact _ _); refine i_law_fact ?_; intro f hf)
  | ((with_reducible show w_law_nested _ _); refine i_law_nested ?_; intro f hf; have hfj := hf.1))
local macro_rules | `(tactic| walk_at "sz") => `(tactic| first | (rw [rngD_len]; refine szl ?_; omega))
local macro_rules | `(tactic| walk_at "pw") => `(tactic| first
  | ((with_reducible show ∃ xs x, _ = some xs ∧ ∃ ρ2, _ = ρ2 ∧ ρ2[_]? = some (Ent.own x) ∧ MtD _ rAppend x xs _); refine ⟨_, _, rfl, _, rfl, rfl, m_append (szlt (by first | omega | (simp only [List.length_append, List.length_cons, List.length_nil]; omega))) ?_⟩)
  | ((with_reducible show ∃ n, _ = some [D.int n] ∧ -2 ^ 62 ≤ n ∧ n < 2 ^ 62 ∧ _); refine ⟨_, rfl, by omega, by omega, ?_⟩))
set_option pp.maxSteps 500
section
variable {K : PySem.W.Frag} {cs gs : List D} {is : List Int} {w : Option Nat} {ks : List (List Key)} {xs : List D}
theorem asc_len : ∀ {is : List Int} {lo hi : Int}, is.Pairwise (· < ·) → (∀ i ∈ is, lo ≤ i ∧ i < hi) → is.length ≤ (hi - lo).toNat
  | [], _, _, _, _ => Nat.zero_le _
  | a :: r, lo, hi, h1, h2 => by
    obtain ⟨p1, p2⟩ := List.pairwise_cons.mp h1
    have ha := h2 a (List.mem_cons_self ..)
    have ih := asc_len (is := r) (lo := a + 1) (hi := hi) p2 fun i hi2 => ⟨by have := p1 i hi2; omega, (h2 i (List.mem_cons_of_mem _ hi2)).2⟩
    rw [List.length_cons]
    omega
theorem lot_len {m : Nat} (h : Lot m is) : is.length ≤ m := by
  have := asc_len (lo := 0) (hi := m) h.1 h.2
  omega
theorem base_take {j : Nat} {i : Int} {fs : List D} {q : List Key} (hi : is[j]? = some i) (hg : gs[i.toNat]? = some (.tup fs)) : Base gs (is.take (j + 1)) q ↔ Base gs (is.take j) q ∨ q ∈ fs.map keyF := by
  unfold Base
  rw [List.take_add_one, hi]
  constructor
  · rintro ⟨a, ha, fs', e, hq⟩
    rcases List.mem_append.mp ha with ha | ha
    · exact .inl ⟨a, ha, fs', e, hq⟩
    · have ea : a = i := by simpa using ha
      rw [ea, hg] at e
      cases e
      exact .inr hq
  · rintro (⟨a, ha, fs', e, hq⟩ | hq)
    · exact ⟨a, List.mem_append_left _ ha, fs', e, hq⟩
    · exact ⟨i, List.mem_append_right _ (by simp), fs, hg, hq⟩
theorem shut_of (h : ∀ (i : Nat) (c : D), cs[i]? = some c → ¬ Ripe w ks i c) : Shut (cs.map clK) w (· ∈ ks) := fun i body head e hw hb => by
  rw [List.getElem?_map] at e
  cases hc : cs[i]? with
  | none => rw [hc] at e; cases e
  | some c =>
    rw [hc] at e
    have e2 : clK c = (body, head) := by simpa using e
    by_cases hh : head ∈ ks
    · exact hh
    · exact absurd ⟨hw, by rw [e2]; exact hh, by rw [e2]; exact hb⟩ (h i c hc)
/-- what is known at a turn -/
structure Rd (cs gs : List D) (is : List Int) (w : Option Nat) (ks : List (List Key)) (t : Nat) : Prop where
  base : ∀ q, Base gs is q → q ∈ ks
  hold : ∀ q ∈ ks, HoldL cs gs is w q
  many : t ≤ inN (cs.map clK) ks
/-- what is gathered at a clause -/
structure Fr8 (cs gs : List D) (is : List Int) (w : Option Nat) (ks : List (List Key)) (j : Nat) (fr : List D) : Prop where
  fact : ∀ x ∈ fr, isFact x = true
  len : fr.length ≤ j
  hold : ∀ q ∈ fr.map keyF, HoldL cs gs is w q
  no : fr = [] → ∀ (i : Nat) (c : D), i < j → cs[i]? = some c → ¬ Ripe w ks i c
  so : fr ≠ [] → ∃ (i : Nat) (c : D), cs[i]? = some c ∧ (clK c).2 ∉ ks ∧ (clK c).2 ∈ fr.map keyF
theorem fr_step {t j : Nat} {c : D} {fr fr' : List D} (R : Rd cs gs is w ks t) (h : Fr8 cs gs is w ks j fr) (hc : cs[j]? = some c)
    (d : (Ripe w ks j c ∧ ∃ hd : D, isFact hd = true ∧ keyF hd = (clK c).2 ∧ fr' = fr ++ [hd]) ∨ (¬ Ripe w ks j c ∧ fr' = fr)) : Fr8 cs gs is w ks (j + 1) fr' := by
  rcases d with ⟨hr, hd, hf, hk, rfl⟩ | ⟨hr, rfl⟩
  · have hm : (clK c).2 ∈ (fr ++ [hd]).map keyF := by
      rw [← hk]
      exact List.mem_map.mpr ⟨hd, by simp, rfl⟩
    refine ⟨fun x hx => (List.mem_append.mp hx).elim (h.fact x) fun z => by rw [List.mem_singleton.mp z]; exact hf, by rw [List.length_append]; exact Nat.succ_le_succ h.len, fun q hq => ?_, fun z => by simp at z, fun _ => ⟨j, c, hc, hr.2.1, hm⟩⟩
    rw [List.map_append, List.mem_append] at hq
    rcases hq with hq | hq
    · exact h.hold q hq
    · have eq : q = (clK c).2 := by rw [← hk]; simpa using hq
      rw [eq]
      exact .step (i := j) (body := (clK c).1) (by rw [List.getElem?_map, hc]; rfl) hr.1 fun b hb => R.hold b (hr.2.2 b hb)
  · refine ⟨h.fact, Nat.le_succ_of_le h.len, h.hold, fun z i c' hi hc' => ?_, h.so⟩
    by_cases e : i = j
    · subst e
      rw [hc] at hc'
      cases hc'
      exact hr
    · exact h.no z i c' (by omega) hc'
theorem rd_step {t n : Nat} {fr : List D} {ks' : List (List Key)} (R : Rd cs gs is w ks t) (h : Fr8 cs gs is w ks n fr) (hn : fr ≠ []) (hm : ∀ q, q ∈ ks' ↔ q ∈ ks ∨ q ∈ fr.map keyF) : Rd cs gs is w ks' (t + 1) := by
  obtain ⟨i, c, hc, h1, h2⟩ := h.so hn
  refine ⟨fun q hq => (hm q).mpr (.inl (R.base q hq)), fun q hq => ((hm q).mp hq).elim (R.hold q) (h.hold q), ?_⟩
  have e : (cs.map clK)[i]? = some ((clK c).1, (clK c).2) := by rw [List.getElem?_map, hc]; rfl
  have := inN_more (cs := cs.map clK) (fun k hk => (hm k).mpr (.inl hk)) e h1 ((hm _).mpr (.inr h2))
  have := R.many
  omega
theorem pure_law_rounds : ∀ ds kk, w_law_rounds ds kk → XS K (t_law_rounds K) (ini 10 ds) { nx := fun _ => kk (.d .non), rt := fun r _ => kk r } := by
  rintro _ kk ⟨cs, gs, is, w, rfl, hP, hL, g⟩
  show XS K (t_law_rounds K) [.d (.tup [.tup cs, .tup gs]), .d (lotD is), .d (outD w), .u, .u, .u, .u, .u, .u, .u] (Fin kk)
  have few := hP.few
  have fewG := hP.fewG
  have hll := lot_len hL
  unfold t_law_rounds
  refine xs_seq (ys_asg (ye_dnewT ⟨_, rfl, ?_⟩))
  walk_at "pws"
  refine ⟨fun j ρ => ∃ ks xs e4 e5, ρ = [.d (.tup [.tup cs, .tup gs]), .d (lotD is), .d (outD w), .own (.dct ks xs), e4, e5, .u, .u, .u, .u] ∧ Dk ks xs (3 * j) ∧ ∀ q, q ∈ ks ↔ Base gs (is.take j) q, ⟨[], [], _, _, rfl, ⟨List.nodup_nil, rfl, Nat.le_refl _⟩, fun q => ⟨fun z => (nomatch z), fun ⟨a, ha, _⟩ => by rw [List.take_zero] at ha; cases ha⟩⟩, ?_, ?_⟩
  · rintro j d ρ' hj ⟨ks, xs, e4, e5, rfl, hk, hm⟩
    have hj2 : ∃ i, is[j]? = some i ∧ d = .int i := by
      rw [List.getElem?_map] at hj
      cases hi : is[j]? with
      | none => rw [hi] at hj; cases hj
      | some i => rw [hi] at hj; cases hj; exact ⟨i, rfl, rfl⟩
    obtain ⟨i, hi, rfl⟩ := hj2
    obtain ⟨i0, i1⟩ := hL.2 i (List.mem_of_getElem? hi)
    have hin : i.toNat < gs.length := by omega
    obtain ⟨fs, ef, _, _⟩ := isGround_form (hP.gr gs[i.toNat] (List.getElem_mem hin))
    have hg : gs[i.toNat]? = some (.tup fs) := by rw [List.getElem?_eq_getElem hin, ef]
    have jl : j < is.length := (List.getElem?_eq_some_iff.mp hi).1
    refine yg_name ⟨_, rfl, ?_⟩
    refine xs_ra hP i0 hg hk (by omega) fun ks' xs' e5 hk' hm' => ⟨ks', xs', _, _, rfl, hk'.mono (by omega), fun q => ?_⟩
    rw [hm', hm, base_take hi hg]
  · rintro ρ' ⟨ks, xs, e4, e5, rfl, hk, hm⟩
    rw [List.length_map, List.take_length] at hm
    rw [List.length_map] at hk
    walk_at "pws"
    have fin : ∀ {ks : List (List Key)} {xs : List D}, xs.length = ks.length → (∀ q, Base gs is q → q ∈ ks) → (∀ q ∈ ks, HoldL cs gs is w q) → (∀ (i : Nat) (c : D), cs[i]? = some c → ¬ Ripe w ks i c) → kk (.nw (.dct ks xs)) := fun {ks xs} h0 h1 h2 h3 =>
      g ks xs h0 fun q => ⟨h2 q, fun hq => hold_in h1 (shut_of h3) hq⟩
    refine ⟨fun t ρ => ∃ ks xs e4 e5 e6 e7 e8 e9, ρ = [.d (.tup [.tup cs, .tup gs]), .d (lotD is), .d (outD w), .own (.dct ks xs), e4, e5, e6, e7, e8, e9] ∧ Dk ks xs (21 + 60 * t) ∧ Rd cs gs is w ks t, ⟨ks, xs, _, _, _, _, _, _, rfl, hk.mono (by omega), ⟨fun q hq => (hm q).mpr hq, fun q hq => .base ((hm q).mp hq), Nat.zero_le _⟩⟩, ?_, ?_⟩
    · rintro t d ρ' hd ⟨ks, xs, e4, e5, e6, e7, e8, e9, rfl, hk, hR⟩
      obtain ⟨rfl, ht⟩ := rngD_at hd
      rw [Int.zero_add]
      walk_at "pws"
      refine ⟨fun j ρ => ∃ fr e4 e5 e8 e9, ρ = [.d (.tup [.tup cs, .tup gs]), .d (lotD is), .d (outD w), .own (.dct ks xs), e4, e5, .d (.int (t : Nat)), .own (.lst fr), e8, e9] ∧ Fr8 cs gs is w ks j fr, ⟨[], _, _, _, _, rfl, ⟨(fun x hx => nomatch hx), Nat.le_refl _, (fun q hq => nomatch hq), (fun _ i c hi => absurd hi (Nat.not_lt_zero _)), fun z => absurd rfl z⟩⟩, ?_, ?_⟩
      · rintro j d2 ρ' hd2 ⟨fr, e4, e5, e8, e9, rfl, hf⟩
        obtain ⟨rfl, hj⟩ := rngD_at hd2
        rw [Int.zero_add]
        have hj2 : j < cs.length := by omega
        refine yg_name ⟨_, rfl, ?_⟩
        refine xs_rb hP (List.getElem?_eq_getElem hj2) hk hf.len fun fr' e5 e8 e9 h => ⟨fr', _, _, _, _, rfl, fr_step hR hf (List.getElem?_eq_getElem hj2) h⟩
      · rintro ρ' ⟨fr, e4, e5, e8, e9, rfl, hf⟩
        rw [rngD_len, Int.toNat_natCast] at hf
        have hsh : Sh 2 (.lst fr) := sh_lst fun x hx => fact_sh (hf.fact x hx)
        walk_at "pws"
        refine o_eq (hsh.sh (by decide)) (by decide) ?_
        have hfl := hf.len
        have tn : t ≤ 60 := by omega
        cases fr with
        | nil =>
          have e : PyData.eqv (D.lst []).py (D.lst []).py = true := rfl
          rw [e]
          walk_at "pws"
          exact fin hk.len hR.base hR.hold fun i c hc => hf.no rfl i c (List.getElem?_eq_some_iff.mp hc).1 hc
        | cons a r =>
          have e : PyData.eqv (D.lst (a :: r)).py (D.lst []).py = false := by
            show PyData.eqv (.list (a.py :: D.pyL r)) (.list []) = false
            simp [PyData.eqv, PyData.eqvAll]
          rw [e]
          refine ⟨false, rfl, (fun z => nomatch z), fun _ => ?_⟩
          refine xs_next ?_
          refine xs_rc hf.fact hk (by omega) fun ks' xs' e5 hk' hm' => ⟨ks', xs', _, _, _, _, _, _, rfl, hk'.mono (by omega), rd_step hR hf (List.cons_ne_nil _ _) hm'⟩
    · rintro ρ' ⟨ks, xs, e4, e5, e6, e7, e8, e9, rfl, hk, hR⟩
      rw [rngD_len] at hR
      have h1 := hR.many
      have h2 := inN_le (cs := cs.map clK) ks
      rw [List.length_map] at h2
      exfalso
      omega
end

end LawK54
end
section
namespace LawK54
open PySem PySem.Spec PyProof.Rows L2 C8 PW
theorem c_is_integer {P : Program} {w : World} {K : PySem.W.Frag} {mg : Str → Option Value} {base : Heap} (G : Gx K mg) : Cal P w K mg base 1 "is_integer" (spW K w_is_integer) [] := by
  obtain ⟨f, fd, F, hm⟩ := G.f_is_integer
  refine ⟨f, fd, ["thing"], [], F.ok sc_is_integer (fun vs H Q E h => len_w h fun ds k z => (len_is_integer ds k z)) (fun cdv A outer s H vs Q E hr h => ⟨t_is_integer K, PSs.nox ?_, entry_w h pure_is_integer⟩), hm, F.kp, F.bindsN (fun _ _ _ _ _ _ us hl => match us, hl with | [_], _ => rfl), .nil⟩
  exact (pss_one (ps_ret (pe_and (pe_callB call_isi rfl G.b_isinstance (by decide +kernel) (pa_cons (pv 0) (pa_cons (pe_bltn (v := .ty "int") rfl G.b_int (by decide +kernel) rfl) pa_nil))) (pe_one (pe_not (pe_callB call_isi rfl G.b_isinstance (by decide +kernel) (pa_cons (pv 0) (pa_cons (pe_bltn (v := .ty "bool") rfl G.b_bool (by decide +kernel) rfl) pa_nil))))))))
theorem c_is_within {P : Program} {w : World} {K : PySem.W.Frag} {mg : Str → Option Value} {base : Heap} (G : Gx K mg) : Cal P w K mg base 2 "is_within" (spW K w_is_within) [] := by
  obtain ⟨f, fd, F, hm⟩ := G.f_is_within
  refine ⟨f, fd, ["thing", "least", "most"], [], F.ok sc_is_within (fun vs H Q E h => len_w h fun ds k z => (len_is_within ds k z)) (fun cdv A outer s H vs Q E hr h => ⟨t_is_within K, PSs.nox ?_, entry_w h pure_is_within⟩), hm, F.kp, F.bindsN (fun _ _ _ _ _ _ us hl => match us, hl with | [_, _, _], _ => rfl), .nil⟩
  exact (pss_one (ps_ret (pe_and (pe_c (c_is_integer G) hr (by decide) rfl (pa_cons (pv 0) pa_nil)) (pe_one (pe_chain op_leU op_leU (pv 1) (pv 0) (pv 2))))))
theorem c_is_tuple_of {P : Program} {w : World} {K : PySem.W.Frag} {mg : Str → Option Value} {base : Heap} (G : Gx K mg) : Cal P w K mg base 1 "is_tuple_of" (spW K w_is_tuple_of) [] := by
  obtain ⟨f, fd, F, hm⟩ := G.f_is_tuple_of
  refine ⟨f, fd, ["thing", "size"], [], F.ok sc_is_tuple_of (fun vs H Q E h => len_w h fun ds k z => (len_is_tuple_of ds k z)) (fun cdv A outer s H vs Q E hr h => ⟨t_is_tuple_of K, PSs.nox ?_, entry_w h pure_is_tuple_of⟩), hm, F.kp, F.bindsN (fun _ _ _ _ _ _ us hl => match us, hl with | [_, _], _ => rfl), .nil⟩
  exact (pss_one (ps_ret (pe_and (pe_callB call_isi rfl G.b_isinstance (by decide +kernel) (pa_cons (pv 0) (pa_cons (pe_bltn (v := .ty "tuple") rfl G.b_tuple (by decide +kernel) rfl) pa_nil))) (pe_one (pe_cmpR (op_eqD (hu64 hr)) (pe_callB call_lenU rfl G.b_len (by decide +kernel) (pa_cons (pv 0) pa_nil)) (pv 1) (nomark _))))))
theorem c_is_fact {P : Program} {w : World} {K : PySem.W.Frag} {mg : Str → Option Value} {base : Heap} (G : Gx K mg) : Cal P w K mg base 3 "is_fact" (spW K w_is_fact) [] := by
  obtain ⟨f, fd, F, hm⟩ := G.f_is_fact
  refine ⟨f, fd, ["thing"], [], F.ok sc_is_fact (fun vs H Q E h => len_w h fun ds k z => (len_is_fact ds k z)) (fun cdv A outer s H vs Q E hr h => ⟨t_is_fact K, PSs.nox ?_, entry_w h pure_is_fact⟩), hm, F.kp, F.bindsN (fun _ _ _ _ _ _ us hl => match us, hl with | [_], _ => rfl), .nil⟩
  exact (pss_cons (ps_if (L2.PW.pt (pw_or (pt_not (pt_val (pe_callB call_isi rfl G.b_isinstance (by decide +kernel) (pa_cons (pv 0) (pa_cons (pe_bltn (v := .ty "tuple") rfl G.b_tuple (by decide +kernel) rfl) pa_nil))))) (pw_or (pt_not (pt_chain op_leU op_leU pe_int (pe_callB call_lenU rfl G.b_len (by decide +kernel) (pa_cons (pv 0) pa_nil)) (pe_op op_addU pe_int (pe_gc rfl G.k_MOST_PLACES)))) (pw_or1 (pt_not (pt_val (pe_callB call_isi rfl G.b_isinstance (by decide +kernel) (pa_cons (pe_ix ix_seq (pv 0) pe_int (fun _ _ => rfl)) (pa_cons (pe_bltn (v := .ty "str") rfl G.b_str (by decide +kernel) rfl) pa_nil)))))))))
  (pss_one (ps_ret pe_bl))
  pss_nil)
  (pss_cons (ps_if (L2.PW.pt (pw_or (pt_not (pt_chain op_leU op_leU pe_int (pe_callB call_lenU rfl G.b_len (by decide +kernel) (pa_cons (pe_ix ix_seq (pv 0) pe_int (fun _ _ => rfl)) pa_nil)) (pe_gc rfl G.k_MOST_SIGNS))) (pw_or1 (pt_not (pt_val (pe_callB (cr_all rfl) rfl G.b_all (by decide +kernel) (pa_cons (pe_lc (own := [("sign", 2)]) rfl sc_is_fact.nd (pi_seqU (pe_ix ix_seq (pv 0) pe_int (fun _ _ => rfl))) (blkOk_by (N := ["thing", "number", "sign"]) (sc := defScope s_is_fact) (by decide +kernel)) (fun _ _ _ _ _ => (pg_name (i := 2) sc_is_fact.nd rfl (by first | exact Or.inl rfl | exact Or.inr rfl))) (fun _ _ _ _ _ => pts_nil) (fun _ _ _ _ _ => (pe_cmpR (op_inU (hu65 hr)) (pv 2) (pe_gc rfl G.k_LETTERS) (by with_unfolding_all rfl)))) pa_nil)))))))
  (pss_one (ps_ret pe_bl))
  pss_nil)
  (pss_one (ps_ret (pe_callB (cr_all rfl) rfl G.b_all (by decide +kernel) (pa_cons (pe_lc (own := [("number", 1)]) rfl sc_is_fact.nd (pi_seqU (pe_slice sl_U (pv 0) (po_some pe_int) po_none)) (blkOk_by (N := ["thing", "number", "sign"]) (sc := defScope s_is_fact) (by decide +kernel)) (fun _ _ _ _ _ => (pg_name (i := 1) sc_is_fact.nd rfl (by first | exact Or.inl rfl | exact Or.inr rfl))) (fun _ _ _ _ _ => pts_nil) (fun _ _ _ _ _ => (pe_c (c_is_within G) hr (by decide) rfl (pa_cons (pv 1) (pa_cons pe_int (pa_cons (pe_gc rfl G.k_MOST_NUMBER) pa_nil)))))) pa_nil))))))
theorem c_is_clause {P : Program} {w : World} {K : PySem.W.Frag} {mg : Str → Option Value} {base : Heap} (G : Gx K mg) : Cal P w K mg base 4 "is_clause" (spW K w_is_clause) [] := by
  obtain ⟨f, fd, F, hm⟩ := G.f_is_clause
  refine ⟨f, fd, ["thing"], [], F.ok sc_is_clause (fun vs H Q E h => len_w h fun ds k z => (len_is_clause ds k z)) (fun cdv A outer s H vs Q E hr h => ⟨t_is_clause K, PSs.nox ?_, entry_w h pure_is_clause⟩), hm, F.kp, F.bindsN (fun _ _ _ _ _ _ us hl => match us, hl with | [_], _ => rfl), .nil⟩
  exact (pss_cons (ps_if (L2.PW.pt (pw_or (pt_not (pt_val (pe_c (c_is_tuple_of G) hr (by decide) rfl (pa_cons (pv 0) (pa_cons pe_int pa_nil))))) (pw_or (pt_not (pt_val (pe_callB call_isi rfl G.b_isinstance (by decide +kernel) (pa_cons (pe_ix ix_seq (pv 0) pe_int (fun _ _ => rfl)) (pa_cons (pe_bltn (v := .ty "tuple") rfl G.b_tuple (by decide +kernel) rfl) pa_nil))))) (pw_or1 (pt_cmpR op_gtU (pe_callB call_lenU rfl G.b_len (by decide +kernel) (pa_cons (pe_ix ix_seq (pv 0) pe_int (fun _ _ => rfl)) pa_nil)) (pe_gc rfl G.k_MOST_BODY) (nomark _))))))
  (pss_one (ps_ret pe_bl))
  pss_nil)
  (pss_one (ps_ret (pe_and (pe_callB (cr_all rfl) rfl G.b_all (by decide +kernel) (pa_cons (pe_lc (own := [("one", 1)]) rfl sc_is_clause.nd (pi_seqU (pe_ix ix_seq (pv 0) pe_int (fun _ _ => rfl))) (blkOk_by (N := ["thing", "one"]) (sc := defScope s_is_clause) (by decide +kernel)) (fun _ _ _ _ _ => (pg_name (i := 1) sc_is_clause.nd rfl (by first | exact Or.inl rfl | exact Or.inr rfl))) (fun _ _ _ _ _ => pts_nil) (fun _ _ _ _ _ => (pe_c (c_is_fact G) hr (by decide) rfl (pa_cons (pv 1) pa_nil)))) pa_nil)) (pe_one (pe_c (c_is_fact G) hr (by decide) rfl (pa_cons (pe_ix ix_seq (pv 0) pe_int (fun _ _ => rfl)) pa_nil)))))))
theorem c_is_ground {P : Program} {w : World} {K : PySem.W.Frag} {mg : Str → Option Value} {base : Heap} (G : Gx K mg) : Cal P w K mg base 4 "is_ground" (spW K w_is_ground) [] := by
  obtain ⟨f, fd, F, hm⟩ := G.f_is_ground
  refine ⟨f, fd, ["thing"], [], F.ok sc_is_ground (fun vs H Q E h => len_w h fun ds k z => (len_is_ground ds k z)) (fun cdv A outer s H vs Q E hr h => ⟨t_is_ground K, PSs.nox ?_, entry_w h pure_is_ground⟩), hm, F.kp, F.bindsN (fun _ _ _ _ _ _ us hl => match us, hl with | [_], _ => rfl), .nil⟩
  exact (pss_one (ps_ret (pe_and (pe_callB call_isi rfl G.b_isinstance (by decide +kernel) (pa_cons (pv 0) (pa_cons (pe_bltn (v := .ty "tuple") rfl G.b_tuple (by decide +kernel) rfl) pa_nil))) (pe_and (pe_cmpR op_leU (pe_callB call_lenU rfl G.b_len (by decide +kernel) (pa_cons (pv 0) pa_nil)) (pe_gc rfl G.k_MOST_FACTS) (nomark _)) (pe_one (pe_callB (cr_all rfl) rfl G.b_all (by decide +kernel) (pa_cons (pe_lc (own := [("one", 1)]) rfl sc_is_ground.nd (pi_seqU (pv 0)) (blkOk_by (N := ["thing", "one"]) (sc := defScope s_is_ground) (by decide +kernel)) (fun _ _ _ _ _ => (pg_name (i := 1) sc_is_ground.nd rfl (by first | exact Or.inl rfl | exact Or.inr rfl))) (fun _ _ _ _ _ => pts_nil) (fun _ _ _ _ _ => (pe_c (c_is_fact G) hr (by decide) rfl (pa_cons (pv 1) pa_nil)))) pa_nil)))))))
theorem c_bad_part {P : Program} {w : World} {K : PySem.W.Frag} {mg : Str → Option Value} {base : Heap} (G : Gx K mg) : Cal P w K mg base 5 "bad_part" (spW K w_bad_part) [] := by
  obtain ⟨f, fd, F, hm⟩ := G.f_bad_part
  refine ⟨f, fd, ["clauses", "grounds"], [], F.ok sc_bad_part (fun vs H Q E h => len_w h fun ds k z => (len_bad_part ds k z)) (fun cdv A outer s H vs Q E hr h => ⟨t_bad_part K, PSs.nox ?_, entry_w h pure_bad_part⟩), hm, F.kp, F.bindsN (fun _ _ _ _ _ _ us hl => match us, hl with | [_, _], _ => rfl), .nil⟩
  exact (pss_cons (ps_if (L2.PW.pt (pw_or (pt_not (pt_val (pe_callB call_isi rfl G.b_isinstance (by decide +kernel) (pa_cons (pv 0) (pa_cons (pe_bltn (v := .ty "tuple") rfl G.b_tuple (by decide +kernel) rfl) pa_nil))))) (pw_or1 (pt_cmpR op_gtU (pe_callB call_lenU rfl G.b_len (by decide +kernel) (pa_cons (pv 0) pa_nil)) (pe_gc rfl G.k_MOST_CLAUSES) (nomark _)))))
  (pss_one (ps_ret pe_str))
  pss_nil)
  (pss_cons (ps_if (L2.PW.pt (pw_or (pt_not (pt_val (pe_callB call_isi rfl G.b_isinstance (by decide +kernel) (pa_cons (pv 1) (pa_cons (pe_bltn (v := .ty "tuple") rfl G.b_tuple (by decide +kernel) rfl) pa_nil))))) (pw_or1 (pt_cmpR op_gtU (pe_callB call_lenU rfl G.b_len (by decide +kernel) (pa_cons (pv 1) pa_nil)) (pe_gc rfl G.k_MOST_GROUNDS) (nomark _)))))
  (pss_one (ps_ret pe_str))
  pss_nil)
  (pss_cons (ps_for PassesOwn.never rfl (pi_enuU rfl G.b_enumerate (pa_cons (pv 0) pa_nil)) (pg_tup rfl (pgs_cons (pg_name (i := 2) sc_bad_part.nd rfl (by first | exact Or.inl rfl | exact Or.inr rfl)) (pgs_cons (pg_name (i := 3) sc_bad_part.nd rfl (by first | exact Or.inl rfl | exact Or.inr rfl)) pgs_nil)))
  (pss_one (ps_if (pt_not (pt_val (pe_c (c_is_clause G) hr (by decide) rfl (pa_cons (pv 3) pa_nil))))
  (pss_one (ps_ret (pv 2)))
  pss_nil)))
  (pss_cons (ps_for PassesOwn.never rfl (pi_enuU rfl G.b_enumerate (pa_cons (pv 1) pa_nil)) (pg_tup rfl (pgs_cons (pg_name (i := 2) sc_bad_part.nd rfl (by first | exact Or.inl rfl | exact Or.inr rfl)) (pgs_cons (pg_name (i := 4) sc_bad_part.nd rfl (by first | exact Or.inl rfl | exact Or.inr rfl)) pgs_nil)))
  (pss_one (ps_if (pt_not (pt_val (pe_c (c_is_ground G) hr (by decide) rfl (pa_cons (pv 4) pa_nil))))
  (pss_one (ps_ret (pe_tup (pa_cons (pe_gc rfl G.k_GROUND) (pa_cons (pv 2) pa_nil)))))
  pss_nil)))
  (pss_one (ps_ret pe_non))))))
theorem c_law_draw {P : Program} {w : World} {K : PySem.W.Frag} {mg : Str → Option Value} {base : Heap} (G : Gx K mg) : Cal P w K mg base 1 "_law_draw" (spH K w_law_draw) [] := by
  obtain ⟨f, fd, F, hm⟩ := G.f_law_draw
  refine ⟨f, fd, ["hand", "many"], [], F.ok sc_law_draw (fun vs H Q E h => len_h h fun ds k z => (len_law_draw ds k z)) (fun cdv A outer s H vs Q E hr h => ⟨t_law_draw K, PSs.nox ?_, body_law_draw h⟩), hm, F.kp, F.bindsN (fun _ _ _ _ _ _ us hl => match us, hl with | [_, _], _ => rfl), .nil⟩
  exact (pss_cons (ps_if (L2.PW.pt (pw_and (pt_cmpR (op_eqD (hu64 hr)) (pe_ix ix_seq (pv 0) pe_int (fun _ _ => rfl)) pe_int (nomark _)) (pw_and1 (pt_cmpR op_ltU (pe_ix ix_seq (pv 0) pe_int (fun _ _ => rfl)) (pe_callB call_lenU rfl G.b_len (by decide +kernel) (pa_cons (pe_ix ix_seq (pv 0) pe_int (fun _ _ => rfl)) pa_nil)) (nomark _)))))
  (pss_cons (ps_set (i := 2) sc_law_draw.nd rfl (by first | exact Or.inl rfl | exact Or.inr rfl) (pe_ix ix_seq (pe_ix ix_seq (pv 0) pe_int (fun _ _ => rfl)) (pe_ix ix_seq (pv 0) pe_int (fun _ _ => rfl)) (fun _ _ => rfl)))
  (pss_cons (ps_asg (pe_op op_addU (pe_ix ix_seq (pv 0) pe_int (fun _ _ => rfl)) pe_int) (pg_sub (pv 0) pe_int set_list))
  (pss_cons (ps_asg (pe_op op_modU (pe_callTy call_intU rfl G.b_int (by decide +kernel) (pa_cons (pe_op op_addU (pe_op op_addU (pe_op op_mulU (pe_ix ix_seq (pv 0) pe_int (fun _ _ => rfl)) pe_int) (pv 2)) pe_int) pa_nil)) pe_int) (pg_sub (pv 0) pe_int set_list))
  (pss_one (ps_if (pt_cmpR op_geU (pv 2) (pe_op op_powU pe_int pe_int) (nomark _))
  (pss_one (ps_asg (pv 2) (pg_sub (pv 0) pe_int set_list)))
  pss_nil)))))
  pss_nil)
  (pss_cons (ps_if (pt_cmpR op_gtU (pe_ix ix_seq (pv 0) pe_int (fun _ _ => rfl)) pe_int (nomark _))
  (pss_cons (ps_set (i := 3) sc_law_draw.nd rfl (by first | exact Or.inl rfl | exact Or.inr rfl) (pe_op op_modU (pe_callTy call_intU rfl G.b_int (by decide +kernel) (pa_cons (pe_ix ix_seq (pv 0) pe_int (fun _ _ => rfl)) pa_nil)) (pv 1)))
  (pss_cons (ps_asg (pe_op op_divU (pe_ix ix_seq (pv 0) pe_int (fun _ _ => rfl)) (pv 1)) (pg_sub (pv 0) pe_int set_list))
  (pss_one (ps_ret (pv 3)))))
  pss_nil)
  (pss_cons (ps_asg (pe_op op_addU (pe_ix ix_seq (pv 0) pe_int (fun _ _ => rfl)) pe_int) (pg_sub (pv 0) pe_int set_list))
  (pss_cons (ps_set (i := 4) sc_law_draw.nd rfl (by first | exact Or.inl rfl | exact Or.inr rfl) (pe_op op_modU (pe_callTy call_intU rfl G.b_int (by decide +kernel) (pa_cons (pe_op op_mulU (pe_callTy call_intU rfl G.b_int (by decide +kernel) (pa_cons (pe_op op_addU (pe_ix ix_seq (pv 0) pe_int (fun _ _ => rfl)) (pe_op op_mulU pe_int (pe_ix ix_seq (pv 0) pe_int (fun _ _ => rfl)))) pa_nil)) pe_int) pa_nil)) pe_int))
  (pss_cons (ps_set (i := 4) sc_law_draw.nd rfl (by first | exact Or.inl rfl | exact Or.inr rfl) (pe_op op_modU (pe_callTy call_intU rfl G.b_int (by decide +kernel) (pa_cons (pe_op op_mulU (pv 4) (pe_op op_addU (pe_op op_divU (pv 4) pe_int) pe_int)) pa_nil)) pe_int))
  (pss_cons (ps_set (i := 4) sc_law_draw.nd rfl (by first | exact Or.inl rfl | exact Or.inr rfl) (pe_op op_modU (pe_callTy call_intU rfl G.b_int (by decide +kernel) (pa_cons (pe_op op_mulU (pv 4) (pe_op op_addU (pe_op op_divU (pv 4) pe_int) pe_int)) pa_nil)) pe_int))
  (pss_one (ps_ret (pe_op op_modU (pe_callTy call_intU rfl G.b_int (by decide +kernel) (pa_cons (pe_op op_divU (pv 4) pe_int) pa_nil)) (pv 1))))))))))
theorem c_law_any {P : Program} {w : World} {K : PySem.W.Frag} {mg : Str → Option Value} {base : Heap} (G : Gx K mg) : Cal P w K mg base 2 "_law_any" (spAny K) [] := by
  obtain ⟨f, fd, F, hm⟩ := G.f_law_any
  refine ⟨f, fd, ["hand", "items"], [], F.ok sc_law_any (fun vs H Q E h => len_law_any h) (fun cdv A outer s H vs Q E hr h => ⟨t_law_any K, PSs.nox ?_, body_law_any h⟩), hm, F.kp, F.bindsN (fun _ _ _ _ _ _ us hl => match us, hl with | [_, _], _ => rfl), .nil⟩
  exact (pss_one (ps_ret (pe_ix ix_seq (pv 1) (pe_c (c_law_draw G) hr (by decide) rfl (pa_cons (pv 0) (pa_cons (pe_callB call_lenU rfl G.b_len (by decide +kernel) (pa_cons (pv 1) pa_nil)) pa_nil))) (fun _ _ => rfl))))
theorem c_law_fact {P : Program} {w : World} {K : PySem.W.Frag} {mg : Str → Option Value} {base : Heap} (G : Gx K mg) : Cal P w K mg base 3 "_law_fact" (spH K w_law_fact) [] := by
  obtain ⟨f, fd, F, hm⟩ := G.f_law_fact
  refine ⟨f, fd, ["hand"], [], F.ok sc_law_fact (fun vs H Q E h => len_h h fun ds k z => (len_law_fact ds k z)) (fun cdv A outer s H vs Q E hr h => ⟨t_law_fact K, PSs.nox ?_, entry_h h (by decide) pure_law_fact⟩), hm, F.kp, F.bindsN (fun _ _ _ _ _ _ us hl => match us, hl with | [_], _ => rfl), .nil⟩
  exact (pss_cons (ps_if (pt_cmpR (op_eqD (hu64 hr)) (pe_c (c_law_draw G) hr (by decide) rfl (pa_cons (pv 0) (pa_cons pe_int pa_nil))) pe_int (nomark _))
  (pss_one (ps_ret (pe_tup (pa_cons (pe_slice sl_U pe_str (po_some (pe_c (c_law_draw G) hr (by decide) rfl (pa_cons (pv 0) (pa_cons pe_int pa_nil)))) po_none) (pa_cons pe_int (pa_cons pe_int (pa_cons (pe_c (c_law_draw G) hr (by decide) rfl (pa_cons (pv 0) (pa_cons pe_int pa_nil))) (pa_cons pe_int pa_nil))))))))
  pss_nil)
  (pss_cons (ps_set (i := 1) sc_law_fact.nd rfl (by first | exact Or.inl rfl | exact Or.inr rfl) (pe_c (c_law_any G) hr (by decide) rfl (pa_cons (pv 0) (pa_cons (pe_lst (pa_cons pe_str (pa_cons pe_str (pa_cons pe_str (pa_cons pe_str pa_nil))))) pa_nil))))
  (pss_one (ps_ret (pe_op op_addU (pe_tup (pa_cons (pv 1) pa_nil)) (pe_callTy call_tupU rfl G.b_tuple (by decide +kernel) (pa_cons (pe_lc (own := [("k", 2)]) rfl sc_law_fact.nd (pi_range1 rfl G.b_range (pa_cons (pe_c (c_law_draw G) hr (by decide) rfl (pa_cons (pv 0) (pa_cons pe_int pa_nil))) pa_nil)) (blkOk_by (N := ["hand", "word", "k"]) (sc := defScope s_law_fact) (by decide +kernel)) (fun _ _ _ _ _ => (pg_name (i := 2) sc_law_fact.nd rfl (by first | exact Or.inl rfl | exact Or.inr rfl))) (fun _ _ _ _ _ => pts_nil) (fun _ _ _ _ _ => (pe_c (c_law_draw G) hr (by decide) rfl (pa_cons (pv 0) (pa_cons pe_int pa_nil))))) pa_nil)))))))
theorem c_law_pool {P : Program} {w : World} {K : PySem.W.Frag} {mg : Str → Option Value} {base : Heap} (G : Gx K mg) : Cal P w K mg base 4 "_law_pool" (spH K w_law_pool) [] := by
  obtain ⟨f, fd, F, hm⟩ := G.f_law_pool
  refine ⟨f, fd, ["hand", "many"], [], F.ok sc_law_pool (fun vs H Q E h => len_h h fun ds k z => (len_law_pool ds k z)) (fun cdv A outer s H vs Q E hr h => ⟨t_law_pool K, PSs.nox ?_, entry_h h (by decide) pure_law_pool⟩), hm, F.kp, F.bindsN (fun _ _ _ _ _ _ us hl => match us, hl with | [_, _], _ => rfl), .nil⟩
  exact (pss_cons (ps_set (i := 2) sc_law_pool.nd rfl (by first | exact Or.inl rfl | exact Or.inr rfl) (pe_lst (pa_cons (pe_tup (pa_cons pe_str pa_nil)) pa_nil)))
  (pss_cons (ps_for PassesOwn.never rfl (pi_range1 rfl G.b_range (pa_cons (pv 1) pa_nil)) (pg_name (i := 3) sc_law_pool.nd rfl (by first | exact Or.inl rfl | exact Or.inr rfl))
  (pss_cons (ps_set (i := 4) sc_law_pool.nd rfl (by first | exact Or.inl rfl | exact Or.inr rfl) (pe_c (c_law_fact G) hr (by decide) rfl (pa_cons (pv 0) pa_nil)))
  (pss_one (ps_if (pt_cmpR (op_notInU (hu65 hr)) (pv 4) (pv 2) (by with_unfolding_all rfl))
  (pss_one (ps_expr (pe_bm PySem.F.plainAttrs_list PySem.F.slot_list_append PySem.F.type_list_append mt_append (pv 2) (pa_cons (pv 4) pa_nil))))
  pss_nil))))
  (pss_one (ps_ret (pv 2)))))
theorem c_law_parts {P : Program} {w : World} {K : PySem.W.Frag} {mg : Str → Option Value} {base : Heap} (G : Gx K mg) : Cal P w K mg base 5 "_law_parts" (spH K w_law_parts) [] := by
  obtain ⟨f, fd, F, hm⟩ := G.f_law_parts
  refine ⟨f, fd, ["hand", "most", "grounds"], [], F.ok sc_law_parts (fun vs H Q E h => len_h h fun ds k z => (len_law_parts ds k z)) (fun cdv A outer s H vs Q E hr h => ⟨t_law_parts K, PSs.nox ?_, entry_h h (by decide) pure_law_parts⟩), hm, F.kp, F.bindsN (fun _ _ _ _ _ _ us hl => match us, hl with | [_, _, _], _ => rfl), .nil⟩
  exact (pss_cons (ps_asg (pe_tup (pa_cons (pe_c (c_law_pool G) hr (by decide) rfl (pa_cons (pv 0) (pa_cons (pe_op op_addU pe_int (pe_c (c_law_draw G) hr (by decide) rfl (pa_cons (pv 0) (pa_cons pe_int pa_nil)))) pa_nil))) (pa_cons (pe_lst pa_nil) (pa_cons (pe_lst pa_nil) pa_nil)))) (pg_tup rfl (pgs_cons (pg_name (i := 3) sc_law_parts.nd rfl (by first | exact Or.inl rfl | exact Or.inr rfl)) (pgs_cons (pg_name (i := 4) sc_law_parts.nd rfl (by first | exact Or.inl rfl | exact Or.inr rfl)) (pgs_cons (pg_name (i := 5) sc_law_parts.nd rfl (by first | exact Or.inl rfl | exact Or.inr rfl)) pgs_nil)))))
  (pss_cons (ps_for PassesOwn.never rfl (pi_range1 rfl G.b_range (pa_cons (pe_c (c_law_draw G) hr (by decide) rfl (pa_cons (pv 0) (pa_cons (pv 1) pa_nil))) pa_nil)) (pg_name (i := 6) sc_law_parts.nd rfl (by first | exact Or.inl rfl | exact Or.inr rfl))
  (pss_cons (ps_set (i := 7) sc_law_parts.nd rfl (by first | exact Or.inl rfl | exact Or.inr rfl) (pe_c (c_law_any G) hr (by decide) rfl (pa_cons (pv 0) (pa_cons (pe_lst (pa_cons pe_int (pa_cons pe_int (pa_cons pe_int (pa_cons pe_int (pa_cons pe_int (pa_cons pe_int (pa_cons pe_int (pa_cons pe_int (pa_cons pe_int pa_nil)))))))))) pa_nil))))
  (pss_cons (ps_set (i := 7) sc_law_parts.nd rfl (by first | exact Or.inl rfl | exact Or.inr rfl) (pe_ifExp (L2.PW.pt (pw_and (pt_cmpR (op_eqD (hu64 hr)) (pv 7) pe_int (nomark _)) (pw_and1 (pt_cmpR op_gtU (pe_c (c_law_draw G) hr (by decide) rfl (pa_cons (pv 0) (pa_cons pe_int pa_nil))) pe_int (nomark _))))) pe_int (pv 7)))
  (pss_cons (ps_expr (pe_bm PySem.F.plainAttrs_list PySem.F.slot_list_append PySem.F.type_list_append mt_append (pv 4) (pa_cons (pe_tup (pa_cons (pe_callTy call_tupU rfl G.b_tuple (by decide +kernel) (pa_cons (pe_lc (own := [("k", 8)]) rfl sc_law_parts.nd (pi_range1 rfl G.b_range (pa_cons (pv 7) pa_nil)) (blkOk_by (N := ["hand", "most", "grounds", "pool", "clauses", "found", "turn", "size", "k"]) (sc := defScope s_law_parts) (by decide +kernel)) (fun _ _ _ _ _ => (pg_name (i := 8) sc_law_parts.nd rfl (by first | exact Or.inl rfl | exact Or.inr rfl))) (fun _ _ _ _ _ => pts_nil) (fun _ _ _ _ _ => (pe_c (c_law_any G) hr (by decide) rfl (pa_cons (pv 0) (pa_cons (pv 3) pa_nil))))) pa_nil)) (pa_cons (pe_c (c_law_any G) hr (by decide) rfl (pa_cons (pv 0) (pa_cons (pv 3) pa_nil))) pa_nil))) pa_nil)))
  (pss_one (ps_if (pt_cmpR (op_eqD (hu64 hr)) (pe_c (c_law_draw G) hr (by decide) rfl (pa_cons (pv 0) (pa_cons pe_int pa_nil))) pe_int (nomark _))
  (pss_one (ps_expr (pe_bm PySem.F.plainAttrs_list PySem.F.slot_list_append PySem.F.type_list_append mt_append (pv 4) (pa_cons (pe_c (c_law_any G) hr (by decide) rfl (pa_cons (pv 0) (pa_cons (pv 4) pa_nil))) pa_nil))))
  pss_nil))))))
  (pss_cons (ps_for PassesOwn.never rfl (pi_range1 rfl G.b_range (pa_cons (pv 2) pa_nil)) (pg_name (i := 6) sc_law_parts.nd rfl (by first | exact Or.inl rfl | exact Or.inr rfl))
  (pss_one (ps_expr (pe_bm PySem.F.plainAttrs_list PySem.F.slot_list_append PySem.F.type_list_append mt_append (pv 5) (pa_cons (pe_callTy call_tupU rfl G.b_tuple (by decide +kernel) (pa_cons (pe_lc (own := [("k", 8)]) rfl sc_law_parts.nd (pi_range1 rfl G.b_range (pa_cons (pe_c (c_law_any G) hr (by decide) rfl (pa_cons (pv 0) (pa_cons (pe_lst (pa_cons pe_int (pa_cons pe_int (pa_cons pe_int (pa_cons pe_int (pa_cons pe_int (pa_cons pe_int pa_nil))))))) pa_nil))) pa_nil)) (blkOk_by (N := ["hand", "most", "grounds", "pool", "clauses", "found", "turn", "size", "k"]) (sc := defScope s_law_parts) (by decide +kernel)) (fun _ _ _ _ _ => (pg_name (i := 8) sc_law_parts.nd rfl (by first | exact Or.inl rfl | exact Or.inr rfl))) (fun _ _ _ _ _ => pts_nil) (fun _ _ _ _ _ => (pe_c (c_law_any G) hr (by decide) rfl (pa_cons (pv 0) (pa_cons (pv 3) pa_nil))))) pa_nil)) pa_nil)))))
  (pss_one (ps_ret (pe_tup (pa_cons (pe_callTy call_tupU rfl G.b_tuple (by decide +kernel) (pa_cons (pv 4) pa_nil)) (pa_cons (pe_callTy call_tupU rfl G.b_tuple (by decide +kernel) (pa_cons (pv 5) pa_nil)) pa_nil))))))))
theorem c_law_ground_facts {P : Program} {w : World} {K : PySem.W.Frag} {mg : Str → Option Value} {base : Heap} (G : Gx K mg) : Cal P w K mg base 1 "_law_ground_facts" (spW K w_law_ground_facts) [] := by
  obtain ⟨f, fd, F, hm⟩ := G.f_law_ground_facts
  refine ⟨f, fd, ["parts", "lot"], [], F.ok sc_law_ground_facts (fun vs H Q E h => len_w h fun ds k z => (len_law_ground_facts ds k z)) (fun cdv A outer s H vs Q E hr h => ⟨t_law_ground_facts K, PSs.nox ?_, entry_w h pure_law_ground_facts⟩), hm, F.kp, F.bindsN (fun _ _ _ _ _ _ us hl => match us, hl with | [_, _], _ => rfl), .nil⟩
  exact (pss_cons (ps_set (i := 2) sc_law_ground_facts.nd rfl (by first | exact Or.inl rfl | exact Or.inr rfl) (pe_lst pa_nil))
  (pss_cons (ps_for PassesOwn.never rfl (pi_seqU (pv 1)) (pg_name (i := 3) sc_law_ground_facts.nd rfl (by first | exact Or.inl rfl | exact Or.inr rfl))
  (pss_one (ps_expr (pe_bm PySem.F.plainAttrs_list PySem.F.slot_list_extend PySem.F.type_list_extend mt_extend (pv 2) (pa_cons (pe_callTy call_lstU rfl G.b_list (by decide +kernel) (pa_cons (pe_ix ix_seq (pe_ix ix_seq (pv 0) pe_int (fun _ _ => rfl)) (pv 3) (fun _ _ => rfl)) pa_nil)) pa_nil)))))
  (pss_one (ps_ret (pv 2)))))
theorem c_law_asked {P : Program} {w : World} {K : PySem.W.Frag} {mg : Str → Option Value} {base : Heap} (G : Gx K mg) : Cal P w K mg base 4 "_law_asked" (spH K w_law_asked) [] := by
  obtain ⟨f, fd, F, hm⟩ := G.f_law_asked
  refine ⟨f, fd, ["hand", "parts"], [], F.ok sc_law_asked (fun vs H Q E h => len_h h fun ds k z => (len_law_asked ds k z)) (fun cdv A outer s H vs Q E hr h => ⟨t_law_asked K, PSs.nox ?_, entry_h h (by decide) pure_law_asked⟩), hm, F.kp, F.bindsN (fun _ _ _ _ _ _ us hl => match us, hl with | [_, _], _ => rfl), .nil⟩
  exact (pss_cons (ps_set (i := 2) sc_law_asked.nd rfl (by first | exact Or.inl rfl | exact Or.inr rfl) (pe_op op_addU (pe_lc (own := [("body", 3), ("head", 4)]) rfl sc_law_asked.nd (pi_seqU (pe_ix ix_seq (pv 1) pe_int (fun _ _ => rfl))) (blkOk_by (N := ["hand", "parts", "some", "body", "head"]) (sc := defScope s_law_asked) (by decide +kernel)) (fun _ _ _ _ _ => (pg_tup rfl (pgs_cons (pg_name (i := 3) sc_law_asked.nd rfl (by first | exact Or.inl rfl | exact Or.inr rfl)) (pgs_cons (pg_name (i := 4) sc_law_asked.nd rfl (by first | exact Or.inl rfl | exact Or.inr rfl)) pgs_nil)))) (fun _ _ _ _ _ => pts_nil) (fun _ _ _ _ _ => (pv 4))) (pe_c (c_law_ground_facts G) hr (by decide) rfl (pa_cons (pv 1) (pa_cons (pe_listRg rfl rfl G.b_list (prg_1 rfl G.b_range (pe_callB call_lenU rfl G.b_len (by decide +kernel) (pa_cons (pe_ix ix_seq (pv 1) pe_int (fun _ _ => rfl)) pa_nil)))) pa_nil)))))
  (pss_one (ps_ret (pe_ifExp (L2.PW.pt (pw_or (pt_cmpR (op_eqD (hu64 hr)) (pe_callB call_lenU rfl G.b_len (by decide +kernel) (pa_cons (pv 2) pa_nil)) pe_int (nomark _)) (pw_or1 (pt_cmpR (op_eqD (hu64 hr)) (pe_c (c_law_draw G) hr (by decide) rfl (pa_cons (pv 0) (pa_cons pe_int pa_nil))) pe_int (nomark _))))) (pe_c (c_law_fact G) hr (by decide) rfl (pa_cons (pv 0) pa_nil)) (pe_c (c_law_any G) hr (by decide) rfl (pa_cons (pv 0) (pa_cons (pv 2) pa_nil)))))))
theorem c_law_lot {P : Program} {w : World} {K : PySem.W.Frag} {mg : Str → Option Value} {base : Heap} (G : Gx K mg) : Cal P w K mg base 2 "_law_lot" (spH K w_law_lot) [] := by
  obtain ⟨f, fd, F, hm⟩ := G.f_law_lot
  refine ⟨f, fd, ["hand", "many"], [], F.ok sc_law_lot (fun vs H Q E h => len_h h fun ds k z => (len_law_lot ds k z)) (fun cdv A outer s H vs Q E hr h => ⟨t_law_lot K, PSs.nox ?_, entry_h h (by decide) pure_law_lot⟩), hm, F.kp, F.bindsN (fun _ _ _ _ _ _ us hl => match us, hl with | [_, _], _ => rfl), .nil⟩
  exact (pss_cons (ps_if (pt_cmpR (op_eqD (hu64 hr)) (pe_c (c_law_draw G) hr (by decide) rfl (pa_cons (pv 0) (pa_cons pe_int pa_nil))) pe_int (nomark _))
  (pss_one (ps_ret (pe_callTy call_tupU rfl G.b_tuple (by decide +kernel) (pa_cons (pe_listRg rfl rfl G.b_list (prg_1 rfl G.b_range (pv 1))) pa_nil))))
  pss_nil)
  (pss_one (ps_ret (pe_callTy call_tupU rfl G.b_tuple (by decide +kernel) (pa_cons (pe_lc (own := [("k", 2)]) rfl sc_law_lot.nd (pi_range1 rfl G.b_range (pa_cons (pv 1) pa_nil)) (blkOk_by (N := ["hand", "many", "k"]) (sc := defScope s_law_lot) (by decide +kernel)) (fun _ _ _ _ _ => (pg_name (i := 2) sc_law_lot.nd rfl (by first | exact Or.inl rfl | exact Or.inr rfl))) (fun _ _ _ _ _ => (pts_one (pt_cmpR (op_eqD (hu64 hr)) (pe_c (c_law_draw G) hr (by decide) rfl (pa_cons (pv 0) (pa_cons pe_int pa_nil))) pe_int (nomark _)))) (fun _ _ _ _ _ => (pv 2))) pa_nil)))))
theorem c_law_rounds {P : Program} {w : World} {K : PySem.W.Frag} {mg : Str → Option Value} {base : Heap} (G : Gx K mg) : Cal P w K mg base 1 "_law_rounds" (spW K w_law_rounds) [] := by
  obtain ⟨f, fd, F, hm⟩ := G.f_law_rounds
  refine ⟨f, fd, ["parts", "lot", "without"], [], F.ok sc_law_rounds (fun vs H Q E h => len_w h fun ds k z => (len_law_rounds ds k z)) (fun cdv A outer s H vs Q E hr h => ⟨t_law_rounds K, PSs.nox ?_, entry_w h pure_law_rounds⟩), hm, F.kp, F.bindsN (fun _ _ _ _ _ _ us hl => match us, hl with | [_, _, _], _ => rfl), .nil⟩
  exact (pss_cons (ps_set (i := 3) sc_law_rounds.nd rfl (by first | exact Or.inl rfl | exact Or.inr rfl) pe_dnewT)
  (pss_cons (ps_for PassesOwn.never rfl (pi_seqU (pv 1)) (pg_name (i := 4) sc_law_rounds.nd rfl (by first | exact Or.inl rfl | exact Or.inr rfl))
  (pss_one (ps_for PassesOwn.never rfl (pi_seqU (pe_ix ix_seq (pe_ix ix_seq (pv 0) pe_int (fun _ _ => rfl)) (pv 4) (fun _ _ => rfl))) (pg_name (i := 5) sc_law_rounds.nd rfl (by first | exact Or.inl rfl | exact Or.inr rfl))
  (pss_one (ps_dput (hu1 hr) (pv 3) (pv 5) pe_int rfl)))))
  (pss_cons (ps_for PassesOwn.never rfl (pi_range1 rfl G.b_range (pa_cons (pe_op op_addU (pe_callB call_lenU rfl G.b_len (by decide +kernel) (pa_cons (pe_ix ix_seq (pv 0) pe_int (fun _ _ => rfl)) pa_nil)) pe_int) pa_nil)) (pg_name (i := 6) sc_law_rounds.nd rfl (by first | exact Or.inl rfl | exact Or.inr rfl))
  (pss_cons (ps_set (i := 7) sc_law_rounds.nd rfl (by first | exact Or.inl rfl | exact Or.inr rfl) (pe_lst pa_nil))
  (pss_cons (ps_for PassesOwn.never rfl (pi_range1 rfl G.b_range (pa_cons (pe_callB call_lenU rfl G.b_len (by decide +kernel) (pa_cons (pe_ix ix_seq (pv 0) pe_int (fun _ _ => rfl)) pa_nil)) pa_nil)) (pg_name (i := 4) sc_law_rounds.nd rfl (by first | exact Or.inl rfl | exact Or.inr rfl))
  (pss_cons (ps_asg (pe_ix ix_seq (pe_ix ix_seq (pv 0) pe_int (fun _ _ => rfl)) (pv 4) (fun _ _ => rfl)) (pg_tup rfl (pgs_cons (pg_name (i := 8) sc_law_rounds.nd rfl (by first | exact Or.inl rfl | exact Or.inr rfl)) (pgs_cons (pg_name (i := 9) sc_law_rounds.nd rfl (by first | exact Or.inl rfl | exact Or.inr rfl)) pgs_nil))))
  (pss_one (ps_if (L2.PW.pt (pw_and (pt_cmpR (op_neD (hu64 hr)) (pv 4) (pv 2) (nomark _)) (pw_and (pt_cmpR (op_notInK (hu1 hr)) (pv 9) (pv 3) (by with_unfolding_all rfl)) (pw_and1 (pt_val (pe_callB (cr_all rfl) rfl G.b_all (by decide +kernel) (pa_cons (pe_lc (own := [("one", 5)]) rfl sc_law_rounds.nd (pi_seqU (pv 8)) (blkOk_by (N := ["parts", "lot", "without", "found", "number", "one", "turn", "fresh", "body", "head"]) (sc := defScope s_law_rounds) (by decide +kernel)) (fun _ _ _ _ _ => (pg_name (i := 5) sc_law_rounds.nd rfl (by first | exact Or.inl rfl | exact Or.inr rfl))) (fun _ _ _ _ _ => pts_nil) (fun _ _ _ _ _ => (pe_cmpR (op_inK (hu1 hr)) (pv 5) (pv 3) (by with_unfolding_all rfl)))) pa_nil)))))))
  (pss_one (ps_expr (pe_bm PySem.F.plainAttrs_list PySem.F.slot_list_append PySem.F.type_list_append mt_append (pv 7) (pa_cons (pv 9) pa_nil))))
  pss_nil))))
  (pss_cons (ps_if (pt_cmpR (op_eqD (hu64 hr)) (pv 7) (pe_lst pa_nil) (nomark _))
  (pss_one ps_break)
  pss_nil)
  (pss_one (ps_for PassesOwn.never rfl (pi_seqU (pv 7)) (pg_name (i := 5) sc_law_rounds.nd rfl (by first | exact Or.inl rfl | exact Or.inr rfl))
  (pss_one (ps_dput (hu1 hr) (pv 3) (pv 5) (pe_op op_addU (pv 6) pe_int) rfl))))))))
  (pss_one (ps_ret (pv 3))))))
end LawK54
end
section
namespace LawK54
open PySem PySem.Spec PyProof.Rows L2 C8 PW
local macro_rules | `(tactic| walk_at "jn") => `(tactic| first | exact fact_jn (by assumption) | exact clause_jn (by assumption) | exact ground_jn (by assumption))
local macro_rules | `(tactic| walk_at "pw") => `(tactic| first
  | ((with_reducible show w_is_integer _ _); with_reducible refine i_is_integer (by walk_at "bi") ?_) | ((with_reducible show w_is_within _ _); with_reducible refine i_is_within (by walk_at "bi") ?_) | ((with_reducible show w_is_tuple_of _ _); with_reducible refine i_is_tuple_of (by walk_at "bi") ?_)
  | ((with_reducible show w_law_is_number _ _); with_reducible refine i_law_is_number (by walk_at "bi") ?_)
  | ((with_reducible show w_fact _ _); with_reducible refine i_fact (by walk_at "jn") ?_)
  | ((with_reducible show w_is_clause _ _); with_reducible refine i_is_clause (by walk_at "jn") ?_)
  | ((with_reducible show w_is_ground _ _); with_reducible refine i_is_ground (by walk_at "jn") ?_)
  | ((with_reducible show w_law_draw _ _); refine i_law_draw (by first | omega | decide) (by first | omega | decide) ?_; intro r h0 h1)
  | with_reducible refine xe_any (by with_unfolding_all exact rfl) ?_
  | ((with_reducible show ∃ x ds, _ = some x ∧ itemsD x = some ds ∧ ds ≠ [] ∧ ds.length < 1073741824 ∧ _); refine ex_any (by with_unfolding_all exact rfl) (by with_unfolding_all exact rfl) (by first | assumption | (intro z; cases z; done) | exact List.append_ne_nil_of_right_ne_nil _ (List.cons_ne_nil _ _)) (by first | omega | (simp only [List.length_append, List.length_cons, List.length_nil]; omega) | decide) ?_; intro d hd)
  | ((with_reducible show w_law_fact _ _); refine i_law_fact ?_; intro f hf)
  | ((with_reducible show w_law_nested _ _); refine i_law_nested ?_; intro f hf; have hfj := hf.1))
local macro_rules | `(tactic| walk_at "sz") => `(tactic| first | (rw [rngD_len]; refine szl ?_; omega))
local macro_rules | `(tactic| walk_at "pw") => `(tactic| first
  | ((with_reducible show ∃ xs x, _ = some xs ∧ ∃ ρ2, _ = ρ2 ∧ ρ2[_]? = some (Ent.own x) ∧ MtD _ rAppend x xs _); refine ⟨_, _, rfl, _, rfl, rfl, m_append (szlt (by first | omega | (simp only [List.length_append, List.length_cons, List.length_nil]; omega))) ?_⟩)
  | ((with_reducible show ∃ n, _ = some [D.int n] ∧ -2 ^ 62 ≤ n ∧ n < 2 ^ 62 ∧ _); refine ⟨_, rfl, by omega, by omega, ?_⟩))
abbrev CR (K : PySem.W.Frag) : Addr := He.ga K "Rule"
abbrev CB (K : PySem.W.Frag) : Addr := He.ga K "BadRule"
/-- what the top says of the classes -/
structure Gt (P : Program) (K : PySem.W.Frag) (mg : Str → Option Value) : Prop where
  g : Gx K mg
  cT : Cls K (CR K)
  mkT : Mk K (CR K) (He.ma K (CR K) "__init__")
  n1 : NoAttr K (CR K) "clauses"
  n2 : NoAttr K (CR K) "grounds"
  fI : ∃ fd, FunD K "__init__" "Rule.__init__" (defArgs s_Rule_init) (defBody s_Rule_init) (defScope s_Rule_init) [] [] (He.ma K (CR K) "__init__") fd
  bad : PySem.SupX.SupC P K (CB K) (He.ma K (CB K) "__init__") "part" "BadRule.__init__"
  exc : ExcC K (CB K)
  tCl : PySem.W.findIn K (.ref (CR K)) "__class__" = some (some (.builtin "object.__class__"))
  tSp : PySem.W.specialIn K (.builtin "object.__class__") "__get__" = some (some (.builtin "getset_descriptor.__get__"))
  tTk : PySem.W.takesIn K (.builtin "object.__class__") = some true
  tMr : PySem.W.mroIn K (CR K) (.type "object") = some true
/-- Rule.__init__ at an instance of its own -/
def spRule (K : PySem.W.Frag) : Sp := fun vs H Q E => ∃ (M : Addr → Prop) (p dx : Addr) (x y : D) (vx vy : V), vs = [.ref p, vx, vy] ∧ Tr M H ∧ H p = some (.ins (CR K) dx []) ∧ DaAll M K H [vx, vy] [x, y] ∧ x.jn = true ∧ y.jn = true ∧
  (badPart x y = .non → ∀ H', (∀ b o, b ≠ p → H b = some o → H' b = some o) → H' p = some (.ins (CR K) dx [("clauses", vx), ("grounds", vy)]) → Q .non H') ∧
  ((badPart x y).isNon = false → ∀ H' d vb, PW.Ext H H' → H d = none → H' d = some (.xd [("part", vb)]) → Da M K H' vb (badPart x y) → E (.ref (CB K)) (some d) H')
def tC0 (K : PySem.W.Frag) : TE := (tCall (spW K w_bad_part) [] L2.E0 (tCons (tVar 1) (tCons (tVar 2) tNil)))
def tEnd (K : PySem.W.Frag) : TS := tSeq (sFld K (tVar 0) (tVar 1) "clauses") (sFld K (tVar 0) (tVar 2) "grounds")
def tBad (K : PySem.W.Frag) (E : XK) : TS := tRaiseSup (CB K) "part" (fun cls d _ H => E cls d H) (tCons (tVar 3) tNil)
def t_Rule_init (K : PySem.W.Frag) (E : XK) : TS := tSeq (tAsg (tC0 K) (gName 3)) (tSeq (tIfS (tTest (tOp rIsNotNo (tVar 3) (tC .non))) (tBad K E) tNext) (tEnd K))
section
variable {K : PySem.W.Frag} {x y : D}
theorem xe_c0 (hx : x.jn = true) (hy : y.jn = true) : PW.XE K (tC0 K) [.u, .d x, .d y, .u] fun r ρ => ρ = [.u, .d x, .d y, .u] ∧ r = .d (badPart x y) := by
  unfold tC0
  walk_at "pws"
  exact ⟨x, y, rfl, hx, hy, rfl, rfl⟩
end
theorem env_self {K : PySem.W.Frag} {M : Addr → Prop} {H : Hp} {u vx vy : V} {o : Option V} {x y : D} (tr : Tr M H) (d : DaAll M K H [vx, vy] [x, y]) : Env K (fr M H none) H [some u, some vx, some vy, o] [.u, .d x, .d y, .u] := by
  obtain ⟨_, _, e1, d1, _, _, e2, d2, _⟩ := d
  cases e1
  cases e2
  have own : ∀ (i : Nat) (b : Addr), Owns [some u, some vx, some vy, o] ([Ent.u, .d x, .d y, .u] : List Ent) i b → False := calm_own fun i e h => by
    match i, h with
    | 0, h => cases h; rfl
    | 1, h => cases h; rfl
    | 2, h => cases h; rfl
    | 3, h => cases h; rfl
    | _ + 4, h => cases h
  have less : ∀ b, hot (fr M H none) [some u, some vx, some vy, o] [.u, .d x, .d y, .u] b → M b := fun b hb => by
    rcases hb with hb | ⟨j, h1⟩
    · exact hb
    · exact (own j b h1).elim
  refine ⟨rfl, fun b o _ e => e, tr, fun a e => (nomatch e), fun i b h => (own i b h).elim, fun i j b h => (own i b h).elim, fun i e he => ?_, fr_ok⟩
  match i, he with
  | 0, he => cases he; trivial
  | 1, he => cases he; exact ⟨vx, rfl, d1.less less⟩
  | 2, he => cases he; exact ⟨vy, rfl, d2.less less⟩
  | 3, he => cases he; trivial
  | _ + 4, he => cases he
theorem pure_Rule_init {P : Program} {K : PySem.W.Frag} {mg : Str → Option Value} (G : Gt P K mg) {vs : List V} {H : Hp} {Q : VK} {E : XK} (h : spRule K vs H Q E) : t_Rule_init K E { nx := fun _ H' => Q .non H', rt := Q } (L2.start ["self", "clauses", "grounds", "bad"] vs) H := by
  obtain ⟨M, p, dx, x, y, vx, vy, rfl, tr, hp, d, jx, jy, good, bad⟩ := h
  have E0 := env_self (u := .ref p) (o := none) tr d
  have es : L2.start ["self", "clauses", "grounds", "bad"] [.ref p, vx, vy] = [some (.ref p), some vx, some vy, none] := rfl
  rw [es]
  unfold t_Rule_init
  refine r_seq (r_asg ?_)
  refine xe_c0 jx jy _ H _ _ E0 fun v H1 r ρ1 k1 R ⟨e1, er⟩ => ?_
  subst e1 er
  obtain ⟨E1, dv⟩ := (show Env K (fr M H none) H1 [some (.ref p), some vx, some vy, none] [.u, .d x, .d y, .u] ∧ Da (hot (fr M H none) [some (.ref p), some vx, some vy, none] [.u, .d x, .d y, .u]) K H1 v (badPart x y) from R)
  have go1 : PW.Ext H H1 := fun b o e => E1.go b o (fun z => nomatch z) e
  have dv1 : Da M K H1 v (badPart x y) := dv.less fun b z => .inl z
  refine ⟨_, rfl, ?_⟩
  show (tSeq (tIfS (tTest (tOp rIsNotNo (tVar 3) (tC .non))) (tBad K E) tNext) (tEnd K)) { nx := fun _ H' => Q .non H', rt := Q } [some (.ref p), some vx, some vy, some v] H1
  refine r_seq (r_if ?_)
  refine ⟨v, rfl, rfl, _, rfl, ?_⟩
  rw [isNon_of (.inl dv1)]
  cases hb : (badPart x y).isNon with
  | false =>
    refine ⟨fun _ => ?_, fun z => nomatch z⟩
    refine ⟨v, rfl, v, rfl, fun dd hd => ?_⟩
    exact bad hb _ dd v (go1.trans (PW.Ext.new hd)) (go1.back hd) upd_same (dv1.mono fun b o n e => ⟨n, ex_new hd b o e⟩)
  | true =>
    refine ⟨fun z => (nomatch z), fun _ => ?_⟩
    have hp1 := go1 _ _ hp
    refine ⟨vx, rfl, .ref p, rfl, p, CR K, dx, [], rfl, hp1, G.cT, G.n1, by decide, ?_⟩
    refine ⟨vy, rfl, .ref p, rfl, p, CR K, dx, [("clauses", vx)], rfl, upd_same, G.cT, G.n2, by show 1 < 1000; decide, ?_⟩
    refine good (isNon_non hb) _ (fun b o n e => ?_) upd_same
    rw [upd_ne n, upd_ne n]
    exact go1 b o e

end LawK54
end
section
/-! PWDc2: a dict comprehension whose keys may come again. -/
namespace PW
open PySem PySem.Spec PyProof.Rows L2
/-- what stands behind the items, one by one -/
def dks (kf : D → List Key) (vf : D → D) (ds : List D) : List (List Key) × List D := ds.foldl (fun p d => (dputK p.1 (kf d), dputX p.1 p.2 (kf d) (vf d))) ([], [])
theorem dks_snoc {kf : D → List Key} {vf : D → D} {ds : List D} {d : D} : dks kf vf (ds ++ [d]) = (dputK (dks kf vf ds).1 (kf d), dputX (dks kf vf ds).1 (dks kf vf ds).2 (kf d) (vf d)) := by
  unfold dks
  rw [List.foldl_append]
  rfl
theorem dputK_nd1 {ks : List (List Key)} {q : List Key} (h : ks.Nodup) : (dputK ks q).Nodup := by
  unfold dputK
  split
  · exact h
  · rename_i hn
    refine List.nodup_append.mpr ⟨h, by simp, fun a ha b hb z => hn ?_⟩
    rw [List.mem_singleton.mp hb] at z
    exact List.any_eq_true.mpr ⟨a, ha, decide_eq_true z⟩
theorem dputK_len1 {ks : List (List Key)} {q : List Key} : (dputK ks q).length ≤ ks.length + 1 := by
  unfold dputK
  split
  · omega
  · rw [List.length_append]
    exact Nat.le_refl _
theorem dks_both (kf : D → List Key) (vf : D → D) : ∀ (n : Nat) (ds : List D), ds.length = n → (dks kf vf ds).1.Nodup ∧ (dks kf vf ds).1.length ≤ ds.length := fun n => by
  induction n with
  | zero =>
    intro ds h
    rw [List.length_eq_zero_iff.mp h]
    exact ⟨List.nodup_nil, Nat.le_refl _⟩
  | succ n ih =>
    intro ds h
    have hne : ds ≠ [] := fun z => by rw [z] at h; cases h
    rw [← List.dropLast_concat_getLast hne, dks_snoc]
    have i := ih ds.dropLast (by rw [List.length_dropLast]; omega)
    refine ⟨dputK_nd1 i.1, ?_⟩
    rw [List.length_append]
    exact Nat.le_trans dputK_len1 (Nat.succ_le_succ i.2)
theorem dks_nd (kf : D → List Key) (vf : D → D) (ds : List D) : (dks kf vf ds).1.Nodup := (dks_both kf vf _ ds rfl).1
theorem dks_len (kf : D → List Key) (vf : D → D) (ds : List D) : (dks kf vf ds).1.length ≤ ds.length := (dks_both kf vf _ ds rfl).2
section
variable {K : PySem.W.Frag} {ρ : List Ent} {k : KE} {te tk tv : TE} {wi : TI} {g : TG} {vs : List Nat}
theorem xe_dcP (hsl : OwnSlots g vs) (hww : ∀ σ : L2.St, wipe (wipe σ vs) vs = wipe σ vs)
    (h : XI K wi ρ fun ds ρ1 => ds.length < sizeLine ∧ ∃ (kf : D → List Key) (vf : D → D), ds.length < 100000 ∧
      (∀ d, d ∈ ds → XG K g d (wipeE ρ1 vs) fun ρ2 => wipeE ρ2 vs = wipeE ρ1 vs ∧ XE K tk ρ2 fun r1 ρ3 => XE K tv ρ3 fun r2 ρ4 => peek ρ4 r1 = some (keyD (kf d)) ∧ peek ρ4 r2 = some (vf d) ∧ frz ρ4 r2 = ρ2) ∧
      k (.nw (.dct (dks kf vf ds).1 (dks kf vf ds).2)) (wipeE ρ1 vs)) : XE K (tDcG (.dT []) wi g tYes tk tv vs) ρ k := fun F H σ Q E q => by
  refine h F H σ _ E fun J H1 ρ1 ds W kp E1 Gv w0 ⟨hsz, kf, vf, hnd, step, fin⟩ Dl hD => ?_
  have h0 := h0_none E1 hD
  have hh : ∀ a, F.hd = some a → F.H0 a ≠ none := fun a e => (E1.hand a e).2.1
  have agr : ∀ {F' : Fr} {H' : Hp}, Env K F' H' σ ρ1 → Env K F' H' (wipe σ vs) (wipeE ρ1 vs) ∧ ∀ b, hot F' (wipe σ vs) (wipeE ρ1 vs) b → hot F' σ ρ1 b := fun e => e.agree (wipeE_len _ _) (wipe_length _ _) fun i e he => by
    rcases wipeE_get he with q | ⟨q1, q2⟩
    · exact .inl q
    · exact .inr ⟨q1, wipe_get q2⟩
  have agb : ∀ {F' : Fr} {H' : Hp}, Env K F' H' (wipe σ vs) (wipeE ρ1 vs) → Env K F' H' σ (wipeE ρ1 vs) ∧ ∀ b, hot F' σ (wipeE ρ1 vs) b → hot F' (wipe σ vs) (wipeE ρ1 vs) b := fun e => e.agree rfl (wipe_length _ _).symm fun i e he => by
    rcases wipeE_get he with q | ⟨q1, q2⟩
    · exact .inl q
    · exact .inr ⟨he, (wipe_get q2).symm⟩
  have A1 := agr E1
  let Z : Nat → Hp → Prop := fun i H' => i ≤ ds.length ∧ Env K (F.push Dl) H' (wipe σ vs) (wipeE ρ1 vs) ∧ OwnAt (hot (F.push Dl) (wipe σ vs) (wipeE ρ1 vs)) K H' Dl (.dct (dks kf vf (ds.take i)).1 (dks kf vf (ds.take i)).2) ∧
    W (hot (F.push Dl) (wipe σ vs) (wipeE ρ1 vs)) H' ∧ Keep (hot F σ ρ1) H1 (hot (F.push Dl) (wipe σ vs) (wipeE ρ1 vs)) H'
  have e0 : Ext H1 (upd H1 Dl (.dT [])) := Ext.new hD
  have E1p : Env K (F.push Dl) (upd H1 Dl (.dT [])) (wipe σ vs) (wipeE ρ1 vs) := A1.1.push hD e0 (by rw [upd_same]; trivial)
  have pushless : ∀ b, hot (F.push Dl) (wipe σ vs) (wipeE ρ1 vs) b → hot F σ ρ1 b ∨ b = Dl := fun b hb => by
    rcases hb with hb | hb
    · rcases hb with hb | hb
      · exact .inl (.inl hb)
      · exact .inr hb
    · exact .inl (A1.2 b (.inr hb))
  have k0 : Keep (hot F σ ρ1) H1 (hot (F.push Dl) (wipe σ vs) (wipeE ρ1 vs)) (upd H1 Dl (.dT [])) := fun b o n e => ⟨fun z => (pushless b z).elim n fun z => (by rw [z, hD] at e; cases e), e0 b o e⟩
  have z0 : Z 0 (upd H1 Dl (.dT [])) := ⟨Nat.zero_le _, E1p, ⟨[], upd_same, rfl, rfl⟩, Gv.keep _ _ _ _ w0 k0, k0⟩
  refine ⟨fun i m H' => m = ds.length - i ∧ Z i H', ⟨ds.length, rfl, z0⟩, ?_⟩
  rintro i m H' ⟨rfl, hi, E', ho, w', k'⟩
  by_cases hlt : i < ds.length
  · have hd : ds[i]? = some ds[i] := by simp [hlt]
    have hm : ds[i] ∈ ds := List.getElem_mem hlt
    have htake : ds.take (i + 1) = ds.take i ++ [ds[i]] := by rw [List.take_succ, hd]; rfl
    refine .inr ⟨Gv.go _ _ i w' hlt, Z (i + 1), fun H2 z => ⟨ds.length - (i + 1), by omega, rfl, z⟩, fun x H2 y => ?_⟩
    obtain ⟨ex, hx⟩ := Gv.yld _ _ i x H2 _ (hot_tr E') w' hd y
    have k2 : Keep (hot (F.push Dl) (wipe σ vs) (wipeE ρ1 vs)) H' (hot (F.push Dl) (wipe σ vs) (wipeE ρ1 vs)) H2 := Keep.ext ex
    have w2 := Gv.keep _ _ _ _ w' k2
    obtain ⟨us, hDl, hks, dacc⟩ := ho
    have hD2 := ex _ _ hDl
    have E2 := (E'.ex ex).pin h0 hD2
    have dacc2 := dacc.mono k2
    have go := step _ hm (F.pin Dl (.dT us)) H2 (wipe σ vs) x
    have conv := hsl (wipe σ vs) x H2 (fun σ2 H2 => tYes σ2 H2 fun b H3 => if b = true then tk σ2 H3 fun y H4 => tv σ2 H4 fun z H5 => ∃ H6, DPut H5 Dl y z H6 ∧ Z (i + 1) H6 else Z (i + 1) H3)
    rw [hww] at conv
    refine conv (go _ E2 hx fun σ3 ρ3 k3 E3 ⟨hwe, body⟩ hws => ?_)
    have agc : ∀ {F' : Fr} {H' : Hp}, Env K F' H' σ3 ρ3 → Env K F' H' (wipe σ vs) (wipeE ρ1 vs) ∧ ∀ b, hot F' (wipe σ vs) (wipeE ρ1 vs) b → hot F' σ3 ρ3 b := fun e => e.agree (by rw [← hwe, wipeE_len]) (by rw [← hws, wipe_length]) fun i e he => by
      rw [← hwe] at he
      rcases wipeE_get he with q | ⟨q1, q2⟩
      · exact .inl q
      · exact .inr ⟨q1, by rw [← hws]; exact wipe_get q2⟩
    have nd : F.hd ≠ some Dl := fun z => (hh Dl z) h0
    show tk σ3 H2 fun y H4 => tv σ3 H4 fun z H5 => ∃ H6, DPut H5 Dl y z H6 ∧ Z (i + 1) H6
    refine body (F.pin Dl (.dT us)) H2 σ3 _ E3 fun y H4 r1 ρ4 k4 R4 h2 => h2 (F.pin Dl (.dT us)) H4 σ3 _ R4.env fun z H5 r2 ρ5 k5 R5 ⟨p1, p2, hf⟩ => ?_
    obtain ⟨b, eb, hb⟩ := key_at ((R4.held.keep (hotR.hot k5)).pk R5.env p1)
    obtain ⟨E5, d5⟩ := R5.frz p2
    have kf5 := keep_frz (r := r2) R5.env
    rw [hf] at E5 d5 kf5
    have k45 := ((hotR.hot k4).trans (hotR.hot k5)).trans kf5
    have hD5 : H5 Dl = some (.dT us) := E5.go Dl _ nd upd_same
    have hul : us.length ≤ i := by
      have e := congrArg List.length hks
      have l := dks_len kf vf (ds.take i)
      rw [List.length_map] at e
      rw [List.length_take] at l
      omega
    refine ⟨upd H5 Dl (.dT (putK us (kf ds[i]) z)), ?_, ?_⟩
    · rw [eb]
      exact DPut.t hD5 hb (by rw [sizeLine_eq]; omega)
    · obtain ⟨E6, less⟩ := agc E5
      have E7 := (E6.unpin (pk_none E1 h0) h0 hh).poke (o := .dT (putK us (kf ds[i]) z)) h0
      have hDh : hot (F.pin Dl (.dT us)) σ3 ρ3 Dl := .inl (.inr rfl)
      have k6 : Keep (hot (F.pin Dl (.dT us)) σ3 ρ3) H5 (hot (F.push Dl) (wipe σ vs) (wipeE ρ1 vs)) (upd H5 Dl (.dT (putK us (kf ds[i]) z))) := fun b o n e => ⟨fun z => n (less b z), by rw [upd_ne fun z => n (by rw [z]; exact hDh)]; exact e⟩
      have k3' : Keep (hot (F.push Dl) (wipe σ vs) (wipeE ρ1 vs)) H2 (hot (F.pin Dl (.dT us)) σ3 ρ3) H2 := k3
      have kk := (k3'.trans k45).trans k6
      refine ⟨hlt, E7, ⟨putK us (kf ds[i]) z, upd_same, ?_, ?_⟩, Gv.keep _ _ _ _ w2 kk, (k'.trans k2).trans kk⟩
      · rw [htake, dks_snoc, putK_keys, hks]
      · rw [htake, dks_snoc]
        have d6 := ((dacc2.mono k3).mono k45)
        have d7 := putK_vals (q := kf ds[i]) (y := vf ds[i]) d5 (by rw [hks]; exact dks_nd kf vf _) d6
        rw [hks] at d7
        exact d7.mono k6
  · have e : i = ds.length := by omega
    subst e
    refine .inl ⟨Gv.stop _ _ _ w' (Nat.le_refl _), ?_⟩
    rw [List.take_length] at ho
    have Eb := agb E'
    refine q _ H' (.nw (.dct (dks kf vf ds).1 (dks kf vf ds).2)) _ ?_ ⟨Dl, rfl, h0, fun z => ?_, Eb.1, ho.mono (fun b o n e => ⟨fun z => n (Eb.2 b z), e⟩) fun _ z => z⟩ fin
    · intro b o n e
      obtain ⟨q1, q2⟩ := kp b o n e
      obtain ⟨q3, q4⟩ := k' b o q1 q2
      refine ⟨fun z => ?_, q4⟩
      rcases z with z | ⟨_, z⟩
      · exact q3 (Eb.2 b (by
          rcases z with z | z
          · exact .inl (.inl z)
          · exact .inr z))
      · cases z
        exact q3 (.inl (.inr rfl))
    · have q : hot F σ ρ1 Dl := by
        rcases z with z | ⟨j, e, h1, h2⟩
        · exact .inl z
        · rcases wipeE_get h1 with q | ⟨q1, q2⟩
          · rw [q] at h2; exact (show False from h2).elim
          · exact .inr ⟨j, e, q1, h2⟩
      exact (E1.hotTrk Dl q).ne hD
end
end PW
end
section
/-! PWKit: rules of the layer beneath: d.setdefault with a tuple key, d.items() with tuple keys, xs[i] op= e. -/
namespace PW
open PySem PySem.Spec PyProof.Rows L2
section
variable {X : Cx} {pins : List (Addr × Obj)} {σ : L2.St} {H : Hp} {s : Shared} {a b : Addr} {r : Value} {z : V} {q : List Key} {E : Value → Shared → Prop}
/-- setdefault by a key that is a tuple -/
theorem setdef_tup {kvs : List (List Key × V)} {A : Around} {Q : Value → Shared → Prop} (hu : A.units + 1 < cLine) (I : Inv X pins σ H s) (ha : H a = some (.dT kvs)) (hb : H b = some (.tup (q.map kV))) (rz : RelV z r) (hl : kvs.length < sizeLine)
    (old : ∀ v, valV kvs q = some v → ∀ (u : Value) (s' : Shared), Inv X pins σ H s' → RelV v u → Q u s') (new : valV kvs q = none → ∀ (u : Value) (s' : Shared), Inv X pins σ (upd H a (.dT (putK kvs q z))) s' → RelV z u → Q u s') :
    wpAny (model X.prog X.w) A (call (.builtin "dict.setdefault") [.ref a, .ref b, r]) Q E s := by
  obtain ⟨fit, hsys, ents, rel, dd⟩ := dt_of I.hok ha
  have hv := KT.val rel q
  refine call_setdefault_heap (hsz := by rw [← Paired.length rel]; exact fit) (tupleKind_room_in1 hu) (key_of I.hok hb) hsys dd (fun p hp => ?_) fun hn h' d2 same => ?_
  · rw [hp] at hv
    cases e : valV kvs q with
    | none => rw [e] at hv; exact (show False from hv).elim
    | some v => rw [e] at hv; exact old v e _ _ (I.tok _) hv
  · rw [hn] at hv
    cases e : valV kvs q with
    | some v => rw [e] at hv; exact (show False from hv).elim
    | none =>
      obtain ⟨o', es, ep, ho', g2, g3, g4, _, g5⟩ := d2
      have fit2 : (putK kvs q z).length ≤ sizeLine := Nat.le_trans (length_putK kvs q z) hl
      refine new e _ _ (d_write (t' := _) I (by rw [ha]; exact True.intro) same ⟨o', ho'⟩ ⟨fit2, hsys, _, (KT.put rel q hb rz).keeps fun c ys ec => ?_, o', es, ep, ho', g2, g3, g4, g5⟩) rz
      exact (upd_ne (ne_of ec ha fun y => nomatch y)).trans ec
end
/-- d.setdefault(y, z), the dict's keys being tuples -/
def tSetDef (td ty tx : TE) : TE := fun σ H Q => td σ H fun x H1 => ∃ a, x = .ref a ∧ IsD H1 a ∧ ty σ H1 fun y H2 => tx σ H2 fun z H3 => ∃ (kvs : List (List Key × V)) (q : List Key) (b : Addr), H3 a = some (.dT kvs) ∧ y = .ref b ∧ H3 b = some (.tup (q.map kV)) ∧ kvs.length < sizeLine ∧
  (∀ v, valV kvs q = some v → Q v H3) ∧ (valV kvs q = none → Q z (upd H3 a (.dT (putK kvs q z))))
theorem pe_setDef {X : Cx} {o e f : Expr} {td ty tx : TE} {apos cpos : Pos} (hu : X.A.units + 1 < cLine) (ho : PE X o td) (he : PE X e ty) (hf : PE X f tx) (m : M2 X o "setdefault" apos e f cpos) : PE X (.Call (.Attribute o "setdefault" apos) [e, f] [] cpos) (tSetDef td ty tx) := by
  constructor
  intro pins s σ H Q I h
  refine wpAny_Call_method m.base m.few m.line PySem.F.plainAttrs_dict PySem.F.slot_dict_setdefault PySem.F.type_dict_setdefault (thn (ho.run pins s σ H _ I h) ?_)
  rintro u s1 ⟨x, H1, I1, rx, a, ex, hd, h1⟩
  subst ex
  obtain rfl : u = Value.ref a := rx
  refine ⟨(isD_at I1 hd).1, (isD_at I1 hd).2.1, ?_⟩
  rw [m.trees]
  refine Calls.callWith_builtin rfl (Calls.evalArgs_plain (Calls.spliced_cons (thn (he.run pins s1 σ H1 _ I1 h1) ?_)))
  rintro u2 s2 ⟨y, H2, I2, ry, h2⟩
  refine Calls.spliced_cons (thn (hf.run pins s2 σ H2 _ I2 h2) ?_)
  rintro u3 s3 ⟨z, H3, I3, rz, kvs, q, b, ea, ey, eb, hl, h3, h4⟩
  subst ey
  cases ry
  exact Calls.spliced_nil (setdef_tup hu I3 ea eb rz hl (fun v hv u4 s4 I4 r4 => ⟨v, _, I4, r4, h3 v hv⟩) fun hn u4 s4 I4 r4 => ⟨z, _, I4, r4, h4 hn⟩)

/-! d.items() of a dict whose keys are tuples: it is locked from then on -/
def ItiT (d : Addr) (o : Obj) (kvs : List (List Key × V)) : It :=
  ⟨fun i H => H d = some (.frz o (.dT kvs)) ∧ i < kvs.length, fun i H x H' => ∃ T k v q, kvs[i]? = some (k, v) ∧ H q = some (.tup (k.map kV)) ∧ x = .ref T ∧ H T = none ∧ H' = upd H T (.tup [.ref q, v]), fun i H => H d = some (.frz o (.dT kvs)) ∧ kvs.length ≤ i⟩
theorem frzT_all {X : Cx} {pins : List (Addr × Obj)} {σ : L2.St} {H : Hp} {s : Shared} {d : Addr} {o : Obj} {kvs : List (List Key × V)} (I : Inv X pins σ H s) (h : H d = some (.frz o (.dT kvs))) :
    (d == sysModules) = false ∧ ∃ (es : Array DictEntry) (ep : Nat), o.data = .dict es ep ∧ DT.Raw s.heap d es ep ∧ es.size = kvs.length ∧
      ∀ (i : Nat) (k : List Key) (v : V), kvs[i]? = some (k, v) → ∃ (hi : i < es.size) (q : Addr), es[i].key = .ref q ∧ H q = some (.tup (k.map kV)) ∧ RelV v es[i].val := by
  obtain ⟨hd, fit, hs, xs, pr, o', es, ep, ho, hx, hdt, he, _⟩ := I.hok d _ h
  rw [hd] at ho
  cases ho
  refine ⟨hs, es, ep, hdt, ⟨o, hd, hx, hdt⟩, ?_, fun i k v e => ?_⟩
  · rw [size_of_entries he, ← Paired.length pr]
  · obtain ⟨c, hc, e1, e2, e3⟩ := paired_get pr e
    have w := entry_at he i
    rw [hc] at w
    obtain ⟨hi, w2⟩ := Array.getElem?_eq_some_iff.mp w
    exact ⟨hi, c.2.1, by rw [w2]; rfl, e2, by rw [w2]; exact e3⟩
section
variable {P : Program} {w : World} {K : PySem.W.Frag} {d : Addr} {o : Obj}
theorem turn_itemsT {es : Array DictEntry} {ep : Nat} {kvs : List (List Key × V)} {elts : List Expr} {kk : Nat} {tpos : Pos} (it : Addr) (hod : o.data = .dict es ep) (hz : es.size = kvs.length) :
    Turn P w K (.Tuple elts kk tpos) (ItiT d o kvs) [it] it (fun i h => ∃ ok ov, IsItemIter h it d i es.size ep ok ov) where
  mem := List.mem_singleton.mpr rfl
  obj := fun i h ⟨ok, ov, e⟩ b hb => by
    rw [List.mem_singleton.mp hb]
    exact ⟨_, e, fun v z => nomatch z⟩
  keep := fun i h h' ⟨ok, ov, e⟩ k => ⟨ok, ov, k it (List.mem_singleton.mpr rfl) _ e⟩
  item := fun X hP hw hK hc i pins s σ H E I hf ⟨ok, ov, st⟩ ⟨hd, hi⟩ => by
    subst hP hw hK
    obtain ⟨hs, es', ep', hdt, raw, hz', ent⟩ := frzT_all I hd
    obtain ⟨rfl, rfl⟩ := dict_ep hod hdt
    obtain ⟨hi', q, ek, eq, ev⟩ := ent i kvs[i].1 kvs[i].2 (List.getElem?_eq_getElem hi)
    have hlt : it < s.heap.objs.size := Heap.lt_size st
    refine DT.nextI st raw hi' fun h1 out hT _ hk => ⟨_, rfl, wpAny_letOwnedTupleGo_items (s := { s with heap := h1 }) out fun h2 st2 same => ?_⟩
    have hT2 := (same.2 _ (Nat.ne_of_gt hlt)).trans hT
    rw [ek] at hT2
    have I2 : Inv X pins σ (upd H s.heap.objs.size (.tup [.ref q, kvs[i].2])) { s with heap := h2 } :=
      I.turnedNew (t' := s.toks) (ch := [it]) (fun b ob hb e => (same.2 b (fun z => hb (List.mem_singleton.mpr z))).trans (hk b ob (fun z => hb (List.mem_singleton.mpr z)) e)) hf (Nat.le_refl _)
        ⟨by show 2 ≤ sizeLine; decide, [.ref q, es'[i].val], .cons rfl (.cons ev .nil), ⟨_, hT2, rfl, _, rfl⟩⟩
    refine ⟨.ref s.heap.objs.size, _, I2, rfl, ⟨_, _, _, q, List.getElem?_eq_getElem hi, eq, rfl, I.hok.fresh (Nat.le_refl _), rfl⟩, ⟨_, _, st2⟩, fun b hb => ?_⟩
    rw [List.mem_singleton.mp hb, upd_ne (Nat.ne_of_lt hlt)]
    exact (hf it (List.mem_singleton.mpr rfl)).1
  done := fun X hP hw hK hc i pins s σ H E I hf ⟨ok, ov, st⟩ ⟨hd, hi⟩ => by
    subst hP hw hK
    obtain ⟨hs, es', ep', hdt, raw, hz', ent⟩ := frzT_all I hd
    obtain ⟨rfl, rfl⟩ := dict_ep hod hdt
    obtain ⟨f0, f1, f2, f3, f4, f5⟩ := hf it (List.mem_singleton.mpr rfl)
    exact DT.endI (I.ok.hd hc) st raw (by omega) fun h' eb => ⟨rfl, I.turned (t' := s.toks) (fun b ob hb e => eb b ob hb e) f0 f1 f3 f4 f5⟩
  self := fun A i s Q E ⟨ok, ov, st⟩ h => PySem.W.kcp_self st h
/-- e.items(), e's value a dict with tuple keys: locked, and never let go -/
def iItemsT (td : TE) : TI := fun σ H R => td σ H fun x H1 => ∃ d kvs, x = .ref d ∧ H1 d = some (.dT kvs) ∧ ∀ o, R (ItiT d o kvs) (upd H1 d (.frz o (.dT kvs)))
theorem pi_itemsT {X : Cx} {e : Expr} {td : TE} {apos cpos : Pos} {elts : List Expr} {kk : Nat} {tpos : Pos} (he : PE X e td) (hbase : attributeBase e "items" X.env (eval e X.env) = eval e X.env := by rfl) (hline : (apos.endLine == cpos.line) = true := by rfl) :
    PI X (.Tuple elts kk tpos) (.Call (.Attribute e "items" apos) [] [] cpos) (iItemsT td) := ⟨fun pins s σ H R I h => by
  refine wpAny_Call_method (T := "dict") (id := "dict.items") hbase rfl hline F.plainAttrs_dict F.slot_dict_items F.type_dict_items (thn (he.run pins s σ H _ I h) fun u s1 ⟨x, H1, I1, rx, d, kvs, ex, hd, q⟩ => ?_)
  subst ex
  obtain rfl : u = Value.ref d := rx
  obtain ⟨o, I2⟩ := I1.lock hd True.intro
  obtain ⟨hs, es, ep, hdt, raw, hz, ent⟩ := frzT_all I2 upd_same
  obtain ⟨_, nod, _⟩ := isD_at I1 (.inr ⟨_, .inl hd⟩)
  refine ⟨raw.typeIs, nod, ?_⟩
  show wpAny _ _ (callWith cpos (.builtin "dict.items") [.ref d] [] []) _ X.xe s1
  have I3 : Inv X pins σ (upd H1 d (.frz o (.dT kvs))) { s1 with heap := s1.heap.push { cls := .type "dict_items", data := .fields #[.ref d] } } := I2.kept (t' := s1.toks) fun b ob q => Heap.get?_push_of_some _ q
  refine method_meetsIn F.slot_dict_items F.entry_dict_items rfl (PySem.evalArgs_none ⟨rfl, raw.typeIs, F.args_dict_items_1 _, _, DT.meetsItems (es := es) (ep := ep) hs, raw, ?_⟩)
  refine DT.iterI (d := d) ⟨_, Heap.get?_push_size _ rfl, rfl, rfl⟩ (raw.push _) (pi_one (tk := s1.toks) I3 _ (turn_itemsT _ hdt hz) ⟨.none, .none, ?_⟩ (q o))
  exact Heap.get?_push_size _ rfl⟩
end

/-! xs[i] op= e, xs a list -/
section
variable {X : Cx}
/-- what stands in a list at a place -/
def rAtL (K : PySem.W.Frag) : V → V → Hp → VK → Prop := fun x y H Q => ∃ p xs i v, x = .ref p ∧ y = .int i ∧ SqL K H p xs ∧ 0 ≤ i ∧ xs[i.toNat]? = some v ∧ Q v H
theorem pg_atL : PGet X (rAtL X.K) := by
  intro pins s σ H x y u1 u2 Q I rx ry ⟨p, xs, i, z, ex, ey, hq, h0, he, q⟩
  subst ex ey
  cases rx
  obtain ⟨t, rfl⟩ := ry
  obtain ⟨its, r, pl, hz⟩ := I.list hq
  obtain ⟨w, ew, rw'⟩ := r.get he
  have hl := r.length
  have hi : i.toNat < its.length := (List.getElem?_eq_some_iff.mp ew).1
  have hn := line63
  exact wpAny_getItem_list pl.isList h0 (by omega) (by simpa using ew) ⟨z, H, I, rw', q⟩
end
end PW
end
section
/-! PWBig: an object with fields, some of them own lists and dicts (cells). -/
namespace PW
open PySem PySem.Spec PyProof.Rows L2
/-- what a field holds: data, or an own object at p -/
inductive Fv where
  | dat (d : D) | cell (p : Addr) (d : D)
def FvOk (M : Addr → Prop) (K : PySem.W.Frag) (H : Hp) (v : V) : Fv → Prop
  | .dat d => Da M K H v d
  | .cell p d => v = .ref p ∧ OwnAt M K H p d
def FvAll (M : Addr → Prop) (K : PySem.W.Frag) (H : Hp) : List V → List Fv → Prop
  | [], [] => True
  | v :: vs, f :: fs => FvOk M K H v f ∧ FvAll M K H vs fs
  | _, _ => False
def cells : List Fv → List Addr
  | [] => []
  | .dat _ :: r => cells r
  | .cell p _ :: r => p :: cells r
/-- an instance of C at a with such fields -/
def ObS (K : PySem.W.Frag) (C a : Addr) (ns : List Str) (fs : List Fv) : (Addr → Prop) → Hp → Prop := fun M H => (a :: cells fs).Nodup ∧ ∃ dx vs, H a = some (.ins C dx vs) ∧ vs.map (·.1) = ns ∧ FvAll M K H (vs.map (·.2)) fs
abbrev ob (K : PySem.W.Frag) (C a : Addr) (ns : List Str) (fs : List Fv) : Ent := .big (a :: cells fs) (.ref a) (ObS K C a ns fs)
section
variable {M M' : Addr → Prop} {K : PySem.W.Frag} {H H' : Hp} {C a p : Addr} {ns : List Str} {fs : List Fv} {f : Str}
theorem FvOk.mono {v : V} {x : Fv} (h : FvOk M K H v x) (g : ∀ b o, ¬ M b → H b = some o → ¬ M' b ∧ H' b = some o) (hc : ∀ p d, x = .cell p d → ∀ o, H p = some o → H' p = some o) : FvOk M' K H' v x := by
  cases x with
  | dat d => exact Da.mono h g
  | cell p d => exact ⟨h.1, h.2.mono g (hc p d rfl)⟩
theorem FvAll.mono : ∀ {fs : List Fv} {vs : List V}, FvAll M K H vs fs → (∀ b o, ¬ M b → H b = some o → ¬ M' b ∧ H' b = some o) → (∀ b ∈ cells fs, ∀ o, H b = some o → H' b = some o) → FvAll M' K H' vs fs
  | [], [], _, _, _ => trivial
  | [], _ :: _, h, _, _ => h.elim
  | _ :: _, [], h, _, _ => h.elim
  | x :: fs, v :: vs, h, g, hc => by
    refine ⟨h.1.mono g fun p d e o => ?_, FvAll.mono h.2 g fun b hb o => hc b ?_ o⟩
    · subst e
      exact hc p (List.mem_cons_self ..) o
    · cases x with
      | dat d => exact hb
      | cell p d => exact List.mem_cons_of_mem _ hb
theorem FvAll.nt : ∀ {fs : List Fv} {vs : List V}, FvAll M K H vs fs → ∀ b ∈ cells fs, NT (H b)
  | [], _, _, b, hb => nomatch hb
  | _ :: _, [], h, _, _ => h.elim
  | .dat d :: fs, v :: vs, h, b, hb => FvAll.nt h.2 b hb
  | .cell p d :: fs, v :: vs, h, b, hb => by
    rcases List.mem_cons.mp hb with e | hb
    · rw [e]; exact h.1.2.nt
    · exact FvAll.nt h.2 b hb
theorem obS_stab : Stab (a :: cells fs) (ObS K C a ns fs) := fun M H M' H' ⟨hn, dx, vs, h1, h2, h3⟩ g same => by
  refine ⟨hn, dx, vs, by rw [same a (List.mem_cons_self ..)]; exact h1, h2, h3.mono g fun b hb o e => ?_⟩
  rw [same b (List.mem_cons_of_mem _ hb)]
  exact e
theorem ObS.nt (h : ObS K C a ns fs M H) : ∀ b ∈ a :: cells fs, NT (H b) := fun b hb => by
  obtain ⟨_, dx, vs, h1, h2, h3⟩ := h
  rcases List.mem_cons.mp hb with e | hb
  · rw [e, h1]; trivial
  · exact h3.nt b hb
def fvget : List Str → List Fv → Str → Option Fv
  | n :: ns, x :: fs, f => if n = f then some x else fvget ns fs f
  | _, _, _ => none
def fvset : List Str → List Fv → Str → Fv → List Fv
  | n :: ns, x :: fs, f, y => if n = f then y :: fs else x :: fvset ns fs f y
  | _, _, _, y => [y]
def nsput (ns : List Str) (f : Str) : List Str := if ns.contains f = true then ns else ns ++ [f]
theorem lookup_cons {α : Type} {n f : Str} {v : α} {r : List (Str × α)} : ((n, v) :: r).lookup f = if n = f then some v else r.lookup f := by
  rw [List.lookup_cons]
  by_cases e : f = n
  · rw [if_pos e.symm, e, beq_self_eq_true]
  · rw [if_neg fun z => e z.symm, beq_eq_false_iff_ne.mpr e]
theorem fv_look {x : Fv} : ∀ {vs : List (Str × V)} {fs : List Fv}, FvAll M K H (vs.map (·.2)) fs → fvget (vs.map (·.1)) fs f = some x → ∃ v, vs.lookup f = some v ∧ FvOk M K H v x
  | [], [], _, e => by cases e
  | [], _ :: _, h, _ => h.elim
  | _ :: _, [], h, _ => h.elim
  | (n, v) :: vs, y :: fs, h, e => by
    have e : (if n = f then some y else fvget (vs.map (·.1)) fs f) = some x := e
    rw [lookup_cons]
    by_cases z : n = f
    · rw [if_pos z] at e ⊢
      cases e
      exact ⟨v, rfl, h.1⟩
    · rw [if_neg z] at e ⊢
      exact fv_look h.2 e
theorem fv_mem {d : D} : ∀ {ns : List Str} {fs : List Fv}, fvget ns fs f = some (.cell p d) → p ∈ cells fs
  | [], _, e => by cases e
  | _ :: _, [], e => by cases e
  | n :: ns, x :: fs, e => by
    have e : (if n = f then some x else fvget ns fs f) = some (.cell p d) := e
    by_cases z : n = f
    · rw [if_pos z] at e
      cases e
      exact List.mem_cons_self ..
    · rw [if_neg z] at e
      have ih := fv_mem e
      cases x with
      | dat _ => exact ih
      | cell q _ => exact List.mem_cons_of_mem _ ih
/-- a cell is changed -/
theorem fv_write {d d' : D} : ∀ {vs : List (Str × V)} {fs : List Fv}, FvAll M K H (vs.map (·.2)) fs → fvget (vs.map (·.1)) fs f = some (.cell p d) → (cells fs).Nodup → OwnAt M' K H' p d' →
    (∀ b o, ¬ M b → H b = some o → ¬ M' b ∧ H' b = some o) → (∀ b, b ≠ p → ∀ o, H b = some o → H' b = some o) → FvAll M' K H' (vs.map (·.2)) (fvset (vs.map (·.1)) fs f (.cell p d')) ∧ cells (fvset (vs.map (·.1)) fs f (.cell p d')) = cells fs
  | [], [], _, e, _, _, _, _ => by cases e
  | [], _ :: _, h, _, _, _, _, _ => h.elim
  | _ :: _, [], h, _, _, _, _, _ => h.elim
  | (n, v) :: vs, y :: fs, h, e, hn, ho, g, hb => by
    have e : (if n = f then some y else fvget (vs.map (·.1)) fs f) = some (.cell p d) := e
    show FvAll M' K H' (v :: vs.map (·.2)) (if n = f then (.cell p d') :: fs else y :: fvset (vs.map (·.1)) fs f (.cell p d')) ∧ cells (if n = f then (.cell p d') :: fs else y :: fvset (vs.map (·.1)) fs f (.cell p d')) = _
    by_cases z : n = f
    · rw [if_pos z] at e ⊢
      cases e
      have hn2 := List.nodup_cons.mp (show (p :: cells fs).Nodup from hn)
      exact ⟨⟨⟨h.1.1, ho⟩, h.2.mono g fun b hbm o eo => hb b (fun w => hn2.1 (by rw [← w]; exact hbm)) o eo⟩, rfl⟩
    · rw [if_neg z] at e ⊢
      have e' : fvget (vs.map (·.1)) fs f = some (.cell p d) := e
      have hp := fv_mem e'
      cases y with
      | dat x =>
        obtain ⟨i1, i2⟩ := fv_write h.2 e' hn ho g hb
        exact ⟨⟨h.1.mono g (fun _ _ z => nomatch z), i1⟩, i2⟩
      | cell q x =>
        have hn2 := List.nodup_cons.mp (show (q :: cells fs).Nodup from hn)
        obtain ⟨i1, i2⟩ := fv_write h.2 e' hn2.2 ho g hb
        refine ⟨⟨h.1.mono g fun p2 d2 e2 o eo => ?_, i1⟩, ?_⟩
        · cases e2
          exact hb _ (fun w => hn2.1 (by rw [w]; exact hp)) o eo
        · show q :: cells _ = q :: cells fs
          rw [i2]
end
section
variable {K : PySem.W.Frag} {F : Fr} {H H' : Hp} {σ : L2.St} {ρ : List Ent} {C a p : Addr} {ns : List Str} {fs : List Fv} {f : Str} {i : Nat} {d d' : D} {o' : HO}
theorem ob_at (E : Env K F H σ ρ) (hi : ρ[i]? = some (ob K C a ns fs)) : σ[i]? = some (some (.ref a)) ∧ ObS K C a ns fs (hot F σ ρ) H := ⟨(E.slot i _ hi).1, (E.slot i _ hi).2.1⟩
theorem ob_hot (hi : ρ[i]? = some (ob K C a ns fs)) {b : Addr} (hb : b ∈ a :: cells fs) : hot F σ ρ b := .inr ⟨i, .big hi hb⟩
theorem ob_look {x : Fv} (E : Env K F H σ ρ) (hi : ρ[i]? = some (ob K C a ns fs)) (hf : fvget ns fs f = some x) : ∃ dx vs v, σ[i]? = some (some (.ref a)) ∧ H a = some (.ins C dx vs) ∧ vs.lookup f = some v ∧ FvOk (hot F σ ρ) K H v x := by
  obtain ⟨h0, hn, dx, vs, h1, h2, h3⟩ := ob_at E hi
  subst h2
  obtain ⟨v, e1, e2⟩ := fv_look h3 hf
  exact ⟨dx, vs, v, h0, h1, e1, e2⟩
/-- a cell's object is written -/
theorem ob_write (E : Env K F H σ ρ) (hi : ρ[i]? = some (ob K C a ns fs)) (hf : fvget ns fs f = some (.cell p d)) (ho : OwnAt (hot F σ ρ) K (upd H p o') p d') :
    Env K F (upd H p o') σ (ρ.set i (ob K C a ns (fvset ns fs f (.cell p d')))) ∧ Keep (hot F σ ρ) H (hot F σ (ρ.set i (ob K C a ns (fvset ns fs f (.cell p d'))))) (upd H p o') := by
  obtain ⟨h0, hn, dx, vs, h1, h2, h3⟩ := ob_at E hi
  subst h2
  have il : i < ρ.length := (List.getElem?_eq_some_iff.mp hi).1
  have hp : p ∈ cells fs := fv_mem hf
  have pa : p ≠ a := fun z => (List.nodup_cons.mp hn).1 (by rw [← z]; exact hp)
  have hph : hot F σ ρ p := ob_hot hi (List.mem_cons_of_mem _ hp)
  have up : ∀ b o, b ≠ p → H b = some o → upd H p o' b = some o := fun b o n e => by rw [upd_ne n]; exact e
  have w := fun (M' : Addr → Prop) (ho' : OwnAt M' K (upd H p o') p d') (g : ∀ b o, ¬ hot F σ ρ b → H b = some o → ¬ M' b ∧ upd H p o' b = some o) => fv_write h3 hf (List.nodup_cons.mp hn).2 ho' g fun b n o e => up b o n e
  have ec : cells (fvset (vs.map (·.1)) fs f (.cell p d')) = cells fs := (w (hot F σ ρ) ho fun b o n e => ⟨n, up b o (fun z => n (by rw [z]; exact hph)) e⟩).2
  have less : ∀ b, hot F σ (ρ.set i (ob K C a (vs.map (·.1)) (fvset (vs.map (·.1)) fs f (.cell p d')))) b → hot F σ ρ b := fun b h => by
    rcases h with h | ⟨j, h⟩
    · exact .inl h
    · rcases h.put with ⟨e1, q, _⟩ | ⟨_, q⟩
      · subst e1
        have q : b ∈ a :: cells (fvset (vs.map (·.1)) fs f (.cell p d')) := q
        rw [ec] at q
        exact ob_hot hi q
      · exact .inr ⟨j, q⟩
  have cold : ∀ b o, ¬ hot F σ ρ b → H b = some o → ¬ hot F σ (ρ.set i (ob K C a (vs.map (·.1)) (fvset (vs.map (·.1)) fs f (.cell p d')))) b ∧ upd H p o' b = some o := fun b o n e => ⟨fun z => n (less b z), up b o (fun z => n (by rw [z]; exact hph)) e⟩
  have s2 : ObS K C a (vs.map (·.1)) (fvset (vs.map (·.1)) fs f (.cell p d')) (hot F σ (ρ.set i (ob K C a (vs.map (·.1)) (fvset (vs.map (·.1)) fs f (.cell p d'))))) (upd H p o') :=
    ⟨by rw [ec]; exact hn, dx, vs, up a _ (Ne.symm pa) h1, rfl, (w _ (ho.mono (fun b o n e => ⟨fun z => n (less b z), e⟩) fun _ z => z) cold).1⟩
  refine E.redo hi (fun b z => .inl ?_) (fun b o n e => up b o (fun z => n (by rw [z]; exact List.mem_cons_of_mem _ hp)) e) ⟨h0, s2, obS_stab, s2.nt⟩
  have z : b ∈ a :: cells (fvset (vs.map (·.1)) fs f (.cell p d')) := z
  rw [ec] at z
  exact z
end

/-! ### rules on fields -/
section
variable {K : PySem.W.Frag} {ρ : List Ent} {k : KE} {Φ : Post} {te tk tv ti : TE} {C a p : Addr} {ns : List Str} {fs : List Fv} {f : Str} {i : Nat}
/-- self.f, data -/
theorem xe_fldD {d : D} (hi : ρ[i]? = some (ob K C a ns fs)) (hC : Cls K C) (hN : NoAttr K C f) (hf : fvget ns fs f = some (.dat d)) (g : k (.d d) ρ) : XE K (tFld K (tVar i) f) ρ k := fun F H σ Q E q => by
  obtain ⟨dx, vs, v, h0, h1, h2, h3⟩ := ob_look E hi hf
  exact ⟨.ref a, h0, a, C, dx, vs, v, rfl, h1, hC, hN, h2, q v H (.d d) ρ (hotR.d (Keep.refl _ _)) ⟨E, h3⟩ g⟩
/-- self.f is looked at: a cell -/
theorem cell_of {d : D} {F : Fr} {H : Hp} {σ : L2.St} {Q : VK} (E : Env K F H σ ρ) (hi : ρ[i]? = some (ob K C a ns fs)) (hC : Cls K C) (hN : NoAttr K C f) (hf : fvget ns fs f = some (.cell p d)) (q : OwnAt (hot F σ ρ) K H p d → hot F σ ρ p → Q (.ref p) H) : tFld K (tVar i) f σ H Q := by
  obtain ⟨dx, vs, w, h0, h1, h2, h3, h4⟩ := ob_look E hi hf
  subst h3
  exact ⟨.ref a, h0, a, C, dx, vs, .ref p, rfl, h1, hC, hN, h2, q h4 (ob_hot hi (List.mem_cons_of_mem _ (fv_mem hf)))⟩
/-- e in self.f, a dict -/
theorem xe_inC {ks : List (List Key)} {xs : List D} (hC : Cls K C) (hN : NoAttr K C f) (hf : fvget ns fs f = some (.cell p (.dct ks xs)))
    (h : XE K tk ρ fun r ρ1 => ∃ q, peek ρ1 r = some (keyD q) ∧ ρ1[i]? = some (ob K C a ns fs) ∧ k (.d (.bl (dget ks xs q).isSome)) ρ1) : XE K (tOp rInK tk (tFld K (tVar i) f)) ρ k := fun F H σ Q E q =>
  h F H σ _ E fun v H1 r ρ1 kp R ⟨kq, pk, hi, g⟩ => cell_of R.env hi hC hN hf fun ho hp => by
    obtain ⟨b, o, e1, e2, e3⟩ := get_some (R.held.pk R.env pk) (.inr ⟨p, rfl, hp, ho⟩)
    refine ⟨b, o, e1, e2, ?_⟩
    rw [e3]
    exact q _ H1 (.d (.bl _)) ρ1 (hotR.d (hotR.hot kp)) ⟨R.env, rfl⟩ g
theorem xe_notInC {ks : List (List Key)} {xs : List D} (hC : Cls K C) (hN : NoAttr K C f) (hf : fvget ns fs f = some (.cell p (.dct ks xs)))
    (h : XE K tk ρ fun r ρ1 => ∃ q, peek ρ1 r = some (keyD q) ∧ ρ1[i]? = some (ob K C a ns fs) ∧ k (.d (.bl (!(dget ks xs q).isSome))) ρ1) : XE K (tOp rNotInK tk (tFld K (tVar i) f)) ρ k := fun F H σ Q E q =>
  h F H σ _ E fun v H1 r ρ1 kp R ⟨kq, pk, hi, g⟩ => cell_of R.env hi hC hN hf fun ho hp => by
    obtain ⟨b, o, e1, e2, e3⟩ := get_some (R.held.pk R.env pk) (.inr ⟨p, rfl, hp, ho⟩)
    refine ⟨b, o, e1, e2, ?_⟩
    rw [e3]
    exact q _ H1 (.d (.bl _)) ρ1 (hotR.d (hotR.hot kp)) ⟨R.env, rfl⟩ g
/-- self.f[q] = y -/
theorem xs_dputC {ks : List (List Key)} {xs : List D} (hC : Cls K C) (hN : NoAttr K C f) (hf : fvget ns fs f = some (.cell p (.dct ks xs))) (hn : ks.Nodup) (hl : ks.length < 100000)
    (h : XE K tv ρ fun r ρ1 => ∃ y, peek ρ1 r = some y ∧ ∃ ρ', frz ρ1 r = ρ' ∧ ρ'[i]? = some (ob K C a ns fs) ∧ XE K tk ρ' fun r2 ρ2 => ∃ q : List Key, r2 = .d (keyD q) ∧ ρ2[i]? = some (ob K C a ns fs) ∧
    ∃ ρ3, ρ2.set i (ob K C a ns (fvset ns fs f (.cell p (.dct (dputK ks q) (dputX ks xs q y))))) = ρ3 ∧ Φ.nx ρ3) : XS K (sDPut (tFld K (tVar i) f) tk tv) ρ Φ := fun F H σ Dn E I => h F H σ _ E fun v H1 r ρ1 kp R ⟨y, py, ρ', eρ, hi', h2⟩ => by
  obtain ⟨E1, d1⟩ := R.frz py
  have kf := keep_frz (r := r) R.env
  rw [eρ] at E1 d1 kf
  refine cell_of E1 hi' hC hN hf fun _ _ => h2 F H1 σ _ E1 fun w H2 r2 ρ2 kp2 R2 ⟨q, e2, he, ρ3, e3, g⟩ => ?_
  subst e2 e3
  obtain ⟨E2, hw⟩ := R2
  obtain ⟨dx, vs, u, h0, h1, h3, h4, kvs, h5, h6, h7⟩ := ob_look E2 he hf
  have hph : hot F σ ρ2 p := ob_hot he (List.mem_cons_of_mem _ (fv_mem hf))
  subst h6
  obtain ⟨b, eb, hb⟩ := key_at (.inl hw)
  have hl2 : kvs.length < sizeLine := by rw [List.length_map] at hl; rw [sizeLine_eq]; omega
  have dy : Da (hot F σ ρ2) K H2 v y := d1.mono (hotR.hot kp2)
  have k1 := ((hotR.hot kp).trans kf).trans (hotR.hot kp2)
  have ho' : OwnAt (hot F σ ρ2) K (upd H2 p (.dT (putK kvs q v))) p (.dct (dputK (kvs.map (·.1)) q) (dputX (kvs.map (·.1)) xs q y)) :=
    ⟨_, upd_same, putK_keys kvs, (putK_vals dy hn h7).mono fun c o m e => ⟨m, by rw [upd_ne fun z => m (by rw [z]; exact hph)]; exact e⟩⟩
  obtain ⟨E3, k3⟩ := ob_write E2 he hf ho'
  exact ⟨p, _, rfl, by rw [eb]; exact DPut.t h5 hb hl2, I.nx _ _ _ (k1.trans k3) E3 g⟩
/-- list(self.f), a dict -/
def rListDT : List V → Hp → VK → Prop := fun xs H Q => ∃ d kvs, xs = [V.ref d] ∧ Rd H d (.dT kvs) ∧ ∀ p bs, H p = none → IsKeys H kvs bs → Q (.ref p) (upd H p (.lst (bs.map V.ref)))
theorem call_listDT {X : Cx} (hc : X.calm = true) : CallR X (.type "list") rListDT := call_list_dT hc
theorem isKeys_keyed {H : Hp} : ∀ {kvs : List (List Key × V)} {bs : List Addr}, IsKeys H kvs bs → Keyed H (kvs.map (·.1)) bs
  | _, _, .nil => .nil
  | _, _, .cons h t => .cons h (isKeys_keyed t)
theorem c_listDT {ks : List (List Key)} {xs : List D} {kk : Res → Prop} (g : kk (.nw (.lst (ks.map keyD)))) : CaD K rListDT [.dct ks xs] kk := fun M H us Q tr hl h fin => by
  match us, hl with
  | [u], _ =>
    obtain ⟨a, kvs, rfl, ha, ek, hx⟩ := pk_dct (h 0 u (.dct ks xs) rfl rfl)
    subst ek
    exact ⟨a, kvs, rfl, .inl ha, fun p bs hp hb => fin _ _ (.nw (.lst _)) (Ext.new hp) (newL (keyed_da tr (isKeys_keyed hb)) hp) g⟩
theorem xe_listC {ks : List (List Key)} {xs : List D} (hi : ρ[i]? = some (ob K C a ns fs)) (hC : Cls K C) (hN : NoAttr K C f) (hf : fvget ns fs f = some (.cell p (.dct ks xs))) (g : k (.nw (.lst (ks.map keyD))) ρ) : XE K (tCB rListDT (tCons (tFld K (tVar i) f) tNil)) ρ k := fun F H σ Q E q =>
  cell_of E hi hC hN hf fun ⟨kvs, h1, h2, h3⟩ _ => by
    subst h2
    refine ⟨p, kvs, rfl, .inl h1, fun l bs hl hb => ?_⟩
    have z := newL (M := hot F σ ρ) (K := K) (keyed_da (hot_tr E) (isKeys_keyed hb)) hl
    exact q _ _ (.nw (.lst _)) ρ (hotR.res (Keep.refl _ _) (Ext.new hl) z) (ResV.rv E (Ext.new hl) z) g
/-- self.f[j], a list -/
theorem xe_ixC {ds : List D} {x : D} {j : Int} (hC : Cls K C) (hN : NoAttr K C f) (hi : ρ[i]? = some (ob K C a ns fs)) (hf : fvget ns fs f = some (.cell p (.lst ds)))
    (h : XE K ti ρ fun r ρ1 => r = .d (.int j) ∧ ρ1[i]? = some (ob K C a ns fs) ∧ 0 ≤ j ∧ ds[j.toNat]? = some x ∧ k (.d x) ρ1) : XE K (tOp (rIx K) (tFld K (tVar i) f) ti) ρ k := fun F H σ Q E q =>
  cell_of E hi hC hN hf fun _ _ => h F H σ _ E fun w H1 r ρ1 kp R ⟨e, he, h0, hx, g⟩ => by
    subst e
    obtain ⟨E1, hw⟩ := R
    obtain ⟨dx, vs, u, _, _, _, _, ws, h5, h6⟩ := ob_look E1 he hf
    obtain ⟨v, e1, e2⟩ := h6.at hx
    have e1' : atI ws j = some v := by
      have hl : j.toNat < ws.length := (List.getElem?_eq_some_iff.mp e1).1
      unfold atI ixN
      rw [if_pos h0, if_pos (by omega)]
      exact e1
    exact .inl ⟨p, ws, j, v, rfl, hw, SqL.of h5, e1', q v H1 (.d x) ρ1 (hotR.d (hotR.hot kp)) ⟨E1, e2⟩ g⟩
/-- self.f[j] op= n, a list of ints -/
theorem xs_augC {ds : List D} {j m : Int} {op : Int → Int → Int} (hC : Cls K C) (hN : NoAttr K C f) (hi : ρ[i]? = some (ob K C a ns fs)) (hf : fvget ns fs f = some (.cell p (.lst ds)))
    (h : XE K ti ρ fun r ρ1 => r = .d (.int j) ∧ ρ1[i]? = some (ob K C a ns fs) ∧ 0 ≤ j ∧ ds[j.toNat]? = some (.int m) ∧ XE K tv ρ1 fun r2 ρ2 => ∃ n, r2 = .d (.int n) ∧ ρ2[i]? = some (ob K C a ns fs) ∧
      ∃ ρ3, ρ2.set i (ob K C a ns (fvset ns fs f (.cell p (.lst (ds.set j.toNat (.int (op m n))))))) = ρ3 ∧ Φ.nx ρ3) : XS K (tAugS (tFld K (tVar i) f) ti tv (rAtL K) (ipI op) rSetL) ρ Φ := fun F H σ Dn E I =>
  cell_of E hi hC hN hf fun _ _ => h F H σ _ E fun w H1 r ρ1 kp R ⟨e, he, h0, hx, h2⟩ => by
    subst e
    obtain ⟨E1, hw⟩ := R
    obtain ⟨dx, vs, u, _, _, _, _, ws, h5, h6⟩ := ob_look E1 he hf
    obtain ⟨v, e1, e2⟩ := h6.at hx
    have ev : v = .int m := e2
    subst ev
    refine ⟨p, ws, j, .int m, rfl, hw, SqL.of h5, h0, e1, h2 F H1 σ _ E1 fun w2 H2 r2 ρ2 kp2 R2 ⟨n, er, he2, ρ3, e3, g⟩ => ?_⟩
    subst er e3
    obtain ⟨E2, hw2⟩ := R2
    obtain ⟨dx2, vs2, u2, _, _, _, _, ws2, h7, h8⟩ := ob_look E2 he2 hf
    have hph : hot F σ ρ2 p := ob_hot he2 (List.mem_cons_of_mem _ (fv_mem hf))
    have hl : j.toNat < ws2.length := by rw [h8.length]; exact (List.getElem?_eq_some_iff.mp hx).1
    refine ⟨m, n, rfl, hw2, p, ws2, j, j.toNat, rfl, hw, h7, ?_, ?_⟩
    · unfold ixN
      rw [if_pos h0, if_pos (by omega)]
    · have ho' : OwnAt (hot F σ ρ2) K (upd H2 p (.lst (ws2.set j.toNat (.int (op m n))))) p (.lst (ds.set j.toNat (.int (op m n)))) := ownL hph (h8.set rfl)
      obtain ⟨E3, k3⟩ := ob_write E2 he2 hf ho'
      exact I.nx _ _ _ (((hotR.hot kp).trans (hotR.hot kp2)).trans k3) E3 g
end
end PW
end
section
/-! PWBig2: fields stored, methods and constructors of objects with cells. -/
namespace PW
open PySem PySem.Spec PyProof.Rows L2
section
variable {K : PySem.W.Frag} {F : Fr} {H H' : Hp} {σ : L2.St} {ρ : List Ent} {p : Addr} {i : Nat}
/-- as Env.redo; a new object, that nobody knows, is the entry's own from now on -/
theorem Env.redoN {e e' : Ent} (E : Env K (F.push p) H σ ρ) (h0 : F.H0 p = none) (nh : ¬ hot F σ ρ p) (he : ρ[i]? = some e) (sub : ∀ b, e'.owns σ[i]? b → e.owns σ[i]? b ∨ b = p)
    (up : ∀ b o, ¬ e.owns σ[i]? b → H b = some o → H' b = some o) (hs : SlotOk K F (hot F σ (ρ.set i e')) H' σ[i]? e') :
    Env K F H' σ (ρ.set i e') ∧ ∀ b o, ¬ hot (F.push p) σ ρ b → H b = some o → ¬ hot F σ (ρ.set i e') b ∧ H' b = some o := by
  have E0 := E.pop h0
  have il : i < ρ.length := (List.getElem?_eq_some_iff.mp he).1
  have nM : ¬ F.M p := fun z => nh (.inl z)
  have own : ∀ (j : Nat) (b : Addr), Owns σ (ρ.set i e') j b → Owns σ ρ j b ∨ (j = i ∧ b = p) := fun j b h => by
    rcases h.put with ⟨e1, q, _⟩ | ⟨_, q⟩
    · subst e1
      exact (sub b q).elim (fun z => .inl ⟨e, he, z⟩) fun z => .inr ⟨rfl, z⟩
    · exact .inl q
  have less : ∀ b, hot F σ (ρ.set i e') b → hot (F.push p) σ ρ b := fun b h => by
    rcases h with h | ⟨j, h⟩
    · exact .inl (.inl h)
    · rcases own j b h with q | ⟨_, q⟩
      · exact .inr ⟨j, q⟩
      · exact .inl (.inr q)
  have cold : ∀ b o, ¬ hot (F.push p) σ ρ b → H b = some o → ¬ hot F σ (ρ.set i e') b ∧ H' b = some o := fun b o n ee => ⟨fun z => n (less b z), up b o (fun z => n (.inr ⟨i, e, he, z⟩)) ee⟩
  refine ⟨⟨by rw [List.length_set]; exact E.len, fun b o n ee => up b o (fun z => ?_) (E.go b o n ee), fun b hb => ?_, fun a ea => ?_, fun j b h => ?_, fun j k b h1 h2 => ?_, fun j e2 hj => ?_, E0.pk⟩, cold⟩
  · have q : F.H0 b = none := (E.newO i b ⟨e, he, z⟩).1
    rw [show F.H0 b = some o from ee] at q
    cases q
  · obtain ⟨o, ho⟩ := Option.ne_none_iff_exists'.mp (E0.trk b hb).ne
    have q := E0.trk b hb
    rw [ho] at q
    rw [up b o (fun z => (E.newO i b ⟨e, he, z⟩).2 (.inl hb)) ho]
    exact q
  · obtain ⟨q1, q2, q3⟩ := E.hand a ea
    exact ⟨(E0.hand a ea).1, q2, HandOk.mono q3 cold fun o z => up a o (fun z => (E.newO i a ⟨e, he, z⟩).2 q1) z⟩
  · rcases own j b h with q | ⟨_, q⟩
    · exact E0.newO j b q
    · rw [q]; exact ⟨h0, nM⟩
  · rcases own j b h1 with q | ⟨e1, q⟩
    · rcases own k b h2 with q' | ⟨e2, q'⟩
      · exact E.injO j k b q q'
      · subst q'
        exact absurd (show hot F σ ρ b from .inr ⟨j, q⟩) nh
    · rcases own k b h2 with q' | ⟨e2, q'⟩
      · subst q
        exact absurd (show hot F σ ρ b from .inr ⟨k, q'⟩) nh
      · rw [e1, e2]
  · rcases set_get hj with ⟨e1, e2, hl⟩ | ⟨n, h⟩
    · subst e1 e2
      exact hs
    · refine (E.slot j e2 h).mono cold (fun q ho o hq => up q o (fun zz => n (E.injO j i q ⟨_, h, ho⟩ ⟨e, he, zz⟩)) hq) ⟨rfl, rfl, rfl⟩
end
section
variable {M M' : Addr → Prop} {K : PySem.W.Frag} {H H' : Hp} {f : Str}
theorem putF_names {v : V} : ∀ vs : List (Str × V), (putF f v vs).map (·.1) = nsput (vs.map (·.1)) f
  | [] => rfl
  | (n, x) :: r => by
    show (if n = f then (n, v) :: r else (n, x) :: putF f v r).map (·.1) = nsput (n :: r.map (·.1)) f
    have ih := putF_names (v := v) r
    unfold nsput at ih ⊢
    by_cases z : n = f
    · rw [if_pos z, List.contains_cons, z, beq_self_eq_true, Bool.true_or, if_pos rfl]
      simp [z]
    · rw [if_neg z, List.contains_cons, beq_eq_false_iff_ne.mpr (Ne.symm z), Bool.false_or, List.map_cons, ih]
      split <;> rfl
theorem putF_fv {v : V} {y : Fv} (hy : FvOk M K H v y) : ∀ {vs : List (Str × V)} {fs : List Fv}, FvAll M K H (vs.map (·.2)) fs → FvAll M K H ((putF f v vs).map (·.2)) (fvset (vs.map (·.1)) fs f y)
  | [], [], _ => ⟨hy, trivial⟩
  | [], _ :: _, h => h.elim
  | _ :: _, [], h => h.elim
  | (n, x) :: r, z :: fs, h => by
    show FvAll M K H ((if n = f then (n, v) :: r else (n, x) :: putF f v r).map (·.2)) (if n = f then y :: fs else z :: fvset (r.map (·.1)) fs f y)
    by_cases e : n = f
    · rw [if_pos e, if_pos e]; exact ⟨hy, h.2⟩
    · rw [if_neg e, if_neg e]; exact ⟨h.1, putF_fv hy h.2⟩
theorem cells_set {y : Fv} : ∀ (ns : List Str) (fs : List Fv), ∀ b ∈ cells (fvset ns fs f y), b ∈ cells fs ∨ ∃ d, y = .cell b d
  | [], fs, b, hb => by
    cases y with
    | dat d => exact (nomatch (show b ∈ cells [] from hb))
    | cell q d => exact .inr ⟨d, by rw [List.mem_singleton.mp (show b ∈ [q] from hb)]⟩
  | _ :: _, [], b, hb => by
    cases y with
    | dat d => exact (nomatch (show b ∈ cells [] from hb))
    | cell q d => exact .inr ⟨d, by rw [List.mem_singleton.mp (show b ∈ [q] from hb)]⟩
  | n :: ns, x :: fs, b, hb => by
    have hb : b ∈ cells (if n = f then y :: fs else x :: fvset ns fs f y) := hb
    by_cases e : n = f
    · rw [if_pos e] at hb
      cases y with
      | dat d =>
        have hb2 : b ∈ cells fs := hb
        cases x with
        | dat _ => exact .inl hb2
        | cell q _ => exact .inl (List.mem_cons_of_mem _ hb2)
      | cell q d =>
        rcases List.mem_cons.mp (show b ∈ q :: cells fs from hb) with w | w
        · exact .inr ⟨d, by rw [w]⟩
        · cases x with
          | dat _ => exact .inl w
          | cell q2 _ => exact .inl (List.mem_cons_of_mem _ w)
    · rw [if_neg e] at hb
      cases x with
      | dat _ => exact cells_set ns fs b hb
      | cell q2 _ =>
        rcases List.mem_cons.mp (show b ∈ q2 :: cells (fvset ns fs f y) from hb) with w | w
        · rw [w]; exact .inl (List.mem_cons_self ..)
        · exact (cells_set ns fs b w).imp (fun z => List.mem_cons_of_mem _ z) id
theorem cells_nd {y : Fv} (hy : ∀ b d, y = .cell b d → True) : ∀ (ns : List Str) (fs : List Fv), (cells fs).Nodup → (∀ b d, y = .cell b d → b ∉ cells fs) → (cells (fvset ns fs f y)).Nodup
  | [], fs, _, _ => by
    cases y with
    | dat d => exact List.nodup_nil
    | cell q d => exact (by simp : [q].Nodup)
  | _ :: _, [], _, _ => by
    cases y with
    | dat d => exact List.nodup_nil
    | cell q d => exact (by simp : [q].Nodup)
  | n :: ns, x :: fs, hn, hq => by
    show (cells (if n = f then y :: fs else x :: fvset ns fs f y)).Nodup
    have hn2 : (cells fs).Nodup := by
      cases x with
      | dat _ => exact hn
      | cell q _ => exact (List.nodup_cons.mp (show (q :: cells fs).Nodup from hn)).2
    have hq2 : ∀ b d, y = .cell b d → b ∉ cells fs := fun b d e z => hq b d e (by
      cases x with
      | dat _ => exact z
      | cell q _ => exact List.mem_cons_of_mem _ z)
    by_cases e : n = f
    · rw [if_pos e]
      cases y with
      | dat d => exact hn2
      | cell q d => exact List.nodup_cons.mpr ⟨hq2 q d rfl, hn2⟩
    · rw [if_neg e]
      have ih := cells_nd hy ns fs hn2 hq2
      cases x with
      | dat _ => exact ih
      | cell q _ =>
        refine List.nodup_cons.mpr ⟨fun z => ?_, ih⟩
        rcases cells_set ns fs q z with w | ⟨d, w⟩
        · exact (List.nodup_cons.mp (show (q :: cells fs).Nodup from hn)).1 w
        · exact hq q d w (List.mem_cons_self ..)
end
section
variable {K : PySem.W.Frag} {ρ : List Ent} {k : KE} {Φ : Post} {te : TE} {C a : Addr} {ns : List Str} {fs : List Fv} {f : Str} {i : Nat}
/-- self.f = e: data; a new object is a cell from now on -/
def sfRes (k : Fv → List Ent → Prop) : Res → List Ent → Prop
  | .d x, ρ => k (.dat x) ρ
  | .nw x, ρ => ∀ p, k (.cell p x) ρ
  | .v _, _ => False
theorem xs_fldC (hC : Cls K C) (hN : NoAttr K C f) (hl : ns.length < 1000) (h : XE K te ρ fun r ρ1 => ρ1[i]? = some (ob K C a ns fs) ∧ sfRes (fun y ρ2 => ∃ ρ3, ρ2.set i (ob K C a (nsput ns f) (fvset ns fs f y)) = ρ3 ∧ Φ.nx ρ3) r ρ1) : XS K (sFld K (tVar i) te f) ρ Φ := fun F H σ Dn E I =>
  h F H σ _ E fun v H1 r ρ1 kp R ⟨hi, g⟩ => by
    obtain ⟨h0, hn, dx, vs, h1, h2, h3⟩ := ob_at R.env hi
    subst h2
    refine ⟨.ref a, h0, a, C, dx, vs, rfl, h1, hC, hN, by rw [List.length_map] at hl; exact hl, ?_⟩
    have il : i < ρ1.length := (List.getElem?_eq_some_iff.mp hi).1
    have ah : hot F σ ρ1 a := ob_hot hi (List.mem_cons_self ..)
    have up : ∀ b o, b ≠ a → H1 b = some o → upd H1 a (.ins C dx (putF f v vs)) b = some o := fun b o n e => by rw [upd_ne n]; exact e
    have hz := List.nodup_cons.mp hn
    cases r with
    | v j => exact g.elim
    | d x =>
      obtain ⟨ρ3, e3, g⟩ := g
      subst e3
      obtain ⟨E1, dx1⟩ := R
      have own : ∀ b ∈ a :: cells (fvset (vs.map (·.1)) fs f (.dat x)), b ∈ a :: cells fs := fun b hb => by
        rcases List.mem_cons.mp hb with w | w
        · rw [w]; exact List.mem_cons_self ..
        · rcases cells_set _ _ b w with w | ⟨_, w⟩
          · exact List.mem_cons_of_mem _ w
          · cases w
      have less : ∀ b, hot F σ (ρ1.set i (ob K C a (nsput (vs.map (·.1)) f) (fvset (vs.map (·.1)) fs f (.dat x)))) b → hot F σ ρ1 b := fun b hb => by
        rcases hb with hb | ⟨j, hb⟩
        · exact .inl hb
        · rcases hb.put with ⟨e1, q, _⟩ | ⟨_, q⟩
          · subst e1
            exact ob_hot hi (own b q)
          · exact .inr ⟨j, q⟩
      have s2 : ObS K C a (nsput (vs.map (·.1)) f) (fvset (vs.map (·.1)) fs f (.dat x)) (hot F σ (ρ1.set i (ob K C a (nsput (vs.map (·.1)) f) (fvset (vs.map (·.1)) fs f (.dat x))))) (upd H1 a (.ins C dx (putF f v vs))) := by
        refine ⟨List.nodup_cons.mpr ⟨fun z => ?_, cells_nd (fun _ _ _ => trivial) _ _ hz.2 fun _ _ z => nomatch z⟩, dx, _, upd_same, putF_names vs, ?_⟩
        · rcases cells_set _ _ a z with w | ⟨_, w⟩
          · exact hz.1 w
          · cases w
        · refine (putF_fv (f := f) (show FvOk (hot F σ ρ1) K H1 v (.dat x) from dx1) h3).mono (fun b o n e => ⟨fun z => n (less b z), up b o (fun z => n (by rw [z]; exact ah)) e⟩) fun b hb o e => up b o (fun z => ?_) e
          rcases cells_set _ _ b hb with w | ⟨_, w⟩
          · exact hz.1 (by rw [← z]; exact w)
          · cases w
      obtain ⟨E3, k3⟩ := E1.redo hi (e' := ob K C a (nsput (vs.map fun (y : Str × V) => y.1) f) (fvset (vs.map fun (y : Str × V) => y.1) fs f (.dat x))) (fun b z => .inl (own b z)) (fun b o n e => up b o (fun z => n (by rw [z]; exact List.mem_cons_self ..)) e) ⟨h0, s2, obS_stab, s2.nt⟩
      exact I.nx _ _ _ ((hotR.hot kp).trans k3) E3 g
    | nw x =>
      obtain ⟨p, ev, hp0, nh, Ep, ho⟩ := R
      subst ev
      obtain ⟨ρ3, e3, g⟩ := g p
      subst e3
      have npc : p ∉ a :: cells fs := fun z => nh (ob_hot hi z)
      have own : ∀ b ∈ a :: cells (fvset (vs.map (·.1)) fs f (.cell p x)), b ∈ a :: cells fs ∨ b = p := fun b hb => by
        rcases List.mem_cons.mp hb with w | w
        · rw [w]; exact .inl (List.mem_cons_self ..)
        · rcases cells_set _ _ b w with w | ⟨_, w⟩
          · exact .inl (List.mem_cons_of_mem _ w)
          · cases w; exact .inr rfl
      have less : ∀ b, hot F σ (ρ1.set i (ob K C a (nsput (vs.map (·.1)) f) (fvset (vs.map (·.1)) fs f (.cell p x)))) b → hot (F.push p) σ ρ1 b := fun b hb => by
        rcases hb with hb | ⟨j, hb⟩
        · exact .inl (.inl hb)
        · rcases hb.put with ⟨e1, q, _⟩ | ⟨_, q⟩
          · subst e1
            rcases own b q with q | q
            · exact .inr ⟨j, .big hi q⟩
            · exact .inl (.inr q)
          · exact .inr ⟨j, q⟩
      have ah2 : hot (F.push p) σ ρ1 a := .inr ⟨i, .big hi (List.mem_cons_self ..)⟩
      have h3p := ((ob_at Ep hi).2.2)
      obtain ⟨dx', vs', h1', h2', h3'⟩ := h3p
      rw [h1] at h1'
      cases h1'
      have s2 : ObS K C a (nsput (vs.map (·.1)) f) (fvset (vs.map (·.1)) fs f (.cell p x)) (hot F σ (ρ1.set i (ob K C a (nsput (vs.map (·.1)) f) (fvset (vs.map (·.1)) fs f (.cell p x))))) (upd H1 a (.ins C dx (putF f (.ref p) vs))) := by
        refine ⟨List.nodup_cons.mpr ⟨fun z => ?_, cells_nd (fun _ _ _ => trivial) _ _ hz.2 fun b d e z => ?_⟩, dx, _, upd_same, putF_names vs, ?_⟩
        · rcases cells_set _ _ a z with w | ⟨_, w⟩
          · exact hz.1 w
          · cases w; exact npc (List.mem_cons_self ..)
        · cases e; exact npc (List.mem_cons_of_mem _ z)
        · refine (putF_fv (f := f) (show FvOk (hot (F.push p) σ ρ1) K H1 (.ref p) (.cell p x) from ⟨rfl, ho⟩) h3').mono (fun b o n e => ⟨fun z => n (less b z), up b o (fun z => n (by rw [z]; exact ah2)) e⟩) fun b hb o e => up b o (fun z => ?_) e
          rcases cells_set _ _ b hb with w | ⟨_, w⟩
          · exact hz.1 (by rw [← z]; exact w)
          · cases w; exact npc (by rw [z]; exact List.mem_cons_self ..)
      obtain ⟨E3, k3⟩ := Ep.redoN hp0 nh hi (e' := ob K C a (nsput (vs.map fun (y : Str × V) => y.1) f) (fvset (vs.map fun (y : Str × V) => y.1) fs f (.cell p x))) (fun b z => own b z) (fun b o n e => up b o (fun z => n (by rw [z]; exact List.mem_cons_self ..)) e) ⟨h0, s2, obS_stab, s2.nt⟩
      refine I.nx _ _ _ (fun b o n e => ?_) E3 g
      obtain ⟨q1, q2⟩ := kp b o n e
      refine k3 b o (fun z => q1 ?_) q2
      rcases z with z | z
      · rcases z with z | z
        · exact .inl (.inl z)
        · rw [z]; exact .inr ⟨⟨x, rfl⟩, rfl⟩
      · exact .inl (.inr z)
end
end PW
end
section
/-! PWBig3: methods and constructors of objects with cells; a comprehension over a cell. -/
namespace PW
open PySem PySem.Spec PyProof.Rows L2
section
variable {M M' : Addr → Prop} {K : PySem.W.Frag} {H H' : Hp} {C a : Addr} {ns : List Str} {fs : List Fv}
/-- fewer hot addresses, the heap as it was -/
theorem ObS.less (h : ObS K C a ns fs M H) (g : ∀ b, M' b → M b) : ObS K C a ns fs M' H := obS_stab _ _ _ _ h (fun b o n e => ⟨fun z => n (g b z), e⟩) fun _ _ => rfl
end
/-- what a method does: w a names fields args k -/
abbrev WM := Addr → List Str → List Fv → List D → (Res → List Fv → Prop) → Prop
def spM (K : PySem.W.Frag) (C : Addr) (w : WM) : Sp := fun vs H Q _ => ∃ (M : Addr → Prop) (a : Addr) (ns : List Str) (fs : List Fv) (ws : List V) (ds : List D) (kk : Res → List Fv → Prop), vs = .ref a :: ws ∧ Tr M H ∧ (∀ b ∈ a :: cells fs, M b) ∧ ObS K C a ns fs M H ∧ DaAll M K H ws ds ∧ w a ns fs ds kk ∧
  ∀ v H' r fs', (∀ b o, b ∉ a :: cells fs → H b = some o → H' b = some o) → cells fs' = cells fs → ObS K C a ns fs' (hotN M v r) H' → ResV M K H H' v r → kk r fs' → Q v H'
section
variable {K : PySem.W.Frag} {ρ : List Ent} {k : KE} {C a : Addr} {ns : List Str} {fs : List Fv} {i : Nat} {ta : TA} {m : Str} {w : WM} {E : XK}
theorem xe_methB (hi : ρ[i]? = some (ob K C a ns fs)) (hm : ns.contains m = false)
    (h : XA K ta ρ fun rs ρ1 => ∃ xs, peekAll ρ1 rs = some xs ∧ ∃ ρ2, frzAll ρ1 rs = ρ2 ∧ ρ2[i]? = some (ob K C a ns fs) ∧ w a ns fs xs fun z fs' => ∃ ρ3, ρ2.set i (ob K C a ns fs') = ρ3 ∧ k z ρ3) : XE K (tMeth C m (spM K C w) [] E (tVar i) ta) ρ k := fun F H σ Q E0 q => by
  obtain ⟨h0, hn, dx, vs, h1, h2, h3⟩ := ob_at E0 hi
  subst h2
  refine ⟨.ref a, h0, a, dx, vs, rfl, h1, lookup_none hm, ?_⟩
  refine h F H σ _ E0 fun us H1 rs ρ1 kp E1 hs ⟨xs, px, ρ2, e2, hi2, g⟩ => ?_
  subst e2
  obtain ⟨E2, d2, k2⟩ := HeldAll.frz E1 hs px
  rw [List.append_nil]
  obtain ⟨h0', st2⟩ := ob_at E2 hi2
  have mem : ∀ b ∈ a :: cells fs, hot F σ (frzAll ρ1 rs) b := fun b hb => ob_hot hi2 hb
  refine ⟨hot F σ (frzAll ρ1 rs), a, vs.map (·.1), fs, us, xs, _, rfl, hot_tr E2, mem, st2, d2, g, fun v H' r fs' st ec os hr ⟨ρ3, e3, kr⟩ => ?_⟩
  subst e3
  -- the hot addresses are the same
  have same : ∀ b, hot F σ ((frzAll ρ1 rs).set i (ob K C a (vs.map (·.1)) fs')) b → hot F σ (frzAll ρ1 rs) b := fun b hb => by
    rcases hb with hb | ⟨j, hb⟩
    · exact .inl hb
    · rcases hb.put with ⟨e1, q, _⟩ | ⟨_, q⟩
      · subst e1
        have q : b ∈ a :: cells fs' := q
        rw [ec] at q
        exact mem b q
      · exact .inr ⟨j, q⟩
  have go : ∀ (H2 : Hp), (∀ b o, b ∉ a :: cells fs → H1 b = some o → H2 b = some o) → ObS K C a (vs.map (·.1)) fs' (hot F σ (frzAll ρ1 rs)) H2 →
      Env K F H2 σ ((frzAll ρ1 rs).set i (ob K C a (vs.map (·.1)) fs')) ∧ Keep (hot F σ (frzAll ρ1 rs)) H1 (hot F σ ((frzAll ρ1 rs).set i (ob K C a (vs.map (·.1)) fs'))) H2 := fun H2 st' os' =>
    E2.redo hi2 (e' := ob K C a (vs.map fun (y : Str × V) => y.1) fs') (fun b z => .inl (by
      have z : b ∈ a :: cells fs' := z
      rw [ec] at z
      exact z)) (fun b o n e => st' b o n e) ⟨h0', os'.less same, obS_stab, (os'.less same).nt⟩
  cases r with
  | d x =>
    obtain ⟨E3, k3⟩ := go H' st (os.less fun b z => .inl z)
    exact q v H' (.d x) _ (hotR.d ((kp.trans k2).trans k3)) ⟨E3, Da.less hr fun b z => same b z⟩ kr
  | v j => exact hr.elim
  | nw x =>
    obtain ⟨p, rfl, hp, ho⟩ := hr
    have npA : p ∉ a :: cells fs := fun z => (E2.hotTrk p (mem p z)).ne hp
    have nph : ¬ hot F σ (frzAll ρ1 rs) p := fun z => (E2.hotTrk p z).ne hp
    -- first without the new object
    let H2 : Hp := fun b => if b = p then none else H' b
    have h2ne : ∀ b, b ≠ p → H2 b = H' b := fun b n => if_neg n
    have h2p : H2 p = none := if_pos rfl
    have os2 : ObS K C a (vs.map (·.1)) fs' (hot F σ (frzAll ρ1 rs)) H2 := obS_stab _ _ _ _ os (fun b o n e => ⟨fun z => n (.inl z), by rw [h2ne b fun z => n (.inr ⟨⟨x, rfl⟩, by rw [z]⟩)]; exact e⟩) fun b hb => h2ne b fun z => npA (by rw [← z]; rw [ec] at hb; exact hb)
    obtain ⟨E3, k3⟩ := go H2 (fun b o n e => by rw [h2ne b (ne_of_none e hp)]; exact st b o n e) os2
    have ex : Ext H2 H' := fun b o e => by
      by_cases z : b = p
      · rw [z, h2p] at e; cases e
      · rw [← h2ne b z]; exact e
    have rz : ResV (hot F σ ((frzAll ρ1 rs).set i (ob K C a (vs.map (·.1)) fs'))) K H2 H' (.ref p) (.nw x) := ⟨p, rfl, h2p, ho.mono (fun b o n e => ⟨fun z => n (z.elim (fun z => .inl (same b z)) .inr), e⟩) fun _ z => z⟩
    exact q _ H' (.nw x) _ (hotR.res ((kp.trans k2).trans k3) ex rz) (ResV.rv E3 ex rz) kr
end
/-! a method's entry -/
def iniB (K : PySem.W.Frag) (C a : Addr) (ns : List Str) (fs : List Fv) (n : Nat) (ds : List D) : List Ent := ob K C a ns fs :: ini (n - 1) ds
section
variable {K : PySem.W.Frag} {C : Addr} {N : List Str} {vs : List V} {H : Hp} {Q : VK} {E : XK} {t : TS}
/-- the first environment of a def whose first argument owns what is at A -/
theorem env_iniB {M : Addr → Prop} {a : Addr} {ns : List Str} {fs : List Fv} {ws : List V} {ds : List D} (tr : Tr M H) (os : ObS K C a ns fs M H) (hM : ∀ b ∈ a :: cells fs, M b) (d : DaAll M K H ws ds) (hN : 1 ≤ N.length) :
    Env K ⟨fun b => M b ∧ b ∉ a :: cells fs, fun b => if b ∈ a :: cells fs then none else H b, none, fun _ => none, fun _ => False⟩ H (L2.start N (.ref a :: ws)) (iniB K C a ns fs N.length ds) ∧
    ∀ b, hot ⟨fun b => M b ∧ b ∉ a :: cells fs, fun b => if b ∈ a :: cells fs then none else H b, none, fun _ => none, fun _ => False⟩ (L2.start N (.ref a :: ws)) (iniB K C a ns fs N.length ds) b ↔ M b := by
  have own : ∀ (i : Nat) (b : Addr), Owns (L2.start N (.ref a :: ws)) (iniB K C a ns fs N.length ds) i b → i = 0 ∧ b ∈ a :: cells fs := fun i b ⟨e, h1, h2⟩ => by
    cases i with
    | zero => cases h1; exact ⟨rfl, h2⟩
    | succ i =>
      rcases ini_get (show (ini (N.length - 1) ds)[i]? = _ from h1) with ⟨y, _, e⟩ | e
      · rw [e] at h2; exact (show False from h2).elim
      · rw [e] at h2; exact (show False from h2).elim
  have hh : ∀ b, hot ⟨fun b => M b ∧ b ∉ a :: cells fs, fun b => if b ∈ a :: cells fs then none else H b, none, fun _ => none, fun _ => False⟩ (L2.start N (.ref a :: ws)) (iniB K C a ns fs N.length ds) b ↔ M b := fun b => by
    constructor
    · rintro (z | ⟨j, z⟩)
      · exact z.1
      · exact hM b (own j b z).2
    · intro z
      by_cases q : b ∈ a :: cells fs
      · exact .inr ⟨0, _, rfl, q⟩
      · exact .inl ⟨z, q⟩
  refine ⟨⟨?_, fun b o _ e => ?_, fun b z => tr b z.1, fun c e => (nomatch e), fun i b z => ⟨if_pos (own i b z).2, fun y => y.2 (own i b z).2⟩, fun i j b h1 h2 => by rw [(own i b h1).1, (own j b h2).1], fun i e he => ?_, ⟨fun b o e => (nomatch (show (none : Option HO) = some o from e)), fun b hb _ => absurd rfl hb⟩⟩, hh⟩
  · have := d.length
    unfold L2.start iniB ini
    simp only [List.length_append, List.length_map, List.length_replicate, List.length_cons]
    omega
  · have e : (if b ∈ a :: cells fs then none else H b) = some o := e
    split at e
    · cases e
    · exact e
  · cases i with
    | zero =>
      cases he
      exact ⟨start_get rfl, os.less fun b z => (hh b).mp z, obS_stab, os.nt⟩
    | succ i =>
      rcases ini_get (show (ini (N.length - 1) ds)[i]? = _ from he) with ⟨x, hx, rfl⟩ | rfl
      · obtain ⟨v, hv, hd⟩ := d.at hx
        exact ⟨v, start_get (show (V.ref a :: ws)[i + 1]? = some v from hv), hd.less fun b z => (hh b).mp z⟩
      · trivial
theorem entry_m {w : WM} (h : spM K C w vs H Q E) (hN : 1 ≤ N.length) (body : ∀ a ns fs ds kk, w a ns fs ds kk → XS K t (iniB K C a ns fs N.length ds)
    { nx := fun ρ => ∃ fs', ρ[0]? = some (ob K C a ns fs') ∧ cells fs' = cells fs ∧ kk (.d .non) fs', rt := fun r ρ => ∃ fs', ρ[0]? = some (ob K C a ns fs') ∧ cells fs' = cells fs ∧ kk r fs' }) : t { nx := fun _ H' => Q .non H', rt := Q } (L2.start N vs) H := by
  obtain ⟨M, a, ns, fs, ws, ds, kk, rfl, tr, hM, os, d, hw, fin⟩ := h
  obtain ⟨E0, hh⟩ := env_iniB (N := N) tr os hM d hN
  have out : ∀ {H' : Hp} {σ : L2.St} {ρ : List Ent} {v : V} {r : Res} {fs' : List Fv}, RV K ⟨fun b => M b ∧ b ∉ a :: cells fs, fun b => if b ∈ a :: cells fs then none else H b, none, fun _ => none, fun _ => False⟩ H' σ ρ v r → (∀ i, r ≠ .v i) →
      ρ[0]? = some (ob K C a ns fs') → cells fs' = cells fs → kk r fs' → Q v H' := fun {H' σ ρ v r fs'} R n h1 h2 h3 => by
    have sub : ∀ b, M b → hot ⟨fun b => M b ∧ b ∉ a :: cells fs, fun b => if b ∈ a :: cells fs then none else H b, none, fun _ => none, fun _ => False⟩ σ ρ b := fun b z => by
      by_cases q : b ∈ a :: cells fs
      · exact ob_hot h1 (by rw [h2]; exact q)
      · exact .inl ⟨z, q⟩
    have E1 := R.env
    have go : ∀ b o, b ∉ a :: cells fs → H b = some o → H' b = some o := fun b o z e => E1.go b o (fun z => nomatch z) (by show (if b ∈ a :: cells fs then none else H b) = some o; rw [if_neg z]; exact e)
    have o1 := (ob_at E1 h1).2
    cases r with
    | d x => exact fin v H' (.d x) fs' go h2 (o1.less fun b z => z.elim (sub b) fun z => by obtain ⟨⟨_, z⟩, _⟩ := z; cases z) (Da.less R.2 sub) h3
    | v i => exact absurd rfl (n i)
    | nw x =>
      obtain ⟨p, rfl, p0, nh, Ep, ho⟩ := R
      have hp : H p = none := by
        have q : (if p ∈ a :: cells fs then none else H p) = none := p0
        by_cases z : p ∈ a :: cells fs
        · exact absurd (sub p (hM p z)) nh
        · rw [if_neg z] at q; exact q
      have op := (ob_at Ep h1).2
      refine fin (.ref p) H' (.nw x) fs' go h2 (op.less fun b z => ?_) ⟨p, rfl, hp, ho.mono (fun b o n e => ⟨fun z => n ?_, e⟩) fun _ z => z⟩ h3
      · rcases z with z | ⟨_, z⟩
        · rcases sub b z with q | q
          · exact .inl (.inl q)
          · exact .inr q
        · cases z; exact .inl (.inr rfl)
      · rcases z with z | z
        · rcases sub b z with q | q
          · exact .inl (.inl q)
          · exact .inr q
        · exact .inl (.inr z)
  exact body a ns fs ds kk hw _ H _ _ E0 ⟨fun H' σ' ρ' _ E' ⟨fs', h1, h2, h3⟩ => out (r := .d .non) ⟨E', rfl⟩ (fun i z => nomatch z) h1 h2 h3, fun v H' σ' ρ' r _ R n ⟨fs', h1, h2, h3⟩ => out R n h1 h2 h3, fun _ _ _ _ _ g => g.elim, fun _ _ _ _ _ g => g.elim⟩
/-! a constructor -/
abbrev WI := Addr → List D → (List Str → List Fv → Prop) → Prop
def spI (K : PySem.W.Frag) (C : Addr) (w : WI) : Sp := fun vs H Q _ => ∃ (M : Addr → Prop) (a dx : Addr) (ws : List V) (ds : List D) (kk : List Str → List Fv → Prop), vs = .ref a :: ws ∧ Tr M H ∧ M a ∧ H a = some (.ins C dx []) ∧ DaAll M K H ws ds ∧ w a ds kk ∧
  ∀ H' ns fs, (∀ b o, b ≠ a → H b = some o → H' b = some o) → (∀ b ∈ cells fs, H b = none) → ObS K C a ns fs (fun b => M b ∨ b ∈ a :: cells fs) H' → kk ns fs → Q .non H'
theorem entry_i {w : WI} (h : spI K C w vs H Q E) (hN : 1 ≤ N.length) (body : ∀ a ds kk, w a ds kk → XS K t (iniB K C a [] [] N.length ds)
    { nx := fun ρ => ∃ ns fs, ρ[0]? = some (ob K C a ns fs) ∧ kk ns fs, rt := fun _ _ => False }) : t { nx := fun _ H' => Q .non H', rt := Q } (L2.start N vs) H := by
  obtain ⟨M, a, dx, ws, ds, kk, rfl, tr, ma, h1, d, hw, fin⟩ := h
  have os : ObS K C a [] [] M H := ⟨List.nodup_cons.mpr ⟨fun z => (nomatch z), List.nodup_nil⟩, dx, [], h1, rfl, trivial⟩
  obtain ⟨E0, hh⟩ := env_iniB (N := N) tr os (fun b hb => by rw [List.mem_singleton.mp (show b ∈ [a] from hb)]; exact ma) d hN
  refine body a ds kk hw _ H _ _ E0 ⟨fun H' σ' ρ' _ E' ⟨ns, fs, h2, h3⟩ => ?_, fun v H' σ' ρ' r _ R n g => g.elim, fun _ _ _ _ _ g => g.elim, fun _ _ _ _ _ g => g.elim⟩
  have o1 := (ob_at E' h2).2
  refine fin H' ns fs (fun b o n e => E'.go b o (fun z => nomatch z) ?_) (fun b hb => ?_) (o1.less fun b z => ?_) h3
  · show (if b ∈ a :: cells [] then none else H b) = some o
    rw [if_neg fun (z : b ∈ a :: cells []) => n (List.mem_singleton.mp z)]
    exact e
  · obtain ⟨q1, q2⟩ := E'.newO 0 b (.big h2 (List.mem_cons_of_mem _ hb))
    have q1 : (if b ∈ a :: cells [] then none else H b) = none := q1
    have ba : b ≠ a := fun z => (List.nodup_cons.mp o1.1).1 (by rw [← z]; exact hb)
    rw [if_neg fun (z : b ∈ a :: cells []) => ba (List.mem_singleton.mp z)] at q1
    exact q1
  · rcases z with z | z
    · by_cases q : b = a
      · exact ob_hot h2 (by rw [q]; exact List.mem_cons_self ..)
      · exact .inl ⟨z, fun y => q (List.mem_singleton.mp (show b ∈ [a] from y))⟩
    · exact ob_hot h2 z
end
section
variable {K : PySem.W.Frag} {ρ : List Ent} {k : KE} {C : Addr} {ta : TA} {w : WI} {E : XK} {f : Str}
/-- C(..).f, a cell of the new object, of which nobody else knows -/
theorem ye_makeFld (hC : Cls K C) (hN : NoAttr K C f) (h : XA K ta ρ fun rs ρ1 => ∃ xs, peekAll ρ1 rs = some xs ∧ ∃ ρ2, frzAll ρ1 rs = ρ2 ∧ ∀ a, w a xs fun ns fs => ∃ p d, fvget ns fs f = some (.cell p d) ∧ k (.nw d) ρ2) :
    XE K (tFld K (tMake C (spI K C w) [] E ta) f) ρ k := fun F H σ Q E0 q =>
  h F H σ _ E0 fun vs H1 rs ρ1 kp E1 hs ⟨xs, px, ρ2, e2, g⟩ => by
    subst e2
    obtain ⟨E2, d2, k2⟩ := HeldAll.frz E1 hs px
    intro a dx ha hdx hne
    have x1 : Ext H1 (upd H1 dx (.own a)) := Ext.new hdx
    have ha2 : upd H1 dx (.own a) a = none := by rw [upd_ne (Ne.symm hne)]; exact ha
    have x2 : Ext (upd H1 dx (.own a)) (upd (upd H1 dx (.own a)) a (.ins C dx [])) := Ext.new ha2
    have x12 := x1.trans x2
    have tr2 : Tr (fun b => hot F σ (frzAll ρ1 rs) b ∨ b = a) (upd (upd H1 dx (.own a)) a (.ins C dx [])) := fun b hb => by
      rcases hb with hb | hb
      · obtain ⟨o, ho⟩ := Option.ne_none_iff_exists'.mp (E2.hotTrk b hb).ne
        have q := E2.hotTrk b hb
        rw [ho] at q
        rw [x12 b o ho]
        exact q
      · rw [hb, upd_same]; trivial
    rw [List.append_nil]
    refine ⟨fun b => hot F σ (frzAll ρ1 rs) b ∨ b = a, a, dx, vs, xs, _, rfl, tr2, .inr rfl, upd_same, (d2.push ha).mono fun b o n e => ⟨n, x12 b o e⟩, g a, fun H' ns fs st nc os ⟨p, d, hf, kr⟩ => ⟨rfl, ?_⟩⟩
    obtain ⟨hn, dx', fv, h1, h2, h3⟩ := os
    subst h2
    obtain ⟨v, e1, e3, e4⟩ := fv_look h3 hf
    subst e3
    have ex : Ext H1 H' := fun b o e => st b o (ne_of_none e ha) (x12 b o e)
    have pc : p ∈ cells fs := fv_mem hf
    have hp : H1 p = none := x12.back (nc p pc)
    have rz : ResV (hot F σ (frzAll ρ1 rs)) K H1 H' (.ref p) (.nw d) := ⟨p, rfl, hp, e4.mono (fun b o n e => ⟨fun z => n ?_, e⟩) fun _ z => z⟩
    · exact ⟨a, C, dx', fv, .ref p, rfl, h1, hC, hN, e1, q _ H' (.nw d) _ (hotR.res (kp.trans k2) ex rz) (ResV.rv E2 ex rz) kr⟩
    · rcases z with z | z
      · exact .inl (.inl z)
      · rw [z]; exact .inr (List.mem_cons_of_mem _ pc)
end
end PW
end
section
/-! PWBig4: d.items() walked, d.setdefault, d.get with a default, dicts of lists that grow. -/
namespace PW
open PySem PySem.Spec PyProof.Rows L2
/-- the pairs of a dict -/
def pairsD : List (List Key) → List D → List D
  | q :: ks, x :: xs => .tup [keyD q, x] :: pairsD ks xs
  | _, _ => []
theorem pairsD_at : ∀ {ks : List (List Key)} {xs : List D} {i : Nat} {d : D}, (pairsD ks xs)[i]? = some d → ∃ q x, ks[i]? = some q ∧ xs[i]? = some x ∧ d = .tup [keyD q, x]
  | [], _, _, _, h => by cases h
  | _ :: _, [], _, _, h => by cases h
  | q :: ks, x :: xs, 0, d, h => by cases h; exact ⟨q, x, rfl, rfl, rfl⟩
  | q :: ks, x :: xs, i + 1, d, h => pairsD_at (i := i) (show (pairsD ks xs)[i]? = some d from h)
theorem pairsD_len : ∀ {ks : List (List Key)} {xs : List D}, xs.length = ks.length → (pairsD ks xs).length = ks.length
  | [], [], _ => rfl
  | [], _ :: _, h => by cases h
  | _ :: _, [], h => by cases h
  | _ :: ks, _ :: xs, h => congrArg (· + 1) (pairsD_len (ks := ks) (xs := xs) (Nat.succ.inj h))
section
variable {K : PySem.W.Frag} {ρ : List Ent} {k : KE} {te tk tv : TE} {Φ : Post}
theorem gives_itemsT {p : Addr} {o : Obj} {kvs : List (List Key × V)} {xs : List D} : Gives K (ItiT p o kvs) (pairsD (kvs.map (·.1)) xs) (fun M H => ¬ M p ∧ H p = some (.frz o (.dT kvs)) ∧ DaAll M K H (kvs.map (·.2)) xs) where
  keep := fun M H M' H' ⟨h1, h2, h3⟩ g => ⟨(g p _ h1 h2).1, (g p _ h1 h2).2, h3.mono g⟩
  stop := fun M H i ⟨h1, h2, h3⟩ hi => by
    have l := h3.length
    rw [List.length_map] at l
    rw [pairsD_len (by rw [List.length_map, l]), List.length_map] at hi
    exact ⟨h2, hi⟩
  go := fun M H i ⟨h1, h2, h3⟩ hi => by
    have l := h3.length
    rw [List.length_map] at l
    rw [pairsD_len (by rw [List.length_map, l]), List.length_map] at hi
    exact ⟨h2, hi⟩
  yld := fun M H i x H' d tr ⟨h1, h2, h3⟩ hd y => by
    obtain ⟨T, kq, v, q, e1, e2, rfl, hT, rfl⟩ := y
    obtain ⟨q', x', g1, g2, rfl⟩ := pairsD_at hd
    rw [List.getElem?_map, e1] at g1
    cases g1
    obtain ⟨d', w1, w2⟩ := h3.get (i := i) (v := v) (by rw [List.getElem?_map, e1]; rfl)
    rw [g2] at w1
    cases w1
    refine pairDa tr hT ⟨q, kq.map kV, rfl, ⟨fun z => ?_, e2⟩, da_key kq⟩ w2
    have n := tr q z
    rw [e2] at n
    exact n
/-- X.items(), X a dict that nobody else knows -/
theorem xi_itemsT {kk : List D → List Ent → Prop} (h : XE K te ρ fun r ρ1 => ∃ ks xs, r = .nw (.dct ks xs) ∧ kk (pairsD ks xs) ρ1) : XI K (iItemsT te) ρ kk := fun F H σ R E q =>
  h F H σ _ E fun v H1 r ρ1 kp Rv ⟨ks, xs, e, g⟩ => by
    subst e
    obtain ⟨p, rfl, h0, nh, Ep, kvs, h1, h2, h3⟩ := Rv
    subst h2
    refine ⟨p, kvs, rfl, h1, fun o => ?_⟩
    have E2 : Env K F (upd H1 p (.frz o (.dT kvs))) σ ρ1 := (Ep.poke h0).pop h0
    have k2 : Keep (hotR F σ ρ1 (.ref p) (.nw (.dct (kvs.map (·.1)) xs))) H1 (hot F σ ρ1) (upd H1 p (.frz o (.dT kvs))) := fun b u n e => by
      have nb : b ≠ p := fun z => n (.inr ⟨⟨_, rfl⟩, by rw [z]⟩)
      exact ⟨fun z => n (.inl z), by rw [upd_ne nb]; exact e⟩
    refine q (ItiT p o kvs) _ ρ1 _ _ (kp.trans k2) E2 gives_itemsT ⟨nh, upd_same, h3.mono fun b u n e => ?_⟩ g
    have nb : b ≠ p := fun z => n (.inl (.inr z))
    refine ⟨fun z => n ?_, by rw [upd_ne nb]; exact e⟩
    rcases z with z | z
    · exact .inl (.inl z)
    · exact .inr z
/-! own.setdefault(q, y), as a statement -/
def sputX (ks : List (List Key)) (xs : List D) (q : List Key) (y : D) : List D := if (ks.any fun a => decide (a = q)) = true then xs else xs ++ [y]
theorem putK_new {q : List Key} {v : V} {kvs : List (List Key × V)} (h : valV kvs q = none) : putK kvs q v = kvs ++ [(q, v)] ∧ ((kvs.map (·.1)).any fun a => decide (a = q)) = false := by
  have e : (kvs.any fun kv => decide (kv.1 = q)) = false := by
    induction kvs with
    | nil => rfl
    | cons p r ih =>
      have h2 : (if p.1 = q then some p.2 else valV r q) = none := by
        have := h
        unfold valV at this ⊢
        rw [List.find?_cons] at this
        by_cases z : p.1 = q
        · rw [show decide (p.1 = q) = true from decide_eq_true z] at this
          cases this
        · rw [if_neg z]
          rw [show decide (p.1 = q) = false from decide_eq_false z] at this
          exact this
      by_cases z : p.1 = q
      · rw [if_pos z] at h2; cases h2
      · rw [if_neg z] at h2
        rw [List.any_cons, decide_eq_false z, Bool.false_or]
        exact ih h2
  refine ⟨?_, ?_⟩
  · unfold putK
    rw [if_neg (by rw [e]; exact Bool.false_ne_true)]
  · rw [List.any_map]
    exact e
theorem valV_in {q : List Key} {v : V} {kvs : List (List Key × V)} (h : valV kvs q = some v) : ((kvs.map (·.1)).any fun a => decide (a = q)) = true := by
  rw [List.any_map]
  unfold valV at h
  cases e : kvs.find? fun kv => decide (kv.1 = q) with
  | none => rw [e] at h; cases h
  | some p => exact List.any_eq_true.mpr ⟨p, List.mem_of_find?_eq_some e, List.find?_some (p := fun kv : List Key × V => decide (kv.1 = q)) e⟩
theorem xs_setDef {i : Nat} {ks : List (List Key)} {xs : List D} (hi : ρ[i]? = some (.own (.dct ks xs))) (hl : ks.length < 100000) (h : XE K tk ρ fun r ρ1 => ∃ q, r = .d (keyD q) ∧ XE K tv ρ1 fun r2 ρ2 => ∃ y, r2 = .d y ∧ ρ2[i]? = some (.own (.dct ks xs)) ∧
    ∃ ρ3, ρ2.set i (.own (.dct (dputK ks q) (sputX ks xs q y))) = ρ3 ∧ Φ.nx ρ3) : XS K (tDrop (tSetDef (tVar i) tk tv)) ρ Φ := fun F H σ Dn E I => by
  obtain ⟨p, hs, kvs, h1, h2, h3⟩ := E.slot i _ hi
  refine ⟨.ref p, hs, p, rfl, .inr ⟨kvs, .inl h1⟩, h F H σ _ E fun u H1 r ρ1 kp R ⟨q, e1, hv⟩ => hv F H1 σ _ R.env fun w H2 r2 ρ2 kp2 R2 ⟨y, e2, hi2, ρ3, e3, g⟩ => ?_⟩
  subst e1 e2 e3
  have hk := (R.held.keep (hotR.hot kp2))
  obtain ⟨E2, hw⟩ := R2
  obtain ⟨p', hs', kvs2, g1, g2, g3⟩ := E2.slot i _ hi2
  rw [hs] at hs'
  cases hs'
  subst g2
  obtain ⟨b, eb, hb⟩ := key_at (.inl hk)
  have hp : hot F σ ρ2 p := hot.own hi2 hs
  have k1 := (hotR.hot kp).trans (hotR.hot kp2)
  have hl2 : kvs2.length < sizeLine := by rw [List.length_map] at hl; rw [sizeLine_eq]; omega
  refine ⟨kvs2, q, b, g1, eb, hb, hl2, fun v hv => ?_, fun hn => ?_⟩
  · have e := valV_in hv
    have e4 : ρ2.set i (.own (.dct (dputK (kvs2.map (·.1)) q) (sputX (kvs2.map (·.1)) xs q y))) = ρ2 := by
      unfold dputK sputX
      rw [if_pos e, if_pos e]
      have il : i < ρ2.length := (List.getElem?_eq_some_iff.mp hi2).1
      have e5 := (List.getElem?_eq_some_iff.mp hi2).2
      exact List.ext_getElem? fun j => by
        by_cases z : j = i
        · subst z; rw [List.getElem?_set_self il, hi2]
        · rw [List.getElem?_set_ne (Ne.symm z)]
    rw [e4] at g
    exact I.nx H2 σ ρ2 k1 E2 g
  · obtain ⟨e5, e6⟩ := putK_new (v := w) hn
    have ho' : OwnAt (hot F σ ρ2) K (upd H2 p (.dT (putK kvs2 q w))) p (.dct (dputK (kvs2.map (·.1)) q) (sputX (kvs2.map (·.1)) xs q y)) := by
      refine ⟨_, upd_same, putK_keys kvs2, ?_⟩
      rw [e5, List.map_append]
      unfold sputX
      rw [if_neg (by rw [e6]; exact Bool.false_ne_true)]
      refine (g3.append (DaAll.one hw)).mono fun c o m e => ⟨m, ?_⟩
      rw [upd_ne fun z => m (by rw [z]; exact hp)]
      exact e
    exact I.nx _ _ _ (k1.trans (keep_write hi2 hs)) (E2.write hi2 hs ho') g
/-! own.get(q, []) -/
theorem xe_get2L {i : Nat} {ks : List (List Key)} {xs : List D} (hi : ρ[i]? = some (.own (.dct ks xs))) (h : XE K tk ρ fun r ρ1 => ∃ q, r = .d (keyD q) ∧ ρ1[i]? = some (.own (.dct ks xs)) ∧ k (.d ((dget ks xs q).getD (.lst []))) ρ1) :
    XE K (tDGet2 (tVar i) tk (tLst tNil)) ρ k := fun F H σ Q E fin => by
  obtain ⟨p, hs, kvs, h1, h2, h3⟩ := E.slot i _ hi
  refine ⟨.ref p, hs, p, rfl, .inr ⟨kvs, .inl h1⟩, h F H σ _ E fun u H1 r ρ1 kp R ⟨q, e1, hi1, g⟩ => ?_⟩
  subst e1
  obtain ⟨E1, hu⟩ := R
  refine ⟨by show 0 ≤ sizeLine; exact Nat.zero_le _, fun l hl => ?_⟩
  have ex : Ext H1 (upd H1 l (.lst [])) := Ext.new hl
  have E2 := E1.ex ex
  obtain ⟨p', hs', kvs2, g1, g2, g3⟩ := E2.slot i _ hi1
  rw [hs] at hs'
  cases hs'
  subst g2
  have hu2 : Da (hot F σ ρ1) K (upd H1 l (.lst [])) u (keyD q) := hu.mono fun b o n e => ⟨n, ex b o e⟩
  obtain ⟨b, eb, hb⟩ := key_at (.inl hu2)
  have kk : Keep (hot F σ ρ) H (hot F σ ρ1) (upd H1 l (.lst [])) := (hotR.hot kp).trans (Keep.ext ex)
  have hv := valV_get (k := q) g3
  refine ⟨valV kvs2 q, by rw [eb]; exact DGet.t g1 hb, ?_⟩
  cases e2 : dget (kvs2.map (·.1)) xs q with
  | none =>
    rw [hv.2 e2]
    rw [e2] at g
    exact fin _ _ (.d (.lst [])) ρ1 (hotR.d kk) ⟨E2, l, [], rfl, ⟨fun z => (E1.hotTrk l z).ne hl, upd_same⟩, rfl⟩ g
  | some x =>
    obtain ⟨v, e3, e4⟩ := hv.1 x e2
    rw [e3]
    rw [e2] at g
    exact fin _ _ (.d x) ρ1 (hotR.d kk) ⟨E2, e4⟩ g
end
end PW
end
section
/-! PWGrp: a dict of lists that grow: d.setdefault(q, []).append(y). -/
namespace PW
open PySem PySem.Spec PyProof.Rows L2
/-- the lists at as, in order -/
def ListsAt (M : Addr → Prop) (K : PySem.W.Frag) (H : Hp) : List Addr → List (List D) → Prop
  | [], [] => True
  | a :: as, ds :: dss => (∃ vs, H a = some (.lst vs) ∧ DaAll M K H vs ds) ∧ ListsAt M K H as dss
  | _, _ => False
def GrS (K : PySem.W.Frag) (p : Addr) (as : List Addr) (ks : List (List Key)) (dss : List (List D)) : (Addr → Prop) → Hp → Prop := fun M H => (p :: as).Nodup ∧ ∃ kvs, H p = some (.dT kvs) ∧ kvs.map (·.1) = ks ∧ kvs.map (·.2) = as.map V.ref ∧ ListsAt M K H as dss
abbrev grp (K : PySem.W.Frag) (p : Addr) (as : List Addr) (ks : List (List Key)) (dss : List (List D)) : Ent := .big (p :: as) (.ref p) (GrS K p as ks dss)
/-- what is gathered -/
def gput (ks : List (List Key)) (dss : List (List D)) (q : List Key) (y : D) : List (List D) := match ks, dss with
  | a :: ks, ds :: dss => if a = q then (ds ++ [y]) :: dss else ds :: gput ks dss q y
  | _, _ => [[y]]
section
variable {M M' : Addr → Prop} {K : PySem.W.Frag} {H H' : Hp} {p : Addr} {as : List Addr} {ks : List (List Key)} {dss : List (List D)} {q : List Key} {y : D}
theorem ListsAt.mono : ∀ {as : List Addr} {dss : List (List D)}, ListsAt M K H as dss → (∀ b o, ¬ M b → H b = some o → ¬ M' b ∧ H' b = some o) → (∀ b ∈ as, ∀ o, H b = some o → H' b = some o) → ListsAt M' K H' as dss
  | [], [], _, _, _ => trivial
  | [], _ :: _, h, _, _ => h.elim
  | _ :: _, [], h, _, _ => h.elim
  | a :: as, ds :: dss, ⟨⟨vs, h1, h2⟩, h3⟩, g, ha => ⟨⟨vs, ha a (List.mem_cons_self ..) _ h1, h2.mono g⟩, ListsAt.mono h3 g fun b hb => ha b (List.mem_cons_of_mem _ hb)⟩
theorem ListsAt.nt : ∀ {as : List Addr} {dss : List (List D)}, ListsAt M K H as dss → ∀ b ∈ as, NT (H b)
  | [], _, _, b, hb => nomatch hb
  | _ :: _, [], h, _, _ => h.elim
  | a :: as, ds :: dss, ⟨⟨vs, h1, h2⟩, h3⟩, b, hb => by
    rcases List.mem_cons.mp hb with e | hb
    · rw [e, h1]; trivial
    · exact ListsAt.nt h3 b hb
theorem ListsAt.len : ∀ {as : List Addr} {dss : List (List D)}, ListsAt M K H as dss → as.length = dss.length
  | [], [], _ => rfl
  | [], _ :: _, h => h.elim
  | _ :: _, [], h => h.elim
  | _ :: _, _ :: _, ⟨_, h⟩ => congrArg (· + 1) (ListsAt.len h)
theorem ListsAt.snoc {l : Addr} {vs : List V} {ds : List D} (hl : H l = some (.lst vs)) (hd : DaAll M K H vs ds) : ∀ {as : List Addr} {dss : List (List D)}, ListsAt M K H as dss → ListsAt M K H (as ++ [l]) (dss ++ [ds])
  | [], [], _ => ⟨⟨vs, hl, hd⟩, trivial⟩
  | [], _ :: _, h => h.elim
  | _ :: _, [], h => h.elim
  | _ :: _, _ :: _, ⟨h1, h2⟩ => ⟨h1, ListsAt.snoc hl hd h2⟩
theorem grS_stab : Stab (p :: as) (GrS K p as ks dss) := fun M H M' H' ⟨hn, kvs, h1, h2, h3, h4⟩ g same => ⟨hn, kvs, by rw [same p (List.mem_cons_self ..)]; exact h1, h2, h3, h4.mono g fun b hb o e => by rw [same b (List.mem_cons_of_mem _ hb)]; exact e⟩
theorem GrS.nt (h : GrS K p as ks dss M H) : ∀ b ∈ p :: as, NT (H b) := fun b hb => by
  obtain ⟨_, kvs, h1, h2, h3, h4⟩ := h
  rcases List.mem_cons.mp hb with e | hb
  · rw [e, h1]; trivial
  · exact h4.nt b hb
/-- where a key's list stands -/
theorem grp_find : ∀ {kvs : List (List Key × V)} {as : List Addr} {dss : List (List D)}, kvs.map (·.2) = as.map V.ref → ListsAt M K H as dss → ∀ {v : V}, valV kvs q = some v → ∃ (j : Nat) (a : Addr) (ds : List D), v = .ref a ∧ as[j]? = some a ∧ dss[j]? = some ds ∧ (∃ vs, H a = some (.lst vs) ∧ DaAll M K H vs ds) ∧ gput (kvs.map (·.1)) dss q y = dss.set j (ds ++ [y])
  | [], _, _, _, _, _, hv => by cases hv
  | _ :: _, [], _, h, _, _, _ => by cases h
  | _ :: _, _ :: _, [], _, h, _, _ => h.elim
  | (k, w) :: kvs, a :: as, ds :: dss, h, ⟨h1, h2⟩, v, hv => by
    have hw : w = .ref a := (List.cons.inj h).1
    have ht : kvs.map (·.2) = as.map V.ref := (List.cons.inj h).2
    subst hw
    by_cases z : k = q
    · have e : v = .ref a := by
        have : valV ((k, V.ref a) :: kvs) q = some (V.ref a) := valV_pos z
        rw [this] at hv
        exact (Option.some.inj hv).symm
      refine ⟨0, a, ds, e, rfl, rfl, h1, ?_⟩
      show (if k = q then (ds ++ [y]) :: dss else _) = _
      rw [if_pos z]; rfl
    · have e2 : valV ((k, V.ref a) :: kvs) q = valV kvs q := by simp [valV, List.find?_cons, z]
      rw [e2] at hv
      obtain ⟨j, a', ds', g1, g2, g3, g4, g5⟩ := grp_find ht h2 hv
      refine ⟨j + 1, a', ds', g1, g2, g3, g4, ?_⟩
      show (if k = q then _ else ds :: gput (kvs.map (·.1)) dss q y) = _
      rw [if_neg z, g5]; rfl
theorem gput_new : ∀ {ks : List (List Key)} {dss : List (List D)}, ks.length = dss.length → (ks.any fun a => decide (a = q)) = false → gput ks dss q y = dss ++ [[y]]
  | [], [], _, _ => rfl
  | [], _ :: _, h, _ => by cases h
  | _ :: _, [], h, _ => by cases h
  | a :: ks, ds :: dss, h, e => by
    rw [List.any_cons, Bool.or_eq_false_iff] at e
    show (if a = q then _ else ds :: gput ks dss q y) = _
    rw [if_neg (of_decide_eq_false e.1), gput_new (Nat.succ.inj h) e.2]
    rfl
theorem ListsAt.put {a : Addr} {ds : List D} {vs : List V} (hvs : DaAll M' K H' vs ds) (hH : H' a = some (.lst vs)) (g : ∀ b o, ¬ M b → H b = some o → ¬ M' b ∧ H' b = some o) (ho : ∀ b, b ≠ a → ∀ o, H b = some o → H' b = some o) :
    ∀ {as : List Addr} {dss : List (List D)} {j : Nat}, ListsAt M K H as dss → as[j]? = some a → as.Nodup → ListsAt M' K H' as (dss.set j ds)
  | [], _, _, _, h, _ => by cases h
  | _ :: _, [], _, h, _, _ => h.elim
  | b :: as, es :: dss, 0, ⟨h1, h2⟩, e, hn => by
    cases e
    exact ⟨⟨vs, hH, hvs⟩, h2.mono g fun c hc o eo => ho c (fun z => (List.nodup_cons.mp hn).1 (by rw [← z]; exact hc)) o eo⟩
  | b :: as, es :: dss, j + 1, ⟨⟨ws, h1, h3⟩, h2⟩, e, hn => by
    have e : as[j]? = some a := e
    refine ⟨⟨ws, ho b (fun z => (List.nodup_cons.mp hn).1 ?_) _ h1, h3.mono g⟩, ListsAt.put (j := j) hvs hH g ho h2 e (List.nodup_cons.mp hn).2⟩
    rw [z]
    exact List.mem_of_getElem? e
end
section
variable {K : PySem.W.Frag} {ρ : List Ent} {Φ : Post} {tk te : TE} {i : Nat}
/-- an environment is told otherwise -/
theorem xs_turn {t : TS} {ρ' : List Ent} (h : ∀ (F : Fr) (H : Hp) (σ : L2.St), Env K F H σ ρ → Env K F H σ ρ' ∧ Keep (hot F σ ρ) H (hot F σ ρ') H) (g : XS K t ρ' Φ) : XS K t ρ Φ := fun F H σ Dn E I => by
  obtain ⟨E', k⟩ := h F H σ E
  exact g F H σ Dn E' (I.later k)
theorem grp_start (hi : ρ[i]? = some (.own (.dct [] []))) {t : TS} (g : ∀ p, XS K t (ρ.set i (grp K p [] [] [])) Φ) : XS K t ρ Φ := fun F H σ Dn E I => by
  obtain ⟨p, hs, kvs, h1, h2, h3⟩ := E.slot i _ hi
  have e : kvs = [] := List.map_eq_nil_iff.mp h2
  subst e
  have s : ∀ M, GrS K p [] [] [] M H := fun M => ⟨List.nodup_cons.mpr ⟨fun z => (nomatch z), List.nodup_nil⟩, [], h1, rfl, rfl, trivial⟩
  obtain ⟨E', k⟩ := E.redo hi (e' := grp K p [] [] []) (fun b z => .inl (by
    rw [List.mem_singleton.mp (show b ∈ [p] from z)]
    exact hs)) (fun b o _ e => e) ⟨hs, s _, grS_stab, (s (fun _ => True)).nt⟩
  exact g p F H σ Dn E' (I.later k)
theorem grp_end {p : Addr} {as : List Addr} {ks : List (List Key)} {dss : List (List D)} (hi : ρ[i]? = some (grp K p as ks dss)) {t : TS} (g : XS K t (ρ.set i (.own (.dct ks (dss.map D.lst)))) Φ) : XS K t ρ Φ := fun F H σ Dn E I => by
  obtain ⟨hs, ⟨hn, kvs, h1, h2, h3, h4⟩, _, _⟩ := E.slot i _ hi
  have il : i < ρ.length := (List.getElem?_eq_some_iff.mp hi).1
  have less : ∀ b, hot F σ (ρ.set i (.own (.dct ks (dss.map D.lst)))) b → hot F σ ρ b ∧ b ∉ as := fun b hb => by
    rcases hb with hb | ⟨j, hb⟩
    · exact ⟨.inl hb, fun z => (E.newO i b (.big hi (List.mem_cons_of_mem _ z))).2 hb⟩
    · rcases hb.put with ⟨e1, q, _⟩ | ⟨n, q⟩
      · subst e1
        have q : σ[j]? = some (some (.ref b)) := q
        rw [hs] at q
        cases q
        exact ⟨.inr ⟨j, .big hi (List.mem_cons_self ..)⟩, (List.nodup_cons.mp hn).1⟩
      · exact ⟨.inr ⟨j, q⟩, fun z => n (E.injO j i b q (.big hi (List.mem_cons_of_mem _ z)))⟩
  have vals : ∀ {as' : List Addr} {dss' : List (List D)}, (∀ b ∈ as', b ∈ as) → ListsAt (hot F σ ρ) K H as' dss' → DaAll (hot F σ (ρ.set i (.own (.dct ks (dss.map D.lst))))) K H (as'.map V.ref) (dss'.map D.lst) := fun {as' dss'} sub h => by
    induction as' generalizing dss' with
    | nil =>
      cases dss' with
      | nil => rfl
      | cons _ _ => exact h.elim
    | cons a r ih =>
      cases dss' with
      | nil => exact h.elim
      | cons ds dr =>
        obtain ⟨⟨vs, w1, w2⟩, w3⟩ := h
        exact ⟨.ref a, _, rfl, ⟨a, vs, rfl, ⟨fun z => (less a z).2 (sub a (List.mem_cons_self ..)), w1⟩, w2.less fun b z => (less b z).1⟩, ih (fun b hb => sub b (List.mem_cons_of_mem _ hb)) w3⟩
  obtain ⟨E', k⟩ := E.redo hi (e' := .own (.dct ks (dss.map D.lst))) (fun b z => .inl (by
    have z : σ[i]? = some (some (.ref b)) := z
    rw [hs] at z
    cases z
    exact List.mem_cons_self ..)) (fun b o _ e => e) ⟨p, hs, kvs, h1, h2, by rw [h3]; exact vals (fun _ z => z) h4⟩
  exact g F H σ Dn E' (I.later k)
/-- found.setdefault(q, []).append(y) -/
theorem xs_group {p : Addr} {as : List Addr} {ks : List (List Key)} {dss : List (List D)} (hi : ρ[i]? = some (grp K p as ks dss)) (hl : ks.length < 100000) (hd : ∀ ds ∈ dss, ds.length < 100000)
    {y : D} (hte : ∀ e', XE K te (ρ.set i e') fun r2 ρ2 => r2 = .d y ∧ ρ2 = ρ.set i e') (h : XE K tk ρ fun r ρ1 => ∃ q, r = .d (keyD q) ∧ ρ1 = ρ ∧ ∀ as', ∃ ρ3, ρ.set i (grp K p as' (dputK ks q) (gput ks dss q y)) = ρ3 ∧ Φ.nx ρ3) :
    XS K (tDrop (tBM K "list" rAppend (tSetDef (tVar i) tk (tLst tNil)) (tCons te tNil))) ρ Φ := fun F H σ Dn E I => by
  obtain ⟨hs, ⟨hn, kvs, h1, h2, h3, h4⟩, _, _⟩ := E.slot i _ hi
  refine ⟨.ref p, hs, p, rfl, .inr ⟨kvs, .inl h1⟩, h F H σ _ E fun u H1 r ρ1 kp R ⟨q, e1, e2, fin⟩ => ?_⟩
  subst e1 e2
  have set0 : ρ1.set i (grp K p as ks dss) = ρ1 := List.ext_getElem? fun j => by
    by_cases z : j = i
    · subst z; rw [List.getElem?_set_self (List.getElem?_eq_some_iff.mp hi).1, hi]
    · rw [List.getElem?_set_ne (Ne.symm z)]
  have hv := hte (grp K p as ks dss)
  rw [set0] at hv
  obtain ⟨E1, hu⟩ := R
  refine ⟨by show 0 ≤ sizeLine; exact Nat.zero_le _, fun l hl0 => ?_⟩
  have ex : Ext H1 (upd H1 l (.lst [])) := Ext.new hl0
  have E2 := E1.ex ex
  have k2 : Keep (hot F σ ρ1) H (hot F σ ρ1) (upd H1 l (.lst [])) := (hotR.hot kp).trans (Keep.ext ex)
  have nlh : ¬ hot F σ ρ1 l := fun z => (E1.hotTrk l z).ne hl0
  obtain ⟨hs', ⟨hn', kvs2, g1, g2, g3, g4⟩, _, _⟩ := E2.slot i _ hi
  subst g2
  have hu2 : Da (hot F σ ρ1) K (upd H1 l (.lst [])) u (keyD q) := hu.mono fun b o n e => ⟨n, ex b o e⟩
  obtain ⟨b, eb, hb⟩ := key_at (.inl hu2)
  have hl2 : kvs2.length < sizeLine := by rw [List.length_map] at hl; rw [sizeLine_eq]; omega
  have lens := g4.len
  have lenk : (kvs2.map (·.1)).length = dss.length := by
    have e := congrArg List.length g3
    rw [List.length_map, List.length_map] at e
    rw [List.length_map, e, lens]
  have mp : ∀ c ∈ p :: as, hot F σ ρ1 c := fun c hc => .inr ⟨i, .big hi hc⟩
  refine ⟨kvs2, q, b, g1, eb, hb, hl2, fun v hv' => ?_, fun hno => ?_⟩
  · -- there is a list
    obtain ⟨j, a, ds, rfl, w1, w2, ⟨vs, w3, w4⟩, w5⟩ := grp_find (y := .non) g3 g4 hv'
    refine ⟨.inl ⟨rfl, vs, SqL.of w3⟩, hv F _ σ _ E2 fun w H3 r2 ρ2 kp3 R3 ⟨e3, e4⟩ => ?_⟩
    subst e3 e4
    obtain ⟨E3, hw⟩ := R3
    obtain ⟨hs3, ⟨hn3, kvs3, m1, m2, m3, m4⟩, _, _⟩ := E3.slot i _ hi
    -- the same place in the heap as it is now
    have ha : a ∈ as := List.mem_of_getElem? w1
    have at3 : ∃ vs3, H3 a = some (.lst vs3) ∧ DaAll (hot F σ ρ2) K H3 vs3 ds := by
      have : ∀ {as' : List Addr} {dss' : List (List D)} {j : Nat}, ListsAt (hot F σ ρ2) K H3 as' dss' → as'[j]? = some a → dss'[j]? = some ds → ∃ vs3, H3 a = some (.lst vs3) ∧ DaAll (hot F σ ρ2) K H3 vs3 ds := fun {as' dss' j} h => by
        induction as' generalizing dss' j with
        | nil => intro e; cases e
        | cons c r ih =>
          cases dss' with
          | nil => exact h.elim
          | cons d1 dr =>
            intro e e'
            cases j with
            | zero => cases e; cases e'; exact h.1
            | succ j => exact ih h.2 e e'
      exact this m4 w1 w2
    obtain ⟨vs3, z1, z2⟩ := at3
    have ds5 : ds.length < 100000 := hd ds (List.mem_of_getElem? w2)
    have pa : p ≠ a := fun z => (List.nodup_cons.mp hn3).1 (by rw [z]; exact ha)
    have up : ∀ c o, c ≠ a → H3 c = some o → upd H3 a (.lst (vs3 ++ [w])) c = some o := fun c o n e => by rw [upd_ne n]; exact e
    have ah : hot F σ ρ2 a := mp a (List.mem_cons_of_mem _ ha)
    have cold : ∀ c o, ¬ hot F σ ρ2 c → H3 c = some o → ¬ hot F σ ρ2 c ∧ upd H3 a (.lst (vs3 ++ [w])) c = some o := fun c o n e => ⟨n, up c o (fun z => n (by rw [z]; exact ah)) e⟩
    have e6 : dputK (kvs2.map (·.1)) q = kvs2.map (·.1) := by unfold dputK; rw [if_pos (valV_in hv')]
    have e7 : gput (kvs2.map (·.1)) dss q y = dss.set j (ds ++ [y]) := by
      obtain ⟨j2, a2, ds2, q1, q2, q3, q4, q5⟩ := grp_find (y := y) g3 g4 hv'
      have : a2 = a := by injection q1.symm
      subst this
      have nd := (List.nodup_cons.mp hn').2
      have ej : j2 = j := by
        have l1 := (List.getElem?_eq_some_iff.mp q2)
        have l2 := (List.getElem?_eq_some_iff.mp w1)
        exact (List.getElem_inj nd).mp (l1.2.trans l2.2.symm)
      subst ej
      rw [w2] at q3
      cases q3
      exact q5
    obtain ⟨ρ3, e5, fin⟩ := fin as
    rw [e6, e7] at e5
    subst e5
    have same : ∀ c, hot F σ (ρ2.set i (grp K p as (kvs2.map (·.1)) (dss.set j (ds ++ [y])))) c → hot F σ ρ2 c := fun c hc => by
      rcases hc with hc | ⟨x, hc⟩
      · exact .inl hc
      · rcases hc.put with ⟨e1, q, _⟩ | ⟨_, q⟩
        · exact mp c q
        · exact .inr ⟨x, q⟩
    have s2 : GrS K p as (kvs2.map (·.1)) (dss.set j (ds ++ [y])) (hot F σ (ρ2.set i (grp K p as (kvs2.map (·.1)) (dss.set j (ds ++ [y]))))) (upd H3 a (.lst (vs3 ++ [w]))) := by
      refine ⟨hn3, kvs3, up p _ pa m1, m2, m3, ?_⟩
      refine ListsAt.put (vs := vs3 ++ [w]) (((z2.append (DaAll.one hw)).mono cold).less same) upd_same (fun c o n e => ⟨fun z => n (same c z), (cold c o n e).2⟩) (fun c n o e => up c o n e) m4 w1 (List.nodup_cons.mp hn3).2
    obtain ⟨E4, k4⟩ := E3.redo hi (e' := grp K p as (kvs2.map fun (y : List Key × V) => y.1) (dss.set j (ds ++ [y]))) (fun c z => .inl z) (fun c o n e => up c o (fun z => n (by rw [z]; exact List.mem_cons_of_mem _ ha)) e) ⟨hs3, s2, grS_stab, s2.nt⟩
    exact ⟨a, vs3, w, rfl, rfl, z1, by rw [z2.length, sizeLine_eq]; omega, I.nx _ σ _ ((k2.trans (hotR.hot kp3)).trans k4) E4 fin⟩
  · -- a new list
    obtain ⟨e5, e6⟩ := putK_new (v := V.ref l) hno
    have e7 : dputK (kvs2.map (·.1)) q = kvs2.map (·.1) ++ [q] := by unfold dputK; rw [if_neg (by rw [e6]; exact Bool.false_ne_true)]
    have pl : p ≠ l := fun z => nlh (by rw [← z]; exact mp p (List.mem_cons_self ..))
    have nla : l ∉ p :: as := fun z => nlh (mp l z)
    -- the dict has it
    let H2 : Hp := upd (upd H1 l (.lst [])) p (.dT (putK kvs2 q (.ref l)))
    have up2 : ∀ c o, c ≠ p → upd H1 l (.lst []) c = some o → H2 c = some o := fun c o n e => by show upd _ _ _ c = _; rw [upd_ne n]; exact e
    have cold2 : ∀ c o, ¬ hot F σ ρ1 c → upd H1 l (.lst []) c = some o → ¬ hot F σ ρ1 c ∧ H2 c = some o := fun c o n e => ⟨n, up2 c o (fun z => n (by rw [z]; exact mp p (List.mem_cons_self ..))) e⟩
    have h2l : H2 l = some (.lst []) := up2 l _ (Ne.symm pl) upd_same
    -- the state, the list being there: l is own from now on
    have base : ∀ ρ', (∀ c, hot F σ ρ' c ↔ (hot F σ ρ1 c ∨ c = l)) → GrS K p (as ++ [l]) (kvs2.map (·.1) ++ [q]) (dss ++ [[]]) (hot F σ ρ') H2 := fun ρ' hh => by
      have cold3 : ∀ c o, ¬ hot F σ ρ1 c → H1 c = some o → ¬ hot F σ ρ' c ∧ H2 c = some o := fun c o n e => ⟨fun z => ((hh c).mp z).elim n fun z => (by rw [z, hl0] at e; cases e), (cold2 c o n (ex c o e)).2⟩
      obtain ⟨_, kvs1, i1, i2, i3, i4⟩ := (E1.slot i _ hi).2.1
      refine ⟨?_, putK kvs2 q (.ref l), upd_same, ?_, ?_, ListsAt.snoc h2l (show DaAll _ K H2 [] [] from rfl) (i4.mono cold3 fun c hc o e => up2 c o (fun z => (List.nodup_cons.mp hn).1 (by rw [← z]; exact hc)) (ex c o e))⟩
      · have : (p :: as) ++ [l] = p :: (as ++ [l]) := rfl
        rw [← this]
        exact List.nodup_append.mpr ⟨hn, by simp, fun c hc d hd' z => nla (by rw [← List.mem_singleton.mp hd', ← z]; exact hc)⟩
      · rw [putK_keys, e7]
      · rw [e5, List.map_append, g3, List.map_append]; rfl
    have own : ∀ dss2, (∀ c, hot F σ (ρ1.set i (grp K p (as ++ [l]) (kvs2.map (·.1) ++ [q]) dss2)) c ↔ (hot F σ ρ1 c ∨ c = l)) := fun dss2 c => by
      have il : i < ρ1.length := (List.getElem?_eq_some_iff.mp hi).1
      constructor
      · rintro (hc | ⟨x, hc⟩)
        · exact .inl (.inl hc)
        · rcases hc.put with ⟨e1, z, _⟩ | ⟨_, z⟩
          · have z : c ∈ p :: (as ++ [l]) := z
            rcases List.mem_cons.mp z with z | z
            · exact .inl (mp c (by rw [z]; exact List.mem_cons_self ..))
            · rcases List.mem_append.mp z with z | z
              · exact .inl (mp c (List.mem_cons_of_mem _ z))
              · exact .inr (List.mem_singleton.mp z)
          · exact .inl (.inr ⟨x, z⟩)
      · rintro (hc | hc)
        · rcases hc with hc | ⟨x, hc⟩
          · exact .inl hc
          · by_cases z : x = i
            · subst z
              obtain ⟨e0, q1, q2⟩ := hc
              rw [hi] at q1
              cases q1
              have q2 : c ∈ p :: as := q2
              refine .inr ⟨x, _, List.getElem?_set_self il, ?_⟩
              show c ∈ p :: (as ++ [l])
              rcases List.mem_cons.mp q2 with w | w
              · rw [w]; exact List.mem_cons_self ..
              · exact List.mem_cons_of_mem _ (List.mem_append_left _ w)
            · obtain ⟨e0, q1, q2⟩ := hc
              exact .inr ⟨x, e0, by rw [List.getElem?_set_ne (Ne.symm z)]; exact q1, q2⟩
        · refine .inr ⟨i, _, List.getElem?_set_self il, ?_⟩
          show c ∈ p :: (as ++ [l])
          rw [hc]
          exact List.mem_cons_of_mem _ (List.mem_append_right _ (List.mem_singleton.mpr rfl))
    have s2 := base _ (own (dss ++ [[]]))
    obtain ⟨E3, k3⟩ := E1.redo (H' := H2) hi (e' := grp K p (as ++ [l]) (kvs2.map (fun (y : List Key × V) => y.1) ++ [q]) (dss ++ [[]])) (fun c z => by
      have z : c ∈ p :: (as ++ [l]) := z
      rcases List.mem_cons.mp z with z | z
      · exact .inl (by rw [z]; exact List.mem_cons_self ..)
      · rcases List.mem_append.mp z with z | z
        · exact .inl (List.mem_cons_of_mem _ z)
        · rw [List.mem_singleton.mp z]; exact .inr hl0) (fun c o n e => up2 c o (fun z => n (by rw [z]; exact List.mem_cons_self ..)) (ex c o e)) ⟨hs', s2, grS_stab, s2.nt⟩
    have k13 : Keep (hot F σ ρ1) H (hot F σ (ρ1.set i (grp K p (as ++ [l]) (kvs2.map (·.1) ++ [q]) (dss ++ [[]])))) H2 := (hotR.hot kp).trans k3
    refine .inl ⟨rfl, [], SqL.of h2l⟩ |> fun ty => ⟨ty, ?_⟩
    refine hte (grp K p (as ++ [l]) (kvs2.map (·.1) ++ [q]) (dss ++ [[]])) F H2 σ _ E3 fun w H3 r2 ρ2 kp3 R3 ⟨e3, e4⟩ => ?_
    subst e3 e4
    obtain ⟨E4, hw⟩ := R3
    have il : i < ρ1.length := (List.getElem?_eq_some_iff.mp hi).1
    have hi4 : (ρ1.set i (grp K p (as ++ [l]) (kvs2.map (·.1) ++ [q]) (dss ++ [[]])))[i]? = some (grp K p (as ++ [l]) (kvs2.map (·.1) ++ [q]) (dss ++ [[]])) := List.getElem?_set_self il
    obtain ⟨_, ⟨hn4, kvs4, m1, m2, m3, m4⟩, _, _⟩ := E4.slot i _ hi4
    have lm : l ∈ as ++ [l] := List.mem_append_right _ (List.mem_singleton.mpr rfl)
    have lh : hot F σ (ρ1.set i (grp K p (as ++ [l]) (kvs2.map (·.1) ++ [q]) (dss ++ [[]]))) l := .inr ⟨i, .big hi4 (List.mem_cons_of_mem _ lm)⟩
    have jl : (as ++ [l])[as.length]? = some l := by rw [List.getElem?_append_right (Nat.le_refl _), Nat.sub_self]; rfl
    have at4 : H3 l = some (.lst []) := by
      have : ∀ {as' : List Addr} {dss' : List (List D)}, as'.length = dss'.length → ListsAt (hot F σ (ρ1.set i (grp K p (as ++ [l]) (kvs2.map (·.1) ++ [q]) (dss ++ [[]])))) K H3 (as' ++ [l]) (dss' ++ [[]]) → H3 l = some (.lst []) := fun {as' dss'} hlen h => by
        induction as' generalizing dss' with
        | nil =>
          cases dss' with
          | nil =>
            obtain ⟨⟨vs, w1, w2⟩, _⟩ := h
            rw [w1, show vs = [] from w2]
          | cons _ _ => cases hlen
        | cons c r ih =>
          cases dss' with
          | nil => cases hlen
          | cons d1 dr => exact ih (Nat.succ.inj hlen) h.2
      exact this lens m4
    have up : ∀ c o, c ≠ l → H3 c = some o → upd H3 l (.lst [w]) c = some o := fun c o n e => by rw [upd_ne n]; exact e
    have cold : ∀ c o, ¬ hot F σ (ρ1.set i (grp K p (as ++ [l]) (kvs2.map (·.1) ++ [q]) (dss ++ [[]]))) c → H3 c = some o → ¬ hot F σ (ρ1.set i (grp K p (as ++ [l]) (kvs2.map (·.1) ++ [q]) (dss ++ [[]]))) c ∧ upd H3 l (.lst [w]) c = some o := fun c o n e => ⟨n, up c o (fun z => n (by rw [z]; exact lh)) e⟩
    obtain ⟨ρ3, e8, fin⟩ := fin (as ++ [l])
    rw [e7, gput_new lenk e6] at e8
    subst e8
    have same : ∀ c, hot F σ (ρ1.set i (grp K p (as ++ [l]) (kvs2.map (·.1) ++ [q]) (dss ++ [[y]]))) c → hot F σ (ρ1.set i (grp K p (as ++ [l]) (kvs2.map (·.1) ++ [q]) (dss ++ [[]]))) c := fun c hc => (own _ c).mpr ((own _ c).mp hc)
    have eset : (dss ++ [[]]).set as.length [y] = dss ++ [[y]] := by rw [lens, List.set_append_right _ _ (Nat.le_refl _), Nat.sub_self]; rfl
    have s3 : GrS K p (as ++ [l]) (kvs2.map (·.1) ++ [q]) (dss ++ [[y]]) (hot F σ (ρ1.set i (grp K p (as ++ [l]) (kvs2.map (·.1) ++ [q]) (dss ++ [[y]])))) (upd H3 l (.lst [w])) := by
      refine ⟨hn4, kvs4, up p _ pl m1, m2, m3, ?_⟩
      rw [← eset]
      refine ListsAt.put (vs := [w]) (((DaAll.one hw).mono cold).less fun c z => same c (by rw [eset] at z; exact z)) upd_same (fun c o n e => ⟨fun z => n (same c (by rw [eset] at z; exact z)), (cold c o n e).2⟩) (fun c n o e => up c o n e) m4 jl (List.nodup_cons.mp hn4).2
    obtain ⟨E5, k5⟩ := E4.redo hi4 (e' := grp K p (as ++ [l]) (kvs2.map (fun (y : List Key × V) => y.1) ++ [q]) (dss ++ [[y]])) (fun c z => .inl z) (fun c o n e => up c o (fun z => n (by rw [z]; exact List.mem_cons_of_mem _ lm)) e) ⟨hs', by rw [List.set_set]; exact s3, grS_stab, s3.nt⟩
    rw [List.set_set] at E5 k5
    exact ⟨l, [], w, rfl, rfl, at4, by rw [sizeLine_eq, List.length_nil]; omega, I.nx _ σ _ ((k13.trans (hotR.hot kp3)).trans k5) E5 fin⟩
end
end PW
end
section
/-! PWLcC: a comprehension over enumerate(self.f). -/
namespace PW
open PySem PySem.Spec PyProof.Rows L2
section
variable {K : PySem.W.Frag} {ρ : List Ent} {te : TE} {tt : TT} {g : TG} {vs : List Nat} {k : KE}
theorem xe_lcC {i0 : Nat} {C a p : Addr} {ns : List Str} {fs : List Fv} {f : Str} {ls : List D} (hi : ρ[i0]? = some (ob K C a ns fs)) (hC : Cls K C) (hN : NoAttr K C f) (hf : fvget ns fs f = some (.cell p (.lst ls))) (hiw : (wipeE ρ vs)[i0]? = some (ob K C a ns fs)) (hsl : OwnSlots g vs) (hww : ∀ σ : L2.St, wipe (wipe σ vs) vs = wipe σ vs)
    (hsz : ls.length ≤ sizeLine) (P : Nat → List D → Prop) (p0 : P 0 [])
    (step : ∀ i d acc, (enumFrom 0 ls)[i]? = some d → acc.length ≤ i → P i acc → XG K g d (wipeE ρ vs) fun ρ2 => wipeE ρ2 vs = wipeE ρ vs ∧ XT K tt ρ2 fun b ρ3 => ρ3 = ρ2 ∧ (b = true → XE K te ρ3 fun r ρ4 => ∃ y, peek ρ4 r = some y ∧ frz ρ4 r = ρ2 ∧ P (i + 1) (acc ++ [y])) ∧ (b = false → P (i + 1) acc))
    (fin : ∀ acc, acc.length ≤ ls.length → P ls.length acc → k (.nw (.lst acc)) (wipeE ρ vs)) : XE K (tLc (iEnuU K (tCons (tFld K (tVar i0) f) tNil)) g tt te vs) ρ k := fun F H σ Q E q =>
  cell_of E hi hC hN hf fun ⟨us0, hp0, _⟩ _ => by
  refine ⟨p, rfl, .inl ⟨⟨us0, SqL.of hp0⟩, fun Dl hD => ?_⟩⟩
  have E1 := E
  have elen : (enumFrom 0 ls).length = ls.length := enumFrom_len ls 0
  have h0 := h0_none E1 hD
  have hh : ∀ a, F.hd = some a → F.H0 a ≠ none := fun a e => (E1.hand a e).2.1
  have agr : ∀ {F' : Fr} {H' : Hp}, Env K F' H' σ ρ → Env K F' H' (wipe σ vs) (wipeE ρ vs) ∧ ∀ b, hot F' (wipe σ vs) (wipeE ρ vs) b → hot F' σ ρ b := fun e => e.agree (wipeE_len _ _) (wipe_length _ _) fun i e he => by
    rcases wipeE_get he with q | ⟨q1, q2⟩
    · exact .inl q
    · exact .inr ⟨q1, wipe_get q2⟩
  have agb : ∀ {F' : Fr} {H' : Hp}, Env K F' H' (wipe σ vs) (wipeE ρ vs) → Env K F' H' σ (wipeE ρ vs) ∧ ∀ b, hot F' σ (wipeE ρ vs) b → hot F' (wipe σ vs) (wipeE ρ vs) b := fun e => e.agree rfl (wipe_length _ _).symm fun i e he => by
    rcases wipeE_get he with q | ⟨q1, q2⟩
    · exact .inl q
    · exact .inr ⟨he, (wipe_get q2).symm⟩
  have A1 := agr E1
  let Z : Nat → Hp → Prop := fun i H' => ∃ acc, i ≤ ls.length ∧ acc.length ≤ i ∧ P i acc ∧ Env K (F.push Dl) H' (wipe σ vs) (wipeE ρ vs) ∧ OwnAt (hot (F.push Dl) (wipe σ vs) (wipeE ρ vs)) K H' Dl (.lst acc) ∧
    Keep (hot F σ ρ) H (hot (F.push Dl) (wipe σ vs) (wipeE ρ vs)) H'
  have e0 : Ext H (upd H Dl (.lst [])) := Ext.new hD
  have E1p : Env K (F.push Dl) (upd H Dl (.lst [])) (wipe σ vs) (wipeE ρ vs) := A1.1.push hD e0 (by rw [upd_same]; trivial)
  have pushless : ∀ b, hot (F.push Dl) (wipe σ vs) (wipeE ρ vs) b → hot F σ ρ b ∨ b = Dl := fun b hb => by
    rcases hb with hb | hb
    · rcases hb with hb | hb
      · exact .inl (.inl hb)
      · exact .inr hb
    · exact .inl (A1.2 b (.inr hb))
  have k0 : Keep (hot F σ ρ) H (hot (F.push Dl) (wipe σ vs) (wipeE ρ vs)) (upd H Dl (.lst [])) := fun b o n e => ⟨fun z => (pushless b z).elim n fun z => (by rw [z, hD] at e; cases e), e0 b o e⟩
  have z0 : Z 0 (upd H Dl (.lst [])) := ⟨[], Nat.zero_le _, Nat.le_refl _, p0, E1p, ⟨[], upd_same, rfl⟩, k0⟩
  refine ⟨fun i m H' => m = ls.length - i ∧ Z i H', ⟨ls.length, rfl, z0⟩, ?_⟩
  rintro i m H' ⟨rfl, acc, hi, hacc, p, E', ho, k'⟩
  by_cases hlt : i < ls.length
  · have hd : (enumFrom 0 ls)[i]? = some ((enumFrom 0 ls)[i]'(by rw [elen]; exact hlt)) := by simp [hlt]
    obtain ⟨dx0, fv0, w0, _, _, _, _, us1, hp1, hus1⟩ := ob_look E' hiw hf
    have hpl : i < us1.length := by rw [hus1.length]; exact hlt
    refine .inr ⟨⟨us1, us1[i], SqL.of hp1, List.getElem?_eq_getElem hpl⟩, Z (i + 1), fun H2 z => ⟨ls.length - (i + 1), by omega, rfl, z⟩, fun x H2 y => ?_⟩
    obtain ⟨T, x1, ex1, hT, eH2, hxs⟩ := y
    obtain ⟨d1, hd1, hd2⟩ := enumFrom_at hd
    rw [Nat.zero_add] at hd2
    obtain ⟨v1, hv1, hv2⟩ := hus1.at hd1
    have ev1 : v1 = x1 := by
      have z := hxs us1 (SqL.of hp1)
      rw [hv1] at z
      exact Option.some.inj z
    subst ev1
    obtain ⟨ex, hx⟩ : Ext H' H2 ∧ Da (hot (F.push Dl) (wipe σ vs) (wipeE ρ vs)) K H2 x ((enumFrom 0 ls)[i]'(by rw [elen]; exact hlt)) := by
      rw [hd2, ex1, eH2]
      exact pairDa (hot_tr E') hT (show Da _ K H' (.int ((i : Nat) : Int)) (.int (i : Nat)) from rfl) hv2
    have k2 := Keep.ext (M := hot (F.push Dl) (wipe σ vs) (wipeE ρ vs)) ex
    obtain ⟨us, hDl, dacc⟩ := ho
    have hD2 := ex _ _ hDl
    have E2 := (E'.ex ex).pin h0 hD2
    have dacc2 := dacc.mono k2
    have go := step i _ acc hd hacc p (F.pin Dl (.lst us)) H2 (wipe σ vs) x
    have conv := hsl (wipe σ vs) x H2 (fun σ2 H2 => tt σ2 H2 fun b H3 => if b = true then te σ2 H3 fun y H4 => ∃ acc, H4 Dl = some (.lst acc) ∧ acc.length < sizeLine ∧ Z (i + 1) (upd H4 Dl (.lst (acc ++ [y]))) else Z (i + 1) H3)
    rw [hww] at conv
    refine conv (go _ E2 hx fun σ3 ρ3 k3 E3 ⟨hwe, body⟩ hws => ?_)
    have agc : ∀ {F' : Fr} {H' : Hp}, Env K F' H' σ3 ρ3 → Env K F' H' (wipe σ vs) (wipeE ρ vs) ∧ ∀ b, hot F' (wipe σ vs) (wipeE ρ vs) b → hot F' σ3 ρ3 b := fun e => e.agree (by rw [← hwe, wipeE_len]) (by rw [← hws, wipe_length]) fun i e he => by
      rw [← hwe] at he
      rcases wipeE_get he with q | ⟨q1, q2⟩
      · exact .inl q
      · exact .inr ⟨q1, by rw [← hws]; exact wipe_get q2⟩
    have nd : F.hd ≠ some Dl := fun z => (hh Dl z) h0
    have ho0 : Ent.own (.lst []) ≠ Ent.u := fun z => nomatch z
    -- back to the state between two turns
    have again : ∀ (acc' : List D) (us' : List V) (H4 : Hp), Env K (F.pin Dl (.lst us)) H4 σ3 ρ3 → Keep (hot (F.pin Dl (.lst us)) σ3 ρ3) H2 (hot (F.pin Dl (.lst us)) σ3 ρ3) H4 → acc'.length ≤ i + 1 → P (i + 1) acc' → DaAll (hot (F.pin Dl (.lst us)) σ3 ρ3) K H4 us' acc' →
        Z (i + 1) (upd H4 Dl (.lst us')) := fun acc' us' H4 E4 k4 l4 p4 d4 => by
      obtain ⟨E5, less⟩ := agc E4
      have E6 := (E5.unpin (pk_none E1 h0) h0 hh).poke (o := .lst us') h0
      have hDh : hot (F.pin Dl (.lst us)) σ3 ρ3 Dl := .inl (.inr rfl)
      have k5 : Keep (hot (F.pin Dl (.lst us)) σ3 ρ3) H4 (hot (F.push Dl) (wipe σ vs) (wipeE ρ vs)) (upd H4 Dl (.lst us')) := fun b o n e => ⟨fun z => n (less b z), by rw [upd_ne fun z => n (by rw [z]; exact hDh)]; exact e⟩
      have k3' : Keep (hot (F.push Dl) (wipe σ vs) (wipeE ρ vs)) H2 (hot (F.pin Dl (.lst us)) σ3 ρ3) H2 := k3
      have kk := (k3'.trans k4).trans k5
      exact ⟨acc', hlt, l4, p4, E6, ⟨us', upd_same, d4.mono k5⟩, (k'.trans k2).trans kk⟩
    refine body (F.pin Dl (.lst us)) H2 σ3 _ E3 fun b H3 ρ4 k4 E4 ⟨e4, g1, g2⟩ => ?_
    subst e4
    have hD3 : H3 Dl = some (.lst us) := E4.go Dl _ nd upd_same
    cases b with
    | false =>
      show Z (i + 1) H3
      have := again acc us H3 E4 k4 (by omega) (g2 rfl) ((dacc2.mono k3).mono k4)
      have e : upd H3 Dl (.lst us) = H3 := by
        funext c
        by_cases z : c = Dl
        · rw [z, upd_same, hD3]
        · rw [upd_ne z]
      rw [e] at this
      exact this
    | true =>
      show te σ3 H3 fun y H4 => ∃ acc, H4 Dl = some (.lst acc) ∧ acc.length < sizeLine ∧ Z (i + 1) (upd H4 Dl (.lst (acc ++ [y])))
      refine g1 rfl (F.pin Dl (.lst us)) H3 σ3 _ E4 fun v H4 r ρ5 k5 R5 ⟨y, py, hf, pp⟩ => ?_
      obtain ⟨E5, d5⟩ := R5.frz py
      have kf := keep_frz (r := r) R5.env
      rw [hf] at E5 d5 kf
      have k45 := k4.trans ((hotR.hot k5).trans kf)
      refine ⟨us, E5.go Dl _ nd upd_same, ?_, again (acc ++ [y]) (us ++ [v]) H4 E5 k45 (by rw [List.length_append, List.length_singleton]; omega) pp (((dacc2.mono k3).mono k45).append (DaAll.one d5))⟩
      rw [dacc2.length]
      omega
  · have e : i = ls.length := by omega
    subst e
    obtain ⟨dx0, fv0, w0, _, _, _, _, us1, hp1, hus1⟩ := ob_look E' hiw hf
    refine .inl ⟨⟨us1, SqL.of hp1, Nat.le_of_eq hus1.length⟩, ?_⟩
    have Eb := agb E'
    refine q _ H' (.nw (.lst acc)) _ ?_ ⟨Dl, rfl, h0, fun z => ?_, Eb.1, ho.mono (fun b o n e => ⟨fun z => n (Eb.2 b z), e⟩) fun _ z => z⟩ (fin acc hacc p)
    · intro b o n e
      obtain ⟨q3, q4⟩ := k' b o n e
      refine ⟨fun z => ?_, q4⟩
      rcases z with z | ⟨_, z⟩
      · exact q3 (Eb.2 b (by
          rcases z with z | z
          · exact .inl (.inl z)
          · exact .inr z))
      · cases z
        exact q3 (.inl (.inr rfl))
    · have q : hot F σ ρ Dl := by
        rcases z with z | ⟨j, e, h1, h2⟩
        · exact .inl z
        · rcases wipeE_get h1 with q | ⟨q1, q2⟩
          · rw [q] at h2; exact (show False from h2).elim
          · exact .inr ⟨j, e, q1, h2⟩
      exact (E1.hotTrk Dl q).ne hD
end
end PW
end
section
namespace LawK54
/-! what Spread does: plain -/
section
variable {α : Type} [DecidableEq α]
/-- held within n rounds -/
def Rnd (cs : List (List α × α)) (B : α → Prop) (w : Option Nat) : Nat → α → Prop
  | 0, q => B q
  | n + 1, q => Rnd cs B w n q ∨ ∃ i body, cs[i]? = some (body, q) ∧ w ≠ some i ∧ ∀ b ∈ body, Rnd cs B w n b
/-- what was held a round ahead -/
def Prev (cs : List (List α × α)) (B : α → Prop) (w : Option Nat) : Nat → α → Prop
  | 0, _ => False
  | n + 1, q => Rnd cs B w n q
variable {cs : List (List α × α)} {B : α → Prop} {w : Option Nat}
theorem rnd_up {n m : Nat} {q : α} (h : Rnd cs B w n q) (e : n ≤ m) : Rnd cs B w m q := by
  obtain ⟨d, rfl⟩ := Nat.exists_eq_add_of_le e
  clear e
  induction d with
  | zero => exact h
  | succ d ih => exact .inl ih
theorem rnd_hold : ∀ {n : Nat} {q : α}, Rnd cs B w n q → Hold cs B w q
  | 0, _, h => .base h
  | n + 1, q, h => by
    rcases h with h | ⟨i, body, e, hw, hb⟩
    · exact rnd_hold h
    · exact .step e hw fun b hbm => rnd_hold (hb b hbm)
theorem prev_rnd {n : Nat} {q : α} (h : Prev cs B w n q) : Rnd cs B w n q := by
  cases n with
  | zero => exact h.elim
  | succ n => exact .inl h
/-- no round brings more -/
theorem shut_rnd {n : Nat} (h : ∀ q, Rnd cs B w n q → Prev cs B w n q) (h0 : n = 0 → ∀ (i : Nat) (q : α), cs[i]? ≠ some ([], q)) : Shut cs w (Rnd cs B w n) := fun i body head e hw hb => by
  cases n with
  | zero =>
    cases body with
    | nil => exact absurd e (h0 rfl i head)
    | cons b r => exact (h b (hb b (List.mem_cons_self ..))).elim
  | succ n => exact .inr ⟨i, body, e, hw, fun b hbm => h b (hb b hbm)⟩
theorem hold_rnd {n : Nat} (h : Shut cs w (Rnd cs B w n)) {q : α} : Rnd cs B w n q ↔ Hold cs B w q := ⟨rnd_hold, hold_in (fun k hk => rnd_up (n := 0) hk (Nat.zero_le _)) h⟩
end
/-! met -/
theorem getD_set_ne {ws : List Int} {n i : Nat} {x : Int} (h : i ≠ n) : (ws.set n x).getD i 0 = ws.getD i 0 := by
  rw [List.getD_eq_getElem?_getD, List.getD_eq_getElem?_getD, List.getElem?_set_ne (Ne.symm h)]
theorem getD_set_eq {ws : List Int} {n : Nat} {x : Int} (h : n < ws.length) : (ws.set n x).getD n 0 = x := by
  rw [List.getD_eq_getElem?_getD, List.getElem?_set_self h]; rfl
/-- the counts are one less at done; out: those that came to nought -/
structure Mt (ws : List Int) (done : List Nat) (ws' : List Int) (out : List Nat) : Prop where
  len : ws'.length = ws.length
  at_ : ∀ i, ws'.getD i 0 = ws.getD i 0 - (if i ∈ done then 1 else 0)
  mem : ∀ i, i ∈ out ↔ i ∈ done ∧ ws.getD i 0 - 1 = 0
  few : out.length ≤ done.length
theorem Mt.start (ws : List Int) : Mt ws [] ws [] := ⟨rfl, fun i => by simp, fun i => by simp, Nat.le_refl _⟩
theorem Mt.step {ws ws' : List Int} {done out : List Nat} {n : Nat} (h : Mt ws done ws' out) (hn : n ∉ done) (hl : n < ws.length) :
    Mt ws (done ++ [n]) (ws'.set n (ws'.getD n 0 - 1)) (if ws'.getD n 0 - 1 = 0 then out ++ [n] else out) := by
  have e0 : ws'.getD n 0 = ws.getD n 0 := by rw [h.at_ n, if_neg hn]; omega
  refine ⟨by rw [List.length_set, h.len], fun i => ?_, fun i => ?_, ?_⟩
  · by_cases e : i = n
    · subst e
      rw [getD_set_eq (by rw [h.len]; exact hl), e0, if_pos (List.mem_append_right _ (List.mem_singleton.mpr rfl))]
    · rw [getD_set_ne e, h.at_ i]
      have m : (i ∈ done ++ [n]) ↔ i ∈ done := by rw [List.mem_append, List.mem_singleton]; exact ⟨fun z => z.elim id fun z => absurd z e, .inl⟩
      by_cases z : i ∈ done
      · rw [if_pos z, if_pos (m.mpr z)]
      · rw [if_neg z, if_neg fun y => z (m.mp y)]
  · rw [List.mem_append, List.mem_singleton, e0]
    by_cases e : ws.getD n 0 - 1 = 0
    · rw [if_pos e, List.mem_append, List.mem_singleton, h.mem i]
      constructor
      · rintro (z | z)
        · exact ⟨.inl z.1, z.2⟩
        · rw [z]; exact ⟨.inr rfl, e⟩
      · rintro ⟨z | z, y⟩
        · exact .inl ⟨z, y⟩
        · exact .inr z
    · rw [if_neg e, h.mem i]
      constructor
      · rintro ⟨z, y⟩; exact ⟨.inl z, y⟩
      · rintro ⟨z | z, y⟩
        · exact ⟨z, y⟩
        · rw [z] at y; exact absurd y e
  · have f := h.few
    rw [List.length_append, List.length_singleton]
    split
    · rw [List.length_append, List.length_singleton]; omega
    · omega
theorem nodup_len {α : Type} [DecidableEq α] : ∀ (l D : List α), l.Nodup → (∀ x ∈ l, x ∈ D) → l.length ≤ D.length
  | [], _, _, _ => Nat.zero_le _
  | x :: l, D, hn, hs => by
    obtain ⟨h1, h2⟩ := List.nodup_cons.mp hn
    have hx : x ∈ D := hs x (List.mem_cons_self ..)
    have ih := nodup_len l (D.erase x) h2 fun y hy => (List.mem_erase_of_ne fun e => h1 (by rw [← e]; exact hy)).mpr (hs y (List.mem_cons_of_mem _ hy))
    have e := List.length_erase_of_mem hx
    have hp : 0 < D.length := List.length_pos_of_mem hx
    rw [List.length_cons]
    omega
/-! counts -/
theorem count_less {α : Type} [DecidableEq α] {q : α} {p p' : α → Bool} (hq : p q = true) (hp : ∀ x, p' x = (p x && !decide (x = q))) : ∀ {l : List α}, l.Nodup → ((l.filter p').length : Int) = (l.filter p).length - (if q ∈ l then 1 else 0)
  | [], _ => by simp
  | a :: l, hn => by
    obtain ⟨n1, n2⟩ := List.nodup_cons.mp hn
    have ih := count_less hq hp n2
    by_cases e : a = q
    · subst e
      rw [List.filter_cons, List.filter_cons, hp a, hq]
      rw [if_neg n1] at ih
      simp only [decide_true, Bool.not_true, Bool.and_false, Bool.false_eq_true, if_false, if_true, List.length_cons, List.mem_cons, true_or]
      omega
    · have e2 : p' a = p a := by rw [hp a, decide_eq_false e, Bool.not_false, Bool.and_true]
      rw [List.filter_cons, List.filter_cons, e2]
      have m : (q ∈ a :: l) = (q ∈ l) := by rw [List.mem_cons]; exact propext ⟨fun z => z.elim (fun z => absurd z.symm e) id, .inr⟩
      simp only [m]
      split
      · rw [List.length_cons, List.length_cons]; omega
      · exact ih
theorem filter_zero {α : Type} {p : α → Bool} {l : List α} : (l.filter p).length = 0 ↔ ∀ x ∈ l, p x = false := by
  rw [List.length_eq_zero_iff, List.filter_eq_nil_iff]
  exact ⟨fun h x hx => by simpa using h x hx, fun h x hx => by rw [h x hx]; exact Bool.false_ne_true⟩
end LawK54
end
section
namespace LawK54
open PySem PySem.Spec PyProof.Rows L2 PW
/-! Spread, plain, over data -/
instance memK (q : List Key) (l : List (List Key)) : Decidable (q ∈ l) := if h : (l.any fun a => decide (a = q)) = true then .isTrue (by
  obtain ⟨a, ha, e⟩ := List.any_eq_true.mp h
  rw [← of_decide_eq_true e]
  exact ha) else .isFalse fun z => h (List.any_eq_true.mpr ⟨q, z, decide_eq_true rfl⟩)
/-- unlike facts, as keys -/
def unl (fs : List D) : List (List Key) := (dks keyF (fun _ => .bl true) fs).1
theorem unl_nd (fs : List D) : (unl fs).Nodup := dks_nd keyF _ fs
theorem unl_len (fs : List D) : (unl fs).length ≤ fs.length := dks_len keyF _ fs
theorem dputK_mem0 {ks : List (List Key)} {q q' : List Key} : q' ∈ dputK ks q ↔ q' ∈ ks ∨ q' = q := by
  unfold dputK
  split
  · rename_i h
    obtain ⟨a, ha, e⟩ := List.any_eq_true.mp h
    have e := of_decide_eq_true e
    exact ⟨.inl, fun z => z.elim id fun z => by rw [z, ← e]; exact ha⟩
  · rw [List.mem_append, List.mem_singleton]
theorem dks_mem (kf : D → List Key) (vf : D → D) : ∀ (n : Nat) (ds : List D), ds.length = n → ∀ q, q ∈ (dks kf vf ds).1 ↔ q ∈ ds.map kf := fun n => by
  induction n with
  | zero =>
    intro ds h q
    rw [List.length_eq_zero_iff.mp h]
    exact Iff.rfl
  | succ n ih =>
    intro ds h q
    have hne : ds ≠ [] := fun z => by rw [z] at h; cases h
    have i := ih ds.dropLast (by rw [List.length_dropLast]; omega) q
    rw [← List.dropLast_concat_getLast hne, dks_snoc, dputK_mem0, i, List.map_append, List.mem_append]
    simp
theorem unl_mem {fs : List D} {q : List Key} : q ∈ unl fs ↔ q ∈ fs.map keyF := dks_mem keyF _ _ fs rfl q
/-- a clause's body -/
def bodyD (c : D) : List D := match c with
  | .tup [.tup body, _] => body
  | _ => []
theorem bodyD_clK {c : D} (h : isClause c = true) : (clK c).1 = (bodyD c).map keyF := by
  obtain ⟨body, head, rfl, _⟩ := isClause_form h
  rfl
/-- in whose bodies it is -/
def usersOf (cs : List D) (q : List Key) : List Nat := (List.range cs.length).filter fun i => decide (q ∈ (clK (cs.getD i .non)).1)
theorem users_mem {cs : List D} {q : List Key} {i : Nat} : i ∈ usersOf cs q ↔ ∃ c, cs[i]? = some c ∧ q ∈ (clK c).1 := by
  unfold usersOf
  rw [List.mem_filter, List.mem_range, decide_eq_true_eq]
  constructor
  · rintro ⟨h1, h2⟩
    refine ⟨cs[i], List.getElem?_eq_getElem h1, ?_⟩
    rw [List.getD_eq_getElem?_getD, List.getElem?_eq_getElem h1] at h2
    exact h2
  · rintro ⟨c, h1, h2⟩
    refine ⟨(List.getElem?_eq_some_iff.mp h1).1, ?_⟩
    rw [List.getD_eq_getElem?_getD, h1]
    exact h2
theorem users_nd {cs : List D} {q : List Key} : (usersOf cs q).Nodup := List.Nodup.sublist List.filter_sublist List.nodup_range
theorem users_len {cs : List D} {q : List Key} : (usersOf cs q).length ≤ cs.length := by
  have := List.length_filter_le (fun i => decide (q ∈ (clK (cs.getD i .non)).1)) (List.range cs.length)
  rw [List.length_range] at this
  exact this
section
variable {cs gs : List D} {is : List Int} {w : Option Nat}
abbrev RndL (cs gs : List D) (is : List Int) (w : Option Nat) (n : Nat) (q : List Key) : Prop := Rnd (cs.map clK) (Base gs is) w n q
abbrev PrevL (cs gs : List D) (is : List Int) (w : Option Nat) (n : Nat) (q : List Key) : Prop := Prev (cs.map clK) (Base gs is) w n q
/-- whence a fact comes, that came in round n -/
def Told (cs gs : List D) (is : List Int) (w : Option Nat) (n : Nat) (q : List Key) (t : D) : Prop :=
  (∃ i : Int, t = .tup [.str "ground", .int i] ∧ i ∈ is ∧ ∃ fs, gs[i.toNat]? = some (.tup fs) ∧ q ∈ fs.map keyF) ∨
  ∃ (i m : Nat) (c : D), t = .tup [.str "clause", .int (i : Int)] ∧ w ≠ some i ∧ cs[i]? = some c ∧ (clK c).2 = q ∧ n = m + 1 ∧ ∀ b ∈ (clK c).1, RndL cs gs is w m b
def ValL (cs gs : List D) (is : List Int) (w : Option Nat) (q : List Key) (x : D) : Prop := ∃ (n : Nat) (t : D), x = .tup [.int (n : Int), t] ∧ RndL cs gs is w n q ∧ (∀ m, m < n → ¬ RndL cs gs is w m q) ∧ Told cs gs is w n q t
/-- between two rounds -/
structure Jt (cs gs : List D) (is : List Int) (w : Option Nat) (t : Nat) (ks0 : List (List Key)) (ks : List (List Key)) (xs : List D) (P : List (List Key)) (layer : List (List Key)) : Prop where
  nd : ks.Nodup
  len : xs.length = ks.length
  mem : ∀ q, q ∈ ks ↔ RndL cs gs is w t q
  pre : ∀ q, q ∈ P ↔ PrevL cs gs is w t q
  lnd : layer.Nodup
  lay : ∀ q, q ∈ layer ↔ RndL cs gs is w t q ∧ ¬ PrevL cs gs is w t q
  val : ∀ (j : Nat) (q : List Key) (x : D), ks[j]? = some q → xs[j]? = some x → ValL cs gs is w q x
  sub : ∀ q ∈ ks, q ∈ ks0 ∨ ∃ c ∈ cs, (clK c).2 = q
/-- within a round: the facts of P are met, those of P0 were so ahead of it -/
structure Mid (cs : List D) (t : Nat) (P0 P : List (List Key)) (ws : List Int) (ready : List Nat) : Prop where
  wl : ws.length = cs.length
  wan : ∀ (i : Nat) (c : D), cs[i]? = some c → ws.getD i 0 = ((unl (bodyD c)).filter fun q => !decide (q ∈ P)).length
  rdy : ∀ i, i ∈ ready ↔ ∃ c, cs[i]? = some c ∧ (∀ b ∈ (clK c).1, b ∈ P) ∧ ((t = 0 ∧ (clK c).1 = []) ∨ ∃ b ∈ (clK c).1, b ∉ P0)
theorem Mid.step {t : Nat} {P0 P : List (List Key)} {ws ws' : List Int} {ready out : List Nat} {q : List Key} (hcs : ∀ c ∈ cs, isClause c = true) (h : Mid cs t P0 P ws ready) (hq : q ∉ P) (h0 : ∀ b ∈ P0, b ∈ P) (m : Mt ws (usersOf cs q) ws' out) : Mid cs t P0 (P ++ [q]) ws' (ready ++ out) := by
  have memP : ∀ x, x ∈ P ++ [q] ↔ x ∈ P ∨ x = q := fun x => by rw [List.mem_append, List.mem_singleton]
  have cnt : ∀ (i : Nat) (c : D), cs[i]? = some c → (((unl (bodyD c)).filter fun x => !decide (x ∈ P ++ [q])).length : Int) = ((unl (bodyD c)).filter fun x => !decide (x ∈ P)).length - (if i ∈ usersOf cs q then 1 else 0) := fun i c hc => by
    have e := count_less (q := q) (p := fun x => !decide (x ∈ P)) (p' := fun x => !decide (x ∈ P ++ [q])) (by simp [hq]) (fun x => by simp only [memP]; by_cases a : x ∈ P <;> by_cases b : x = q <;> simp [a, b]) (unl_nd (bodyD c))
    rw [e]
    have : (q ∈ unl (bodyD c)) ↔ i ∈ usersOf cs q := by
      rw [unl_mem, ← bodyD_clK (hcs c (List.mem_of_getElem? hc)), users_mem]
      exact ⟨fun z => ⟨c, hc, z⟩, fun ⟨c', e', z⟩ => by rw [hc] at e'; cases e'; exact z⟩
    by_cases z : i ∈ usersOf cs q
    · rw [if_pos z, if_pos (this.mpr z)]
    · rw [if_neg z, if_neg fun y => z (this.mp y)]
  refine ⟨by rw [m.len, h.wl], fun i c hc => ?_, fun i => ?_⟩
  · rw [m.at_ i, h.wan i c hc, ← cnt i c hc]
  · rw [List.mem_append, h.rdy i, m.mem i]
    constructor
    · rintro (⟨c, hc, h1, h2⟩ | ⟨hu, hz⟩)
      · exact ⟨c, hc, fun b hb => (memP b).mpr (.inl (h1 b hb)), h2⟩
      · obtain ⟨c, hc, hqc⟩ := users_mem.mp hu
        refine ⟨c, hc, fun b hb => ?_, .inr ⟨q, hqc, fun z => hq (h0 q z)⟩⟩
        have e := cnt i c hc
        rw [if_pos hu, ← h.wan i c hc, hz] at e
        have e0 := filter_zero.mp (Int.ofNat.inj e)
        have y := e0 b (unl_mem.mpr (by rw [← bodyD_clK (hcs c (List.mem_of_getElem? hc))]; exact hb))
        exact of_decide_eq_true (by cases z : decide (b ∈ P ++ [q]) with | true => rfl | false => rw [z] at y; cases y)
    · rintro ⟨c, hc, h1, h2⟩
      by_cases hqc : q ∈ (clK c).1
      · have hu : i ∈ usersOf cs q := users_mem.mpr ⟨c, hc, hqc⟩
        refine .inr ⟨hu, ?_⟩
        have e := cnt i c hc
        rw [if_pos hu, ← h.wan i c hc] at e
        rw [← e]
        have : ((unl (bodyD c)).filter fun x => !decide (x ∈ P ++ [q])).length = 0 := filter_zero.mpr fun x hx => by
          have y := h1 x (by rw [bodyD_clK (hcs c (List.mem_of_getElem? hc))]; exact unl_mem.mp hx)
          rw [decide_eq_true y]; rfl
        rw [this]; rfl
      · refine .inl ⟨c, hc, fun b hb => ?_, h2⟩
        rcases (memP b).mp (h1 b hb) with z | z
        · exact z
        · rw [z] at hb; exact absurd hb hqc
/-! drawn -/
def headK (cs : List D) (n : Nat) : List Key := (clK (cs.getD n .non)).2
theorem headK_at {n : Nat} {c : D} (h : cs[n]? = some c) : headK cs n = (clK c).2 := by
  unfold headK
  rw [List.getD_eq_getElem?_getD, h]
  rfl
abbrev drawV (c : Int) (n : Nat) : D := .tup [.int c, .tup [.str "clause", .int (n : Int)]]
/-- ks, xs are what was found ahead, done the clauses that were looked at, ks', xs' what is found now, new what is new of it -/
structure Dr (cs : List D) (w : Option Nat) (c : Int) (ks : List (List Key)) (xs : List D) (done : List Nat) (ks' : List (List Key)) (xs' : List D) (new : List (List Key)) : Prop where
  k : ks' = ks ++ new
  nd : ks'.Nodup
  v : ∃ vs, xs' = xs ++ vs ∧ vs.length = new.length ∧ ∀ (j : Nat) (q : List Key) (x : D), new[j]? = some q → vs[j]? = some x → ∃ n, n ∈ done ∧ x = drawV c n ∧ w ≠ some n ∧ headK cs n = q
  mem : ∀ q, q ∈ new ↔ q ∉ ks ∧ ∃ n, n ∈ done ∧ w ≠ some n ∧ headK cs n = q
  few : new.length ≤ done.length
theorem Dr.start {c : Int} {ks : List (List Key)} {xs : List D} (h : ks.Nodup) : Dr cs w c ks xs [] ks xs [] := ⟨by simp, h, ⟨[], by simp, rfl, fun j q x e => nomatch e⟩, fun q => by simp, Nat.le_refl _⟩
theorem Dr.skip {c : Int} {ks ks' new : List (List Key)} {xs xs' : List D} {done : List Nat} {n : Nat} (h : Dr cs w c ks xs done ks' xs' new) (hn : ¬ (w ≠ some n ∧ headK cs n ∉ ks')) : Dr cs w c ks xs (done ++ [n]) ks' xs' new := by
  obtain ⟨vs, v1, v2, v3⟩ := h.v
  refine ⟨h.k, h.nd, ⟨vs, v1, v2, fun j q x e1 e2 => ?_⟩, fun q => ?_, by have := h.few; rw [List.length_append]; omega⟩
  · obtain ⟨m, m1, m2⟩ := v3 j q x e1 e2
    exact ⟨m, List.mem_append_left _ m1, m2⟩
  · rw [h.mem q]
    constructor
    · rintro ⟨a, m, m1, m2⟩
      exact ⟨a, m, List.mem_append_left _ m1, m2⟩
    · rintro ⟨a, m, m1, m2, m3⟩
      rcases List.mem_append.mp m1 with m1 | m1
      · exact ⟨a, m, m1, m2, m3⟩
      · rw [List.mem_singleton] at m1
        subst m1
        by_cases z : headK cs m ∈ ks'
        · rw [h.k, List.mem_append, m3] at z
          rcases z with z | z
          · exact absurd z a
          · exact (h.mem q).mp z
        · exact absurd ⟨m2, z⟩ hn
theorem Dr.add {c : Int} {ks ks' new : List (List Key)} {xs xs' : List D} {done : List Nat} {n : Nat} (h : Dr cs w c ks xs done ks' xs' new) (h1 : w ≠ some n) (h2 : headK cs n ∉ ks') : Dr cs w c ks xs (done ++ [n]) (ks' ++ [headK cs n]) (xs' ++ [drawV c n]) (new ++ [headK cs n]) := by
  obtain ⟨vs, v1, v2, v3⟩ := h.v
  refine ⟨by rw [h.k, List.append_assoc], List.nodup_append.mpr ⟨h.nd, by simp, fun a ha b hb z => h2 (by rw [← List.mem_singleton.mp hb, ← z]; exact ha)⟩, ⟨vs ++ [drawV c n], by rw [v1, List.append_assoc], by rw [List.length_append, List.length_append, v2]; rfl, fun j q x e1 e2 => ?_⟩, fun q => ?_, by have := h.few; rw [List.length_append, List.length_append]; exact Nat.succ_le_succ this⟩
  · by_cases hj : j < new.length
    · rw [List.getElem?_append_left hj] at e1
      rw [List.getElem?_append_left (by rw [v2]; exact hj)] at e2
      obtain ⟨m, m1, m2⟩ := v3 j q x e1 e2
      exact ⟨m, List.mem_append_left _ m1, m2⟩
    · rw [List.getElem?_append_right (by omega)] at e1
      rw [List.getElem?_append_right (by rw [v2]; omega), v2] at e2
      have e3 : j - new.length = 0 := by
        have := (List.getElem?_eq_some_iff.mp e1).1
        rw [List.length_singleton] at this
        omega
      rw [e3] at e1 e2
      cases e1; cases e2
      exact ⟨n, List.mem_append_right _ (List.mem_singleton.mpr rfl), rfl, h1, rfl⟩
  · rw [List.mem_append, List.mem_singleton, h.mem q]
    constructor
    · rintro (⟨a, m, m1, m2⟩ | z)
      · exact ⟨a, m, List.mem_append_left _ m1, m2⟩
      · rw [z]
        exact ⟨fun y => h2 (by rw [h.k]; exact List.mem_append_left _ y), n, List.mem_append_right _ (List.mem_singleton.mpr rfl), h1, rfl⟩
    · rintro ⟨a, m, m1, m2, m3⟩
      rcases List.mem_append.mp m1 with m1 | m1
      · exact .inl ⟨a, m, m1, m2, m3⟩
      · rw [List.mem_singleton] at m1
        subst m1
        exact .inr m3.symm
/-- a round is done -/
theorem Jt.next {t : Nat} {ks0 ks P layer ks' new : List (List Key)} {xs xs' : List D} {ws : List Int} {ready : List Nat} (h : Jt cs gs is w t ks0 ks xs P layer) (m : Mid cs t P (P ++ layer) ws ready) (d : Dr cs w ((t : Int) + 1) ks xs ready ks' xs' new) :
    Jt cs gs is w (t + 1) ks0 ks' xs' (P ++ layer) new := by
  have pl : ∀ q, q ∈ P ++ layer ↔ RndL cs gs is w t q := fun q => by
    rw [List.mem_append, h.pre, h.lay]
    constructor
    · rintro (z | z)
      · exact prev_rnd z
      · exact z.1
    · intro z
      by_cases y : PrevL cs gs is w t q
      · exact .inl y
      · exact .inr ⟨z, y⟩
  have rd : ∀ (n : Nat), n ∈ ready → ∃ c, cs[n]? = some c ∧ ∀ b ∈ (clK c).1, RndL cs gs is w t b := fun n hn => by
    obtain ⟨c, hc, h1, _⟩ := (m.rdy n).mp hn
    exact ⟨c, hc, fun b hb => (pl b).mp (h1 b hb)⟩
  have clat : ∀ {n : Nat} {c : D}, cs[n]? = some c → (cs.map clK)[n]? = some ((clK c).1, (clK c).2) := fun {n c} hc => by rw [List.getElem?_map, hc]; rfl
  have nw : ∀ q, q ∈ new ↔ RndL cs gs is w (t + 1) q ∧ ¬ RndL cs gs is w t q := fun q => by
    rw [d.mem q, h.mem q]
    constructor
    · rintro ⟨a, n, n1, n2, n3⟩
      obtain ⟨c, hc, hb⟩ := rd n n1
      refine ⟨.inr ⟨n, (clK c).1, ?_, n2, hb⟩, a⟩
      rw [clat hc, ← headK_at hc, n3]
    · rintro ⟨a, b⟩
      refine ⟨b, ?_⟩
      rcases a with a | ⟨i, body, e, hw, hb⟩
      · exact absurd a b
      rw [List.getElem?_map] at e
      cases hc : cs[i]? with
      | none => rw [hc] at e; cases e
      | some c =>
        rw [hc] at e
        have e2 : clK c = (body, q) := by simpa using e
        refine ⟨i, (m.rdy i).mpr ⟨c, hc, fun b hbm => (pl b).mpr (hb b (by rw [e2] at hbm; exact hbm)), ?_⟩, hw, by rw [headK_at hc, e2]⟩
        by_cases z : ∃ b ∈ (clK c).1, b ∉ P
        · exact .inr z
        · refine .inl ?_
          have hall : ∀ b ∈ (clK c).1, PrevL cs gs is w t b := fun b hbm => Classical.byContradiction fun y => z ⟨b, hbm, fun y2 => y ((h.pre b).mp y2)⟩
          cases t with
          | zero =>
            refine ⟨rfl, ?_⟩
            cases eb : (clK c).1 with
            | nil => rfl
            | cons b0 r => exact (hall b0 (by rw [eb]; exact List.mem_cons_self ..)).elim
          | succ s => exact absurd (show RndL cs gs is w (s + 1) q from .inr ⟨i, body, by rw [List.getElem?_map, hc]; exact congrArg some e2, hw, fun b hbm => hall b (by rw [e2]; exact hbm)⟩) b
  obtain ⟨vs, v1, v2, v3⟩ := d.v
  refine ⟨d.nd, by rw [v1, d.k, List.length_append, List.length_append, v2, h.len], fun q => ?_, pl, ?_, nw, fun j q x e1 e2 => ?_, fun q hq => ?_⟩
  · rw [d.k, List.mem_append, nw q, h.mem q]
    constructor
    · rintro (z | z)
      · exact .inl z
      · exact z.1
    · intro z
      by_cases y : RndL cs gs is w t q
      · exact .inl y
      · exact .inr ⟨z, y⟩
  · have nd := d.nd
    rw [d.k] at nd
    exact (List.nodup_append.mp nd).2.1
  · rw [d.k] at e1
    rw [v1] at e2
    by_cases hj : j < ks.length
    · rw [List.getElem?_append_left hj] at e1
      rw [List.getElem?_append_left (by rw [h.len]; exact hj)] at e2
      exact h.val j q x e1 e2
    · rw [List.getElem?_append_right (by omega)] at e1
      rw [List.getElem?_append_right (by rw [h.len]; omega), h.len] at e2
      obtain ⟨n, n1, n2, n3, n4⟩ := v3 _ q x e1 e2
      obtain ⟨c, hc, hb⟩ := rd n n1
      have hn := (nw q).mp (List.mem_of_getElem? e1)
      refine ⟨t + 1, .tup [.str "clause", .int (n : Int)], ?_, hn.1, fun i hi z => hn.2 (rnd_up z (by omega)), .inr ⟨n, t, c, rfl, n3, hc, by rw [← headK_at hc]; exact n4, rfl, hb⟩⟩
      rw [n2]
      rfl
  · rw [d.k, List.mem_append] at hq
    rcases hq with hq | hq
    · exact h.sub q hq
    · obtain ⟨_, n, n1, n2, n3⟩ := (d.mem q).mp hq
      obtain ⟨c, hc, _⟩ := rd n n1
      exact .inr ⟨c, List.mem_of_getElem? hc, by rw [← headK_at hc]; exact n3⟩
/-- the next round begins -/
theorem Mid.again {t : Nat} {P0 P : List (List Key)} {ws : List Int} {ready : List Nat} (h : Mid cs t P0 P ws ready) : Mid cs (t + 1) P P ws [] := ⟨h.wl, h.wan, fun i => ⟨fun z => (nomatch z), fun ⟨c, hc, h1, h2⟩ => by
  rcases h2 with h2 | ⟨b, hb, nb⟩
  · exact absurd h2.1 (Nat.succ_ne_zero t)
  · exact absurd (h1 b hb) nb⟩⟩
/-- what Spread finds -/
structure Spr (cs gs : List D) (is : List Int) (w : Option Nat) (ks : List (List Key)) (xs : List D) : Prop where
  nd : ks.Nodup
  len : xs.length = ks.length
  mem : ∀ q, q ∈ ks ↔ HoldL cs gs is w q
  val : ∀ (j : Nat) (q : List Key) (x : D), ks[j]? = some q → xs[j]? = some x → ValL cs gs is w q x
  few : ks.length ≤ 100
theorem Jt.fin {t : Nat} {ks0 ks P : List (List Key)} {xs : List D} {ws : List Int} (h : Jt cs gs is w t ks0 ks xs P []) (m : Mid cs t P P ws []) (hl : ks0.length + cs.length ≤ 100) : Spr cs gs is w ks xs := by
  have sh : Shut (cs.map clK) w (RndL cs gs is w t) := by
    refine shut_rnd (fun q hq => Classical.byContradiction fun z => (nomatch (h.lay q).mpr ⟨hq, z⟩)) fun e i q hc => ?_
    rw [List.getElem?_map] at hc
    cases hi : cs[i]? with
    | none => rw [hi] at hc; cases hc
    | some c =>
      rw [hi] at hc
      have e2 : clK c = ([], q) := by simpa using hc
      exact nomatch (m.rdy i).mpr ⟨c, hi, (fun b hb => by rw [e2] at hb; cases hb), .inl ⟨e, by rw [e2]⟩⟩
  refine ⟨h.nd, h.len, fun q => (h.mem q).trans (hold_rnd sh), h.val, ?_⟩
  have := nodup_len ks (ks0 ++ cs.map fun c => (clK c).2) h.nd fun q hq => by
    rcases h.sub q hq with z | ⟨c, hc, e⟩
    · exact List.mem_append_left _ z
    · exact List.mem_append_right _ (List.mem_map.mpr ⟨c, hc, e⟩)
  rw [List.length_append, List.length_map] at this
  omega
theorem Jt.few {t : Nat} {ks0 ks P layer : List (List Key)} {xs : List D} (h : Jt cs gs is w t ks0 ks xs P layer) : ks.length ≤ ks0.length + cs.length ∧ layer.length ≤ ks0.length + cs.length := by
  have key : ∀ l : List (List Key), l.Nodup → (∀ q ∈ l, q ∈ ks) → l.length ≤ ks0.length + cs.length := fun l hn hs => by
    have := nodup_len l (ks0 ++ cs.map fun c => (clK c).2) hn fun q hq => by
      rcases h.sub q (hs q hq) with z | ⟨c, hc, e⟩
      · exact List.mem_append_left _ z
      · exact List.mem_append_right _ (List.mem_map.mpr ⟨c, hc, e⟩)
    rw [List.length_append, List.length_map] at this
    exact this
  exact ⟨key ks h.nd fun q hq => hq, key layer h.lnd fun q hq => (h.mem q).mpr ((h.lay q).mp hq).1⟩
end
end LawK54
end
section
namespace LawK54
open PySem PySem.Spec PyProof.Rows L2 C8 PW
local macro_rules | `(tactic| walk_at "jn") => `(tactic| first | exact fact_jn (by assumption) | exact clause_jn (by assumption) | exact ground_jn (by assumption))
local macro_rules | `(tactic| walk_at "pw") => `(tactic| first
  | ((with_reducible show w_is_integer _ _); with_reducible refine i_is_integer (by walk_at "bi") ?_) | ((with_reducible show w_is_within _ _); with_reducible refine i_is_within (by walk_at "bi") ?_) | ((with_reducible show w_is_tuple_of _ _); with_reducible refine i_is_tuple_of (by walk_at "bi") ?_)
  | ((with_reducible show w_law_is_number _ _); with_reducible refine i_law_is_number (by walk_at "bi") ?_)
  | ((with_reducible show w_fact _ _); with_reducible refine i_fact (by walk_at "jn") ?_)
  | ((with_reducible show w_is_clause _ _); with_reducible refine i_is_clause (by walk_at "jn") ?_)
  | ((with_reducible show w_is_ground _ _); with_reducible refine i_is_ground (by walk_at "jn") ?_)
  | ((with_reducible show w_law_draw _ _); refine i_law_draw (by first | omega | decide) (by first | omega | decide) ?_; intro r h0 h1)
  | with_reducible refine xe_any (by with_unfolding_all exact rfl) ?_
  | ((with_reducible show ∃ x ds, _ = some x ∧ itemsD x = some ds ∧ ds ≠ [] ∧ ds.length < 1073741824 ∧ _); refine ex_any (by with_unfolding_all exact rfl) (by with_unfolding_all exact rfl) (by first | assumption | (intro z; cases z; done) | exact List.append_ne_nil_of_right_ne_nil _ (List.cons_ne_nil _ _)) (by first | omega | (simp only [List.length_append, List.length_cons, List.length_nil]; omega) | decide) ?_; intro d hd)
  | ((with_reducible show w_law_fact _ _); refine i_law_fact ?_; intro f hf)
  | ((with_reducible show w_law_nested _ _); refine i_law_nested ?_; intro f hf; have hfj := hf.1))
local macro_rules | `(tactic| walk_at "sz") => `(tactic| first | (rw [rngD_len]; refine szl ?_; omega))
local macro_rules | `(tactic| walk_at "pw") => `(tactic| first
  | ((with_reducible show ∃ xs x, _ = some xs ∧ ∃ ρ2, _ = ρ2 ∧ ρ2[_]? = some (Ent.own x) ∧ MtD _ rAppend x xs _); refine ⟨_, _, rfl, _, rfl, rfl, m_append (szlt (by first | omega | (simp only [List.length_append, List.length_cons, List.length_nil]; omega))) ?_⟩)
  | ((with_reducible show ∃ n, _ = some [D.int n] ∧ -2 ^ 62 ≤ n ∧ n < 2 ^ 62 ∧ _); refine ⟨_, rfl, by omega, by omega, ?_⟩))
section
variable {P : Program} {w : World} {K : PySem.W.Frag} {mg : Str → Option Value} {base : Heap}
theorem c_Rule_init (G : Gt P K mg) : ∃ fd, FnOk P w K mg base (L2.CX P w) 8 (He.ma K (CR K) "__init__") fd ["self", "clauses", "grounds"] (spRule K) ∧ Binds K fd ["self", "clauses", "grounds"] [] := by
  obtain ⟨fd, F⟩ := G.fI
  refine ⟨fd, F.ok sc_Rule_init (fun vs H Q E h => ?_) (fun cdv A outer s H vs Q E hr h => ⟨t_Rule_init K E, ?_, pure_Rule_init G h⟩), F.bindsN (fun _ _ _ _ _ _ us hl => match us, hl with | [_, _, _], _ => rfl)⟩
  · obtain ⟨_, _, _, _, _, _, _, rfl, _⟩ := h
    rfl
  · exact pss_cons (ps_set (i := 3) sc_Rule_init.nd rfl (by first | exact Or.inl rfl | exact Or.inr rfl) (pe_c (c_bad_part G.g) hr (by decide) rfl (pa_cons (pv 1) (pa_cons (pv 2) pa_nil))))
      (pss_cons (ps_if (pt_cmpR op_isNotNo (pv 3) pe_non (nomark _)) (pss_one (ps_raiseSup rfl G.bad G.g.c_BadRule hr (takes_of rfl rfl rfl rfl) rfl (pa_cons (pv 3) pa_nil))) pss_nil)
      (pss_cons (ps_fld (pv 0) (pv 1) rfl) (pss_one (ps_fld (pv 0) (pv 2) rfl))))
end
/-! ### rules as data -/
def RN : List Str := ["clauses", "grounds"]
abbrev ruleD (K : PySem.W.Frag) (x y : D) : D := .obj (CR K) RN [x, y]
section
variable {K : PySem.W.Frag} {ρ : List Ent} {k : PW.KE} {ta : TA} {x y x' y' : D}
theorem ye_rule (h : XA K ta ρ fun rs ρ1 => ∃ x y, peekAll ρ1 rs = some [x, y] ∧ x.jn = true ∧ y.jn = true ∧ badPart x y = .non ∧ ∃ ρ2, frzAll ρ1 rs = ρ2 ∧ k (.nw (ruleD K x y)) ρ2) : PW.XE K (tMake (CR K) (spRule K) [] (fun _ _ _ => False) ta) ρ k := fun F H σ Q E0 q =>
  h F H σ _ E0 fun vs H1 rs ρ1 kp E1 hs ⟨x, y, px, jx, jy, hb, ρ2, e, g⟩ => by
    subst e
    obtain ⟨E2, d2, k2⟩ := HeldAll.frz E1 hs px
    intro p dx hp hdx hne
    obtain ⟨vx, _, e1, d3, vy, _, e2, d4, e4⟩ := id d2
    cases e4
    cases e2
    cases e1
    have x1 : PW.Ext H1 (upd H1 dx (.own p)) := PW.Ext.new hdx
    have hp2 : upd H1 dx (.own p) p = none := by rw [upd_ne (Ne.symm hne)]; exact hp
    have x2 : PW.Ext (upd H1 dx (.own p)) (upd (upd H1 dx (.own p)) p (.ins (CR K) dx [])) := PW.Ext.new hp2
    have x12 := x1.trans x2
    refine ⟨hot F σ (frzAll ρ1 rs), p, dx, x, y, vx, vy, rfl, fun b hb => ?_, upd_same, d2.mono fun b o n e => ⟨n, x12 b o e⟩, jx, jy, fun _ H' st hn => ?_, fun es => ?_⟩
    · obtain ⟨o, ho⟩ := Option.ne_none_iff_exists'.mp (E2.hotTrk b hb).ne
      have q := E2.hotTrk b hb
      rw [ho] at q
      rw [x12 b o ho]
      exact q
    · have x3 : PW.Ext H1 H' := fun b o e => st b o (ne_of_none e hp) (x12 b o e)
      have rz : ResV (hot F σ (frzAll ρ1 rs)) K H1 H' (.ref p) (.nw (ruleD K x y)) := ⟨p, rfl, hp, dx, _, hn, rfl, (d2.push hp).mono fun b o n e => ⟨n, x3 b o e⟩⟩
      exact ⟨rfl, q _ _ _ _ (hotR.res (kp.trans k2) x3 rz) (ResV.rv E2 x3 rz) g⟩
    · rw [hb] at es
      cases es
theorem pk_rule {M : Addr → Prop} {H : Hp} {u : V} (h : Pk M K H u (ruleD K x y)) : ∃ p dx va vb, u = .ref p ∧ H p = some (.ins (CR K) dx [("clauses", va), ("grounds", vb)]) ∧ DaAll (fun _ => False) K H [va, vb] [x, y] := by
  have key : ∀ {M : Addr → Prop} {p dx : Addr} {fs : List (Str × V)}, H p = some (.ins (CR K) dx fs) → fs.map (·.1) = RN → DaAll M K H (fs.map (·.2)) [x, y] → ∃ va vb, fs = [(("clauses" : Str), va), (("grounds" : Str), vb)] ∧ DaAll (fun _ => False) K H [va, vb] [x, y] := fun {M p dx fs} _ hn hd => by
    match fs, hn, hd with
    | [(n1, va), (n2, vb)], hn, hd =>
      have h1 : n1 = "clauses" := (List.cons.inj hn).1
      have h2 : n2 = "grounds" := (List.cons.inj (List.cons.inj hn).2).1
      subst h1 h2
      exact ⟨va, vb, rfl, hd.now⟩
  rcases h with h | ⟨p, rfl, _, h⟩
  · obtain ⟨p, dx, fs, rfl, _, h1, h2, h3⟩ := h
    obtain ⟨va, vb, e, h4⟩ := key h1 h2 h3
    exact ⟨p, dx, va, vb, rfl, by rw [h1, e], h4⟩
  · obtain ⟨dx, fs, h1, h2, h3⟩ := h
    obtain ⟨va, vb, e, h4⟩ := key h1 h2 h3
    exact ⟨p, dx, va, vb, rfl, by rw [h1, e], h4⟩
/-! _law_made -/
def w_law_made (K : PySem.W.Frag) : WF := fun ds k => ∃ cs gs : List D, ds = [.tup [.tup cs, .tup gs]] ∧ Parts cs gs ∧ k (.nw (ruleD K (.tup cs) (.tup gs)))
theorem len_law_made : ∀ ds k, w_law_made K ds k → ds.length = 1 := fun _ _ ⟨_, _, e, _⟩ => by rw [e]; rfl
def t_law_made (K : PySem.W.Frag) : TS := tRet (tMake (CR K) (spRule K) [] (fun _ _ _ => False) (tCons (tOp (rIx K) (tVar 0) (tC (.int 0))) (tCons (tOp (rIx K) (tVar 0) (tC (.int 1))) tNil)))
theorem pure_law_made : ∀ ds kk, w_law_made K ds kk → XS K (t_law_made K) (ini 1 ds) { nx := fun _ => kk (.d .non), rt := fun r _ => kk r } := by
  rintro _ kk ⟨cs, gs, rfl, hP, g⟩
  show XS K (t_law_made K) [.d (.tup [.tup cs, .tup gs])] (Fin kk)
  unfold t_law_made
  refine ys_ret (ye_rule ?_)
  walk_at "pws"
  exact ⟨_, _, rfl, hP.jn1, hP.jn2, hP.good, _, rfl, g⟩
end
section
variable {P : Program} {w : World} {K : PySem.W.Frag} {mg : Str → Option Value} {base : Heap}
theorem c_law_made (G : Gt P K mg) : Cal P w K mg base 10 "_law_made" (spW K (w_law_made K)) [] := by
  obtain ⟨f, fd, F, hm⟩ := G.g.f_law_made
  obtain ⟨fdI, FI, bI⟩ := c_Rule_init (P := P) (w := w) (base := base) G
  refine ⟨f, fd, ["parts"], [], F.ok sc_law_made (fun vs H Q E h => len_w h fun ds k z => (len_law_made ds k z)) (fun cdv A outer s H vs Q E hr h => ⟨t_law_made K, PSs.nox ?_, entry_w h pure_law_made⟩), hm, F.kp, F.bindsN (fun _ _ _ _ _ _ us hl => match us, hl with | [_], _ => rfl), .nil⟩
  exact pss_one (ps_ret (pe_make (dvs := []) (ds := []) G.mkT FI (hr.mono (by decide)) rfl G.g.c_Rule bI .nil pass_none (pa_cons (pe_ix ix_seq (pv 0) pe_int (fun _ _ => rfl)) (pa_cons (pe_ix ix_seq (pv 0) pe_int (fun _ _ => rfl)) pa_nil))))
end

end LawK54
end
section
namespace LawK54
open PySem PySem.Spec PyProof.Rows L2 C8 PW
/-! contracts: Spread and what it rests on -/
abbrev CSp (K : PySem.W.Frag) : Addr := He.ga K "Spread"
/-- what the top says of rules and spreads -/
structure TR (K : PySem.W.Frag) : Prop where
  cR : Cls K (CR K)
  n1 : NoAttr K (CR K) "clauses"
  n2 : NoAttr K (CR K) "grounds"
  cS : Cls K (CSp K)
  s1 : NoAttr K (CSp K) "rule"
  s2 : NoAttr K (CSp K) "left_out"
  s3 : NoAttr K (CSp K) "found"
  s4 : NoAttr K (CSp K) "wanting"
def w_unlike : WF := fun ds k => ∃ fs, ds = [.tup fs] ∧ (∀ x ∈ fs, isFact x = true) ∧ fs.length < 5000 ∧ k (.nw (.lst ((unl fs).map keyD)))
def w_check_fact : WF := fun ds k => ∃ x, ds = [x] ∧ isFact x = true ∧ k (.d .non)
section
variable (K : PySem.W.Frag)
def w_check_lot : WF := fun ds k => ∃ (x : D) (gs : List D) (is : List Int), ds = [ruleD K x (.tup gs), lotD is] ∧ Lot gs.length is ∧ gs.length ≤ 60 ∧ k (.d .non)
/-- what the grounds of a lot bring -/
structure Gf (gs : List D) (is : List Int) (ks : List (List Key)) (xs : List D) : Prop where
  nd : ks.Nodup
  len : xs.length = ks.length
  mem : ∀ q, q ∈ ks ↔ Base gs is q
  val : ∀ (j : Nat) (q : List Key) (x : D), ks[j]? = some q → xs[j]? = some x → ∃ i : Int, x = .tup [.str "ground", .int i] ∧ i ∈ is ∧ ∃ fs, gs[i.toNat]? = some (.tup fs) ∧ q ∈ fs.map keyF
  few : ks.length ≤ 3 * is.length
def w_ground_facts : WF := fun ds k => ∃ (x : D) (cs gs : List D) (is : List Int), ds = [ruleD K x (.tup gs), lotD is] ∧ Parts cs gs ∧ Lot gs.length is ∧ ∀ ks xs, Gf gs is ks xs → k (.nw (.dct ks xs))
def natD (n : Nat) : D := .int (n : Int)
structure Us (cs : List D) (ks : List (List Key)) (xs : List D) : Prop where
  val : ∀ q, (dget ks xs q).getD (.lst []) = .lst ((usersOf cs q).map natD)
def w_users : WF := fun ds k => ∃ (cs gs : List D), ds = [ruleD K (.tup cs) (.tup gs)] ∧ Parts cs gs ∧ ∀ ks xs, Us cs ks xs → k (.nw (.dct ks xs))
def SN : List Str := ["rule", "left_out", "found", "wanting"]
abbrev spF (p q : Addr) (r l : D) (ks : List (List Key)) (xs : List D) (ws : List Int) : List Fv := [.dat r, .dat l, .cell p (.dct ks xs), .cell q (.lst (ws.map D.int))]
def w_met : WM := fun _ ns fs ds k => ∃ p q r l ks xs ws nums, ns = SN ∧ fs = spF p q r l ks xs ws ∧ ds = [.lst (nums.map natD)] ∧ nums.Nodup ∧ (∀ n ∈ nums, n < ws.length) ∧ nums.length ≤ 100 ∧
  ∀ ws' out, Mt ws nums ws' out → k (.nw (.lst (out.map natD))) (spF p q r l ks xs ws')
def w_drawn : WM := fun _ ns fs ds k => ∃ p q cs gs w ks xs ws ready c, ns = SN ∧ fs = spF p q (ruleD K (.tup cs) (.tup gs)) (outD w) ks xs ws ∧ ds = [.lst (ready.map natD), .int c] ∧ Parts cs gs ∧ (∀ n ∈ ready, n < cs.length) ∧ ready.length ≤ 10000 ∧ ks.Nodup ∧ xs.length = ks.length ∧ ks.length ≤ 1000 ∧
  ∀ ks' xs' new, Dr cs w c ks xs ready ks' xs' new → k (.nw (.lst (new.map keyD))) (spF p q (ruleD K (.tup cs) (.tup gs)) (outD w) ks' xs' ws)
def w_Spread : WI := fun _ ds k => ∃ cs gs is w, ds = [ruleD K (.tup cs) (.tup gs), lotD is, outD w] ∧ Parts cs gs ∧ Lot gs.length is ∧ ∀ p q ks xs ws, Spr cs gs is w ks xs → k SN (spF p q (ruleD K (.tup cs) (.tup gs)) (outD w) ks xs ws)
def w_spread : WF := fun ds k => ∃ cs gs is, ds = [ruleD K (.tup cs) (.tup gs), lotD is] ∧ Parts cs gs ∧ Lot gs.length is ∧ ∀ ks xs, Spr cs gs is none ks xs → k (.nw (.dct ks xs))
end
section
variable {K : PySem.W.Frag} {k : Res → Prop} {fs gs cs : List D} {x : D} {is : List Int}
theorem i_unlike (h : ∀ x ∈ fs, isFact x = true) (h2 : fs.length < 5000) (g : k (.nw (.lst ((unl fs).map keyD)))) : w_unlike [.tup fs] k := ⟨fs, rfl, h, h2, g⟩
theorem i_check_fact (h : isFact x = true) (g : k (.d .non)) : w_check_fact [x] k := ⟨x, rfl, h, g⟩
theorem i_check_lot (h : Lot gs.length is) (h2 : gs.length ≤ 60) (g : k (.d .non)) : w_check_lot K [ruleD K x (.tup gs), lotD is] k := ⟨x, gs, is, rfl, h, h2, g⟩
theorem i_ground_facts (h : Parts cs gs) (h2 : Lot gs.length is) (g : ∀ ks xs, Gf gs is ks xs → k (.nw (.dct ks xs))) : w_ground_facts K [ruleD K x (.tup gs), lotD is] k := ⟨x, cs, gs, is, rfl, h, h2, g⟩
theorem i_users (h : Parts cs gs) (g : ∀ ks xs, Us cs ks xs → k (.nw (.dct ks xs))) : w_users K [ruleD K (.tup cs) (.tup gs)] k := ⟨cs, gs, rfl, h, g⟩
theorem len_unlike : ∀ ds k, w_unlike ds k → ds.length = 1 := fun _ _ ⟨_, e, _⟩ => by rw [e]; rfl
theorem len_check_fact : ∀ ds k, w_check_fact ds k → ds.length = 1 := fun _ _ ⟨_, e, _⟩ => by rw [e]; rfl
theorem len_check_lot : ∀ ds k, w_check_lot K ds k → ds.length = 2 := fun _ _ ⟨_, _, _, e, _⟩ => by rw [e]; rfl
theorem len_ground_facts : ∀ ds k, w_ground_facts K ds k → ds.length = 2 := fun _ _ ⟨_, _, _, _, e, _⟩ => by rw [e]; rfl
theorem len_users : ∀ ds k, w_users K ds k → ds.length = 1 := fun _ _ ⟨_, _, e, _⟩ => by rw [e]; rfl
theorem len_spread : ∀ ds k, w_spread K ds k → ds.length = 2 := fun _ _ ⟨_, _, _, e, _⟩ => by rw [e]; rfl
end
section
variable {K : PySem.W.Frag} {ρ : List Ent} {k : PW.KE} {te : TE}
theorem ye_fldC (T : TR K) (h : PW.XE K te ρ fun r ρ1 => ∃ x y, peek ρ1 r = some (ruleD K x y) ∧ k (.d x) ρ1) : PW.XE K (tFld K te "clauses") ρ k := xe_fld (xe_mono h fun r ρ' ⟨x, y, p, g⟩ => ⟨_, _, _, x, p, T.cR, T.n1, rfl, g⟩)
theorem ye_fldG (T : TR K) (h : PW.XE K te ρ fun r ρ1 => ∃ x y, peek ρ1 r = some (ruleD K x y) ∧ k (.d y) ρ1) : PW.XE K (tFld K te "grounds") ρ k := xe_fld (xe_mono h fun r ρ' ⟨x, y, p, g⟩ => ⟨_, _, _, y, p, T.cR, T.n2, rfl, g⟩)
end
end LawK54
end
section
namespace LawK54
open PySem PySem.Spec PyProof.Rows L2 C8 PW
local macro_rules | `(tactic| walk_at "jn") => `(tactic| first | exact fact_jn (by assumption) | exact clause_jn (by assumption) | exact ground_jn (by assumption))
local macro_rules | `(tactic| walk_at "pw") => `(tactic| first
  | ((with_reducible show w_is_integer _ _); with_reducible refine i_is_integer (by walk_at "bi") ?_) | ((with_reducible show w_is_within _ _); with_reducible refine i_is_within (by walk_at "bi") ?_) | ((with_reducible show w_is_tuple_of _ _); with_reducible refine i_is_tuple_of (by walk_at "bi") ?_)
  | ((with_reducible show w_law_is_number _ _); with_reducible refine i_law_is_number (by walk_at "bi") ?_)
  | ((with_reducible show w_fact _ _); with_reducible refine i_fact (by walk_at "jn") ?_)
  | ((with_reducible show w_is_clause _ _); with_reducible refine i_is_clause (by walk_at "jn") ?_)
  | ((with_reducible show w_is_ground _ _); with_reducible refine i_is_ground (by walk_at "jn") ?_)
  | ((with_reducible show w_law_draw _ _); refine i_law_draw (by first | omega | decide) (by first | omega | decide) ?_; intro r h0 h1)
  | with_reducible refine xe_any (by with_unfolding_all exact rfl) ?_
  | ((with_reducible show ∃ x ds, _ = some x ∧ itemsD x = some ds ∧ ds ≠ [] ∧ ds.length < 1073741824 ∧ _); refine ex_any (by with_unfolding_all exact rfl) (by with_unfolding_all exact rfl) (by first | assumption | (intro z; cases z; done) | exact List.append_ne_nil_of_right_ne_nil _ (List.cons_ne_nil _ _)) (by first | omega | (simp only [List.length_append, List.length_cons, List.length_nil]; omega) | decide) ?_; intro d hd)
  | ((with_reducible show w_law_fact _ _); refine i_law_fact ?_; intro f hf)
  | ((with_reducible show w_law_nested _ _); refine i_law_nested ?_; intro f hf; have hfj := hf.1))
local macro_rules | `(tactic| walk_at "sz") => `(tactic| first | (rw [rngD_len]; refine szl ?_; omega))
local macro_rules | `(tactic| walk_at "pw") => `(tactic| first
  | ((with_reducible show ∃ xs x, _ = some xs ∧ ∃ ρ2, _ = ρ2 ∧ ρ2[_]? = some (Ent.own x) ∧ MtD _ rAppend x xs _); refine ⟨_, _, rfl, _, rfl, rfl, m_append (szlt (by first | omega | (simp only [List.length_append, List.length_cons, List.length_nil]; omega))) ?_⟩)
  | ((with_reducible show ∃ n, _ = some [D.int n] ∧ -2 ^ 62 ≤ n ∧ n < 2 ^ 62 ∧ _); refine ⟨_, rfl, by omega, by omega, ?_⟩))
local macro_rules | `(tactic| walk_at "pw") => `(tactic| first
  | with_reducible refine ye_fldC (by assumption) ?_ | with_reducible refine ye_fldG (by assumption) ?_
  | ((with_reducible show ∃ x y, _ = some (ruleD _ x y) ∧ _); refine ⟨_, _, by with_unfolding_all exact rfl, ?_⟩)
  | ((with_reducible show w_unlike _ _); refine i_unlike (by assumption) (by first | omega | assumption) ?_)
  | ((with_reducible show w_check_fact _ _); refine i_check_fact (by assumption) ?_)
  | ((with_reducible show w_check_lot _ _ _); refine i_check_lot (by assumption) (by first | omega | assumption) ?_)
  | with_reducible refine ye_dnewT ?_)
def t_unlike (K : PySem.W.Frag) : TS :=
  (tRet (tCB rListDT (tCons (tDcG (.dT []) (iSeqU K (tVar 0)) (gName 1) tYes (tVar 1) (tC (.bl true)) [1]) tNil)))
def t_check_fact (K : PySem.W.Frag) : TS :=
  (tIfS (tNot (tB (PW.tCallS (spW K w_is_fact) L2.E0 (tCons (tVar 0) tNil))))
  tDead
  tNext)
def t_check_lot (K : PySem.W.Frag) : TS :=
  (tSeq (tIfS (tOr (tNot (tB (tCB (rIsi K) (tCons (tVar 1) (tCons (tC (.ty "tuple")) tNil))))) (tNot (tB (tCB (rAll K) (tCons (tLc (iSeqU K (tVar 1)) (gName 2) tYes (PW.tCallS (spW K w_is_within) L2.E0 (tCons (tVar 2) (tCons (tC (.int 0)) (tCons (tOp rSubI (tCB (rLenU K) (tCons (tFld K (tVar 0) "grounds") tNil)) (tC (.int 1))) tNil)))) [2]) tNil)))))
  tDead
  tNext)
  (tIfS (tNot (tB (tCB (rAll K) (tCons (tLc (RZ.iZipA K (tCons (tVar 1) (tCons (tSl (rSlU K) (tVar 1) (tPart (tC (.int 1))) tNoPart) tNil))) (gTup K 2 (gCons (gName 2) (gCons (gName 3) gNil))) tYes (tOp rLtI (tVar 2) (tVar 3)) [2, 3]) tNil))))
  tDead
  tNext))
def t_ground_facts (K : PySem.W.Frag) : TS :=
  (tSeq (tAsg tDNewT (gName 2))
  (tSeq (tFor (iSeqU K (tVar 1)) (gName 3)
  (tFor (iSeqU K (tOp (rIx K) (tFld K (tVar 0) "grounds") (tVar 3))) (gName 4)
  (tDrop (tSetDef (tVar 2) (tVar 4) (tTup (tCons (tC (.str "ground")) (tCons (tVar 3) tNil)))))))
  (tRet (tVar 2))))

section
variable {K : PySem.W.Frag} {cs gs : List D} {is : List Int} {ks : List (List Key)} {xs : List D}
theorem pure_unlike : ∀ ds kk, w_unlike ds kk → XS K (t_unlike K) (ini 2 ds) { nx := fun _ => kk (.d .non), rt := fun r _ => kk r } := by
  rintro _ kk ⟨fs, rfl, hf, hl, g⟩
  show XS K (t_unlike K) [.d (.tup fs), .u] (Fin kk)
  unfold t_unlike
  refine ys_ret (xe_cb (xa_cons (xe_dcP own_name wipe1 ?_)))
  walk_at "pws"
  refine ⟨szlt (by omega), keyF, fun _ => .bl true, by omega, fun d hd => ?_, ?_⟩
  · have f := hf d hd
    walk_at "pws"
    exact ⟨congrArg some (fact_key f), rfl, rfl⟩
  · walk_at "pws"
    exact c_listDT g
theorem pure_check_fact : ∀ ds kk, w_check_fact ds kk → XS K (t_check_fact K) (ini 1 ds) { nx := fun _ => kk (.d .non), rt := fun r _ => kk r } := by
  rintro _ kk ⟨x, rfl, hf, g⟩
  show XS K (t_check_fact K) [.d x] (Fin kk)
  unfold t_check_fact
  walk_at "pws"
  all_goals first
    | exact g
    | exact absurd hf (by simp_all)
theorem lot_mem {m : Int} (h : Lot m is) {d : D} (hd : d ∈ is.map D.int) : isWithin d 0 (m - 1) = true := by
  obtain ⟨i, hi, rfl⟩ := List.mem_map.mp hd
  obtain ⟨h1, h2⟩ := h.2 i hi
  show (decide (0 ≤ i) && decide (i ≤ m - 1)) = true
  simp only [Bool.and_eq_true, decide_eq_true_eq]
  omega
theorem asc_zip : ∀ {is : List Int}, is.Pairwise (· < ·) → ∀ d ∈ zipD (is.map D.int) ((is.map D.int).drop 1), ∃ a b : Int, d = .tup [.int a, .int b] ∧ a < b
  | [], _, d, hd => nomatch hd
  | [a], _, d, hd => nomatch hd
  | a :: b :: r, h, d, hd => by
    obtain ⟨h1, h2⟩ := List.pairwise_cons.mp h
    rcases List.mem_cons.mp (show d ∈ D.tup [.int a, .int b] :: zipD (List.map D.int (b :: r)) ((List.map D.int (b :: r)).drop 1) from hd) with e | hd
    · exact ⟨a, b, e, h1 b (List.mem_cons_self ..)⟩
    · exact asc_zip h2 d hd
theorem lot_len0 : ∀ {is : List Int} {lo hi : Int}, is.Pairwise (· < ·) → (∀ i ∈ is, lo ≤ i ∧ i < hi) → is.length ≤ (hi - lo).toNat
  | [], _, _, _, _ => Nat.zero_le _
  | a :: r, lo, hi, h1, h2 => by
    obtain ⟨p1, p2⟩ := List.pairwise_cons.mp h1
    have ha := h2 a (List.mem_cons_self ..)
    have ih := lot_len0 (is := r) (lo := a + 1) (hi := hi) p2 fun i hi2 => ⟨by have := p1 i hi2; omega, (h2 i (List.mem_cons_of_mem _ hi2)).2⟩
    rw [List.length_cons]
    omega
theorem all_const {l : List D} : (l.all fun _ => true) = true := List.all_eq_true.mpr fun _ _ => rfl
theorem pure_check_lot (T : TR K) : ∀ ds kk, w_check_lot K ds kk → XS K (t_check_lot K) (ini 4 ds) { nx := fun _ => kk (.d .non), rt := fun r _ => kk r } := by
  rintro _ kk ⟨x, gs, is, rfl, hL, h60, g⟩
  show XS K (t_check_lot K) [.d (ruleD K x (.tup gs)), .d (lotD is), .u, .u] (Fin kk)
  have hlen : is.length ≤ 60 := by
    have := lot_len0 (lo := 0) (hi := gs.length) hL.1 hL.2
    omega
  have hml : (is.map D.int).length ≤ 60 := by rw [List.length_map]; exact hlen
  unfold t_check_lot
  walk_at "pws"
  refine ye_lcm (vs := [2]) (fun d => .bl (isWithin d 0 ((gs.length : Int) - 1))) own_name wipe1 ?_
  walk_at "pws"
  refine ⟨szl (by omega), _, rfl, fun d hd => ?_, ?_⟩
  · obtain ⟨i, hi, rfl⟩ := List.mem_map.mp hd
    walk_at "pws"
  · have e : ((is.map D.int).all fun d => isWithin d 0 ((gs.length : Int) - 1)) = true := List.all_eq_true.mpr fun d hd => lot_mem hL hd
    walk_at "pws"
    · exact Bool.noConfusion (e.symm.trans (by assumption))
    refine ye_lcm (vs := [2, 3]) (fun _ => .bl true) (own_pair (by decide)) (wipe2 (by decide)) ?_
    walk_at "pws"
    have ec : PW.cutD (is.map D.int) (some 1) none = (is.map D.int).drop 1 := by
      cases is with
      | nil => rfl
      | cons a r => exact cutD_tail
    rw [ec]
    have zl : (zipD (is.map D.int) ((is.map D.int).drop 1)).length ≤ 60 := by rw [zipD_len]; exact Nat.le_trans (Nat.min_le_left _ _) hml
    refine ⟨szl (by omega), _, rfl, fun d hd => ?_, ?_⟩
    · obtain ⟨a, b, rfl, hab⟩ := asc_zip hL.1 d hd
      walk_at "pws"
      exact congrArg D.bl (decide_eq_true hab)
    · walk_at "pws"
      · exact Bool.noConfusion (all_const.symm.trans (by assumption))
      · exact g
theorem sputX_new {q : List Key} {y : D} {ks : List (List Key)} {xs : List D} (h : q ∉ ks) : sputX ks xs q y = xs ++ [y] ∧ dputK ks q = ks ++ [q] := by
  have e : ¬ (ks.any fun a => decide (a = q)) = true := fun z => by
    obtain ⟨a, ha, e⟩ := List.any_eq_true.mp z
    exact h (by rw [← of_decide_eq_true e]; exact ha)
  unfold sputX dputK
  rw [if_neg e, if_neg e]
  exact ⟨rfl, rfl⟩
theorem sputX_old {q : List Key} {y : D} {ks : List (List Key)} {xs : List D} (h : q ∈ ks) : sputX ks xs q y = xs ∧ dputK ks q = ks := by
  have e : (ks.any fun a => decide (a = q)) = true := List.any_eq_true.mpr ⟨q, h, decide_eq_true rfl⟩
  unfold sputX dputK
  rw [if_pos e, if_pos e]
  exact ⟨rfl, rfl⟩
/-- what some grounds bring, so far -/
structure Gq (gs : List D) (is : List Int) (B : List Key → Prop) (n : Nat) (ks : List (List Key)) (xs : List D) : Prop where
  nd : ks.Nodup
  len : xs.length = ks.length
  mem : ∀ q, q ∈ ks ↔ B q
  val : ∀ (j : Nat) (q : List Key) (x : D), ks[j]? = some q → xs[j]? = some x → ∃ i : Int, x = .tup [.str "ground", .int i] ∧ i ∈ is ∧ ∃ fs, gs[i.toNat]? = some (.tup fs) ∧ q ∈ fs.map keyF
  few : ks.length ≤ n
theorem Gq.put {B B' : List Key → Prop} {n : Nat} {q : List Key} {i : Int} {fs : List D} (h : Gq gs is B n ks xs) (hi : i ∈ is) (hg : gs[i.toNat]? = some (.tup fs)) (hq : q ∈ fs.map keyF) (hB : ∀ x, B' x ↔ B x ∨ x = q) : Gq gs is B' (n + 1) (dputK ks q) (sputX ks xs q (.tup [.str "ground", .int i])) := by
  by_cases z : q ∈ ks
  · obtain ⟨e1, e2⟩ := sputX_old (y := .tup [.str "ground", .int i]) (xs := xs) z
    rw [e1, e2]
    exact ⟨h.nd, h.len, fun x => by rw [h.mem, hB]; exact ⟨.inl, fun y => y.elim id fun y => by rw [y]; exact (h.mem q).mp z⟩, h.val, Nat.le_succ_of_le h.few⟩
  · obtain ⟨e1, e2⟩ := sputX_new (y := .tup [.str "ground", .int i]) (xs := xs) z
    rw [e1, e2]
    refine ⟨List.nodup_append.mpr ⟨h.nd, by simp, fun a ha b hb y => z (by rw [← List.mem_singleton.mp hb, ← y]; exact ha)⟩, by rw [List.length_append, List.length_append, h.len]; rfl, fun x => by rw [List.mem_append, List.mem_singleton, h.mem, hB], fun j p x g1 g2 => ?_, by rw [List.length_append]; exact Nat.succ_le_succ h.few⟩
    by_cases hj : j < ks.length
    · rw [List.getElem?_append_left hj] at g1
      rw [List.getElem?_append_left (by rw [h.len]; exact hj)] at g2
      exact h.val j p x g1 g2
    · rw [List.getElem?_append_right (by omega)] at g1
      rw [List.getElem?_append_right (by rw [h.len]; omega), h.len] at g2
      have e3 : j - ks.length = 0 := by
        have := (List.getElem?_eq_some_iff.mp g1).1
        rw [List.length_singleton] at this
        omega
      rw [e3] at g1 g2
      cases g1; cases g2
      exact ⟨i, rfl, hi, fs, hg, hq⟩
theorem pure_ground_facts (T : TR K) : ∀ ds kk, w_ground_facts K ds kk → XS K (t_ground_facts K) (ini 5 ds) { nx := fun _ => kk (.d .non), rt := fun r _ => kk r } := by
  rintro _ kk ⟨x, cs, gs, is, rfl, hP, hL, g⟩
  show XS K (t_ground_facts K) [.d (ruleD K x (.tup gs)), .d (lotD is), .u, .u, .u] (Fin kk)
  have fewG := hP.fewG
  have hll := lot_len0 (lo := 0) (hi := gs.length) hL.1 hL.2
  unfold t_ground_facts
  walk_at "pws"
  refine ⟨fun j ρ => ∃ ks xs e3 e4, ρ = [.d (ruleD K x (.tup gs)), .d (lotD is), .own (.dct ks xs), e3, e4] ∧ Gq gs is (Base gs (is.take j)) (3 * j) ks xs, ⟨[], [], _, _, rfl, ⟨List.nodup_nil, rfl, fun q => ⟨fun z => (nomatch z), fun ⟨a, ha, _⟩ => by rw [List.take_zero] at ha; cases ha⟩, fun j q x e => (nomatch e), Nat.le_refl _⟩⟩, ?_, ?_⟩
  · rintro j d ρ' hj ⟨ks, xs, e3, e4, rfl, hk⟩
    have hj2 : ∃ i, is[j]? = some i ∧ d = .int i := by
      rw [List.getElem?_map] at hj
      cases hi : is[j]? with
      | none => rw [hi] at hj; cases hj
      | some i => rw [hi] at hj; cases hj; exact ⟨i, rfl, rfl⟩
    obtain ⟨i, hi, rfl⟩ := hj2
    have him : i ∈ is := List.mem_of_getElem? hi
    obtain ⟨i0, i1⟩ := hL.2 i him
    have hin : i.toNat < gs.length := by omega
    obtain ⟨fs, ef, _, hff⟩ := isGround_form (hP.gr gs[i.toNat] (List.getElem_mem hin))
    have hg : gs[i.toNat]? = some (.tup fs) := by rw [List.getElem?_eq_getElem hin, ef]
    have hfs := hP.fewF fs (List.mem_of_getElem? hg)
    have jl : j < is.length := (List.getElem?_eq_some_iff.mp hi).1
    refine yg_name ⟨_, rfl, ?_⟩
    walk_at "pws"
    refine o_ixAnyT i0 (by omega) ?_
    intro d hd
    rw [hg] at hd
    cases hd
    walk_at "pws"
    refine ⟨fun m ρ => ∃ ks' xs' e4, ρ = [.d (ruleD K x (.tup gs)), .d (lotD is), .own (.dct ks' xs'), .d (.int i), e4] ∧ Gq gs is (fun q => Base gs (is.take j) q ∨ q ∈ (fs.take m).map keyF) (3 * j + m) ks' xs', ⟨ks, xs, _, rfl, ⟨hk.nd, hk.len, fun q => by rw [hk.mem]; exact ⟨.inl, fun z => z.elim id fun z => by rw [List.take_zero] at z; cases z⟩, hk.val, hk.few⟩⟩, ?_, ?_⟩
    · rintro m f ρ' hm ⟨ks', xs', e4, rfl, hk'⟩
      have hfm := hff f (List.mem_of_getElem? hm)
      have ml : m < fs.length := (List.getElem?_eq_some_iff.mp hm).1
      refine yg_name ⟨_, rfl, ?_⟩
      have few' := hk'.few
      refine xs_setDef rfl (by omega) (xe_var_d rfl ⟨keyF f, by rw [← fact_key hfm], ?_⟩)
      walk_at "pws"
      refine ⟨_, rfl, rfl, _, rfl, ?_⟩
      refine ⟨_, _, _, rfl, hk'.put him hg (List.mem_map.mpr ⟨f, List.mem_of_getElem? hm, rfl⟩) fun q => ?_⟩
      rw [List.take_add_one, hm, List.map_append, List.mem_append]
      simp only [Option.toList_some, List.map_cons, List.map_nil, List.mem_singleton]
      exact ⟨fun z => z.elim (fun z => .inl (.inl z)) fun z => z.elim (fun z => .inl (.inr z)) .inr, fun z => z.elim (fun z => z.elim .inl fun z => .inr (.inl z)) fun z => .inr (.inr z)⟩
    · rintro ρ' ⟨ks', xs', e4, rfl, hk'⟩
      refine ⟨ks', xs', _, _, rfl, hk'.nd, hk'.len, fun q => ?_, hk'.val, by have := hk'.few; omega⟩
      rw [hk'.mem, List.take_length]
      have bt : Base gs (is.take (j + 1)) q ↔ Base gs (is.take j) q ∨ q ∈ fs.map keyF := by
        unfold Base
        rw [List.take_add_one, hi]
        constructor
        · rintro ⟨a, ha, fs', e, hq⟩
          rcases List.mem_append.mp ha with ha | ha
          · exact .inl ⟨a, ha, fs', e, hq⟩
          · have ea : a = i := by simpa using ha
            rw [ea, hg] at e
            cases e
            exact .inr hq
        · rintro (⟨a, ha, fs', e, hq⟩ | hq)
          · exact ⟨a, List.mem_append_left _ ha, fs', e, hq⟩
          · exact ⟨i, List.mem_append_right _ (by simp), fs, hg, hq⟩
      exact bt.symm
  · rintro ρ' ⟨ks, xs, e3, e4, rfl, hk⟩
    rw [List.length_map, List.take_length] at hk
    walk_at "pws"
    exact g ks xs ⟨hk.nd, hk.len, hk.mem, hk.val, hk.few⟩
end
theorem c_unlike {P : Program} {w : World} {K : PySem.W.Frag} {mg : Str → Option Value} {base : Heap} (G : Gx K mg) : Cal P w K mg base 1 "unlike" (spW K w_unlike) [] := by
  obtain ⟨f, fd, F, hm⟩ := G.f_unlike
  refine ⟨f, fd, ["items"], [], F.ok sc_unlike (fun vs H Q E h => len_w h fun ds k z => (len_unlike ds k z)) (fun cdv A outer s H vs Q E hr h => ⟨t_unlike K, PSs.nox ?_, entry_w h pure_unlike⟩), hm, F.kp, F.bindsN (fun _ _ _ _ _ _ us hl => match us, hl with | [_], _ => rfl), .nil⟩
  exact (pss_one (ps_ret (pe_callTy (call_listDT rfl) rfl G.b_list (by decide +kernel) (pa_cons (pe_dcG (own := [("one", 1)]) (.inr rfl) (hu1 hr) rfl sc_unlike.nd (pi_seqU (pv 0)) (blkOk_by (N := ["items", "one"]) (sc := defScope s_unlike) (by decide +kernel)) (fun _ _ _ _ _ => (pg_name (i := 1) sc_unlike.nd rfl (by first | exact Or.inl rfl | exact Or.inr rfl))) (fun _ _ _ _ _ => pts_nil) (fun _ _ _ _ _ => (pv 1)) (fun _ _ _ _ _ => pe_bl)) pa_nil))))
theorem c_check_fact {P : Program} {w : World} {K : PySem.W.Frag} {mg : Str → Option Value} {base : Heap} (G : Gx K mg) : Cal P w K mg base 4 "check_fact" (spW K w_check_fact) [] := by
  obtain ⟨f, fd, F, hm⟩ := G.f_check_fact
  refine ⟨f, fd, ["thing"], [], F.ok sc_check_fact (fun vs H Q E h => len_w h fun ds k z => (len_check_fact ds k z)) (fun cdv A outer s H vs Q E hr h => ⟨t_check_fact K, PSs.nox ?_, entry_w h pure_check_fact⟩), hm, F.kp, F.bindsN (fun _ _ _ _ _ _ us hl => match us, hl with | [_], _ => rfl), .nil⟩
  exact (pss_one (ps_if (pt_not (pt_val (pe_c (c_is_fact G) hr (by decide) rfl (pa_cons (pv 0) pa_nil))))
  (pss_one ps_dead)
  pss_nil))
theorem c_check_lot {P : Program} {w : World} {K : PySem.W.Frag} {mg : Str → Option Value} {base : Heap} (G : Gx K mg) (T : TR K) : Cal P w K mg base 3 "check_lot" (spW K (w_check_lot K)) [] := by
  obtain ⟨f, fd, F, hm⟩ := G.f_check_lot
  refine ⟨f, fd, ["rule", "thing"], [], F.ok sc_check_lot (fun vs H Q E h => len_w h fun ds k z => (len_check_lot ds k z)) (fun cdv A outer s H vs Q E hr h => ⟨t_check_lot K, PSs.nox ?_, entry_w h (pure_check_lot T)⟩), hm, F.kp, F.bindsN (fun _ _ _ _ _ _ us hl => match us, hl with | [_, _], _ => rfl), .nil⟩
  exact (pss_cons (ps_if (L2.PW.pt (pw_or (pt_not (pt_val (pe_callB call_isi rfl G.b_isinstance (by decide +kernel) (pa_cons (pv 1) (pa_cons (pe_bltn (v := .ty "tuple") rfl G.b_tuple (by decide +kernel) rfl) pa_nil))))) (pw_or1 (pt_not (pt_val (pe_callB (cr_all rfl) rfl G.b_all (by decide +kernel) (pa_cons (pe_lc (own := [("one", 2)]) rfl sc_check_lot.nd (pi_seqU (pv 1)) (blkOk_by (N := ["rule", "thing", "one", "other"]) (sc := defScope s_check_lot) (by decide +kernel)) (fun _ _ _ _ _ => (pg_name (i := 2) sc_check_lot.nd rfl (by first | exact Or.inl rfl | exact Or.inr rfl))) (fun _ _ _ _ _ => pts_nil) (fun _ _ _ _ _ => (pe_c (c_is_within G) hr (by decide) rfl (pa_cons (pv 2) (pa_cons pe_int (pa_cons (pe_op op_subU (pe_callB call_lenU rfl G.b_len (by decide +kernel) (pa_cons (pe_fld (pv 0) rfl) pa_nil)) pe_int) pa_nil)))))) pa_nil)))))))
  (pss_one ps_dead)
  pss_nil)
  (pss_one (ps_if (pt_not (pt_val (pe_callB (cr_all rfl) rfl G.b_all (by decide +kernel) (pa_cons (pe_lc (own := [("one", 2), ("other", 3)]) rfl sc_check_lot.nd (RZ.pi_zipA rfl G.b_zip (pa_cons (pv 1) (pa_cons (pe_slice sl_U (pv 1) (po_some pe_int) po_none) pa_nil))) (blkOk_by (N := ["rule", "thing", "one", "other"]) (sc := defScope s_check_lot) (by decide +kernel)) (fun _ _ _ _ _ => (pg_tup rfl (pgs_cons (pg_name (i := 2) sc_check_lot.nd rfl (by first | exact Or.inl rfl | exact Or.inr rfl)) (pgs_cons (pg_name (i := 3) sc_check_lot.nd rfl (by first | exact Or.inl rfl | exact Or.inr rfl)) pgs_nil)))) (fun _ _ _ _ _ => pts_nil) (fun _ _ _ _ _ => (pe_cmpR op_ltU (pv 2) (pv 3) (nomark _)))) pa_nil))))
  (pss_one ps_dead)
  pss_nil)))
theorem c_ground_facts {P : Program} {w : World} {K : PySem.W.Frag} {mg : Str → Option Value} {base : Heap} (G : Gx K mg) (T : TR K) : Cal P w K mg base 1 "ground_facts" (spW K (w_ground_facts K)) [] := by
  obtain ⟨f, fd, F, hm⟩ := G.f_ground_facts
  refine ⟨f, fd, ["rule", "lot"], [], F.ok sc_ground_facts (fun vs H Q E h => len_w h fun ds k z => (len_ground_facts ds k z)) (fun cdv A outer s H vs Q E hr h => ⟨t_ground_facts K, PSs.nox ?_, entry_w h (pure_ground_facts T)⟩), hm, F.kp, F.bindsN (fun _ _ _ _ _ _ us hl => match us, hl with | [_, _], _ => rfl), .nil⟩
  exact (pss_cons (ps_set (i := 2) sc_ground_facts.nd rfl (by first | exact Or.inl rfl | exact Or.inr rfl) pe_dnewT)
  (pss_cons (ps_for PassesOwn.never rfl (pi_seqU (pv 1)) (pg_name (i := 3) sc_ground_facts.nd rfl (by first | exact Or.inl rfl | exact Or.inr rfl))
  (pss_one (ps_for PassesOwn.never rfl (pi_seqU (pe_ix ix_seq (pe_fld (pv 0) rfl) (pv 3) (fun _ _ => rfl))) (pg_name (i := 4) sc_ground_facts.nd rfl (by first | exact Or.inl rfl | exact Or.inr rfl))
  (pss_one (ps_expr (pe_setDef (hu1 hr) (pv 2) (pv 4) (pe_tup (pa_cons (pe_gc rfl G.k_GROUND) (pa_cons (pv 3) pa_nil))) ⟨by rfl, by rfl, by rfl, by rfl⟩))))))
  (pss_one (ps_ret (pv 2)))))

end LawK54
end
section
namespace LawK54
open PySem PySem.Spec PyProof.Rows L2 C8 PW
local macro_rules | `(tactic| walk_at "jn") => `(tactic| first | exact fact_jn (by assumption) | exact clause_jn (by assumption) | exact ground_jn (by assumption))
local macro_rules | `(tactic| walk_at "pw") => `(tactic| first
  | ((with_reducible show w_is_integer _ _); with_reducible refine i_is_integer (by walk_at "bi") ?_) | ((with_reducible show w_is_within _ _); with_reducible refine i_is_within (by walk_at "bi") ?_) | ((with_reducible show w_is_tuple_of _ _); with_reducible refine i_is_tuple_of (by walk_at "bi") ?_)
  | ((with_reducible show w_law_is_number _ _); with_reducible refine i_law_is_number (by walk_at "bi") ?_)
  | ((with_reducible show w_fact _ _); with_reducible refine i_fact (by walk_at "jn") ?_)
  | ((with_reducible show w_is_clause _ _); with_reducible refine i_is_clause (by walk_at "jn") ?_)
  | ((with_reducible show w_is_ground _ _); with_reducible refine i_is_ground (by walk_at "jn") ?_)
  | ((with_reducible show w_law_draw _ _); refine i_law_draw (by first | omega | decide) (by first | omega | decide) ?_; intro r h0 h1)
  | with_reducible refine xe_any (by with_unfolding_all exact rfl) ?_
  | ((with_reducible show ∃ x ds, _ = some x ∧ itemsD x = some ds ∧ ds ≠ [] ∧ ds.length < 1073741824 ∧ _); refine ex_any (by with_unfolding_all exact rfl) (by with_unfolding_all exact rfl) (by first | assumption | (intro z; cases z; done) | exact List.append_ne_nil_of_right_ne_nil _ (List.cons_ne_nil _ _)) (by first | omega | (simp only [List.length_append, List.length_cons, List.length_nil]; omega) | decide) ?_; intro d hd)
  | ((with_reducible show w_law_fact _ _); refine i_law_fact ?_; intro f hf)
  | ((with_reducible show w_law_nested _ _); refine i_law_nested ?_; intro f hf; have hfj := hf.1))
local macro_rules | `(tactic| walk_at "sz") => `(tactic| first | (rw [rngD_len]; refine szl ?_; omega))
local macro_rules | `(tactic| walk_at "pw") => `(tactic| first
  | ((with_reducible show ∃ xs x, _ = some xs ∧ ∃ ρ2, _ = ρ2 ∧ ρ2[_]? = some (Ent.own x) ∧ MtD _ rAppend x xs _); refine ⟨_, _, rfl, _, rfl, rfl, m_append (szlt (by first | omega | (simp only [List.length_append, List.length_cons, List.length_nil]; omega))) ?_⟩)
  | ((with_reducible show ∃ n, _ = some [D.int n] ∧ -2 ^ 62 ≤ n ∧ n < 2 ^ 62 ∧ _); refine ⟨_, rfl, by omega, by omega, ?_⟩))
local macro_rules | `(tactic| walk_at "pw") => `(tactic| first
  | with_reducible refine ye_fldC (by assumption) ?_ | with_reducible refine ye_fldG (by assumption) ?_
  | ((with_reducible show ∃ x y, _ = some (ruleD _ x y) ∧ _); refine ⟨_, _, by with_unfolding_all exact rfl, ?_⟩)
  | ((with_reducible show w_unlike _ _); refine i_unlike (by assumption) (by first | omega | assumption) ?_)
  | ((with_reducible show w_check_fact _ _); refine i_check_fact (by assumption) ?_)
  | ((with_reducible show w_check_lot _ _ _); refine i_check_lot (by assumption) (by first | omega | assumption) ?_)
  | with_reducible refine ye_dnewT ?_)
section
variable {K : PySem.W.Frag} {cs gs : List D} {is : List Int} {ks : List (List Key)} {xs : List D}
theorem dputK_cons {a q : List Key} {ks : List (List Key)} : dputK (a :: ks) q = if a = q then a :: ks else a :: dputK ks q := by
  unfold dputK
  by_cases e : a = q
  · rw [if_pos e, if_pos]
    rw [List.any_cons, decide_eq_true e, Bool.true_or]
  · rw [if_neg e, List.any_cons, decide_eq_false e, Bool.false_or]
    split <;> rfl
theorem gput_get {q q' : List Key} {y : D} : ∀ {ks : List (List Key)} {dss : List (List D)}, ks.length = dss.length → ∀ X, (dget ks (dss.map D.lst) q).getD (.lst []) = .lst X →
    (dget (dputK ks q) ((gput ks dss q y).map D.lst) q').getD (.lst []) = if q' = q then .lst (X ++ [y]) else (dget ks (dss.map D.lst) q').getD (.lst [])
  | [], [], _, X, hX => by
    have hX : D.lst [] = .lst X := hX
    cases hX
    show (if q = q' then some (D.lst [y]) else none).getD (.lst []) = _
    by_cases e : q' = q
    · rw [if_pos e, if_pos e.symm]; rfl
    · rw [if_neg e, if_neg fun z => e z.symm]; rfl
  | [], _ :: _, h, _, _ => by cases h
  | _ :: _, [], h, _, _ => by cases h
  | a :: ks, ds :: dss, h, X, hX => by
    have hX : ((if a = q then some (D.lst ds) else dget ks (dss.map D.lst) q)).getD (.lst []) = .lst X := hX
    rw [dputK_cons]
    show (dget (if a = q then a :: ks else a :: dputK ks q) ((if a = q then (ds ++ [y]) :: dss else ds :: gput ks dss q y).map D.lst) q').getD (.lst []) = if q' = q then _ else (if a = q' then some (D.lst ds) else dget ks (dss.map D.lst) q').getD (.lst [])
    by_cases e : a = q
    · rw [if_pos e] at hX ⊢
      rw [if_pos e]
      have hX : D.lst ds = .lst X := hX
      cases hX
      show (if a = q' then some (D.lst (ds ++ [y])) else dget ks (dss.map D.lst) q').getD (.lst []) = _
      by_cases z : q' = q
      · rw [if_pos z, if_pos (e.trans z.symm)]; rfl
      · rw [if_neg z, if_neg fun w => z (w.symm.trans e), if_neg fun w => z (w.symm.trans e)]
    · rw [if_neg e] at hX ⊢
      rw [if_neg e]
      have ih := gput_get (q' := q') (y := y) (Nat.succ.inj h) X hX
      show (if a = q' then some (D.lst ds) else dget (dputK ks q) ((gput ks dss q y).map D.lst) q').getD (.lst []) = _
      by_cases z : a = q'
      · rw [if_pos z, if_pos z, if_neg fun w => e (z.trans w)]
      · rw [if_neg z, if_neg z, ih]
theorem gput_len {q : List Key} {y : D} : ∀ {ks : List (List Key)} {dss : List (List D)}, ks.length = dss.length → (dputK ks q).length = (gput ks dss q y).length
  | [], [], _ => rfl
  | [], _ :: _, h => by cases h
  | _ :: _, [], h => by cases h
  | a :: ks, ds :: dss, h => by
    rw [dputK_cons]
    show _ = (if a = q then (ds ++ [y]) :: dss else ds :: gput ks dss q y).length
    by_cases e : a = q
    · rw [if_pos e, if_pos e]; exact congrArg (· + 1) (Nat.succ.inj h)
    · rw [if_neg e, if_neg e]; exact congrArg (· + 1) (gput_len (Nat.succ.inj h))
theorem gput_few {q : List Key} {y : D} {n : Nat} : ∀ {ks : List (List Key)} {dss : List (List D)}, (∀ ds ∈ dss, ds.length ≤ n) → ∀ ds ∈ gput ks dss q y, ds.length ≤ n + 1
  | [], dss, _, ds, hd => by rw [List.mem_singleton.mp (show ds ∈ [[y]] from hd)]; exact Nat.le_add_left 1 n
  | _ :: _, [], _, ds, hd => by rw [List.mem_singleton.mp (show ds ∈ [[y]] from hd)]; exact Nat.le_add_left 1 n
  | a :: ks, es :: dss, h, ds, hd => by
    have hd : ds ∈ (if a = q then (es ++ [y]) :: dss else es :: gput ks dss q y) := hd
    split at hd
    · rcases List.mem_cons.mp hd with e | e
      · rw [e, List.length_append]; exact Nat.succ_le_succ (h es (List.mem_cons_self ..))
      · exact Nat.le_succ_of_le (h ds (List.mem_cons_of_mem _ e))
    · rcases List.mem_cons.mp hd with e | e
      · rw [e]; exact Nat.le_succ_of_le (h es (List.mem_cons_self ..))
      · exact gput_few (fun x hx => h x (List.mem_cons_of_mem _ hx)) ds e
/-- lists by facts, so far: L tells each -/
structure Ug (L : List Key → List D) (n : Nat) (ks : List (List Key)) (dss : List (List D)) : Prop where
  len : ks.length = dss.length
  few : ks.length ≤ n
  fw : ∀ ds ∈ dss, ds.length ≤ n
  val : ∀ q, (dget ks (dss.map D.lst) q).getD (.lst []) = .lst (L q)
theorem Ug.put {L L' : List Key → List D} {n : Nat} {dss : List (List D)} {q : List Key} {y : D} (h : Ug L n ks dss) (hL : ∀ x, L' x = if x = q then L x ++ [y] else L x) : Ug L' (n + 1) (dputK ks q) (gput ks dss q y) := by
  refine ⟨gput_len h.len, Nat.le_trans dputK_len1 (Nat.succ_le_succ h.few), gput_few h.fw, fun x => ?_⟩
  rw [gput_get h.len _ (h.val q), hL]
  by_cases e : x = q
  · rw [if_pos e, if_pos e, e]
  · rw [if_neg e, if_neg e]; exact h.val x
def upto (cs : List D) (i : Nat) (q : List Key) : List Nat := (List.range i).filter fun n => decide (q ∈ (clK (cs.getD n .non)).1)
theorem upto_succ {i : Nat} {q : List Key} {c : D} (hc : cs[i]? = some c) : upto cs (i + 1) q = if q ∈ (clK c).1 then upto cs i q ++ [i] else upto cs i q := by
  unfold upto
  rw [List.range_succ, List.filter_append]
  have e : cs.getD i .non = c := by rw [List.getD_eq_getElem?_getD, hc]; rfl
  by_cases z : q ∈ (clK c).1
  · rw [if_pos z, List.filter_cons, e, if_pos (decide_eq_true z)]; rfl
  · rw [if_neg z, List.filter_cons, e, if_neg (by simpa using z)]; simp
def t_users (K : PySem.W.Frag) : TS :=
  (tSeq (tAsg tDNewT (gName 1))
  (tSeq (tFor (iEnuU K (tCons (tFld K (tVar 0) "clauses") tNil)) (gTup K 2 (gCons (gName 2) (gCons (gTup K 2 (gCons (gName 3) (gCons (gName 4) gNil))) gNil)))
  (tFor (iSeqU K (tCall (spW K w_unlike) [] L2.E0 (tCons (tVar 3) tNil))) (gName 5)
  (tDrop (tBM K "list" rAppend (tSetDef (tVar 1) (tVar 5) (tLst tNil)) (tCons (tVar 2) tNil)))))
  (tRet (tVar 1))))
theorem pure_users (T : TR K) : ∀ ds kk, w_users K ds kk → XS K (t_users K) (ini 6 ds) { nx := fun _ => kk (.d .non), rt := fun r _ => kk r } := by
  rintro _ kk ⟨cs, gs, rfl, hP, g⟩
  show XS K (t_users K) [.d (ruleD K (.tup cs) (.tup gs)), .u, .u, .u, .u, .u] (Fin kk)
  have few := hP.few
  unfold t_users
  refine xs_seq (ys_asg (ye_dnewT ⟨_, rfl, ?_⟩))
  refine grp_start (i := 1) rfl fun p => ?_
  walk_at "pws"
  refine ⟨fun i ρ => ∃ as ks dss e2 e3 e4 e5, ρ = [.d (ruleD K (.tup cs) (.tup gs)), grp K p as ks dss, e2, e3, e4, e5] ∧ Ug (fun q => (upto cs i q).map natD) (4 * i) ks dss, ⟨[], [], [], _, _, _, _, rfl, ⟨rfl, Nat.le_refl _, (fun ds z => nomatch z), fun q => rfl⟩⟩, ?_, ?_⟩
  · rintro i d ρ' hd ⟨as, ks, dss, e2, e3, e4, e5, rfl, hU⟩
    obtain ⟨c, hc, rfl⟩ := enumFrom_at hd
    rw [Nat.zero_add]
    have il : i < cs.length := (List.getElem?_eq_some_iff.mp hc).1
    obtain ⟨body, head, rfl, b4, hb, hh⟩ := isClause_form (hP.cl c (List.mem_of_getElem? hc))
    have ul := unl_len body
    have keys : ∀ q ∈ unl body, isFact (keyD q) = true := fun q hq => by
      obtain ⟨f, hf, e⟩ := List.mem_map.mp (unl_mem.mp hq)
      rw [← e, ← fact_key (hb f hf)]
      exact hb f hf
    walk_at "pws"
    refine ⟨fun m ρ => ∃ as ks dss e5, ρ = [.d (ruleD K (.tup cs) (.tup gs)), grp K p as ks dss, .d (.int (i : Nat)), .d (.tup body), .d head, e5] ∧ Ug (fun q => (upto cs i q ++ if q ∈ (unl body).take m then [i] else []).map natD) (4 * i + m) ks dss, ⟨as, ks, dss, _, rfl, ⟨hU.len, hU.few, hU.fw, fun q => by rw [hU.val q, List.take_zero]; simp⟩⟩, ?_, ?_⟩
    · rintro m d ρ' hd2 ⟨as, ks, dss, e5, rfl, hU2⟩
      rw [List.getElem?_map] at hd2
      cases hq : (unl body)[m]? with
      | none => rw [hq] at hd2; cases hd2
      | some q =>
        rw [hq] at hd2
        cases hd2
        have ml : m < (unl body).length := (List.getElem?_eq_some_iff.mp hq).1
        have nq : q ∉ (unl body).take m := fun z => by
          obtain ⟨j, hj, e⟩ := List.getElem_of_mem z
          rw [List.length_take] at hj
          rw [List.getElem_take] at e
          have e2 := (List.getElem?_eq_some_iff.mp hq).2
          have := (List.getElem_inj (unl_nd body)).mp (e.trans e2.symm)
          omega
        refine yg_name ⟨_, rfl, ?_⟩
        have f1 := hU2.few
        refine xs_group (i := 1) (y := natD i) rfl (by omega) (fun ds hds => by have := hU2.fw ds hds; omega) (fun e' => xe_var_d rfl ⟨rfl, rfl⟩) (xe_var_d rfl ⟨q, rfl, rfl, fun as' => ⟨_, rfl, as', _, _, _, rfl, ?_⟩⟩)
        refine hU2.put fun x => ?_
        rw [List.take_add_one, hq]
        by_cases z : x = q
        · subst z
          rw [if_pos rfl, if_neg nq, if_pos (List.mem_append_right _ (by simp)), List.append_nil, List.map_append]
          rfl
        · rw [if_neg z]
          have e : (x ∈ (unl body).take m ++ (some q).toList) ↔ x ∈ (unl body).take m := by
            rw [List.mem_append]
            exact ⟨fun y => y.elim id fun y => absurd (by simpa using y) z, .inl⟩
          by_cases y : x ∈ (unl body).take m
          · rw [if_pos y, if_pos (e.mpr y)]
          · rw [if_neg y, if_neg fun w => y (e.mp w)]
    · rintro ρ' ⟨as, ks, dss, e5, rfl, hU2⟩
      rw [List.length_map, List.take_length] at hU2
      refine ⟨as, ks, dss, _, _, _, _, rfl, ⟨hU2.len, by have := hU2.few; omega, fun ds hds => by have := hU2.fw ds hds; omega, fun q => ?_⟩⟩
      rw [hU2.val q]
      have e := upto_succ (q := q) hc
      rw [e]
      have eb : q ∈ unl body ↔ q ∈ (clK (.tup [.tup body, head])).1 := unl_mem
      by_cases z : q ∈ unl body
      · rw [if_pos z, if_pos (eb.mp z)]
      · rw [if_neg z, if_neg fun y => z (eb.mpr y), List.append_nil]
  · rintro ρ' ⟨as, ks, dss, e2, e3, e4, e5, rfl, hU⟩
    rw [enumFrom_len] at hU
    refine grp_end (i := 1) rfl ?_
    walk_at "pws"
    exact g ks _ ⟨fun q => hU.val q⟩
/-! met -/
theorem nat_at {ns : List Nat} {j : Nat} {d : D} (h : (ns.map natD)[j]? = some d) : ∃ n, ns[j]? = some n ∧ d = .int (n : Int) := by
  rw [List.getElem?_map] at h
  cases e : ns[j]? with
  | none => rw [e] at h; cases h
  | some n => rw [e] at h; cases h; exact ⟨n, rfl, rfl⟩
def t_met (K : PySem.W.Frag) : TS :=
  (tSeq (tAsg (tLst tNil) (gName 2))
  (tSeq (tFor (iSeqU K (tVar 1)) (gName 3)
  (tSeq (tAugS (tFld K (tVar 0) "wanting") (tVar 3) (tC (.int 1)) (rAtL K) (ipI fun i j => i - j) rSetL)
  (tIfS (tTest (tOp (rEqD K) (tOp (rIx K) (tFld K (tVar 0) "wanting") (tVar 3)) (tC (.int 0))))
  (tDrop (tBM K "list" rAppend (tVar 2) (tCons (tVar 3) tNil)))
  tNext)))
  (tRet (tVar 2))))
theorem fv_wan {p q : Addr} {r l : D} {ws : List Int} {y : Fv} : fvset SN (spF p q r l ks xs ws) "wanting" y = [.dat r, .dat l, .cell p (.dct ks xs), y] := by with_unfolding_all exact rfl
theorem pure_met (T : TR K) : ∀ a ns fs ds kk, w_met a ns fs ds kk → XS K (t_met K) (iniB K (CSp K) a ns fs 4 ds)
    { nx := fun ρ => ∃ fs', ρ[0]? = some (ob K (CSp K) a ns fs') ∧ cells fs' = cells fs ∧ kk (.d .non) fs', rt := fun r ρ => ∃ fs', ρ[0]? = some (ob K (CSp K) a ns fs') ∧ cells fs' = cells fs ∧ kk r fs' } := by
  rintro a _ _ _ kk ⟨p, q, r, l, ks, xs, ws, nums, rfl, rfl, rfl, hnd, hlt, h100, g⟩
  show XS K (t_met K) [ob K (CSp K) a SN (spF p q r l ks xs ws), .d (.lst (nums.map natD)), .u, .u] _
  unfold t_met
  walk_at "pws"
  refine ⟨fun j ρ => ∃ ws' out e3, ρ = [ob K (CSp K) a SN (spF p q r l ks xs ws'), .d (.lst (nums.map natD)), .own (.lst (out.map natD)), e3] ∧ Mt ws (nums.take j) ws' out, ⟨ws, [], _, rfl, Mt.start ws⟩, ?_, ?_⟩
  · rintro j d ρ' hj ⟨ws', out, e3, rfl, hM⟩
    obtain ⟨n, hn, rfl⟩ := nat_at hj
    have nm : n ∈ nums := List.mem_of_getElem? hn
    have nl := hlt n nm
    have nl' : n < ws'.length := by rw [hM.len]; exact nl
    have nq : n ∉ nums.take j := fun z => by
      obtain ⟨i, hi, e⟩ := List.getElem_of_mem z
      rw [List.length_take] at hi
      rw [List.getElem_take] at e
      have e2 := (List.getElem?_eq_some_iff.mp hn).2
      have := (List.getElem_inj hnd).mp (e.trans e2.symm)
      omega
    have fw := hM.few
    have fl : (nums.take j).length ≤ 100 := by rw [List.length_take]; omega
    have st := hM.step nq nl
    have tk : nums.take (j + 1) = nums.take j ++ [n] := by rw [List.take_add_one, hn]; rfl
    have at1 : (ws'.map D.int)[(n : Int).toNat]? = some (.int (ws'.getD n 0)) := by
      rw [Int.toNat_natCast, List.getElem?_map, List.getD_eq_getElem?_getD, List.getElem?_eq_getElem nl']; rfl
    have eset : (ws'.map D.int).set (n : Int).toNat (.int (ws'.getD n 0 - 1)) = (ws'.set n (ws'.getD n 0 - 1)).map D.int := by rw [Int.toNat_natCast, List.map_set]
    have at2 : ((ws'.set n (ws'.getD n 0 - 1)).map D.int)[(n : Int).toNat]? = some (.int (ws'.getD n 0 - 1)) := by
      rw [Int.toNat_natCast, List.getElem?_map, List.getElem?_set_self nl']; rfl
    refine yg_name ⟨_, rfl, ?_⟩
    refine xs_seq (xs_augC (p := q) T.cS T.s4 rfl rfl (xe_var_d rfl ⟨rfl, rfl, Int.natCast_nonneg n, at1, xe_int ⟨1, rfl, rfl, _, rfl, ?_⟩⟩))
    rw [fv_wan, eset]
    refine xs_if (xt_test (xe_op (xe_ixC (p := q) T.cS T.s4 rfl rfl (xe_var_d rfl ⟨rfl, rfl, Int.natCast_nonneg n, at2, ?_⟩))))
    walk_at "pws"
    · have e : ws'.getD n 0 - 1 = 0 := by assumption
      rw [if_pos e] at st
      refine ⟨_, _, by with_unfolding_all exact rfl, _, by with_unfolding_all exact rfl, by with_unfolding_all exact rfl, m_append (szlt (by rw [List.length_map]; omega)) ⟨_, rfl, ?_⟩⟩
      walk_at "pws"
      refine ⟨ws'.set n (ws'.getD n 0 - 1), out ++ [n], .d (.int n), ?_, by rw [tk]; exact st⟩
      rw [List.map_append]; rfl
    · have e : ¬ ws'.getD n 0 - 1 = 0 := by assumption
      rw [if_neg e] at st
      exact ⟨_, out, _, rfl, by rw [tk]; exact st⟩
  · rintro ρ' ⟨ws', out, e3, rfl, hM⟩
    rw [List.length_map, List.take_length] at hM
    walk_at "pws"
    exact ⟨_, rfl, rfl, g ws' out hM⟩
end

end LawK54
end
section
namespace LawK54
open PySem PySem.Spec PyProof.Rows L2 C8 PW
local macro_rules | `(tactic| walk_at "jn") => `(tactic| first | exact fact_jn (by assumption) | exact clause_jn (by assumption) | exact ground_jn (by assumption))
local macro_rules | `(tactic| walk_at "pw") => `(tactic| first
  | ((with_reducible show w_is_integer _ _); with_reducible refine i_is_integer (by walk_at "bi") ?_) | ((with_reducible show w_is_within _ _); with_reducible refine i_is_within (by walk_at "bi") ?_) | ((with_reducible show w_is_tuple_of _ _); with_reducible refine i_is_tuple_of (by walk_at "bi") ?_)
  | ((with_reducible show w_law_is_number _ _); with_reducible refine i_law_is_number (by walk_at "bi") ?_)
  | ((with_reducible show w_fact _ _); with_reducible refine i_fact (by walk_at "jn") ?_)
  | ((with_reducible show w_is_clause _ _); with_reducible refine i_is_clause (by walk_at "jn") ?_)
  | ((with_reducible show w_is_ground _ _); with_reducible refine i_is_ground (by walk_at "jn") ?_)
  | ((with_reducible show w_law_draw _ _); refine i_law_draw (by first | omega | decide) (by first | omega | decide) ?_; intro r h0 h1)
  | with_reducible refine xe_any (by with_unfolding_all exact rfl) ?_
  | ((with_reducible show ∃ x ds, _ = some x ∧ itemsD x = some ds ∧ ds ≠ [] ∧ ds.length < 1073741824 ∧ _); refine ex_any (by with_unfolding_all exact rfl) (by with_unfolding_all exact rfl) (by first | assumption | (intro z; cases z; done) | exact List.append_ne_nil_of_right_ne_nil _ (List.cons_ne_nil _ _)) (by first | omega | (simp only [List.length_append, List.length_cons, List.length_nil]; omega) | decide) ?_; intro d hd)
  | ((with_reducible show w_law_fact _ _); refine i_law_fact ?_; intro f hf)
  | ((with_reducible show w_law_nested _ _); refine i_law_nested ?_; intro f hf; have hfj := hf.1))
local macro_rules | `(tactic| walk_at "sz") => `(tactic| first | (rw [rngD_len]; refine szl ?_; omega))
local macro_rules | `(tactic| walk_at "pw") => `(tactic| first
  | ((with_reducible show ∃ xs x, _ = some xs ∧ ∃ ρ2, _ = ρ2 ∧ ρ2[_]? = some (Ent.own x) ∧ MtD _ rAppend x xs _); refine ⟨_, _, rfl, _, rfl, rfl, m_append (szlt (by first | omega | (simp only [List.length_append, List.length_cons, List.length_nil]; omega))) ?_⟩)
  | ((with_reducible show ∃ n, _ = some [D.int n] ∧ -2 ^ 62 ≤ n ∧ n < 2 ^ 62 ∧ _); refine ⟨_, rfl, by omega, by omega, ?_⟩))
local macro_rules | `(tactic| walk_at "pw") => `(tactic| first
  | with_reducible refine ye_fldC (by assumption) ?_ | with_reducible refine ye_fldG (by assumption) ?_
  | ((with_reducible show ∃ x y, _ = some (ruleD _ x y) ∧ _); refine ⟨_, _, by with_unfolding_all exact rfl, ?_⟩)
  | ((with_reducible show w_unlike _ _); refine i_unlike (by assumption) (by first | omega | assumption) ?_)
  | ((with_reducible show w_check_fact _ _); refine i_check_fact (by assumption) ?_)
  | ((with_reducible show w_check_lot _ _ _); refine i_check_lot (by assumption) (by first | omega | assumption) ?_)
  | with_reducible refine ye_dnewT ?_)
theorem xe_notInC2 {K : PySem.W.Frag} {ρ : List Ent} {k : PW.KE} {tk : TE} {C a p : Addr} {ns : List Str} {fs : List Fv} {f : Str} {i : Nat} {ks : List (List Key)} {xs : List D} (_ : ρ[i]? = some (ob K C a ns fs)) (hC : Cls K C) (hN : NoAttr K C f) (hf : fvget ns fs f = some (.cell p (.dct ks xs)))
    (h : PW.XE K tk ρ fun r ρ1 => ∃ q, peek ρ1 r = some (keyD q) ∧ ρ1[i]? = some (ob K C a ns fs) ∧ k (.d (.bl (!(dget ks xs q).isSome))) ρ1) : PW.XE K (tOp rNotInK tk (tFld K (tVar i) f)) ρ k := xe_notInC hC hN hf h
def t_drawn (K : PySem.W.Frag) : TS :=
  (tSeq (tAsg (tLst tNil) (gName 3))
  (tSeq (tFor (iSeqU K (tVar 1)) (gName 4)
  (tSeq (tAsg (tOp (rIx K) (tOp (rIx K) (tFld K (tFld K (tVar 0) "rule") "clauses") (tVar 4)) (tC (.int 1))) (gName 5))
  (tIfS (tAnd (tTest (tOp (rNeD K) (tVar 4) (tFld K (tVar 0) "left_out"))) (tTest (tOp rNotInK (tVar 5) (tFld K (tVar 0) "found"))))
  (tSeq (sDPut (tFld K (tVar 0) "found") (tVar 5) (tTup (tCons (tVar 2) (tCons (tTup (tCons (tC (.str "clause")) (tCons (tVar 4) tNil))) tNil))))
  (tDrop (tBM K "list" rAppend (tVar 3) (tCons (tVar 5) tNil))))
  tNext)))
  (tRet (tVar 3))))
local macro_rules | `(tactic| walk_at "pw") => `(tactic| first
  | with_reducible refine xe_notInC2 (f := "found") (by with_unfolding_all exact rfl) (TR.cS (by assumption)) (TR.s3 (by assumption)) (by with_unfolding_all exact rfl) ?_
  | with_reducible refine xe_fldD (f := "rule") (by with_unfolding_all exact rfl) (TR.cS (by assumption)) (TR.s1 (by assumption)) (by with_unfolding_all exact rfl) ?_
  | with_reducible refine xe_fldD (f := "left_out") (by with_unfolding_all exact rfl) (TR.cS (by assumption)) (TR.s2 (by assumption)) (by with_unfolding_all exact rfl) ?_
  | ((with_reducible show OpD _ (rNeD _) (.int _) (outD _) _); refine o_neOut ?_))
section
variable {K : PySem.W.Frag} {cs gs : List D} {is : List Int} {ks : List (List Key)} {xs : List D}
theorem fv_fnd {p q : Addr} {r l : D} {ws : List Int} {y : Fv} : fvset SN (spF p q r l ks xs ws) "found" y = [.dat r, .dat l, y, .cell q (.lst (ws.map D.int))] := by with_unfolding_all exact rfl
theorem dputX_new : ∀ {ks : List (List Key)} {xs : List D} {q : List Key} {y : D}, xs.length = ks.length → q ∉ ks → dputX ks xs q y = xs ++ [y]
  | [], [], _, _, _, _ => rfl
  | [], _ :: _, _, _, h, _ => by cases h
  | _ :: _, [], _, _, h, _ => by cases h
  | a :: ks, x :: xs, q, y, h, n => by
    show (if a = q then y :: xs else x :: dputX ks xs q y) = _
    rw [if_neg fun z => n (by rw [z]; exact List.mem_cons_self ..), dputX_new (Nat.succ.inj h) fun z => n (List.mem_cons_of_mem _ z)]
    rfl
theorem dget_isSome {q : List Key} : ∀ {ks : List (List Key)} {xs : List D}, xs.length = ks.length → ((dget ks xs q).isSome = true ↔ q ∈ ks) := dget_some
theorem pure_drawn (T : TR K) : ∀ a ns fs ds kk, w_drawn K a ns fs ds kk → XS K (t_drawn K) (iniB K (CSp K) a ns fs 6 ds)
    { nx := fun ρ => ∃ fs', ρ[0]? = some (ob K (CSp K) a ns fs') ∧ cells fs' = cells fs ∧ kk (.d .non) fs', rt := fun r ρ => ∃ fs', ρ[0]? = some (ob K (CSp K) a ns fs') ∧ cells fs' = cells fs ∧ kk r fs' } := by
  rintro a _ _ _ kk ⟨p, q, cs, gs, w, ks, xs, ws, ready, c, rfl, rfl, rfl, hP, hr, h1, hnd, hlen, hk, g⟩
  show XS K (t_drawn K) [ob K (CSp K) a SN (spF p q (ruleD K (.tup cs) (.tup gs)) (outD w) ks xs ws), .d (.lst (ready.map natD)), .d (.int c), .u, .u, .u] _
  unfold t_drawn
  walk_at "pws"
  refine ⟨fun j ρ => ∃ ks' xs' new e4 e5, ρ = [ob K (CSp K) a SN (spF p q (ruleD K (.tup cs) (.tup gs)) (outD w) ks' xs' ws), .d (.lst (ready.map natD)), .d (.int c), .own (.lst (new.map keyD)), e4, e5] ∧ Dr cs w c ks xs (ready.take j) ks' xs' new, ⟨ks, xs, [], _, _, rfl, Dr.start hnd⟩, ?_, ?_⟩
  · rintro j d ρ' hj ⟨ks', xs', new, e4, e5, rfl, hD⟩
    obtain ⟨n, hn, rfl⟩ := nat_at hj
    have nl := hr n (List.mem_of_getElem? hn)
    have tk : ready.take (j + 1) = ready.take j ++ [n] := by rw [List.take_add_one, hn]; rfl
    have tl : (ready.take j).length ≤ 10000 := by rw [List.length_take]; omega
    have nw := hD.few
    have hc : cs[n]? = some cs[n] := List.getElem?_eq_getElem nl
    obtain ⟨body, head, ec, b4, hb, hh⟩ := isClause_form (hP.cl cs[n] (List.getElem_mem nl))
    have hkey : headK cs n = keyF head := by rw [headK_at hc, ec]; rfl
    refine yg_name ⟨_, rfl, ?_⟩
    walk_at "pws"
    refine o_ixAnyT (by omega) (by omega) ?_
    intro d hd
    rw [Int.toNat_natCast, hc, ec] at hd
    cases hd
    walk_at "pws"
    · -- not left out
      have xl : xs'.length = ks'.length := by
        obtain ⟨vs, v1, v2, _⟩ := hD.v
        rw [v1, hD.k, List.length_append, List.length_append, v2, hlen]
      refine ⟨keyF head, congrArg some (fact_key hh), rfl, _, rfl, fun hb2 => ?_, fun hb2 => ?_⟩
      · have nin : headK cs n ∉ ks' := fun z => by
          rw [hkey] at z
          rw [(dget_isSome xl).mpr z] at hb2
          cases hb2
        have st := hD.add (by assumption) nin
        rw [hkey] at nin st
        have kl : ks'.length < 100000 := by rw [hD.k, List.length_append]; omega
        refine xs_seq (xs_dputC (a := a) (ns := SN) (fs := spF p q (ruleD K (.tup cs) (.tup gs)) (outD w) ks' xs' ws) (p := p) T.cS T.s3 rfl hD.nd kl ?_)
        walk_at "pws"
        refine ⟨rfl, ?_⟩
        walk_at "pws"
        refine ⟨keyF head, congrArg Res.d (fact_key hh), rfl, ?_⟩
        rw [fv_fnd, (sputX_new (y := .non) (xs := xs') nin).2, dputX_new xl nin]
        refine ⟨_, rfl, ?_⟩
        walk_at "pws"
        refine ⟨_, _, by with_unfolding_all exact rfl, _, by with_unfolding_all exact rfl, by with_unfolding_all exact rfl, m_append (szlt (by rw [List.length_map]; omega)) ⟨_, rfl, ?_⟩⟩
        refine ⟨ks' ++ [keyF head], xs' ++ [drawV c n], new ++ [keyF head], .d (.int n), .d head, ?_, by rw [tk]; exact st⟩
        rw [List.map_append, List.map_cons, List.map_nil, ← fact_key hh]
        rfl
      · have hin : headK cs n ∈ ks' := by
          rw [hkey]
          refine (dget_isSome xl).mp ?_
          cases z : (dget ks' xs' (keyF head)).isSome with
          | true => rfl
          | false => rw [z] at hb2; cases hb2
        walk_at "pws"
        exact ⟨ks', xs', new, _, _, rfl, by rw [tk]; exact hD.skip fun z => z.2 hin⟩
    · exact ⟨ks', xs', new, _, _, rfl, by rw [tk]; exact hD.skip fun z => absurd z.1 (by assumption)⟩
  · rintro ρ' ⟨ks', xs', new, e4, e5, rfl, hD⟩
    rw [List.length_map, List.take_length] at hD
    walk_at "pws"
    exact ⟨_, rfl, rfl, g ks' xs' new hD⟩
end

end LawK54
end
section
namespace LawK54
open PySem PySem.Spec PyProof.Rows L2 C8 PW
local macro_rules | `(tactic| walk_at "jn") => `(tactic| first | exact fact_jn (by assumption) | exact clause_jn (by assumption) | exact ground_jn (by assumption))
local macro_rules | `(tactic| walk_at "pw") => `(tactic| first
  | ((with_reducible show w_is_integer _ _); with_reducible refine i_is_integer (by walk_at "bi") ?_) | ((with_reducible show w_is_within _ _); with_reducible refine i_is_within (by walk_at "bi") ?_) | ((with_reducible show w_is_tuple_of _ _); with_reducible refine i_is_tuple_of (by walk_at "bi") ?_)
  | ((with_reducible show w_law_is_number _ _); with_reducible refine i_law_is_number (by walk_at "bi") ?_)
  | ((with_reducible show w_fact _ _); with_reducible refine i_fact (by walk_at "jn") ?_)
  | ((with_reducible show w_is_clause _ _); with_reducible refine i_is_clause (by walk_at "jn") ?_)
  | ((with_reducible show w_is_ground _ _); with_reducible refine i_is_ground (by walk_at "jn") ?_)
  | ((with_reducible show w_law_draw _ _); refine i_law_draw (by first | omega | decide) (by first | omega | decide) ?_; intro r h0 h1)
  | with_reducible refine xe_any (by with_unfolding_all exact rfl) ?_
  | ((with_reducible show ∃ x ds, _ = some x ∧ itemsD x = some ds ∧ ds ≠ [] ∧ ds.length < 1073741824 ∧ _); refine ex_any (by with_unfolding_all exact rfl) (by with_unfolding_all exact rfl) (by first | assumption | (intro z; cases z; done) | exact List.append_ne_nil_of_right_ne_nil _ (List.cons_ne_nil _ _)) (by first | omega | (simp only [List.length_append, List.length_cons, List.length_nil]; omega) | decide) ?_; intro d hd)
  | ((with_reducible show w_law_fact _ _); refine i_law_fact ?_; intro f hf)
  | ((with_reducible show w_law_nested _ _); refine i_law_nested ?_; intro f hf; have hfj := hf.1))
local macro_rules | `(tactic| walk_at "sz") => `(tactic| first | (rw [rngD_len]; refine szl ?_; omega))
local macro_rules | `(tactic| walk_at "pw") => `(tactic| first
  | ((with_reducible show ∃ xs x, _ = some xs ∧ ∃ ρ2, _ = ρ2 ∧ ρ2[_]? = some (Ent.own x) ∧ MtD _ rAppend x xs _); refine ⟨_, _, rfl, _, rfl, rfl, m_append (szlt (by first | omega | (simp only [List.length_append, List.length_cons, List.length_nil]; omega))) ?_⟩)
  | ((with_reducible show ∃ n, _ = some [D.int n] ∧ -2 ^ 62 ≤ n ∧ n < 2 ^ 62 ∧ _); refine ⟨_, rfl, by omega, by omega, ?_⟩))
local macro_rules | `(tactic| walk_at "pw") => `(tactic| first
  | with_reducible refine ye_fldC (by assumption) ?_ | with_reducible refine ye_fldG (by assumption) ?_
  | ((with_reducible show ∃ x y, _ = some (ruleD _ x y) ∧ _); refine ⟨_, _, by with_unfolding_all exact rfl, ?_⟩)
  | ((with_reducible show w_unlike _ _); refine i_unlike (by assumption) (by first | omega | assumption) ?_)
  | ((with_reducible show w_check_fact _ _); refine i_check_fact (by assumption) ?_)
  | ((with_reducible show w_check_lot _ _ _); refine i_check_lot (by assumption) (by first | omega | assumption) ?_)
  | with_reducible refine ye_dnewT ?_)
def t_Spread_init (K : PySem.W.Frag) : TS :=
  (tSeq (sFld K (tVar 0) (tVar 1) "rule")
  (tSeq (sFld K (tVar 0) (tVar 3) "left_out")
  (tSeq (sFld K (tVar 0) (tDcG (.dT []) (iItemsT (tCall (spW K (w_ground_facts K)) [] L2.E0 (tCons (tVar 1) (tCons (tVar 2) tNil)))) (gTup K 2 (gCons (gName 8) (gCons (gName 9) gNil))) tYes (tVar 8) (tTup (tCons (tC (.int 0)) (tCons (tVar 9) tNil))) [8, 9]) "found")
  (tSeq (sFld K (tVar 0) (tLc (iSeqU K (tFld K (tVar 1) "clauses")) (gTup K 2 (gCons (gName 10) (gCons (gName 11) gNil))) tYes (tCB (rLenU K) (tCons (tCall (spW K w_unlike) [] L2.E0 (tCons (tVar 10) tNil)) tNil)) [10, 11]) "wanting")
  (tSeq (tAsg (tMeth (CR K) "users" (spW K (w_users K)) [] L2.E0 (tVar 1) tNil) (gName 4))
  (tSeq (tAsg (tCB rListDT (tCons (tFld K (tVar 0) "found") tNil)) (gName 5))
  (tSeq (tAsg (tLc (iEnuU K (tCons (tFld K (tVar 0) "wanting") tNil)) (gTup K 2 (gCons (gName 12) (gCons (gName 13) gNil))) (tTest (tOp (rEqD K) (tVar 13) (tC (.int 0)))) (tVar 12) [12, 13]) (gName 6))
  (tSeq (tAsg (tC (.int 0)) (gName 7))
  (tWhile (tOr (tTest (tOp rGtI (tCB (rLenU K) (tCons (tVar 5) tNil)) (tC (.int 0)))) (tTest (tOp rGtI (tCB (rLenU K) (tCons (tVar 6) tNil)) (tC (.int 0)))))
  (tSeq (tAug 7 (tC (.int 1)) (ipI fun i j => i + j))
  (tSeq (tFor (iSeqU K (tVar 5)) (gName 8)
  (tDrop (tBM K "list" rExtend (tVar 6) (tCons (tMeth (CSp K) "met" (spM K (CSp K) w_met) [] L2.E0 (tVar 0) (tCons (tDGet2 (tVar 4) (tVar 8) (tLst tNil)) tNil)) tNil))))
  (tSeq (tAsg (tMeth (CSp K) "drawn" (spM K (CSp K) (w_drawn K)) [] L2.E0 (tVar 0) (tCons (tVar 6) (tCons (tVar 7) tNil))) (gName 5))
  (tAsg (tLst tNil) (gName 6))))))))))))))

local macro_rules | `(tactic| walk_at "pw") => `(tactic| first
  | ((with_reducible show w_ground_facts _ _ _); refine i_ground_facts (by assumption) (by assumption) ?_; intro ks0 xs0 hG)
  | ((with_reducible show w_users _ _ _); refine i_users (by assumption) ?_; intro uks uxs hU))
section
variable {K : PySem.W.Frag} {cs gs : List D} {is : List Int} {w : Option Nat} {ks : List (List Key)} {xs : List D}
def unO : D → Key
  | .int i => .inl i
  | .str s => .inr s
  | _ => .inl 0
theorem unO_keyO : ∀ k : List Key, (k.map keyO).map unO = k
  | [] => rfl
  | .inl i :: r => congrArg (Sum.inl i :: ·) (unO_keyO r)
  | .inr s :: r => congrArg (Sum.inr s :: ·) (unO_keyO r)
def kfP : D → List Key
  | .tup [.tup ds, _] => ds.map unO
  | _ => []
def vfP : D → D
  | .tup [_, x] => .tup [.int 0, x]
  | _ => .non
theorem kfP_map : ∀ {ks : List (List Key)} {xs : List D}, xs.length = ks.length → (pairsD ks xs).map kfP = ks
  | [], [], _ => rfl
  | [], _ :: _, h => by cases h
  | _ :: _, [], h => by cases h
  | q :: ks, x :: xs, h => by
    show (q.map keyO).map unO :: (pairsD ks xs).map kfP = _
    rw [unO_keyO, kfP_map (Nat.succ.inj h)]
theorem vfP_map : ∀ {ks : List (List Key)} {xs : List D}, xs.length = ks.length → (pairsD ks xs).map vfP = xs.map fun x => .tup [.int 0, x]
  | [], [], _ => rfl
  | [], _ :: _, h => by cases h
  | _ :: _, [], h => by cases h
  | q :: ks, x :: xs, h => congrArg (D.tup [.int 0, x] :: ·) (vfP_map (ks := ks) (xs := xs) (Nat.succ.inj h))
def t_round (K : PySem.W.Frag) : TS := (tSeq (tAug 7 (tC (.int 1)) (ipI fun i j => i + j))
  (tSeq (tFor (iSeqU K (tVar 5)) (gName 8)
  (tDrop (tBM K "list" rExtend (tVar 6) (tCons (tMeth (CSp K) "met" (spM K (CSp K) w_met) [] L2.E0 (tVar 0) (tCons (tDGet2 (tVar 4) (tVar 8) (tLst tNil)) tNil)) tNil))))
  (tSeq (tAsg (tMeth (CSp K) "drawn" (spM K (CSp K) (w_drawn K)) [] L2.E0 (tVar 0) (tCons (tVar 6) (tCons (tVar 7) tNil))) (gName 5))
  (tAsg (tLst tNil) (gName 6)))))
abbrev rhoS (K : PySem.W.Frag) (a p q : Addr) (cs gs : List D) (is : List Int) (w : Option Nat) (ks : List (List Key)) (xs : List D) (ws : List Int) (uks : List (List Key)) (uxs : List D) (e5 e6 : Ent) (t : Nat) (e8 : Ent) : List Ent :=
  [ob K (CSp K) a SN (spF p q (ruleD K (.tup cs) (.tup gs)) (outD w) ks xs ws), .d (ruleD K (.tup cs) (.tup gs)), .d (lotD is), .d (outD w), .own (.dct uks uxs), e5, e6, .d (.int (t : Int)), e8, .u, .u, .u, .u, .u]
theorem xs_round {Φ : Post} {a p q : Addr} {t : Nat} {ks0 P layer uks : List (List Key)} {uxs : List D} {ws : List Int} {ready : List Nat} {e8 : Ent} (T : TR K) (hP : Parts cs gs) (k0 : ks0.length ≤ 21) (hU : Us cs uks uxs) (hJ : Jt cs gs is w t ks0 ks xs P layer) (hM : Mid cs t P P ws ready) (hr : ready.length ≤ 60)
    (g : ∀ ks' xs' ws' new e8', Jt cs gs is w (t + 1) ks0 ks' xs' (P ++ layer) new → Mid cs (t + 1) (P ++ layer) (P ++ layer) ws' [] → (∀ x ∈ ks, x ∈ ks') → (new = [] → ks' = ks) → (∀ x ∈ new, x ∉ ks ∧ x ∈ ks' ∧ ∃ c ∈ cs, (clK c).2 = x) →
      Φ.nx (rhoS K a p q cs gs is w ks' xs' ws' uks uxs (.own (.lst (new.map keyD))) (.own (.lst [])) (t + 1) e8')) :
    XS K (t_round K) (rhoS K a p q cs gs is w ks xs ws uks uxs (.own (.lst (layer.map keyD))) (.own (.lst (ready.map natD))) t e8) Φ := by
  unfold t_round
  have few := hP.few
  have fk := hJ.few
  refine xs_seq (ys_aug rfl (xe_int ⟨1, rfl, rhoS K a p q cs gs is w ks xs ws uks uxs (.own (.lst (layer.map keyD))) (.own (.lst (ready.map natD))) (t + 1) e8, rfl, ?_⟩))
  refine xs_seq (xs_for (yi_seqU (xe_var_o rfl ⟨_, _, rfl, rfl, rhoS K a p q cs gs is w ks xs ws uks uxs (.d (.lst (layer.map keyD))) (.own (.lst (ready.map natD))) (t + 1) e8, rfl, ?_⟩)))
  refine ⟨fun j ρ => ∃ ws' ready' e8', ρ = rhoS K a p q cs gs is w ks xs ws' uks uxs (.d (.lst (layer.map keyD))) (.own (.lst (ready'.map natD))) (t + 1) e8' ∧ Mid cs t P (P ++ layer.take j) ws' ready' ∧ ready'.length ≤ 60 + 60 * j, ⟨ws, ready, e8, rfl, by rw [List.take_zero, List.append_nil]; exact hM, hr⟩, ?_, ?_⟩
  · rintro j d ρ' hj ⟨ws', ready', e8', rfl, hM', hr'⟩
    rw [List.getElem?_map] at hj
    cases hq : layer[j]? with
    | none => rw [hq] at hj; cases hj
    | some x =>
      rw [hq] at hj
      cases hj
      have jl : j < layer.length := (List.getElem?_eq_some_iff.mp hq).1
      have xl : x ∈ layer := List.mem_of_getElem? hq
      have nx : x ∉ P ++ layer.take j := fun z => by
        rcases List.mem_append.mp z with z | z
        · exact ((hJ.lay x).mp xl).2 ((hJ.pre x).mp z)
        · obtain ⟨i, hi, e⟩ := List.getElem_of_mem z
          rw [List.length_take] at hi
          rw [List.getElem_take] at e
          have e2 := (List.getElem?_eq_some_iff.mp hq).2
          have := (List.getElem_inj hJ.lnd).mp (e.trans e2.symm)
          omega
      have ul := users_len (cs := cs) (q := x)
      refine yg_name ⟨rhoS K a p q cs gs is w ks xs ws' uks uxs (.d (.lst (layer.map keyD))) (.own (.lst (ready'.map natD))) (t + 1) (.d (keyD x)), rfl, ?_⟩
      refine xs_drop (ye_meth rfl (fun _ _ _ h => ty_list h) (xa_cons (xe_methB (a := a) (ns := SN) (fs := spF p q (ruleD K (.tup cs) (.tup gs)) (outD w) ks xs ws') rfl (by decide +kernel) (xa_cons (xe_get2L rfl (xe_var_d rfl ⟨x, rfl, rfl, ?_⟩))))))
      rw [hU.val x]
      refine xa_nil ⟨_, rfl, _, rfl, rfl, p, q, _, _, ks, xs, ws', usersOf cs x, rfl, rfl, rfl, users_nd, fun n hn => ?_, by omega, fun ws'' out hMt => ⟨rhoS K a p q cs gs is w ks xs ws'' uks uxs (.d (.lst (layer.map keyD))) (.own (.lst (ready'.map natD))) (t + 1) (.d (keyD x)), rfl, ?_⟩⟩
      · obtain ⟨c, hc, _⟩ := users_mem.mp hn
        rw [hM'.wl]
        exact (List.getElem?_eq_some_iff.mp hc).1
      have fo := hMt.few
      refine xa_nil ⟨_, _, rfl, _, rfl, rfl, m_extend (szl (by rw [List.length_map, List.length_map]; omega)) ⟨rhoS K a p q cs gs is w ks xs ws'' uks uxs (.d (.lst (layer.map keyD))) (.own (.lst ((ready' ++ out).map natD))) (t + 1) (.d (keyD x)), by rw [List.map_append]; rfl, ?_⟩⟩
      have tk : P ++ layer.take (j + 1) = (P ++ layer.take j) ++ [x] := by rw [List.take_add_one, hq, List.append_assoc]; rfl
      refine ⟨ws'', ready' ++ out, _, rfl, by rw [tk]; exact hM'.step hP.cl nx (fun b hb => List.mem_append_left _ hb) hMt, by rw [List.length_append]; omega⟩
  · rintro ρ' ⟨ws', ready', e8', rfl, hM', hr'⟩
    rw [List.length_map, List.take_length] at hM'
    rw [List.length_map] at hr'
    have xl := hJ.len
    refine xs_seq (ys_asg (xe_methB (a := a) (ns := SN) (fs := spF p q (ruleD K (.tup cs) (.tup gs)) (outD w) ks xs ws') rfl (by decide +kernel) (xa_cons (xe_var_o rfl (xa_cons (xe_var_d rfl (xa_nil ?_)))))))
    refine ⟨_, rfl, rhoS K a p q cs gs is w ks xs ws' uks uxs (.d (.lst (layer.map keyD))) (.d (.lst (ready'.map natD))) (t + 1) e8', rfl, rfl, p, q, cs, gs, w, ks, xs, ws', ready', ((t + 1 : Nat) : Int), rfl, rfl, rfl, hP, fun n hn => ?_, by omega, hJ.nd, xl, by omega, fun ks' xs' new hD => ⟨rhoS K a p q cs gs is w ks' xs' ws' uks uxs (.d (.lst (layer.map keyD))) (.d (.lst (ready'.map natD))) (t + 1) e8', rfl, rhoS K a p q cs gs is w ks' xs' ws' uks uxs (.own (.lst (new.map keyD))) (.d (.lst (ready'.map natD))) (t + 1) e8', rfl, ?_⟩⟩
    · obtain ⟨c, hc, _⟩ := (hM'.rdy n).mp hn
      exact (List.getElem?_eq_some_iff.mp hc).1
    refine ys_asg (ye_lst (xa_nil ⟨[], rfl, Nat.zero_le _, rhoS K a p q cs gs is w ks' xs' ws' uks uxs (.own (.lst (new.map keyD))) (.d (.lst (ready'.map natD))) (t + 1) e8', rfl, rhoS K a p q cs gs is w ks' xs' ws' uks uxs (.own (.lst (new.map keyD))) (.own (.lst [])) (t + 1) e8', rfl, ?_⟩))
    have e : ((t + 1 : Nat) : Int) = (t : Int) + 1 := by omega
    rw [e] at hD
    have hJ' := hJ.next hM' hD
    refine g ks' xs' ws' new e8' hJ' hM'.again (fun x hx => by rw [hD.k]; exact List.mem_append_left _ hx) (fun z => by rw [hD.k, z, List.append_nil]) fun x hx => ?_
    obtain ⟨y1, n, n1, n2, n3⟩ := (hD.mem x).mp hx
    obtain ⟨c, hc, _⟩ := (hM'.rdy n).mp n1
    exact ⟨y1, by rw [hD.k]; exact List.mem_append_right _ hx, c, List.mem_of_getElem? hc, by rw [← headK_at hc]; exact n3⟩
theorem pure_Spread_init (T : TR K) : ∀ a ds kk, w_Spread K a ds kk → XS K (t_Spread_init K) (iniB K (CSp K) a [] [] 14 ds)
    { nx := fun ρ => ∃ ns fs, ρ[0]? = some (ob K (CSp K) a ns fs) ∧ kk ns fs, rt := fun _ _ => False } := by
  rintro a _ kk ⟨cs, gs, is, w, rfl, hP, hL, g⟩
  show XS K (t_Spread_init K) [ob K (CSp K) a [] [], .d (ruleD K (.tup cs) (.tup gs)), .d (lotD is), .d (outD w), .u, .u, .u, .u, .u, .u, .u, .u, .u, .u] _
  have few := hP.few
  have fewG := hP.fewG
  have hll := lot_len0 (lo := 0) (hi := gs.length) hL.1 hL.2
  unfold t_Spread_init
  refine xs_seq (xs_fldC (ns := []) T.cS T.s1 (by decide) (xe_var_d rfl ⟨rfl, [ob K (CSp K) a ["rule"] [.dat (ruleD K (.tup cs) (.tup gs))], .d (ruleD K (.tup cs) (.tup gs)), .d (lotD is), .d (outD w), .u, .u, .u, .u, .u, .u, .u, .u, .u, .u], rfl, ?_⟩))
  refine xs_seq (xs_fldC (ns := ["rule"]) T.cS T.s2 (by decide) (xe_var_d rfl ⟨rfl, [ob K (CSp K) a ["rule", "left_out"] [.dat (ruleD K (.tup cs) (.tup gs)), .dat (outD w)], .d (ruleD K (.tup cs) (.tup gs)), .d (lotD is), .d (outD w), .u, .u, .u, .u, .u, .u, .u, .u, .u, .u], by with_unfolding_all exact rfl, ?_⟩))
  refine xs_seq (xs_fldC (a := a) (ns := ["rule", "left_out"]) (fs := [.dat (ruleD K (.tup cs) (.tup gs)), .dat (outD w)]) T.cS T.s3 (by decide) (xe_dc (own_pair (by decide)) (wipe2 (by decide)) (xi_itemsT ?_)))
  walk_at "pws"
  rename_i ks0 xs0 hG
  have k0 : ks0.length ≤ 21 := by have := hG.few; omega
  have pl := pairsD_len hG.len
  refine ⟨ks0, xs0, rfl, by rw [pl]; exact szlt (by omega), kfP, vfP, by rw [kfP_map hG.len]; exact hG.nd, fun d hd => ?_, ?_⟩
  · obtain ⟨j, hj⟩ := List.getElem?_of_mem hd
    obtain ⟨q, x, _, _, rfl⟩ := pairsD_at hj
    walk_at "pws"
    refine ⟨congrArg some ?_, rfl, rfl⟩
    show keyD q = keyD ((q.map keyO).map unO)
    rw [unO_keyO]
  rw [kfP_map hG.len, vfP_map hG.len]
  generalize hx1 : (xs0.map fun x => D.tup [.int 0, x]) = xs1
  refine ⟨rfl, fun p => ⟨[ob K (CSp K) a ["rule", "left_out", "found"] [.dat (ruleD K (.tup cs) (.tup gs)), .dat (outD w), .cell p (.dct ks0 xs1)], .d (ruleD K (.tup cs) (.tup gs)), .d (lotD is), .d (outD w), .u, .u, .u, .u, .u, .u, .u, .u, .u, .u], by with_unfolding_all exact rfl, ?_⟩⟩
  refine xs_seq (xs_fldC (a := a) (ns := ["rule", "left_out", "found"]) (fs := [.dat (ruleD K (.tup cs) (.tup gs)), .dat (outD w), .cell p (.dct ks0 xs1)]) T.cS T.s4 (by decide) (ye_lcm (vs := [10, 11]) (fun c => .int (((unl (bodyD c)).length : Nat) : Int)) (own_pair (by decide)) (wipe2 (by decide)) ?_))
  walk_at "pws"
  refine ⟨szl (by omega), _, rfl, fun d hd => ?_, ?_⟩
  · obtain ⟨body, head, rfl, b4, hb, hh⟩ := isClause_form (hP.cl d hd)
    walk_at "pws"
    show D.int _ = D.int (((unl body).length : Nat) : Int)
    rw [List.length_map]
  have ew : (cs.map fun c => D.int (((unl (bodyD c)).length : Nat) : Int)) = (cs.map fun c => (((unl (bodyD c)).length : Nat) : Int)).map D.int := by rw [List.map_map]; rfl
  rw [ew]
  generalize hw0 : (cs.map fun c => (((unl (bodyD c)).length : Nat) : Int)) = ws0
  have wl : ws0.length = cs.length := by rw [← hw0, List.length_map]
  refine ⟨rfl, fun q => ⟨[ob K (CSp K) a SN (spF p q (ruleD K (.tup cs) (.tup gs)) (outD w) ks0 xs1 ws0), .d (ruleD K (.tup cs) (.tup gs)), .d (lotD is), .d (outD w), .u, .u, .u, .u, .u, .u, .u, .u, .u, .u], by with_unfolding_all exact rfl, ?_⟩⟩
  refine xs_seq (ys_asg (xe_mt0 (xe_var_d rfl ⟨_, _, rfl, by decide +kernel, _, rfl, i_users hP fun uks uxs hU => ⟨_, rfl, ?_⟩⟩)))
  refine xs_seq (ys_asg (xe_listC (a := a) (ns := SN) (fs := spF p q (ruleD K (.tup cs) (.tup gs)) (outD w) ks0 xs1 ws0) (p := p) rfl T.cS T.s3 rfl ⟨_, rfl, ?_⟩))
  refine xs_seq (ys_asg (xe_lcC (vs := [12, 13]) (a := a) (ns := SN) (fs := spF p q (ruleD K (.tup cs) (.tup gs)) (outD w) ks0 xs1 ws0) (p := q) (ls := ws0.map D.int) rfl T.cS T.s4 rfl rfl (own_pair (by decide)) (wipe2 (by decide)) (szl (by rw [List.length_map]; omega)) (fun i acc => acc = ((List.range i).filter fun n => decide (ws0.getD n 0 = 0)).map natD) rfl (fun i d acc hd hacc hP1 => ?_) (fun acc hacc hP1 => ?_)))
  · obtain ⟨x, hx, rfl⟩ := enumFrom_at hd
    rw [Nat.zero_add]
    have hx2 : x = .int (ws0.getD i 0) := by
      rw [List.getElem?_map] at hx
      rw [List.getD_eq_getElem?_getD]
      cases e : ws0[i]? with
      | none => rw [e] at hx; cases hx
      | some v => rw [e] at hx; cases hx; rfl
    subst hx2
    have st : ((List.range (i + 1)).filter fun n => decide (ws0.getD n 0 = 0)) = if ws0.getD i 0 = 0 then ((List.range i).filter fun n => decide (ws0.getD n 0 = 0)) ++ [i] else (List.range i).filter fun n => decide (ws0.getD n 0 = 0) := by
      rw [List.range_succ, List.filter_append, List.filter_cons]
      by_cases z : ws0.getD i 0 = 0
      · rw [if_pos z, if_pos (decide_eq_true z)]; rfl
      · rw [if_neg z, if_neg (by simpa using z)]; simp
    rw [st]
    walk_at "pws"
    refine ⟨rfl, fun z => ?_, fun z => ?_⟩
    · rw [if_pos (of_decide_eq_true z)]
      refine xe_var_d rfl ⟨_, rfl, rfl, ?_⟩
      rw [hP1, List.map_append]
      rfl
    · rw [if_neg (of_decide_eq_false z), hP1]
  subst hP1
  rw [List.length_map, wl]
  refine ⟨_, rfl, ?_⟩
  refine xs_seq (ys_asg (xe_int ⟨_, rfl, ?_⟩))
  have hv0 : ∀ (j : Nat) (q : List Key) (x : D), ks0[j]? = some q → xs1[j]? = some x → ValL cs gs is w q x := fun j q x e1 e2 => by
    rw [← hx1, List.getElem?_map] at e2
    cases e3 : xs0[j]? with
    | none => rw [e3] at e2; cases e2
    | some x0 =>
      rw [e3] at e2
      cases e2
      obtain ⟨i, rfl, hi, fs, hfs, hq⟩ := hG.val j q x0 e1 e3
      exact ⟨0, _, rfl, ⟨i, hi, fs, hfs, hq⟩, fun m hm => absurd hm (Nat.not_lt_zero m), .inl ⟨i, rfl, hi, fs, hfs, hq⟩⟩
  have hJ0 : Jt cs gs is w 0 ks0 ks0 xs1 [] ks0 := ⟨hG.nd, by rw [← hx1, List.length_map]; exact hG.len, hG.mem, fun q => ⟨fun z => (nomatch z), fun z => z.elim⟩, hG.nd, fun q => ⟨fun z => ⟨(hG.mem q).mp z, fun y => y.elim⟩, fun z => (hG.mem q).mpr z.1⟩, hv0, fun q hq => .inl hq⟩
  have wat : ∀ (i : Nat) (c : D), cs[i]? = some c → ws0.getD i 0 = (((unl (bodyD c)).length : Nat) : Int) := fun i c hc => by
    rw [← hw0, List.getD_eq_getElem?_getD, List.getElem?_map, hc]; rfl
  have hM0 : Mid cs 0 [] [] ws0 ((List.range cs.length).filter fun n => decide (ws0.getD n 0 = 0)) := by
    refine ⟨wl, fun i c hc => ?_, fun i => ?_⟩
    · rw [wat i c hc]
      congr 1
      rw [List.filter_eq_self.mpr]
      intro x _
      rfl
    · rw [List.mem_filter, List.mem_range, decide_eq_true_eq]
      constructor
      · rintro ⟨hi, hz⟩
        have hc : cs[i]? = some cs[i] := List.getElem?_eq_getElem hi
        have e0 : (clK cs[i]).1 = [] := by
          rw [wat i _ hc] at hz
          have : unl (bodyD cs[i]) = [] := List.length_eq_zero_iff.mp (by omega)
          rw [bodyD_clK (hP.cl _ (List.getElem_mem hi))]
          cases eb : (bodyD cs[i]).map keyF with
          | nil => rfl
          | cons b r =>
            have : b ∈ unl (bodyD cs[i]) := unl_mem.mpr (by rw [eb]; exact List.mem_cons_self ..)
            simp_all
        exact ⟨_, hc, (fun b hb => by rw [e0] at hb; cases hb), .inl ⟨rfl, e0⟩⟩
      · rintro ⟨c, hc, h1, _⟩
        refine ⟨(List.getElem?_eq_some_iff.mp hc).1, ?_⟩
        rw [wat i c hc]
        have : unl (bodyD c) = [] := by
          cases eb : unl (bodyD c) with
          | nil => rfl
          | cons b r =>
            have hb : b ∈ unl (bodyD c) := by rw [eb]; exact List.mem_cons_self ..
            rw [unl_mem, ← bodyD_clK (hP.cl _ (List.mem_of_getElem? hc))] at hb
            exact nomatch h1 b hb
        rw [this]
        rfl
  have hr0 : ((List.range cs.length).filter fun n => decide (ws0.getD n 0 = 0)).length ≤ 60 := by
    have := List.length_filter_le (fun n => decide (ws0.getD n 0 = 0)) (List.range cs.length)
    rw [List.length_range] at this
    omega
  generalize ((List.range cs.length).filter fun n => decide (ws0.getD n 0 = 0)) = r0 at hM0 hr0
  refine xs_while (tb := t_round K) (fun m ρ => ∃ t ks xs ws layer ready P e8, ρ = rhoS K a p q cs gs is w ks xs ws uks uxs (.own (.lst (layer.map keyD))) (.own (.lst (ready.map natD))) t e8 ∧ Jt cs gs is w t ks0 ks xs P layer ∧ Mid cs t P P ws ready ∧ ready.length ≤ 60 ∧ m = 2 * (cs.length - inN (cs.map clK) ks) + (if layer.length + ready.length = 0 then 0 else 1)) _ ⟨0, ks0, xs1, ws0, ks0, r0, [], .u, rfl, hJ0, hM0, hr0, rfl⟩ ?_
  rintro m ρ' ⟨t, ks, xs, ws, layer, ready, P, e8, rfl, hJ, hM, hr, rfl⟩
  have rnd : layer.length + ready.length ≠ 0 → XS K (t_round K) (rhoS K a p q cs gs is w ks xs ws uks uxs (.own (.lst (layer.map keyD))) (.own (.lst (ready.map natD))) t e8)
      { nx := fun ρ3 => ∃ m', m' < 2 * (cs.length - inN (cs.map clK) ks) + (if layer.length + ready.length = 0 then 0 else 1) ∧ ∃ t ks xs ws layer ready P e8, ρ3 = rhoS K a p q cs gs is w ks xs ws uks uxs (.own (.lst (layer.map keyD))) (.own (.lst (ready.map natD))) t e8 ∧ Jt cs gs is w t ks0 ks xs P layer ∧ Mid cs t P P ws ready ∧ ready.length ≤ 60 ∧ m' = 2 * (cs.length - inN (cs.map clK) ks) + (if layer.length + ready.length = 0 then 0 else 1),
        ct := fun ρ3 => ∃ m', m' < 2 * (cs.length - inN (cs.map clK) ks) + (if layer.length + ready.length = 0 then 0 else 1) ∧ ∃ t ks xs ws layer ready P e8, ρ3 = rhoS K a p q cs gs is w ks xs ws uks uxs (.own (.lst (layer.map keyD))) (.own (.lst (ready.map natD))) t e8 ∧ Jt cs gs is w t ks0 ks xs P layer ∧ Mid cs t P P ws ready ∧ ready.length ≤ 60 ∧ m' = 2 * (cs.length - inN (cs.map clK) ks) + (if layer.length + ready.length = 0 then 0 else 1),
        bk := fun ρ => ∃ ns fs, ρ[0]? = some (ob K (CSp K) a ns fs) ∧ kk ns fs, rt := fun _ _ => False } := fun ne => by
    refine xs_round T hP k0 hU hJ hM hr fun ks' xs' ws' new e8' hJ' hM' hsub hsame hnew => ⟨_, ?_, t + 1, ks', xs', ws', new, [], P ++ layer, e8', rfl, hJ', hM', Nat.zero_le _, rfl⟩
    rw [if_neg ne]
    have il := inN_le (cs := cs.map clK) ks'
    rw [List.length_map] at il
    cases hn : new with
    | nil =>
      rw [hsame hn]
      simp
    | cons x r =>
      obtain ⟨y1, y2, c, hc, e⟩ := hnew x (by rw [hn]; exact List.mem_cons_self ..)
      obtain ⟨i, hi⟩ := List.getElem?_of_mem hc
      have := inN_more (cs := cs.map clK) hsub (i := i) (body := (clK c).1) (head := x) (by rw [List.getElem?_map, hi, ← e]; rfl) y1 y2
      split <;> omega
  have out : layer.length + ready.length = 0 → ∃ ns fs, (rhoS K a p q cs gs is w ks xs ws uks uxs (.own (.lst (layer.map keyD))) (.own (.lst (ready.map natD))) t e8)[0]? = some (ob K (CSp K) a ns fs) ∧ kk ns fs := fun z => by
    have e1 : layer = [] := List.length_eq_zero_iff.mp (by omega)
    have e2 : ready = [] := List.length_eq_zero_iff.mp (by omega)
    rw [e1] at hJ
    rw [e2] at hM
    exact ⟨SN, _, rfl, g p q ks xs ws (hJ.fin hM (by omega))⟩
  walk_at "pws"
  all_goals simp only [List.length_map] at *
  · exact rnd (by omega)
  · exact out (by omega)
  · exact rnd (by omega)
end

end LawK54
end
section
namespace LawK54
open PySem PySem.Spec PyProof.Rows L2 C8 PW
local macro_rules | `(tactic| walk_at "jn") => `(tactic| first | exact fact_jn (by assumption) | exact clause_jn (by assumption) | exact ground_jn (by assumption))
local macro_rules | `(tactic| walk_at "pw") => `(tactic| first
  | ((with_reducible show w_is_integer _ _); with_reducible refine i_is_integer (by walk_at "bi") ?_) | ((with_reducible show w_is_within _ _); with_reducible refine i_is_within (by walk_at "bi") ?_) | ((with_reducible show w_is_tuple_of _ _); with_reducible refine i_is_tuple_of (by walk_at "bi") ?_)
  | ((with_reducible show w_law_is_number _ _); with_reducible refine i_law_is_number (by walk_at "bi") ?_)
  | ((with_reducible show w_fact _ _); with_reducible refine i_fact (by walk_at "jn") ?_)
  | ((with_reducible show w_is_clause _ _); with_reducible refine i_is_clause (by walk_at "jn") ?_)
  | ((with_reducible show w_is_ground _ _); with_reducible refine i_is_ground (by walk_at "jn") ?_)
  | ((with_reducible show w_law_draw _ _); refine i_law_draw (by first | omega | decide) (by first | omega | decide) ?_; intro r h0 h1)
  | with_reducible refine xe_any (by with_unfolding_all exact rfl) ?_
  | ((with_reducible show ∃ x ds, _ = some x ∧ itemsD x = some ds ∧ ds ≠ [] ∧ ds.length < 1073741824 ∧ _); refine ex_any (by with_unfolding_all exact rfl) (by with_unfolding_all exact rfl) (by first | assumption | (intro z; cases z; done) | exact List.append_ne_nil_of_right_ne_nil _ (List.cons_ne_nil _ _)) (by first | omega | (simp only [List.length_append, List.length_cons, List.length_nil]; omega) | decide) ?_; intro d hd)
  | ((with_reducible show w_law_fact _ _); refine i_law_fact ?_; intro f hf)
  | ((with_reducible show w_law_nested _ _); refine i_law_nested ?_; intro f hf; have hfj := hf.1))
local macro_rules | `(tactic| walk_at "sz") => `(tactic| first | (rw [rngD_len]; refine szl ?_; omega))
local macro_rules | `(tactic| walk_at "pw") => `(tactic| first
  | ((with_reducible show ∃ xs x, _ = some xs ∧ ∃ ρ2, _ = ρ2 ∧ ρ2[_]? = some (Ent.own x) ∧ MtD _ rAppend x xs _); refine ⟨_, _, rfl, _, rfl, rfl, m_append (szlt (by first | omega | (simp only [List.length_append, List.length_cons, List.length_nil]; omega))) ?_⟩)
  | ((with_reducible show ∃ n, _ = some [D.int n] ∧ -2 ^ 62 ≤ n ∧ n < 2 ^ 62 ∧ _); refine ⟨_, rfl, by omega, by omega, ?_⟩))
local macro_rules | `(tactic| walk_at "pw") => `(tactic| first
  | with_reducible refine ye_fldC (by assumption) ?_ | with_reducible refine ye_fldG (by assumption) ?_
  | ((with_reducible show ∃ x y, _ = some (ruleD _ x y) ∧ _); refine ⟨_, _, by with_unfolding_all exact rfl, ?_⟩)
  | ((with_reducible show w_unlike _ _); refine i_unlike (by assumption) (by first | omega | assumption) ?_)
  | ((with_reducible show w_check_fact _ _); refine i_check_fact (by assumption) ?_)
  | ((with_reducible show w_check_lot _ _ _); refine i_check_lot (by assumption) (by first | omega | assumption) ?_)
  | with_reducible refine ye_dnewT ?_)
/-- what the top says of Spread, of Rule.users -/
structure Gs (P : Program) (K : PySem.W.Frag) (mg : Str → Option Value) : Prop where
  t : Gt P K mg
  tr : TR K
  mkS : Mk K (CSp K) (He.ma K (CSp K) "__init__")
  mU : Meth K (CR K) "users" (He.ma K (CR K) "users")
  mM : Meth K (CSp K) "met" (He.ma K (CSp K) "met")
  mD : Meth K (CSp K) "drawn" (He.ma K (CSp K) "drawn")
  fU : ∃ fd, FunD K "users" "Rule.users" (defArgs s_Rule_users) (defBody s_Rule_users) (defScope s_Rule_users) [] [] (He.ma K (CR K) "users") fd
  fM : ∃ fd, FunD K "met" "Spread.met" (defArgs s_Spread_met) (defBody s_Spread_met) (defScope s_Spread_met) [] [] (He.ma K (CSp K) "met") fd
  fD : ∃ fd, FunD K "drawn" "Spread.drawn" (defArgs s_Spread_drawn) (defBody s_Spread_drawn) (defScope s_Spread_drawn) [] [] (He.ma K (CSp K) "drawn") fd
  fS : ∃ fd, FunD K "__init__" "Spread.__init__" (defArgs s_Spread_init) (defBody s_Spread_init) (defScope s_Spread_init) [] [] (He.ma K (CSp K) "__init__") fd
theorem len_m {K : PySem.W.Frag} {C : Addr} {w : WM} {n : Nat} {vs : List V} {H : Hp} {Q : VK} {E : XK} (hw : ∀ a ns fs ds k, w a ns fs ds k → ds.length + 1 = n) (h : spM K C w vs H Q E) : vs.length = n := by
  obtain ⟨M, a, ns, fs, ws, ds, kk, rfl, tr, hM, os, d, h2, fin⟩ := h
  rw [List.length_cons, d.length]
  exact hw _ _ _ _ _ h2
theorem len_i {K : PySem.W.Frag} {C : Addr} {w : WI} {n : Nat} {vs : List V} {H : Hp} {Q : VK} {E : XK} (hw : ∀ a ds k, w a ds k → ds.length + 1 = n) (h : spI K C w vs H Q E) : vs.length = n := by
  obtain ⟨M, a, dx, ws, ds, kk, rfl, tr, hM, os, d, h2, fin⟩ := h
  rw [List.length_cons, d.length]
  exact hw _ _ _ h2
section
variable {P : Program} {w : World} {K : PySem.W.Frag} {mg : Str → Option Value} {base : Heap}
theorem c_users (G : Gs P K mg) : Met P w K mg base 5 (CR K) "users" (spW K (w_users K)) [] := by
  obtain ⟨fd, F⟩ := G.fU
  refine ⟨_, fd, ["self"], [], G.tr.cR, G.mU, F.ok sc_Rule_users (fun vs H Q E h => len_w h fun ds k z => (len_users ds k z)) (fun cdv A outer s H vs Q E hr h => ⟨t_users K, PSs.nox ?_, entry_w h (pure_users G.tr)⟩), F.bindsN (fun _ _ _ _ _ _ us hl => match us, hl with | [_], _ => rfl), .nil⟩
  exact (pss_cons (ps_set (i := 1) sc_Rule_users.nd rfl (by first | exact Or.inl rfl | exact Or.inr rfl) pe_dnewT)
  (pss_cons (ps_for PassesOwn.never rfl (pi_enuU rfl G.t.g.b_enumerate (pa_cons (pe_fld (pv 0) rfl) pa_nil)) (pg_tup rfl (pgs_cons (pg_name (i := 2) sc_Rule_users.nd rfl (by first | exact Or.inl rfl | exact Or.inr rfl)) (pgs_cons (pg_tup rfl (pgs_cons (pg_name (i := 3) sc_Rule_users.nd rfl (by first | exact Or.inl rfl | exact Or.inr rfl)) (pgs_cons (pg_name (i := 4) sc_Rule_users.nd rfl (by first | exact Or.inl rfl | exact Or.inr rfl)) pgs_nil))) pgs_nil)))
  (pss_one (ps_for PassesOwn.never rfl (pi_seqU (pe_c (c_unlike G.t.g) hr (by decide) rfl (pa_cons (pv 3) pa_nil))) (pg_name (i := 5) sc_Rule_users.nd rfl (by first | exact Or.inl rfl | exact Or.inr rfl))
  (pss_one (ps_expr (pe_bm PySem.F.plainAttrs_list PySem.F.slot_list_append PySem.F.type_list_append mt_append (pe_setDef (hu1 hr) (pv 1) (pv 5) (pe_lst pa_nil) ⟨by rfl, by rfl, by rfl, by rfl⟩) (pa_cons (pv 2) pa_nil)))))))
  (pss_one (ps_ret (pv 1)))))
theorem c_met (G : Gs P K mg) : Met P w K mg base 5 (CSp K) "met" (spM K (CSp K) w_met) [] := by
  obtain ⟨fd, F⟩ := G.fM
  refine ⟨_, fd, ["self", "numbers"], [], G.tr.cS, G.mM, F.ok sc_Spread_met (fun vs H Q E h => len_m (fun a ns fs ds k ⟨_, _, _, _, _, _, _, _, _, _, e, _⟩ => by rw [e]; rfl) h) (fun cdv A outer s H vs Q E hr h => ⟨t_met K, PSs.nox ?_, entry_m h (by decide) (pure_met G.tr)⟩), F.bindsN (fun _ _ _ _ _ _ us hl => match us, hl with | [_, _], _ => rfl), .nil⟩
  exact (pss_cons (ps_set (i := 2) sc_Spread_met.nd rfl (by first | exact Or.inl rfl | exact Or.inr rfl) (pe_lst pa_nil))
  (pss_cons (ps_for PassesOwn.never rfl (pi_seqU (pv 1)) (pg_name (i := 3) sc_Spread_met.nd rfl (by first | exact Or.inl rfl | exact Or.inr rfl))
  (pss_cons (ps_augS (pe_fld (pv 0) rfl) (pv 3) pg_atL pe_int ip_sub set_list)
  (pss_one (ps_if (pt_cmpR (op_eqD (hu64 hr)) (pe_ix ix_seq (pe_fld (pv 0) rfl) (pv 3) (fun _ _ => rfl)) pe_int (nomark _))
  (pss_one (ps_expr (pe_bm PySem.F.plainAttrs_list PySem.F.slot_list_append PySem.F.type_list_append mt_append (pv 2) (pa_cons (pv 3) pa_nil))))
  pss_nil))))
  (pss_one (ps_ret (pv 2)))))
theorem c_drawn (G : Gs P K mg) : Met P w K mg base 5 (CSp K) "drawn" (spM K (CSp K) (w_drawn K)) [] := by
  obtain ⟨fd, F⟩ := G.fD
  refine ⟨_, fd, ["self", "ready", "count"], [], G.tr.cS, G.mD, F.ok sc_Spread_drawn (fun vs H Q E h => len_m (fun a ns fs ds k ⟨_, _, _, _, _, _, _, _, _, _, _, _, e, _⟩ => by rw [e]; rfl) h) (fun cdv A outer s H vs Q E hr h => ⟨t_drawn K, PSs.nox ?_, entry_m h (by decide) (pure_drawn G.tr)⟩), F.bindsN (fun _ _ _ _ _ _ us hl => match us, hl with | [_, _, _], _ => rfl), .nil⟩
  exact (pss_cons (ps_set (i := 3) sc_Spread_drawn.nd rfl (by first | exact Or.inl rfl | exact Or.inr rfl) (pe_lst pa_nil))
  (pss_cons (ps_for PassesOwn.never rfl (pi_seqU (pv 1)) (pg_name (i := 4) sc_Spread_drawn.nd rfl (by first | exact Or.inl rfl | exact Or.inr rfl))
  (pss_cons (ps_set (i := 5) sc_Spread_drawn.nd rfl (by first | exact Or.inl rfl | exact Or.inr rfl) (pe_ix ix_seq (pe_ix ix_seq (pe_fld (pe_fld (pv 0) rfl) rfl) (pv 4) (fun _ _ => rfl)) pe_int (fun _ _ => rfl)))
  (pss_one (ps_if (L2.PW.pt (pw_and (pt_cmpR (op_neD (hu64 hr)) (pv 4) (pe_fld (pv 0) rfl) (nomark _)) (pw_and1 (pt_cmpR (op_notInK (hu1 hr)) (pv 5) (pe_fld (pv 0) rfl) (by with_unfolding_all rfl)))))
  (pss_cons (ps_dput (hu1 hr) (pe_fld (pv 0) rfl) (pv 5) (pe_tup (pa_cons (pv 2) (pa_cons (pe_tup (pa_cons (pe_gc rfl G.t.g.k_CLAUSE) (pa_cons (pv 4) pa_nil))) pa_nil))) rfl)
  (pss_one (ps_expr (pe_bm PySem.F.plainAttrs_list PySem.F.slot_list_append PySem.F.type_list_append mt_append (pv 3) (pa_cons (pv 5) pa_nil)))))
  pss_nil))))
  (pss_one (ps_ret (pv 3)))))
theorem c_Spread_init (G : Gs P K mg) : ∃ fd, FnOk P w K mg base C8.CX0 8 (He.ma K (CSp K) "__init__") fd ["self", "rule", "lot", "left_out"] (spI K (CSp K) (w_Spread K)) ∧ Binds K fd ["self", "rule", "lot", "left_out"] [] := by
  obtain ⟨fd, F⟩ := G.fS
  refine ⟨fd, F.ok sc_Spread_init (fun vs H Q E h => len_i (fun a ds k ⟨_, _, _, _, e, _⟩ => by rw [e]; rfl) h) (fun cdv A outer s H vs Q E hr h => ⟨t_Spread_init K, PSs.nox ?_, entry_i h (by decide) (pure_Spread_init G.tr)⟩), F.bindsN (fun _ _ _ _ _ _ us hl => match us, hl with | [_, _, _, _], _ => rfl)⟩
  exact (pss_cons (ps_fld (pv 0) (pv 1) rfl)
  (pss_cons (ps_fld (pv 0) (pv 3) rfl)
  (pss_cons (ps_fld (pv 0) (pe_dcG (own := [("one", 8), ("told", 9)]) (.inr rfl) (hu1 hr) rfl sc_Spread_init.nd (pi_itemsT (pe_c (c_ground_facts G.t.g G.tr) hr (by decide) rfl (pa_cons (pv 1) (pa_cons (pv 2) pa_nil)))) (blkOk_by (N := ["self", "rule", "lot", "left_out", "users", "layer", "ready", "count", "one", "told", "body", "head", "number", "many"]) (sc := defScope s_Spread_init) (by decide +kernel)) (fun _ _ _ _ _ => (pg_tup rfl (pgs_cons (pg_name (i := 8) sc_Spread_init.nd rfl (by first | exact Or.inl rfl | exact Or.inr rfl)) (pgs_cons (pg_name (i := 9) sc_Spread_init.nd rfl (by first | exact Or.inl rfl | exact Or.inr rfl)) pgs_nil)))) (fun _ _ _ _ _ => pts_nil) (fun _ _ _ _ _ => (pv 8)) (fun _ _ _ _ _ => (pe_tup (pa_cons pe_int (pa_cons (pv 9) pa_nil))))) rfl)
  (pss_cons (ps_fld (pv 0) (pe_lc (own := [("body", 10), ("head", 11)]) rfl sc_Spread_init.nd (pi_seqU (pe_fld (pv 1) rfl)) (blkOk_by (N := ["self", "rule", "lot", "left_out", "users", "layer", "ready", "count", "one", "told", "body", "head", "number", "many"]) (sc := defScope s_Spread_init) (by decide +kernel)) (fun _ _ _ _ _ => (pg_tup rfl (pgs_cons (pg_name (i := 10) sc_Spread_init.nd rfl (by first | exact Or.inl rfl | exact Or.inr rfl)) (pgs_cons (pg_name (i := 11) sc_Spread_init.nd rfl (by first | exact Or.inl rfl | exact Or.inr rfl)) pgs_nil)))) (fun _ _ _ _ _ => pts_nil) (fun _ _ _ _ _ => (pe_callB call_lenU rfl G.t.g.b_len (by decide +kernel) (pa_cons (pe_c (c_unlike G.t.g) hr (by decide) rfl (pa_cons (pv 10) pa_nil)) pa_nil)))) rfl)
  (pss_cons (ps_set (i := 4) sc_Spread_init.nd rfl (by first | exact Or.inl rfl | exact Or.inr rfl) (pe_mt0 (c_users G) hr (by decide) (pv 1)))
  (pss_cons (ps_set (i := 5) sc_Spread_init.nd rfl (by first | exact Or.inl rfl | exact Or.inr rfl) (pe_callTy (call_listDT rfl) rfl G.t.g.b_list (by decide +kernel) (pa_cons (pe_fld (pv 0) rfl) pa_nil)))
  (pss_cons (ps_setLc (i := 6) (own := [("number", 12), ("many", 13)]) rfl sc_Spread_init.nd rfl rfl (sw_true rfl rfl rfl (by decide +kernel)) (pi_enuU rfl G.t.g.b_enumerate (pa_cons (pe_fld (pv 0) rfl) pa_nil)) (blkOk_by (N := ["self", "rule", "lot", "left_out", "users", "layer", "ready", "count", "one", "told", "body", "head", "number", "many"]) (sc := defScope s_Spread_init) (by decide +kernel)) (fun _ _ _ _ _ => (pg_tup rfl (pgs_cons (pg_name (i := 12) sc_Spread_init.nd rfl (by first | exact Or.inl rfl | exact Or.inr rfl)) (pgs_cons (pg_name (i := 13) sc_Spread_init.nd rfl (by first | exact Or.inl rfl | exact Or.inr rfl)) pgs_nil)))) (fun _ _ _ _ _ => (pts_one (pt_cmpR (op_eqD (hu64 hr)) (pv 13) pe_int (nomark _)))) (fun _ _ _ _ _ => (pv 12)))
  (pss_cons (ps_set (i := 7) sc_Spread_init.nd rfl (by first | exact Or.inl rfl | exact Or.inr rfl) pe_int)
  (pss_one (ps_while PassesOwn.never (L2.PW.pt (pw_or (pt_cmpR op_gtU (pe_callB call_lenU rfl G.t.g.b_len (by decide +kernel) (pa_cons (pv 5) pa_nil)) pe_int (nomark _)) (pw_or1 (pt_cmpR op_gtU (pe_callB call_lenU rfl G.t.g.b_len (by decide +kernel) (pa_cons (pv 6) pa_nil)) pe_int (nomark _)))))
  (pss_cons (ps_aug (i := 7) sc_Spread_init.nd rfl (by first | exact Or.inl rfl | exact Or.inr rfl) pe_int ip_add)
  (pss_cons (ps_for PassesOwn.never rfl (pi_seqU (pv 5)) (pg_name (i := 8) sc_Spread_init.nd rfl (by first | exact Or.inl rfl | exact Or.inr rfl))
  (pss_one (ps_expr (pe_bm PySem.F.plainAttrs_list PySem.F.slot_list_extend PySem.F.type_list_extend mt_extend (pv 6) (pa_cons (pe_mt (c_met G) hr (by decide) (pv 0) (pa_cons (pe_dget2 (hu1 hr) (pv 4) (pv 8) (pe_lst pa_nil) ⟨by rfl, by rfl, by rfl, by rfl⟩) pa_nil)) pa_nil)))))
  (pss_cons (ps_set (i := 5) sc_Spread_init.nd rfl (by first | exact Or.inl rfl | exact Or.inr rfl) (pe_mt (c_drawn G) hr (by decide) (pv 0) (pa_cons (pv 6) (pa_cons (pv 7) pa_nil))))
  (pss_one (ps_set (i := 6) sc_Spread_init.nd rfl (by first | exact Or.inl rfl | exact Or.inr rfl) (pe_lst pa_nil))))))))))))))))
end

end LawK54
end
section
/-! PWSortK: sorting by a key that a def of the program gives; the calls of the key may lay objects. -/
namespace PW
open PySem PySem.Spec PyProof.Rows L2
/-- of H all but what is at c stands -/
def Kb (c : Addr) (H H' : Hp) : Prop := ∀ b o, b ≠ c → H b = some o → H' b = some o
theorem Kb.refl (c : Addr) (H : Hp) : Kb c H H := fun _ _ _ e => e
theorem Kb.ext {c : Addr} {H H1 H2 : Hp} (a : Kb c H H1) (e : Ext H1 H2) : Kb c H H2 := fun b o n h => e b o (a b o n h)
/-- the key k as a value at H -/
def KeyAt (H : Hp) (v : Value) (k : List Key) : Prop := ∃ b, v = Value.ref b ∧ H b = some (.tup (k.map kV))
theorem Keyed.mono {H H' : Hp} (g : ∀ b xs, H b = some (.tup xs) → H' b = some (.tup xs)) : ∀ {ks : List (List Key)} {bs : List Addr}, Keyed H ks bs → Keyed H' ks bs
  | _, _, .nil => .nil
  | _, _, .cons h t => .cons (g _ _ h) (Keyed.mono g t)
section
variable {X : Cx} {pins : List (Addr × Obj)} {σ : L2.St} {H : Hp} {s : Shared} {a c : Addr} {e1 : Nat} {ks : List (List Key)} {fk : List Key → D} {vs : List Value} {f : Value} {A : Around} {P : PySem.Fin → Shared → Prop} {E : Value → Shared → Prop}
/-- the keys are made one after another; then all is sorted by them -/
theorem keyLoop (I : Inv X (pins ++ [(a, seqObj "list" #[] e1)]) σ H s) (hc : H c = some (.lst [])) (hca : c ≠ a) (nc : X.s_0.heap.objs.size ≤ c) (na : X.s_0.heap.objs.size ≤ a) (npa : ∀ p ∈ X.pn ++ pins, p.1 ≠ a)
    (hk : PySem.W.EachIs (KeyAt H) vs ks) (hZ : vs.length ≤ sizeLine) (hpl : ∀ k ∈ ks, (fk k).pln = true) (hal : PySem.W.AllAlike (ks.map fun k => (fk k).py)) (hsk : PySem.W.Sortable (ks.map fun k => (fk k).py)) (hu : ∀ k ∈ ks, A.units + (fk k).py.depth < cLine)
    (turn : ∀ (v : Value) (k : List Key) (b : Addr), k ∈ ks → v = .ref b → ∀ (q : Addr × Obj) (s' : Shared) (H' : Hp), Inv X (pins ++ [q]) σ H' s' → Kb c H H' → (∃ ws, H' c = some (.lst ws)) → H' b = some (.tup (k.map kV)) →
      wpAny (model X.prog X.w) A (call f [v]) (fun u s2 => ∃ w H2, Inv X (pins ++ [q]) σ H2 s2 ∧ RelV w u ∧ Ext H' H2 ∧ Da (fun b => b = c) X.K H2 w (fk k)) (fun _ _ => False) s')
    (fin : ∀ (s' : Shared) (H' : Hp) (bs : List Addr), Inv X pins σ H' s' → (∀ b o, b ≠ c → b ≠ a → H b = some o → H' b = some o) → Keyed H' (ks.mergeSort (PySem.W.dataLe false fun k => (fk k).py)) bs → H' a = some (.lst (bs.map V.ref)) → P (.done (.ret .none)) s') :
    wpAny (model X.prog X.w) A (PyProof.Rows.ksk_rest a f false vs.toArray e1 (.ref c)) P E s := by
  have hlen : vs.length = ks.length := hk.length
  unfold PyProof.Rows.ksk_rest
  refine wpAny_bind (wpAny_rule ?_)
  first
    | rw [List.forIn_toArray]
    | (rw [← Array.forIn_toList]; simp only [List.toList_toArray])
  refine wpAny_bind (PyProof.Rows.ksk_fold (fun i s' => ∃ H' ws, Inv X (pins ++ [(a, seqObj "list" #[] e1)]) σ H' s' ∧ Kb c H H' ∧ H' c = some (.lst ws) ∧ ws.length = i ∧ ∀ j w k, ws[j]? = some w → ks[j]? = some k → Da (fun b => b = c) X.K H' w (fk k)) vs 0 s ⟨H, [], I, Kb.refl c H, hc, rfl, fun j w k (z : ([] : List V)[j]? = some w) _ => by rw [List.getElem?_nil] at z; cases z⟩ ?step ?done)
  case step =>
    rintro j x s' hx ⟨H', ws, I', kb, hc', hl, hd⟩
    simp only [Nat.zero_add] at hl ⊢
    have hj : j < vs.length := (List.getElem?_eq_some_iff.mp hx).1
    obtain ⟨k, hkj⟩ : ∃ k, ks[j]? = some k := ⟨_, List.getElem?_eq_getElem (by omega)⟩
    have hmem : k ∈ ks := List.mem_of_getElem? hkj
    obtain ⟨b, rfl, hb⟩ : KeyAt H x k := hk.zip (x, k) (List.mem_of_getElem? (i := j) (by rw [List.getElem?_zip_eq_some]; exact ⟨hx, hkj⟩))
    have nb : b ≠ c := fun z => by rw [z, hc] at hb; cases hb
    refine wpAny_bind (wpAny_attempt (wpAny_mono (turn _ k b hmem rfl _ s' H' I' kb ⟨ws, hc'⟩ (kb b _ nb hb)) (fun u s2 he => ?_) fun _ _ z => z.elim))
    obtain ⟨w, H2, I2, r, ex, da⟩ := he
    try dsimp only
    have hc2 := ex _ _ hc'
    obtain ⟨hz, its, n, rv, hg⟩ := I2.hok c _ hc2
    have hil : its.length = ws.length := rv.length.symm
    have hsz : its.length < sizeLine := by omega
    refine wpAny_bind (listUpdate_at hg rfl ?_ (by rw [List.size_toArray]; omega) (by rw [Array.size_push, List.size_toArray]; omega))
    have s1 := Heap.SameBut.update s2.heap c (Obj.mapSeq (·.push u))
    obtain ⟨c2, e2⟩ : ∃ c2, (s2.heap.update c (Obj.mapSeq (·.push u))).get? c = some (seqObj "list" (its.toArray.push u) c2) := ⟨_, get?_update_seq hg (·.push u)⟩
    refine wpAny_pure ⟨rfl, upd H2 c (.lst (ws ++ [w])), ws ++ [w], I2.write (t' := s2.toks) (by rw [hc2]; trivial) (.inl rfl) (fun b u hb q => (s1.2 b hb).trans q) ⟨_, e2⟩ ⟨by rw [List.length_append]; show ws.length + 1 ≤ sizeLine; omega, its ++ [u], c2, rv.append (.cons r .nil), ?_⟩, fun b o nb e => by rw [upd_ne nb]; exact kb.ext ex b o nb e, upd_same, by rw [List.length_append, hl]; rfl, fun i w' k' h1 h2 => ?_⟩
    · rw [e2]
      simp [seqObj]
    · have cold : ∀ b o, ¬ (fun b => b = c) b → H2 b = some o → ¬ (fun b => b = c) b ∧ upd H2 c (.lst (ws ++ [w])) b = some o := fun b o n e => ⟨n, by rw [upd_ne n]; exact e⟩
      by_cases hi : i < ws.length
      · rw [List.getElem?_append_left hi] at h1
        exact ((hd i w' k' h1 h2).mono fun b o n e => ⟨n, ex b o e⟩).mono cold
      · have hi2 : i = ws.length := by
          have q := (List.getElem?_eq_some_iff.mp h1).1
          rw [List.length_append] at q
          simp at q
          omega
        subst hi2
        rw [List.getElem?_append_right (Nat.le_refl _)] at h1
        simp at h1
        subst h1
        rw [hl, hkj] at h2
        cases h2
        exact da.mono cold
  case done =>
    rintro s' ⟨H', ws, I', kb, hc', hl, hd⟩
    simp only [Nat.zero_add] at hl
    try dsimp only
    obtain ⟨hz, its, n, rv, hg⟩ := I'.hok c _ hc'
    have hil : its.length = ws.length := rv.length.symm
    refine wpAny_bind (listItems_at hg rfl ?_)
    have pa := I'.pin (a, seqObj "list" #[] e1) (by simp)
    obtain ⟨ga, Ha, _, _, _⟩ := pa
    obtain ⟨G, g1, g2⟩ := L2.restrict s'.heap fun b => decide (b ≠ c)
    have kp : PySem.W.KeepsBut a G s'.heap := fun b o _ e => by
      by_cases z : b = c
      · rw [g2 b (by simp [z])] at e
        cases e
      · rw [← g1 b (by simp [z])]
        exact e
    have er : PySem.W.EachIs (fun v d => ∃ as, Reads s'.heap v d as) its.toArray.toList (ks.map fun k => (fk k).py) := by
      rw [List.toList_toArray]
      refine each_of (by rw [List.length_map]; omega) fun j v d h1 h2 => ?_
      rw [List.getElem?_map] at h2
      obtain ⟨k, hkj, rfl⟩ : ∃ k, ks[j]? = some k ∧ (fk k).py = d := by
        cases q : ks[j]? with
        | none => rw [q] at h2; cases h2
        | some k => rw [q] at h2; cases h2; exact ⟨k, rfl, rfl⟩
      obtain ⟨w, hw, r⟩ : ∃ w, ws[j]? = some w ∧ RelV w v := by
        have hjl : j < ws.length := by
          have := (List.getElem?_eq_some_iff.mp h1).1
          omega
        obtain ⟨u, q1, q2⟩ := rv.get (List.getElem?_eq_getElem hjl)
        rw [h1] at q1
        cases q1
        exact ⟨_, List.getElem?_eq_getElem hjl, q2⟩
      exact Dp.reads I' _ w v ((hd j w k hw hkj).dp (hpl k (List.mem_of_getElem? hkj))) r
    refine PySem.W.keyH_end (κ := PySem.W.dataKind s'.heap (ks.map fun k => (fk k).py)) (h₁ := G) kp (g2 c (by simp)) hg ga hca (PySem.W.SortsAt.data er hal hsk fun d hdm => ?_) (by rw [List.size_toArray]; omega) hZ fun h3 tk3 c3 k3 n3 => ?_
    · obtain ⟨k, hk1, rfl⟩ := List.mem_map.mp hdm
      exact hu k hk1
    · have ko : PySem.W.KeyedOut false (ks.map fun k => (fk k).py) vs (PySem.W.sortVals (PySem.W.dataKind s'.heap (ks.map fun k => (fk k).py)) false its.toArray.toList vs) := ⟨s'.heap, its.toArray.toList, hal, rfl, er⟩
      have oe := PySem.W.keyedOut_each (fun k => (fk k).py) ko hk
      obtain ⟨bs, eo, hkd⟩ := keyed_out oe
      have old : ∀ b u, b ≠ c → b ≠ a → s'.heap.get? b = some u → h3.get? b = some u := fun b u n1 n2 e => k3 b u n2 (by rw [g1 b (by simp [n1])]; exact e)
      have hlo : bs.length ≤ sizeLine := by
        have q := congrArg List.length eo
        rw [List.length_map] at q
        rw [← q, ko.length (by rw [List.length_map]; exact hlen.symm)]
        exact hZ
      obtain ⟨HF, atA, atC, atO⟩ : ∃ HF : Hp, HF a = some (HO.lst (bs.map V.ref)) ∧ HF c = none ∧ ∀ b, b ≠ c → b ≠ a → HF b = H' b :=
        ⟨fun b => if b = c then none else if b = a then some (HO.lst (bs.map V.ref)) else H' b, by show (if a = c then none else if a = a then some (HO.lst (bs.map V.ref)) else H' a) = _; rw [if_neg (Ne.symm hca), if_pos rfl],
          by show (if c = c then none else if c = a then some (HO.lst (bs.map V.ref)) else H' c) = _; rw [if_pos rfl], fun b n1 n2 => by show (if b = c then none else if b = a then some (HO.lst (bs.map V.ref)) else H' b) = _; rw [if_neg n1, if_neg n2]⟩
      have nA : ∀ b u, H' b = some u → b ≠ a := fun b u e z => by rw [z, Ha] at e; cases e
      have I0 : Inv X pins σ H' s' := I'.pins_of fun p hp => I'.pin p (List.mem_append_right _ (List.mem_append_left _ hp))
      have Ifin : Inv X pins σ HF { s' with heap := h3, toks := tk3 } := by
        refine I0.step (g' := s'.gens) (d' := s'.drawn) (ch := [c, a]) (fun b hb => ?_) (fun b o _ _ hb e _ => old b o (fun z => hb (by simp [z])) (fun z => hb (by simp [z])) e) (fun b o _ _ hb e _ => ⟨o.slots, old b o (fun z => hb (by simp [z])) (fun z => hb (by simp [z])) e⟩)
          (fun b o hb e n => by rw [atO b (fun z => hb (by simp [z])) (fun z => hb (by simp [z]))]; exact n) (fun b o hb e => ⟨o, old b o (fun z => hb (by simp [z])) (fun z => hb (by simp [z])) e⟩)
          (fun b xs e => by rw [atO b (fun z => by rw [z, hc'] at e; cases e) (nA b _ e)]; exact e) (fun b o u e => by rw [atO b (fun z => by rw [z, hc'] at e; cases e) (nA b _ e)]; exact e) (fun b ps e => ⟨#[], by rw [atO b (fun z => by rw [z, hc'] at e; cases e) (nA b _ e), e]; simp⟩)
          (fun m hm => ?_) (fun b u e => ?_) I0.bare
        · have hb' : b = c ∨ b = a := by simpa using hb
          rcases hb' with e | e
          · rw [e]
            have nl : c ≠ X.env.locals := fun z => by
              have q := I0.free
              rw [← z, hc'] at q
              cases q
            refine ⟨.inr nc, nl, fun x d hx z => ?_, fun p hp z => ?_⟩
            · have q := I0.freeC x d hx
              rw [z, hc'] at q
              cases q
            · have q := (I0.pin p hp).2.1
              rw [z, hc'] at q
              cases q
          · rw [e]
            refine ⟨.inr na, (I'.pin (a, seqObj "list" #[] e1) (by simp)).2.2.1, fun x d hx z => ?_, npa⟩
            obtain ⟨v0, o0, ho0, hd0⟩ := I0.cell x d hx
            exact (I'.pin (a, seqObj "list" #[] e1) (by simp)).2.2.2.2 v0 (by rw [z, ga] at ho0; cases ho0; exact hd0)
        · obtain ⟨o, es, ep, ho, r⟩ := hm
          exact ⟨o, es, ep, old _ o (fun z => by have q := I0.free; rw [z, hc'] at q; cases q) (fun z => (I'.pin (a, seqObj "list" #[] e1) (by simp)).2.2.1 z.symm) ho, r⟩
        · by_cases z1 : b = c
          · rw [z1, atC] at e
            cases e
          · by_cases z2 : b = a
            · subst z2
              rw [atA] at e
              cases e
              exact ⟨by rw [List.length_map]; exact hlo, _, c3, by rw [eo]; exact vals_refs bs, n3⟩
            · rw [atO b z1 z2] at e
              refine (I0.hok b u e).stay (fun d v hd q => old d v ?_ ?_ q) (fun d q => ?_) fun d xs q => ?_
              · rcases hd with z | z
                · rw [z]; exact z1
                · intro zz; rw [zz, hc'] at z; cases z
              · rcases hd with z | z
                · rw [z]; exact z2
                · exact nA d _ z
              · rw [atO d (fun z => by rw [z, hc'] at q; cases q) (nA d _ q)]; exact q
              · rw [atO d (fun z => by rw [z, hc'] at q; cases q) (nA d _ q)]; exact q
      refine fin _ _ bs Ifin (fun b o n1 n2 e => by rw [atO b n1 n2]; exact kb b o n1 e) ?_ atA
      exact Keyed.mono (fun b xs e => by
        have q := kb b _ (fun z => by rw [z, hc] at e; cases e) e
        rw [atO b (fun z => by rw [z, hc] at e; cases e) (nA b _ q)]
        exact q) hkd
/-- sorted(d, key=f), d a dict with tuple keys -/
theorem sorted_key {d F : Addr} {kvs : List (List Key × V)} {Q : Value → Shared → Prop} (hcm : X.calm = true) (hu : X.A.units + 10 < cLine) (I : Inv X pins σ H s) (hd : Rd H d (.dT kvs))
    (hpl : ∀ k ∈ kvs.map (·.1), (fk k).pln = true ∧ (fk k).py.depth ≤ 6) (hal : PySem.W.AllAlike ((kvs.map (·.1)).map fun k => (fk k).py)) (hsk : PySem.W.Sortable ((kvs.map (·.1)).map fun k => (fk k).py))
    (turn : ∀ (c : Addr) (k : List Key) (b : Addr), H c = none → k ∈ kvs.map (·.1) → ∀ (q : Addr × Obj) (s' : Shared) (H' : Hp), Inv X (pins ++ [q]) σ H' s' → Ext H H' → (∃ ws, H' c = some (.lst ws)) → H' b = some (.tup (k.map kV)) →
      wpAny (model X.prog X.w) X.A.in1.in1 (call (.ref F) [.ref b]) (fun u s2 => ∃ w H2, Inv X (pins ++ [q]) σ H2 s2 ∧ RelV w u ∧ Ext H' H2 ∧ Da (fun b => b = c) X.K H2 w (fk k)) (fun _ _ => False) s')
    (fin : ∀ (s' : Shared) (H' : Hp) (p : Addr) (bs : List Addr), Inv X pins σ H' s' → H p = none → Ext H H' → Keyed H' ((kvs.map (·.1)).mergeSort (PySem.W.dataLe false fun k => (fk k).py)) bs → H' p = some (.lst (bs.map V.ref)) → Q (.ref p) s') :
    wpAny (model X.prog X.w) X.A (call (.builtin "sorted") [.ref d] [(Str.ofString "key", .ref F)]) Q E s := by
  obtain ⟨z, hs, ks, pr, o, es, ep, ho, hx, hdt, he, hn⟩ := (show ObjOk X.prog X.w H s.heap d (.dT kvs) from hd.ok I.hok)
  have l1 : es.size = ks.length := size_of_entries he
  have l2 : kvs.length = ks.length := Paired.length pr
  have hsz : es.size ≤ sizeLine := by omega
  refine call_function_entry_kw PyProof.Rows.kind_sorted PyProof.Rows.plain_sorted PyProof.Rows.entry_sorted (ksk_s1 _ _) ?_
  unfold Builtin.«sorted»
  refine wpAny_bind (m := checkCount "sorted" 1 1 _) (wpAny_pure ?_)
  refine wpAny_bind (PySem.W.kdu_collect (A := X.A.in1) (kdl_raw hs hx hdt) (I.ok.hd hcm) ho hsz fun h' tk acc hk it => ?_)
  have ea : acc.toList = ks.map fun x => Value.ref x.2.1 := by
    have hl : acc.toList.length = ks.length := by rw [Array.length_toList, it.1]; exact l1
    apply List.ext_getElem?
    intro j
    rw [List.getElem?_map]
    cases hj : acc.toList[j]? with
    | none =>
      have h1 := List.getElem?_eq_none_iff.mp hj
      rw [List.getElem?_eq_none (by omega)]
      all_goals rfl
    | some v =>
      obtain ⟨en, hen, hv⟩ := it.2 j v (by rw [← Array.getElem?_toList]; exact hj)
      have qe := entry_at he j
      rw [hen] at qe
      cases hb : ks[j]? with
      | none =>
        rw [hb] at qe
        exact nomatch (show some en = none from qe)
      | some b =>
        rw [hb] at qe
        have e2 : en = entryOfKey (tupleKind (mixKind X.prog X.w)) b := Option.some.inj qe
        rw [hv, e2]
        all_goals rfl
  have hlen : acc.toList.length = kvs.length := by rw [ea, List.length_map]; omega
  have I1 : Inv X pins σ H { s with heap := h', toks := tk } := I.kept hk
  refine wpAny_bind (wpAny_newList ?_ (by rw [hlen]; exact z))
  have hoL : (h'.push (seqObj "list" acc.toList.toArray 0)).get? h'.objs.size = some (seqObj "list" acc.toList.toArray 0) := Heap.get?_push_size _ rfl
  show wpAny _ _ _ _ _ { s with heap := h'.push (seqObj "list" acc.toList.toArray 0), toks := tk }
  refine wpAny_bind (wpAny_holding (wpAny_call_entry_kw slot_list_sort ⟨_, hoL, rfl⟩ entry_list_sort ?body (ksk_l1 _ _)))
  case body =>
    show wpAny (model X.prog X.w) X.A.in1.in1 (Builtin.«list.sort» ⟨[.ref h'.objs.size], [(Str.ofString "key", .ref F)]⟩) _ _ _
    rw [ksk_t1]
    unfold ksk_tree
    obtain ⟨e1, ho1⟩ : ∃ e1, ((h'.push (seqObj "list" acc.toList.toArray 0)).update h'.objs.size (Obj.mapSeq fun _ => (#[] : Array Value))).get? h'.objs.size = some (seqObj "list" #[] e1) := ⟨_, get?_update_seq hoL fun _ => #[]⟩
    have hLL : acc.toList.toArray.size ≤ sizeLine := by rw [List.size_toArray, hlen]; exact z
    refine wpAny_bind (listItems_at hoL rfl ?_)
    refine wpAny_bind (listUpdate_at hoL rfl ?_ hLL (Nat.zero_le _))
    refine wpAny_bind (seqEpoch_at ho1 rfl ?_)
    refine wpAny_bind (wpAny_newTuple ?_ (by rw [List.toList_toArray, hlen]; exact z))
    refine wpAny_bind (wpAny_newList ?_ (Nat.zero_le _))
    refine wpAny_holding ?_
    have sz1 : ((h'.push (seqObj "list" acc.toList.toArray 0)).update h'.objs.size (Obj.mapSeq fun _ => (#[] : Array Value))).objs.size = h'.objs.size + 1 := by rw [Heap.size_update, size_push']
    have atL : ∀ b u, h'.get? b = some u → ((h'.push (seqObj "list" acc.toList.toArray 0)).update h'.objs.size (Obj.mapSeq fun _ => (#[] : Array Value))).get? b = some u := fun b u e =>
      ((Heap.SameBut.update (h'.push (seqObj "list" acc.toList.toArray 0)) h'.objs.size (Obj.mapSeq fun _ => (#[] : Array Value))).2 b (Nat.ne_of_lt (Heap.lt_size e))).trans (Heap.get?_push_of_some _ e)
    obtain ⟨h4, eh4⟩ : ∃ h4, h4 = (h'.push (seqObj "list" acc.toList.toArray 0)).update h'.objs.size (Obj.mapSeq fun _ => (#[] : Array Value)) := ⟨_, rfl⟩
    rw [← eh4] at ho1 sz1 atL
    simp only [← eh4]
    obtain ⟨T, eT⟩ : ∃ T : Obj, T = { cls := .type "tuple", data := .seq acc.toList.toArray.toList.toArray } := ⟨_, rfl⟩
    simp only [← eT]
    have kS : (h4.push T).objs.size = h'.objs.size + 2 := by rw [size_push', sz1]
    rw [kS]
    have nL : h'.objs.size ≠ h'.objs.size + 2 := by omega
    have I2 : Inv X pins σ (upd H (h'.objs.size + 2) (.lst [])) { s with heap := (h4.push T).push { cls := .type "list", data := .seq ([] : List Value).toArray }, toks := tk } := by
      refine I1.laid (t' := tk) (a := h'.objs.size + 2) (o := .lst []) (fun b u e => Heap.get?_push_of_some _ (Heap.get?_push_of_some _ (atL b u e))) (by show h'.objs.size ≤ h'.objs.size + 2; omega) ⟨Nat.zero_le _, [], 0, .nil, ?_⟩
      rw [← kS]
      exact Heap.get?_push_size _ rfl
    have HL : H h'.objs.size = none := I1.hok.fresh (Nat.le_refl _)
    have HC : H (h'.objs.size + 2) = none := I1.hok.fresh (by show h'.objs.size ≤ h'.objs.size + 2; omega)
    have gL : ((h4.push T).push { cls := .type "list", data := .seq ([] : List Value).toArray }).get? h'.objs.size = some (seqObj "list" #[] e1) := Heap.get?_push_of_some _ (Heap.get?_push_of_some _ ho1)
    have I3 : Inv X (pins ++ [(h'.objs.size, seqObj "list" #[] e1)]) σ (upd H (h'.objs.size + 2) (.lst [])) { s with heap := (h4.push T).push { cls := .type "list", data := .seq ([] : List Value).toArray }, toks := tk } := by
      refine I2.pins_of fun p hp => ?_
      rcases List.mem_append.mp hp with hp | hp
      · exact I2.pin p (List.mem_append_right _ hp)
      · obtain rfl : p = (h'.objs.size, seqObj "list" #[] e1) := by simpa using hp
        exact ⟨gL, by rw [upd_ne nL]; exact HL, Nat.ne_of_gt I1.lt, I1.nofs (Nat.le_refl _), fun v q => by cases q⟩
    have up : ∀ b o, H b = some o → upd H (h'.objs.size + 2) (.lst []) b = some o := ex_new HC
    have keyAt : ∀ (j : Nat) (v : Value) (k : List Key), acc.toList[j]? = some v → (kvs.map (·.1))[j]? = some k → KeyAt (upd H (h'.objs.size + 2) (.lst [])) v k := by
      intro j v k e1 e2
      rw [ea, List.getElem?_map] at e1
      rw [List.getElem?_map] at e2
      cases q1 : ks[j]? with
      | none => rw [q1] at e1; cases e1
      | some x =>
        cases q2 : kvs[j]? with
        | none => rw [q2] at e2; cases e2
        | some y =>
          rw [q1] at e1
          rw [q2] at e2
          cases e1
          cases e2
          obtain ⟨y', e3, f1, f2, f3⟩ := L2.DX.pget pr q1
          rw [q2] at e3
          cases e3
          exact ⟨_, rfl, up _ _ f2⟩
    refine keyLoop (ks := kvs.map (·.1)) (fk := fk) (vs := acc.toList) I3 upd_same (Ne.symm nL) (by show X.s_0.heap.objs.size ≤ h'.objs.size + 2; exact Nat.le_trans I1.sz (by show h'.objs.size ≤ _; omega)) I1.sz (fun p hp => Nat.ne_of_lt (Heap.lt_size (I1.pin p hp).1))
      (each_of (by rw [List.length_map]; exact hlen) keyAt) (by rw [hlen]; exact z) (fun k hk => (hpl k hk).1) hal hsk (fun k hk => ?_) (fun v k b hk ev pins' s' H' I' kb hws hb => ?_) fun s' H' bs If kf hkd hA => ?_
    · have q := (hpl k hk).2
      show X.A.units + 1 + 1 + (fk k).py.depth < cLine
      omega
    · rw [ev]
      refine turn (h'.objs.size + 2) k b HC hk pins' s' H' I' (fun b o e => kb b o (ne_of_none e HC) (up b o e)) hws hb
    · exact ⟨_, rfl, wpAny_pure ⟨_, rfl, fin s' H' _ bs If HL (fun b o e => kf b o (ne_of_none e HC) (ne_of_none e HL) (up b o e)) hkd hA⟩⟩
end
end PW
end
section
/-! PWLam: a lambda of one parameter, called by a builtin (sorted's key). -/
namespace PW
open PySem PySem.Spec PyProof.Rows L2
/-- the names of a lambda of the one parameter a: it, captured ones, globals -/
structure Lam1 (sc scope : Scope) (a : Str) : Prop where
  kind : scope.kind = .function
  co : scope.isCoroutine = false
  gen : scope.isGenerator = false
  own : ∀ y ∈ scope.names, y.2 ≠ .cell ∧ (y.2 = .local → y.1 = a)
  par : scope.names.lookup a = some .local
  free : ∀ y ∈ scope.names, y.2 = .free → sc.names.lookup y.1 = some .cell ∨ sc.names.lookup y.1 = some .free
def lam1B (sc scope : Scope) (a : Str) : Bool :=
  decide (scope.kind = .function) && (!scope.isCoroutine && (!scope.isGenerator && (decide (scope.names.lookup a = some .local) && scope.names.all fun y => !decide (y.2 = .cell) && ((!decide (y.2 = .local) || decide (y.1 = a)) && (!decide (y.2 = .free) || (decide (sc.names.lookup y.1 = some .cell) || decide (sc.names.lookup y.1 = some .free)))))))
theorem lam1_by {sc scope : Scope} {a : Str} (h : lam1B sc scope a = true) : Lam1 sc scope a := by
  unfold lam1B at h
  simp only [Bool.and_eq_true, Bool.or_eq_true, Bool.not_eq_true', decide_eq_true_eq, decide_eq_false_iff_not, List.all_eq_true] at h
  obtain ⟨q1, q2, q3, q4, q5⟩ := h
  exact ⟨q1, q2, q3, fun y hy => ⟨(q5 y hy).1, fun e => ((q5 y hy).2.1).elim (fun z => absurd e z) id⟩, q4, fun y hy e => ((q5 y hy).2.2).elim (fun z => absurd e z) id⟩
/-- the captured names, by the maker's slots -/
def CapOk (N : List Str) (scope : Scope) (caps : List (Str × Nat)) : Prop := ∀ p ∈ caps, N[p.2]? = some p.1 ∧ scope.names.lookup p.1 = some .free
def capB (N : List Str) (scope : Scope) (caps : List (Str × Nat)) : Bool := caps.all fun p => decide (N[p.2]? = some p.1) && decide (scope.names.lookup p.1 = some .free)
theorem cap_by {N : List Str} {scope : Scope} {caps : List (Str × Nat)} (h : capB N scope caps = true) : CapOk N scope caps := fun p hp => by
  unfold capB at h
  have q := List.all_eq_true.mp h p hp
  simpa using q
def capS (σ : L2.St) (v : V) (caps : List (Str × Nat)) : L2.St := some v :: caps.map fun p => (σ[p.2]?).join
/-- the context of its body -/
abbrev lam1Cx (X : Cx) (A : Around) (s : Shared) (H : Hp) (scope : Scope) (f c' : Addr) (N : List Str) : Cx := { LamX.lamCx X A X.stack s H (fun _ _ _ => False) scope f c' with N := N }
section
variable {X : Cx} {pins : List (Addr × Obj)} {σ : L2.St} {H : Hp} {s : Shared} {A : Around} {scope : Scope} {f c' : Addr} {a : Str} {caps : List (Str × Nat)} {v : V} {u : Value}
theorem lam1_start {h1 : Heap} {tk : Nat} (I : Inv X pins σ H s) (L : Lam1 X.env.scope scope a) (hcap : CapOk X.N scope caps) (e0 : Env0 X.prog X.w X.K X.mg X.base A X.stack s H) (hd : A.handled = none) (rv : RelV v u)
    (hns : h1.Ns s.heap.objs.size fun y => ([(a, u)] : List (Str × Value)).reverse.lookup y) (kp : ∀ b o, s.heap.get? b = some o → h1.get? b = some o) :
    Inv (lam1Cx X A s H scope f c' (a :: caps.map (·.1))) [] (capS σ v caps) H { s with heap := h1, toks := tk } := by
  have frH : ∀ y ∈ scope.names, y.2 = .free → ∃ d, X.env.cells.lookup y.1 = some d := fun y hy e => (L.free y hy e).elim (fun z => I.ok.has _ (.inl z)) fun z => I.ok.has _ (.inr z)
  have up : ∀ {y d}, (LamX.lamEnv X scope s.heap.objs.size f c').cells.lookup y = some d → X.env.cells.lookup y = some d := fun {y d} e => by
    rcases L2.cloFrom_mem (PySem.mem_of_lookup e) with z | ⟨z1, z2⟩
    · cases z
    · obtain ⟨d1, q⟩ := frH _ z1 rfl
      have q' : X.env.cells.lookup y = some d1 := q
      rw [z2, q']
      rfl
  have down : ∀ {y}, scope.names.lookup y = some .free → ∃ d, (LamX.lamEnv X scope s.heap.objs.size f c').cells.lookup y = some d := fun {y} e => L2.mem_lookup (L2.cloFrom_has (cells := X.env.cells) (acc := []) (show (y, NameKind.free) ∈ scope.names from PySem.mem_of_lookup e))
  have cellU : ∀ {d : Addr} {w : Option Value}, s.heap.IsCell d w → h1.IsCell d w := fun {d w} ⟨o, ho, hw⟩ => ⟨o, kp _ _ ho, hw⟩
  have nx : ∀ b : Addr, b ∉ (lam1Cx X A s H scope f c' (a :: caps.map (·.1))).ex := fun b z => absurd (show b ∈ ([] : List Addr) from z) (by simp)
  refine ⟨⟨e0.mod, L.kind, rfl, rfl, Nat.le_refl _, fun y z d q1 q2 => I.ok.inj y z d (up q1) (up q2), fun y hy => ?_, fun y d z _ => ?_, fun _ => hd, Around.frames_deeper e0.frames, .inr ⟨rfl, rfl⟩, fun b z => absurd z (nx b), e0.bs, e0.bsz, fun b _ _ => nx b, fun b z => absurd z (nx b), e0.funs, e0.frf⟩,
    rfl, e0.bare, Un.kept kp, ⟨_, hns, fun i y w q1 q2 q3 => ?_⟩, fun y d e => ?_, e0.hok.fresh (Nat.le_refl _), fun y d e => I.freeC y d (up e), fun q hq => absurd (show q ∈ ([] : List (Addr × Obj)) ++ [] from hq) (by simp), e0.hok.kept kp, ?_⟩
  · have hy : scope.names.lookup y = some .cell ∨ scope.names.lookup y = some .free := hy
    rcases hy with hy | hy
    · exact absurd rfl (L.own _ (PySem.mem_of_lookup hy)).1
    · exact down hy
  · exact nomatch (show false = true from z)
  · cases i with
    | zero =>
      cases q1
      cases q2
      refine ⟨u, rv, .inl ⟨L.par, ?_⟩⟩
      show ([(a, u)] : List (Str × Value)).reverse.lookup a = some u
      simp
    | succ i =>
      have q1 : (caps.map (·.1))[i]? = some y := q1
      have q2 : (caps.map fun p => (σ[p.2]?).join)[i]? = some (some w) := q2
      rw [List.getElem?_map] at q1 q2
      cases hp : caps[i]? with
      | none => rw [hp] at q1; cases q1
      | some p =>
        rw [hp] at q1 q2
        cases q1
        have q2 : (σ[p.2]?).join = some w := Option.some.inj q2
        obtain ⟨n1, n2⟩ := hcap p (List.mem_of_getElem? hp)
        have hs : σ[p.2]? = some (some w) := by
          cases z : σ[p.2]? with
          | none => rw [z] at q2; cases q2
          | some o => rw [z] at q2; rw [show o = some w from q2]
        have vis : Vis X.env.scope p.1 := (L.free _ (PySem.mem_of_lookup n2) rfl).elim (fun k => .inr (.inl k)) fun k => .inr (.inr k)
        obtain ⟨m, hm, hl⟩ := I.loc
        obtain ⟨w', r, q⟩ := hl _ _ w n1 hs vis
        obtain ⟨d2, h2⟩ := down n2
        refine ⟨w', r, .inr ⟨.inr n2, d2, h2, ?_⟩⟩
        rcases q with ⟨k, _⟩ | ⟨_, d3, k, z⟩
        · have k : X.env.scope.names.lookup p.1 = some .local := k
          rcases L.free _ (PySem.mem_of_lookup n2) rfl with k2 | k2 <;> rw [show X.env.scope.names.lookup p.1 = _ from k2] at k <;> cases k
        · rw [up h2] at k
          cases k
          exact cellU z
  · obtain ⟨w', z⟩ := I.cell y d (up e)
    exact ⟨w', cellU z⟩
  · show (some v :: caps.map fun p => (σ[p.2]?).join).length = (a :: caps.map (·.1)).length
    simp
/-- f(u), f the lambda -/
theorem lam1_call {Q : VK} {E : Value → Shared → Prop} {k : Nat} {params : Arguments} {body : Expr} {pm ctv : Value} {tb : TE} (I : Inv X pins σ H s) (L : Lam1 X.env.scope scope a) (hcap : CapOk X.N scope caps)
    (hf : s.heap.get? f = some (PySem.W.kla_obj "<lambda>" (X.env.qual ++ "<lambda>") params body scope (L2.cloFrom X.env.cells scope.names []) pm c' ctv)) (hc : H c' = some (LamX.CodeO c' (X.env.qual ++ "<lambda>")))
    (hbind : ∀ w : Value, bindArgs (PySem.W.kla_fn "<lambda>" (X.env.qual ++ "<lambda>") params body scope (L2.cloFrom X.env.cells scope.names []) pm (.ref c') ctv) ⟨[w], []⟩ = pure [(a, w)])
    (hr : Room k A) (e0 : Env0 X.prog X.w X.K X.mg X.base A X.stack s H)
    (hbody : PE (lam1Cx X A s H scope f c' (a :: caps.map (·.1))) body tb) (rv : RelV v u) (ht : tb (capS σ v caps) H Q) :
    wpAny (model X.prog X.w) A (call (.ref f) [u]) (EP X pins σ Q) E s := by
  obtain ⟨⟨oc, vs, t, hoc, hdc, hvc⟩, _, _⟩ := I.hok c' _ hc
  have rc : codeAny (model X.prog X.w) A (.call (.ref f) ⟨[u], []⟩) (CR (L2.CX X.prog X.w) X.stack X.prog X.w H s Q (fun _ _ _ => False)) s := by
    refine PySem.W.kla_callFunE hr.depth hf rfl L.co L.gen rfl ⟨c', oc, vs, t, rfl, hoc, hdc, hvc⟩ ?_
    rw [hbind]
    refine wpAny_pure (wpAny_newFunctionEnv (fun y hy => (L.own y hy).1) (fun y hy => ?_) (fun h1 hns hsb => ⟨I.nolimit.fresh _ hsb, ?_⟩) L.kind)
    · obtain rfl : y = (a, u) := by simpa using hy
      exact L.par
    show codeAny _ _ (.expr body (LamX.lamEnv X scope s.heap.objs.size f c')) _ _
    have kp : ∀ b o, s.heap.get? b = some o → h1.get? b = some o := fun b o e => hsb.extBut b o (Nat.ne_of_lt (Heap.lt_size e)) (Heap.get?_push_of_some _ e)
    have J := lam1_start (f := f) (c' := c') (tk := s.toks + ([(a, u)] : List (Str × Value)).length) I L hcap e0 hr.hd rv hns kp
    refine PySem.W.kla_codeExpr (wpAny_mono (hbody.run [] _ _ H Q J ht) (fun w s' hq => ?_) fun e s' hq => hq)
    obtain ⟨w', H', J', r', q⟩ := hq
    exact ⟨w', H', J'.os, J'.bare, J'.base, J'.hok, r', q⟩
  refine wpAny_call (codeAny_mono rc fun r s' hq => ?_)
  cases r with
  | error e =>
    obtain ⟨_, _, _, _, _, _, _, _, _, _, _, _, z⟩ := hq
    exact z.elim
  | ok fl =>
    cases fl with
    | ret w => exact I.after hq
    | next => exact False.elim hq
    | brk => exact False.elim hq
    | cont => exact False.elim hq
/-- a lambda is made: nothing but its table and its code object is new -/
theorem lam_make3 {T : List (Addr × Str)} {d P : Addr} {par : Arguments} {bd : Expr} {ls : Scope} {at_ : Pos} {E : Value → Shared → Prop} {Z : Value → Shared → Prop} (I : Inv X pins σ H s) (B : LamX.TabB X.base X.mg d P) (hd : X.env.code = .ref d)
    (hm : (P, X.env.qual ++ "<lambda>") ∈ T) (hu : ∀ p ∈ T, p.1 = P → p.2 = X.env.qual ++ "<lambda>") (tabs : LamX.Tabs T H) (nodef : defaultsOf par X.env = ([], [])) (cap : ∀ y ∈ ls.names, y.2 = .free → ∃ c, X.env.cells.lookup y.1 = some c)
    (h : ∀ (f c : Addr) (pm ctv : Value) (H1 : Hp) (s1 : Shared), Inv X pins σ H1 s1 → (∀ b o, b ≠ P → H b = some o → H1 b = some o) → LamX.Tabs T H1 →
      s1.heap.get? f = some (PySem.W.kla_obj "<lambda>" (X.env.qual ++ "<lambda>") par bd ls (L2.cloFrom X.env.cells ls.names []) pm c ctv) → H1 f = none → f ∉ frs X.stack → H1 c = some (LamX.CodeO c (X.env.qual ++ "<lambda>")) → Z (.ref f) s1) :
    wpAny (model X.prog X.w) X.A (eval (.Lambda par bd ls at_) X.env) Z E s := by
  obtain ⟨ps, eP, tri, told⟩ := tabs _ hm
  have gP : s.heap.get? P = some { cls := .none, data := .fields ps } := I.hok P _ eP
  have out : ∀ f, s.heap.objs.size ≤ f → f ∉ frs X.stack := fun f hf z => (List.mem_cons.mp (I.stkSub _ z)).elim (fun e => absurd (by have q := I.lt; rw [← e] at q; exact Nat.lt_of_lt_of_le q hf) (Nat.lt_irrefl _)) (I.nofs hf)
  refine PySem.W.kla_eval nodef ?_
  rcases hq : codeAmong at_ ps.toList with _ | cv
  · refine PySem.W.kla_makeFunction (mg := X.mg) (c := d) (P := P) (ps := ps) (L2.closure_ok cap) I.ok.glob (I.mod.glob.keeps I.bk) hd (B.code.keeps I.bk) gP tri hq B.gP (B.bm.keeps I.bk) fun c ctv hp tk old new lt rec htb => ?_
    obtain ⟨c2, oc, vs, t, e2, hoc, q1, q2⟩ := rec
    cases e2
    have nC : H c = none := I.hok.fresh new
    have le : s.heap.objs.size ≤ hp.objs.size := Nat.le_trans new (Nat.le_of_lt lt)
    have J := LamX.inv_table (t' := tk) (more := #[rawInt at_.line, rawInt at_.col, .ref c]) (h' := hp.push (PySem.W.kla_obj "<lambda>" (X.env.qual ++ "<lambda>") par bd ls (L2.cloFrom X.env.cells ls.names []) ((X.mg "__name__").getD .none) c ctv)) I eP
      (fun b o n e => Heap.get?_push_of_some _ (old b o n e)) (Heap.get?_push_of_some _ htb) new ⟨oc, vs, t, Heap.get?_push_of_some _ hoc, q1, q2⟩
    have nPc : P ≠ c := ne_of_none eP nC
    have stay : ∀ b o, b ≠ P → H b = some o → upd (upd H P (.tbl (ps ++ #[rawInt at_.line, rawInt at_.col, .ref c]))) c (LamX.CodeO c (X.env.qual ++ "<lambda>")) b = some o := fun b o n e => by
      rw [upd_ne (ne_of_none e nC), upd_ne n]
      exact e
    have codeK : ∀ {c0 : Addr} {q : Str}, H c0 = some (LamX.CodeO c0 q) → c0 ≠ P := fun {c0 q} e z => by
      rw [z, eP] at e
      exact LamX.codeO_ne ps (Option.some.inj e).symm
    refine h hp.objs.size c ((X.mg "__name__").getD .none) ctv _ _ J stay (fun p hp2 => ?_) (Heap.get?_push_size _ rfl) ?_ (out _ le) upd_same
    · obtain ⟨ps', w1, w2, w3⟩ := tabs p hp2
      by_cases z : p.1 = P
      · have e0 : ps' = ps := by
          rw [z, eP] at w1
          cases w1
          rfl
        subst e0
        rw [hu p hp2 z, z]
        have el : (ps' ++ #[rawInt at_.line, rawInt at_.col, .ref c]).toList = ps'.toList ++ [rawInt at_.line, rawInt at_.col, .ref c] := by simp
        refine ⟨_, by rw [upd_ne nPc]; exact upd_same, ?_, fun pos' cv hcv => ?_⟩
        · rw [el]
          exact PySem.TriplesOk_snoc _ _ _ _ w2
        · rw [el] at hcv
          rcases LamX.among_app _ w2 hcv with k | k
          · obtain ⟨c0, u1, u2⟩ := told pos' cv k
            exact ⟨c0, u1, stay _ _ (codeK u2) u2⟩
          · exact ⟨c, k, upd_same⟩
      · refine ⟨ps', stay _ _ z w1, w2, fun pos' cv hcv => ?_⟩
        obtain ⟨c0, u1, u2⟩ := w3 pos' cv hcv
        exact ⟨c0, u1, stay _ _ (codeK u2) u2⟩
    · rw [upd_ne (Nat.ne_of_gt lt), upd_ne (Nat.ne_of_gt (Nat.lt_of_lt_of_le (Heap.lt_size gP) le))]
      exact I.hok.fresh le
  · obtain ⟨c, e, u2⟩ := told at_ cv hq
    subst e
    refine PySem.W.kla_makeFunctionHit (mg := X.mg) (c := d) (P := P) (ps := ps) (L2.closure_ok cap) I.ok.glob (I.mod.glob.keeps I.bk) hd (B.code.keeps I.bk) gP tri hq (B.bm.keeps I.bk) fun ctv hp tk old le => ?_
    exact h hp.objs.size c ((X.mg "__name__").getD .none) ctv H _ (I.kept fun b o e => Heap.get?_push_of_some _ (old b o e)) (fun b o _ e => e) tabs (Heap.get?_push_size _ rfl) (I.hok.fresh le) (out _ le) u2
/-- the keys may be sorted by what fk makes of them -/
structure ByKey (ks : List (List Key)) (fk : List Key → D) : Prop where
  each : ∀ k ∈ ks, (fk k).pln = true ∧ (fk k).py.depth ≤ 6
  alike : PySem.W.AllAlike (ks.map fun k => (fk k).py)
  sort : PySem.W.Sortable (ks.map fun k => (fk k).py)
/-- sorted(x, key=lambda a: body), x the i-th slot's dict -/
def tSortL (K : PySem.W.Frag) (T : List (Addr × Str)) (i : Nat) (caps : List (Str × Nat)) (tb : TE) : TE := fun σ H Q => LamX.Tabs T H ∧ ∃ (d : Addr) (kvs : List (List Key × V)) (fk : List Key → D), σ[i]? = some (some (.ref d)) ∧ H d = some (.dT kvs) ∧ ByKey (kvs.map (·.1)) fk ∧
  ∀ H1, (∀ b o, b ∉ T.map (·.1) → H b = some o → H1 b = some o) → LamX.Tabs T H1 →
    (∀ (c : Addr) (k : List Key) (b : Addr) (H' : Hp), H1 c = none → k ∈ kvs.map (·.1) → Ext H1 H' → (∃ ws, H' c = some (.lst ws)) → H' b = some (.tup (k.map kV)) → tb (capS σ (.ref b) caps) H' fun w H2 => Ext H' H2 ∧ Da (fun b => b = c) K H2 w (fk k)) ∧
    ∀ (H' : Hp) (p : Addr) (bs : List Addr), H1 p = none → Ext H1 H' → Keyed H' ((kvs.map (·.1)).mergeSort (PySem.W.dataLe false fun k => (fk k).py)) bs → H' p = some (.lst (bs.map V.ref)) → Q (.ref p) H'
theorem pe_sortL {T : List (Addr × Str)} {c P : Addr} {i n : Nat} {x : Str} {params : Arguments} {body : Expr} {tb : TE} {p1 p2 lpos kpos pos : Pos} (hcm : X.calm = true) (hg : Gl X "sorted") (hm : X.mg "sorted" = none) (hN : X.N[i]? = some x) (hv : Vis X.env.scope x)
    (TB : LamX.TabB X.base X.mg c P) (hcode : X.env.code = .ref c) (hmT : (P, X.env.qual ++ "<lambda>") ∈ T) (hu : ∀ p ∈ T, p.1 = P → p.2 = X.env.qual ++ "<lambda>") (hr : Room (n + 2) X.A) (L : Lam1 X.env.scope scope a) (hcap : CapOk X.N scope caps) (hdef : defaultsOf params X.env = ([], []))
    (hbind : ∀ (q : Str) (cl : List (Str × Addr)) (pm cv ctv w : Value), bindArgs (PySem.W.kla_fn "<lambda>" q params body scope cl pm cv ctv) ⟨[w], []⟩ = pure [(a, w)])
    (hbody : ∀ (A : Around) (s : Shared) (H : Hp) (f c' : Addr), Room n A → PE (lam1Cx X A s H scope f c' (a :: caps.map (·.1))) body tb)
    (hdb : (x == ("__debug__" : Str)) = false := by decide) (hcd : (x == ("__classdict__" : Str)) = false := by decide) :
    PE X (.Call (.Name "sorted" p1) [.Name x p2] [⟨some (Str.ofString "key"), .Lambda params body scope lpos, kpos⟩] pos) (tSortL X.K T i caps tb) := by
  refine ⟨fun pins s σ H Q I h => ?_⟩
  obtain ⟨hT, d, kvs, fk, hs, hd, so, h⟩ := h
  refine wpAny_Call_Name_kw (ld_blt (u := .builtin "sorted") I hg hm rfl ?_ (by decide) (by decide))
  refine PyProof.Rows.callWith_kw (thn ((pa_cons (pe_var (pos := p2) hN hv hdb hcd) pa_nil).run pos pins s σ H (fun vs H1 => vs = [.ref d] ∧ H1 = H) I ⟨_, hs, rfl, rfl⟩) fun us s1 ⟨vs, H0, I1, r1, q1⟩ => ?_) (by rfl) (by rfl) (by rfl) (by rfl)
  obtain ⟨e1, e2⟩ := q1
  subst e1 e2
  obtain ⟨u, rfl, ru⟩ := r1.one
  obtain rfl : u = Value.ref d := ru
  refine wpAny_evalAll_cons ?_
  show wpAny (model X.prog X.w) X.A (do let v ← eval (.Lambda params body scope lpos) X.env; standAt pos; pure v) _ _ s1
  refine wpAny_bind (lam_make3 I1 TB hcode hmT hu hT hdef (fun y hy e => (L.free y hy e).elim (fun z => I1.ok.has _ (.inl z)) fun z => I1.ok.has _ (.inr z)) fun f c' pm ctv H1 s' I2 eN T1 hf hfn hfr hco => wpAny_bind (wpAny_standAt (wpAny_pure (wpAny_evalAll_nil ?_))))
  show wpAny (model X.prog X.w) X.A (call (.builtin "sorted") [.ref d] [(Str.ofString "key", .ref f)]) _ _ _
  obtain ⟨h1, h2⟩ := h H1 (fun b o n e => eN b o (fun z => n (by rw [z]; exact List.mem_map.mpr ⟨_, hmT, rfl⟩)) e) T1
  have I3 : Inv X (pins ++ [(f, PySem.W.kla_obj "<lambda>" (X.env.qual ++ "<lambda>") params body scope (L2.cloFrom X.env.cells scope.names []) pm c' ctv)]) σ H1 s' := I2.pins_of fun p hp => by
    rcases List.mem_append.mp hp with hp | hp
    · exact I2.pin p (List.mem_append_right _ hp)
    · obtain rfl : p = _ := by simpa using hp
      refine ⟨hf, hfn, fun z => ?_, fun z => hfr ?_, fun v q => nomatch q⟩
      · obtain ⟨m, ⟨o, es, ep, ho, hod, _⟩, _⟩ := I2.loc
        rw [← show f = X.env.locals from z, hf] at ho
        rw [← Option.some.inj ho] at hod
        cases hod
      · rcases I2.ok.stk with e | ⟨e, _⟩
        · rw [e]
          exact z
        · rw [e]
          unfold frs
          rw [List.filterMap_cons]
          split
          · exact z
          · exact List.mem_cons_of_mem _ z
  have hun := hr.un
  have dP : d ≠ P := fun z => by
    obtain ⟨ps, w1, _⟩ := hT _ hmT
    rw [z, show _ = some (HO.tbl ps) from w1] at hd
    cases hd
  refine sorted_key (F := f) (fk := fk) hcm (by omega) I3 (.inl (eN _ _ dP hd)) so.each so.alike so.sort (fun c k b hc hk q s2 H' I' ex hws hb => ?_) fun s2 H' p bs If hp ex hkd hA => ⟨.ref p, H', If.pins_of fun p hp => If.pin p (List.mem_append_right _ (List.mem_append_left _ hp)), rfl, h2 H' p bs hp ex hkd hA⟩
  have pf := I'.pin (f, PySem.W.kla_obj "<lambda>" (X.env.qual ++ "<lambda>") params body scope (L2.cloFrom X.env.cells scope.names []) pm c' ctv) (by simp)
  exact lam1_call (k := n) (v := .ref b) I' L hcap pf.1 (ex _ _ hco) (fun w => hbind _ _ _ _ _ w) (hr.in1.in1) I'.env0.in1.in1 (hbody _ s2 H' f c' hr.in1.in1) rfl (h1 c k b H' hc hk ex hws hb)
end
end PW
end
section
/-! PWTab: defs that make a lambda. The first slot owns the tables of their code objects. -/
namespace PW
open PySem PySem.Spec PyProof.Rows L2
abbrev tabA (T : List (Addr × Str)) : List Addr := T.map (·.1)
/-- the tables, the code objects that they tell cold -/
def TabM (T : List (Addr × Str)) (M : Addr → Prop) (H : Hp) : Prop := ∀ p ∈ T, ∃ ps : Array Value, H p.1 = some (.tbl ps) ∧ TriplesOk ps.toList ∧ ∀ (pos : Pos) (cv : Value), codeAmong pos ps.toList = some cv → ∃ c, cv = .ref c ∧ ¬ M c ∧ H c = some (LamX.CodeO c p.2)
section
variable {K : PySem.W.Frag} {T : List (Addr × Str)} {M M' : Addr → Prop} {H H' : Hp} {v : V} {x : D}
theorem TabM.tabs (h : TabM T M H) : LamX.Tabs T H := fun p hp => by
  obtain ⟨ps, q1, q2, q3⟩ := h p hp
  refine ⟨ps, q1, q2, fun pos cv e => ?_⟩
  obtain ⟨c, e1, _, e2⟩ := q3 pos cv e
  exact ⟨c, e1, e2⟩
theorem TabM.mono (h : TabM T M H) (g : ∀ b o, ¬ M b → H b = some o → ¬ M' b ∧ H' b = some o) (t : ∀ b ∈ tabA T, H' b = H b) : TabM T M' H' := fun p hp => by
  obtain ⟨ps, q1, q2, q3⟩ := h p hp
  refine ⟨ps, by rw [t p.1 (List.mem_map.mpr ⟨p, hp, rfl⟩)]; exact q1, q2, fun pos cv e => ?_⟩
  obtain ⟨c, e1, n, e2⟩ := q3 pos cv e
  exact ⟨c, e1, (g c _ n e2).1, (g c _ n e2).2⟩
theorem TabM.less (h : TabM T M H) (g : ∀ b, M' b → M b) : TabM T M' H := h.mono (fun b o n e => ⟨fun z => n (g b z), e⟩) fun _ _ => rfl
theorem TabM.at (h : TabM T M H) {b : Addr} (hb : b ∈ tabA T) : ∃ ps, H b = some (.tbl ps) := by
  obtain ⟨p, hp, rfl⟩ := List.mem_map.mp hb
  obtain ⟨ps, q, _⟩ := h p hp
  exact ⟨ps, q⟩
def tabS (K : PySem.W.Frag) (T : List (Addr × Str)) (v : V) (x : D) : (Addr → Prop) → Hp → Prop := fun M H => Da M K H v x ∧ TabM T M H
abbrev tabE (K : PySem.W.Frag) (T : List (Addr × Str)) (v : V) (x : D) : Ent := .big (tabA T) v (tabS K T v x)
theorem tab_stab : Stab (tabA T) (tabS K T v x) := fun M H M' H' ⟨h1, h2⟩ g t => ⟨h1.mono g, h2.mono g t⟩
theorem tab_nt (h : TabM T M H) : ∀ b ∈ tabA T, NT (H b) := fun b hb => by
  obtain ⟨ps, e⟩ := h.at hb
  rw [e]
  trivial
end
/-- a def that makes a lambda, or calls one that does -/
def spT (K : PySem.W.Frag) (T : List (Addr × Str)) (w : WF) : Sp := fun vs H Q _ => ∃ (M : Addr → Prop) (ds : List D) (kk : Res → Prop), Tr M H ∧ (∀ b ∈ tabA T, M b) ∧ TabM T M H ∧ DaAll M K H vs ds ∧ w ds kk ∧
  ∀ v H' x, (∀ b o, b ∉ tabA T → H b = some o → H' b = some o) → TabM T M H' → Da M K H' v x → kk (.d x) → Q v H'
/-- what is wanted at its end -/
def FinT (K : PySem.W.Frag) (T : List (Addr × Str)) (v : V) (x : D) (kk : Res → Prop) : Post := { nx := fun _ => False, rt := fun r ρ => ρ[0]? = some (tabE K T v x) ∧ ((∃ y, r = .d y ∧ kk (.d y)) ∨ ∃ y, r = .nw y ∧ kk (.d y)) }
section
variable {K : PySem.W.Frag} {T : List (Addr × Str)} {w : WF} {N : List Str} {vs : List V} {H : Hp} {Q : VK} {E : XK} {t : TS}
theorem len_t {n : Nat} (h : spT K T w vs H Q E) (hl : ∀ ds kk, w ds kk → ds.length = n) : vs.length = n := by
  obtain ⟨M, ds, kk, tr, tm, tb, d, hw, fin⟩ := h
  rw [d.length]
  exact hl _ _ hw
theorem entry_t (hN : N.length ≠ 0) (h : spT K T w vs H Q E) (h1 : ∀ kk, ¬ w [] kk) (body : ∀ v x ds kk, w (x :: ds) kk → XS K t (tabE K T v x :: ini (N.length - 1) ds) (FinT K T v x kk)) : t { nx := fun _ H' => Q .non H', rt := Q } (L2.start N vs) H := by
  obtain ⟨M, ds, kk, tr, tm, tb, d, hw, fin⟩ := h
  cases ds with
  | nil => exact absurd hw (h1 kk)
  | cons x ds =>
    obtain ⟨v, r, rfl, dv, dr⟩ := d
    have own : ∀ (i : Nat) (b : Addr), Owns (L2.start N (v :: r)) (tabE K T v x :: ini (N.length - 1) ds) i b → i = 0 ∧ b ∈ tabA T := fun i b ⟨e, q1, q2⟩ => by
      cases i with
      | zero => cases q1; exact ⟨rfl, q2⟩
      | succ i =>
        rcases ini_get (show (ini (N.length - 1) ds)[i]? = _ from q1) with ⟨y, _, z⟩ | z <;> (rw [z] at q2; exact (show False from q2).elim)
    let F : Fr := ⟨fun b => M b ∧ b ∉ tabA T, fun b => if b ∈ tabA T then none else H b, none, fun _ => none, fun _ => False⟩
    have less : ∀ b, hot F (L2.start N (v :: r)) (tabE K T v x :: ini (N.length - 1) ds) b → M b := fun b hb => by
      rcases hb with hb | ⟨j, q⟩
      · exact hb.1
      · exact tm b (own j b q).2
    have nmem : ∀ b, b ∉ tabA T → F.H0 b = H b := fun b n => if_neg n
    have E0 : Env K F H (L2.start N (v :: r)) (tabE K T v x :: ini (N.length - 1) ds) := by
      refine ⟨?_, fun b o _ e => ?_, fun b hb => tr b hb.1, fun c e => (nomatch e), fun i b q => ⟨if_pos (own i b q).2, fun z => z.2 (own i b q).2⟩, fun i j b q1 q2 => (own i b q1).1.trans (own j b q2).1.symm, fun i e he => ?_, ⟨fun b o e => (nomatch e), fun b hb _ => absurd rfl hb⟩⟩
      · have := dr.length
        unfold L2.start ini
        simp only [List.length_append, List.length_map, List.length_replicate, List.length_cons]
        omega
      · by_cases z : b ∈ tabA T
        · rw [show F.H0 b = none from if_pos z] at e
          cases e
        · rw [nmem b z] at e
          exact e
      · cases i with
        | zero =>
          cases he
          exact ⟨start_get rfl, ⟨dv.less less, tb.less less⟩, tab_stab, tab_nt tb⟩
        | succ i =>
          rcases ini_get (show (ini (N.length - 1) ds)[i]? = _ from he) with ⟨y, hy, rfl⟩ | rfl
          · obtain ⟨u, hu, hd⟩ := dr.at hy
            exact ⟨u, start_get (show (v :: r)[i + 1]? = some u from hu), hd.less less⟩
          · trivial
    have more : ∀ {ρ' : List Ent} {σ' : L2.St} {F' : Fr} {H' : Hp}, Env K F' H' σ' ρ' → (∀ b, F.M b → F'.M b) → ρ'[0]? = some (tabE K T v x) → (∀ b, M b → hot F' σ' ρ' b) ∧ TabM T (hot F' σ' ρ') H' := fun {ρ' σ' F' H'} E' hM e => by
      have q := E'.slot 0 _ e
      refine ⟨fun b hb => ?_, q.2.1.2⟩
      by_cases z : b ∈ tabA T
      · exact .inr ⟨0, _, e, z⟩
      · exact .inl (hM b ⟨hb, z⟩)
    refine body v x ds kk hw F H _ _ E0 ⟨fun H' σ' ρ' _ E' g => g.elim, fun u H' σ' ρ' rr _ R n g => ?_, fun _ _ _ _ _ g => g.elim, fun _ _ _ _ _ g => g.elim⟩
    obtain ⟨g0, g⟩ := g
    rcases g with ⟨y, rfl, g⟩ | ⟨y, rfl, g⟩
    · obtain ⟨m1, m2⟩ := more R.1 (fun b z => z) g0
      exact fin u H' y (fun b o nb e => R.1.go b o (fun z => nomatch z) (by rw [nmem b nb]; exact e)) (m2.less m1) (R.2.less m1) g
    · obtain ⟨p, e, h0, nh, E', ho⟩ := R
      obtain ⟨m1, m2⟩ := more E' (fun b z => .inl z) g0
      obtain ⟨m3, _⟩ := more (E'.pop h0) (fun b z => z) g0
      rw [e]
      exact fin _ H' y (fun b o nb e => E'.go b o (fun z => nomatch z) (by rw [nmem b nb]; exact e)) (m2.less m1) (ho.da m1 fun z => nh (m3 p z)) g
end
section
variable {K : PySem.W.Frag} {T : List (Addr × Str)} {ρ : List Ent} {k : KE} {te : TE} {i j : Nat} {x : D} {v : V} {w : WF} {E : XK} {t : TA}
/-- the first slot is read -/
theorem xe_varT (h : ρ[i]? = some (tabE K T v x)) (g : k (.d x) ρ) : XE K (tVar i) ρ k := fun F H σ Q E q => by
  obtain ⟨e, ⟨hd, _⟩, _⟩ := E.slot i _ h
  exact ⟨v, e, q v H (.d x) ρ (hotR.d (Keep.refl _ _)) ⟨E, hd⟩ g⟩
/-- the tables' def went on -/
theorem tab_redo {F : Fr} {H H' : Hp} {σ : L2.St} (E : Env K F H σ ρ) (hj : ρ[j]? = some (tabE K T v x)) (up : ∀ b o, b ∉ tabA T → H b = some o → H' b = some o) (tm : TabM T (hot F σ ρ) H') : Env K F H' σ ρ ∧ Keep (hot F σ ρ) H (hot F σ ρ) H' := by
  have es : ρ.set j (tabE K T v x) = ρ := by
    apply List.ext_getElem?
    intro n
    by_cases z : n = j
    · subst z
      rw [List.getElem?_set_self (List.getElem?_eq_some_iff.mp hj).1, hj]
    · rw [List.getElem?_set_ne (Ne.symm z)]
  obtain ⟨e, ⟨hd, _⟩, st, _⟩ := E.slot j _ hj
  have hA : ∀ b ∈ tabA T, hot F σ ρ b := fun b hb => .inr ⟨j, .big hj hb⟩
  have q := E.redo (e' := tabE K T v x) (H' := H') hj (fun b z => .inl z) (fun b o n e => up b o n e) (by
    rw [es]
    exact ⟨e, ⟨hd.mono fun b o n e => ⟨n, up b o (fun z => n (hA b z)) e⟩, tm⟩, tab_stab, tab_nt tm⟩)
  rw [es] at q
  exact q
theorem xe_callT (h : XA K t ρ fun rs ρ1 => ∃ xs, peekAll ρ1 rs = some xs ∧ ∃ ρ2, frzAll ρ1 rs = ρ2 ∧ ρ2[j]? = some (tabE K T v x) ∧ w xs fun z => k z ρ2) : XE K (tCall (spT K T w) [] E t) ρ k := fun F H σ Q E0 q =>
  h F H σ _ E0 fun vs H1 rs ρ1 kp E1 hs ⟨xs, px, ρ2, eq, hj, g⟩ => by
    obtain ⟨E2, d2, k2⟩ := HeldAll.frz E1 hs px
    rw [eq] at E2 d2 k2
    rw [List.append_nil]
    have hA : ∀ b ∈ tabA T, hot F σ ρ2 b := fun b hb => .inr ⟨j, .big hj hb⟩
    have q0 := E2.slot j _ hj
    refine ⟨_, xs, _, hot_tr E2, hA, q0.2.1.2, d2, g, fun u H' y up tm hd kr => ?_⟩
    obtain ⟨E3, k3⟩ := tab_redo E2 hj up tm
    exact q u H' (.d y) ρ2 (hotR.d ((kp.trans k2).trans k3)) ⟨E3, hd⟩ kr
end
end PW
end
section
/-! PWTab2: sorted(d, key=lambda ..) as a rule over data. -/
namespace PW
open PySem PySem.Spec PyProof.Rows L2
section
variable {K : PySem.W.Frag} {T : List (Addr × Str)} {F : Fr} {M : Addr → Prop} {H H' : Hp} {σ : L2.St} {ρ : List Ent} {v : V} {x y : D} {i j : Nat}
theorem TabM.of (h : LamX.Tabs T H) (tr : Tr M H) : TabM T M H := fun p hp => by
  obtain ⟨ps, q1, q2, q3⟩ := h p hp
  refine ⟨ps, q1, q2, fun pos cv e => ?_⟩
  obtain ⟨c, e1, e2⟩ := q3 pos cv e
  refine ⟨c, e1, fun z => ?_, e2⟩
  have q := tr c z
  rw [e2] at q
  exact q
theorem env_data {ρ' : List Ent} {σ' : L2.St} (tr : Tr M H) (hl : σ'.length = ρ'.length) (h : ∀ (i : Nat) (e : Ent), ρ'[i]? = some e → ∃ x v, e = .d x ∧ σ'[i]? = some (some v) ∧ Da M K H v x) : Env K (fr M H none) H σ' ρ' := by
  have own : ∀ (i : Nat) (b : Addr), Owns σ' ρ' i b → False := calm_own fun i e he => by
    obtain ⟨x, v, rfl, _⟩ := h i e he
    rfl
  refine ⟨hl, fun b o _ e => e, tr, fun a e => (nomatch e), fun i b z => (own i b z).elim, fun i j b z => (own i b z).elim, fun i e he => ?_, fr_ok⟩
  obtain ⟨x, v, rfl, e, d⟩ := h i e he
  exact ⟨v, e, d.less fun b hb => hb.elim id fun ⟨n, z⟩ => (own n b z).elim⟩
/-- what a slot holds, as data that does not lie in the tables -/
theorem slot_val (E : Env K F H σ ρ) (hj : ρ[j]? = some (tabE K T v x)) (h : peekE ρ[i]? = some y) : ∃ u, σ[i]? = some (some u) ∧ Da (fun b => b ∈ tabA T) K H u y := by
  have hA : ∀ b ∈ tabA T, hot F σ ρ b := fun b hb => .inr ⟨j, .big hj hb⟩
  cases q : ρ[i]? with
  | none => rw [q] at h; cases h
  | some e =>
    rw [q] at h
    cases e with
    | d z =>
      cases h
      obtain ⟨u, e1, e2⟩ := E.slot i _ q
      exact ⟨u, e1, e2.less hA⟩
    | own z =>
      cases h
      obtain ⟨p, e1, e2⟩ := E.slot i _ q
      refine ⟨_, e1, e2.da hA fun z => ?_⟩
      have ij := E.injO i j p (.own q e1) (.big hj z)
      rw [ij, hj] at q
      cases q
    | u => cases h
    | hand => cases h
    | pin φ => cases h
    | big A v S => cases h
end
section
variable {K : PySem.W.Frag} {T : List (Addr × Str)} {ρ : List Ent} {k : KE} {tb : TE} {i j : Nat} {x : D} {v : V} {ks : List (List Key)} {xs : List D} {fk : List Key → D} {caps : List (Str × Nat)} {dc : List D}
theorem xe_sortL (hj : ρ[j]? = some (tabE K T v x)) (hi : ρ[i]? = some (.own (.dct ks xs))) (by_ : ByKey ks fk) (hcl : dc.length = caps.length) (hcap : ∀ (n : Nat) (p : Str × Nat) (y : D), caps[n]? = some p → dc[n]? = some y → peekE ρ[p.2]? = some y)
    (hb : ∀ q ∈ ks, XE K tb (Ent.d (keyD q) :: dc.map Ent.d) fun r _ => r = .d (fk q)) (g : k (.nw (.lst ((ks.mergeSort (PySem.W.dataLe false fun q => (fk q).py)).map keyD))) ρ) : XE K (tSortL K T i caps tb) ρ k := fun F H σ Q E q => by
  obtain ⟨p0, es, kvs, hH, hks, hda⟩ := E.slot i _ hi
  subst hks
  have q0 := E.slot j _ hj
  refine ⟨q0.2.1.2.tabs, p0, kvs, fk, es, hH, by_, fun H1 up T1 => ?_⟩
  have tr1 : Tr (hot F σ ρ) H1 := fun b hb => by
    by_cases z : b ∈ tabA T
    · obtain ⟨p, hp, rfl⟩ := List.mem_map.mp z
      obtain ⟨ps, w, _⟩ := T1 p hp
      rw [w]
      trivial
    · have n := E.hotTrk b hb
      obtain ⟨o, ho⟩ := Option.ne_none_iff_exists'.mp n.ne
      rw [ho] at n
      rw [up b o z ho]
      exact n
  obtain ⟨E1, k1⟩ := tab_redo E hj up (TabM.of T1 tr1)
  refine ⟨fun c q b H' hc hq ex ⟨ws, hw⟩ hb' => ?_, fun H' p bs hp ex hk hA => ?_⟩
  · have tr' : Tr (fun b => b = c) H' := fun b z => by
      rw [show b = c from z, hw]
      trivial
    have E' : Env K (fr (fun b => b = c) H' none) H' (capS σ (.ref b) caps) (Ent.d (keyD q) :: dc.map Ent.d) := by
      refine env_data tr' (by unfold capS; simp [hcl]) fun n e he => ?_
      cases n with
      | zero =>
        cases he
        obtain ⟨w, r, e1, d1, _⟩ := keyed_da (K := K) tr' (show Keyed H' [q] [b] from .cons hb' .nil)
        cases e1
        exact ⟨_, _, rfl, rfl, d1⟩
      | succ n =>
        have he : (dc.map Ent.d)[n]? = some e := he
        rw [List.getElem?_map] at he
        cases hy : dc[n]? with
        | none => rw [hy] at he; cases he
        | some y =>
          rw [hy] at he
          cases he
          have hn : n < caps.length := by rw [← hcl]; exact (List.getElem?_eq_some_iff.mp hy).1
          obtain ⟨u, e1, d1⟩ := slot_val E hj (hcap n _ y (List.getElem?_eq_getElem hn) hy)
          refine ⟨y, u, rfl, ?_, d1.mono fun b o nb e => ?_⟩
          · show (caps.map fun p => (σ[p.2]?).join)[n]? = some (some u)
            rw [List.getElem?_map, List.getElem?_eq_getElem hn]
            show some ((σ[caps[n].2]?).join) = _
            rw [e1]
            rfl
          · have e2 := up b o nb e
            exact ⟨ne_of_none e2 hc, ex b o e2⟩
    refine hb q hq (fr (fun b => b = c) H' none) H' _ _ E' fun w H2 r ρ2 kp R er => ?_
    subst er
    exact ⟨fun b o e => R.1.go b o (fun z => nomatch z) e, R.2.less fun b z => .inl z⟩
  · have tr2 : Tr (fun b => hot F σ ρ b ∨ b = p) H' := fun b hb => by
      rcases hb with hb | hb
      · have n := tr1 b hb
        obtain ⟨o, ho⟩ := Option.ne_none_iff_exists'.mp n.ne
        rw [ho] at n
        rw [ex b o ho]
        exact n
      · rw [hb, hA]
        trivial
    have rs : ResV (hot F σ ρ) K H1 H' (.ref p) (.nw (.lst (((kvs.map (·.1)).mergeSort (PySem.W.dataLe false fun q => (fk q).py)).map keyD))) := ⟨p, rfl, hp, _, hA, keyed_da tr2 hk⟩
    exact q (.ref p) H' _ ρ (hotR.res k1 ex rs) (ResV.rv E1 ex rs) g
end
end PW
end
section
/-! PWExt: xs.extend(t), t a tuple. -/
namespace PW
open PySem PySem.Spec PyProof.Rows L2
def rExtendT : V → List V → Hp → VK → Prop := fun x vs H Q => ∃ l b xs zs, x = .ref l ∧ vs = [.ref b] ∧ H l = some (.lst xs) ∧ H b = some (.tup zs) ∧ xs.length + zs.length ≤ sizeLine ∧ Q .non (upd H l (.lst (xs ++ zs)))
section
variable {X : Cx}
theorem mt_extendT : MtM X "list.extend" rExtendT := by
  intro pins s σ H x vs v us Q I rx rv ⟨l, b, xs, zs, ex, ev, hH, hB, hz, q⟩
  subst ex ev
  cases rx
  obtain ⟨u, rfl, ru⟩ := rv.one
  cases ru
  obtain ⟨z, its, n, r, hl, e⟩ := I.lstM hH
  obtain ⟨z2, its2, r2, ob, e2, ec, n2, ed⟩ := I.hok b _ hB
  have hl2 : zs.length = its2.length := r2.length
  have nT : l ≠ b := fun k => by rw [k, hB] at hH; cases hH
  refine wpAny_call_entry_kw (kw := []) F.slot_list_extend ⟨_, e, rfl⟩ F.entry_list_extend ?_ (F.args_list_extend_2 _ _)
  unfold Builtin.«list.extend»
  refine wpAny_bind (wpAny_pure ?_)
  unfold Builtin.List.listExtendWith
  refine wpAny_bind (wpAny_typeOf (T := "tuple") ⟨ob, e2, ec⟩ ?_)
  rw [if_pos (by simp)]
  refine wpAny_bind (listItems_at e2 ed ?_)
  refine wpAny_bind (listItems_at e rfl ?_)
  have long : Builtin.List.listTooLong (its.toArray.size + its2.toArray.size) = false := notLongL (by rw [List.size_toArray, List.size_toArray]; omega)
  rw [if_neg (by rw [long, Bool.and_false]; exact Bool.false_ne_true)]
  refine wpAny_bind (listUpdate_at e rfl ?_ (by rw [List.size_toArray]; omega) (by rw [Array.size_append, List.size_toArray, List.size_toArray]; omega))
  refine wpAny_pure ⟨_, rfl, .non, _, I.lset (its' := its ++ its2) hH e (by simp) (r.append r2) ?_, rfl, q⟩
  rw [List.length_append]
  omega
end
section
variable {K : PySem.W.Frag}
theorem m_extendT {ds es : List D} {kk : D → D → Prop} (hl : ds.length + es.length ≤ sizeLine) (g : kk .non (.lst (ds ++ es))) : MtD K rExtendT (.lst ds) [.tup es] kk := fun M H p us Q mp ⟨vs, h1, d1⟩ hu q => by
  obtain ⟨u, rfl, a, ws, rfl, c2, d2⟩ := da1 hu
  exact ⟨p, a, vs, ws, rfl, rfl, h1, c2.2, by rw [d1.length, d2.length]; exact hl, q .non _ .non _ (ownL mp (d1.append d2)) rfl g⟩
end
end PW
end
section
namespace LawK54
open PySem PySem.Spec PyProof.Rows L2 C8 PW
/-! led_from, reasons, needed: what they tell, plain -/
abbrev TL (PL : Addr) : List (Addr × Str) := [(PL, (("led_from" : Str) ++ ".<locals>.") ++ "<lambda>")]
def toldX (x : Option D) : D := match x with
  | some (.tup [_, t]) => t
  | _ => .non
/-- whence a found fact comes -/
def toldOf (ks : List (List Key)) (xs : List D) (q : List Key) : D := toldX (dget ks xs q)
def rndX (x : Option D) : Nat := match x with
  | some (.tup [.int n, _]) => n.toNat
  | _ => 0
def rndOf (ks : List (List Key)) (xs : List D) (q : List Key) : Nat := rndX (dget ks xs q)
/-- the facts by which f holds -/
structure Led (cs : List D) (ks : List (List Key)) (xs : List D) (f : List Key) (L : List (List Key)) : Prop where
  nd : L.Nodup
  sub : ∀ q ∈ L, q ∈ ks
  mem : f ∈ L
  cl : ∀ q ∈ L, ∀ i : Nat, toldOf ks xs q = .tup [.str "clause", .int (i : Int)] → ∀ b ∈ (clK (cs.getD i .non)).1, b ∈ L
/-- the numbers of the clauses that f needs -/
def Need (cs gs : List D) (is : List Int) (f : List Key) (ns : List Int) : Prop :=
  (¬ HoldL cs gs is none f ∧ ns = []) ∨ (HoldL cs gs is none f ∧ ns.Pairwise (· < ·) ∧ ∀ z, z ∈ ns ↔ ∃ k : Nat, z = (k : Int) ∧ k < cs.length ∧ ¬ HoldL cs gs is (some k) f)
section
variable {cs gs : List D} {is : List Int} {ks L : List (List Key)} {xs : List D} {f q : List Key}
theorem dget_at : ∀ {ks : List (List Key)} {xs : List D} {j : Nat} {q : List Key} {x : D}, ks.Nodup → ks[j]? = some q → xs[j]? = some x → dget ks xs q = some x
  | [], _, j, _, _, _, h, _ => by cases j <;> cases h
  | a :: ks, [], j, _, _, _, _, h => by cases j <;> cases h
  | a :: ks, y :: ys, 0, q, x, _, h1, h2 => by
    cases h1
    cases h2
    unfold dget
    rw [if_pos rfl]
  | a :: ks, y :: ys, j + 1, q, x, hn, h1, h2 => by
    obtain ⟨n1, n2⟩ := List.nodup_cons.mp hn
    have h1 : ks[j]? = some q := h1
    have h2 : ys[j]? = some x := h2
    unfold dget
    rw [if_neg fun e => n1 (by rw [e]; exact List.mem_of_getElem? h1)]
    exact dget_at n2 h1 h2
/-- what is known of a found fact -/
theorem Spr.at (h : Spr cs gs is none ks xs) (hq : q ∈ ks) : ∃ (n : Nat) (t : D), dget ks xs q = some (.tup [.int (n : Int), t]) ∧ toldOf ks xs q = t ∧ rndOf ks xs q = n ∧ RndL cs gs is none n q ∧ (∀ m, m < n → ¬ RndL cs gs is none m q) ∧ Told cs gs is none n q t := by
  obtain ⟨j, hj⟩ := List.getElem?_of_mem hq
  have hl : j < xs.length := by rw [h.len]; exact (List.getElem?_eq_some_iff.mp hj).1
  have hx := List.getElem?_eq_getElem hl
  have e := dget_at h.nd hj hx
  obtain ⟨n, t, ex, r1, r2, r3⟩ := h.val j q _ hj hx
  rw [ex] at e
  exact ⟨n, t, e, by unfold toldOf; rw [e]; rfl, by unfold rndOf; rw [e]; exact Int.toNat_natCast n, r1, r2, r3⟩
/-- without a clause that none of them uses, it holds still -/
theorem Led.free (h : Spr cs gs is none ks xs) (l : Led cs ks xs f L) {k : Nat} (hk : ∀ q ∈ L, toldOf ks xs q ≠ .tup [.str "clause", .int (k : Int)]) : HoldL cs gs is (some k) f := by
  refine hold_by (known := fun q => q ∈ L) (rank := rndOf ks xs) (fun q hq => ?_) f l.mem
  obtain ⟨n, t, e, e1, e2, r1, r2, r3⟩ := h.at (l.sub q hq)
  rcases r3 with ⟨i, et, hi, fs, hg, hm⟩ | ⟨i, m, c, et, _, hc, hh, en, hb⟩
  · exact .inl ⟨i, hi, fs, hg, hm⟩
  · refine .inr ⟨i, (clK c).1, ?_, fun z => hk q hq (by rw [e1, et, z]), fun b hbm => ?_⟩
    · rw [List.getElem?_map, hc, ← hh]
      rfl
    · have hbL : b ∈ L := l.cl q hq i (by rw [e1, et]) b (by rw [List.getD_eq_getElem?_getD, hc]; exact hbm)
      refine ⟨hbL, ?_⟩
      obtain ⟨n', t', _, _, e2', _, r2', _⟩ := h.at (l.sub b hbL)
      rw [e2, e2', en]
      exact Nat.lt_succ_of_le (Nat.le_of_not_lt fun z => r2' m z (hb b hbm))
/-- the clauses that are used -/
def usedD (t : D) : Option Int := match t with
  | .tup [.str w, .int i] => if w = "clause" then some i else none
  | _ => none
def usedOf (ks : List (List Key)) (xs : List D) (L : List (List Key)) : List Int := L.filterMap fun q => usedD (toldOf ks xs q)
theorem used_mem (h : Spr cs gs is none ks xs) (l : ∀ q ∈ L, q ∈ ks) {z : Int} : z ∈ usedOf ks xs L ↔ ∃ q ∈ L, ∃ k : Nat, z = (k : Int) ∧ toldOf ks xs q = .tup [.str "clause", .int (k : Int)] ∧ ∃ c, cs[k]? = some c ∧ (clK c).2 = q := by
  unfold usedOf
  rw [List.mem_filterMap]
  constructor
  · rintro ⟨q, hq, e⟩
    obtain ⟨n, t, _, e1, _, _, _, r3⟩ := h.at (l q hq)
    rw [e1] at e
    rcases r3 with ⟨i, et, _⟩ | ⟨i, m, c, et, _, hc, hh, _⟩
    · rw [et] at e
      have : usedD (.tup [.str "ground", .int i]) = none := by
        unfold usedD
        exact if_neg (by decide)
      rw [this] at e
      cases e
    · rw [et] at e
      have : usedD (.tup [.str "clause", .int (i : Int)]) = some (i : Int) := by
        unfold usedD
        exact if_pos rfl
      rw [this] at e
      cases e
      exact ⟨q, hq, i, rfl, by rw [e1, et], c, hc, hh⟩
  · rintro ⟨q, hq, k, rfl, e, _⟩
    refine ⟨q, hq, ?_⟩
    rw [e]
    unfold usedD
    exact if_pos rfl
theorem used_nd (h : Spr cs gs is none ks xs) : ∀ {L : List (List Key)}, L.Nodup → (∀ q ∈ L, q ∈ ks) → (usedOf ks xs L).Nodup
  | [], _, _ => List.nodup_nil
  | q :: L, hn, l => by
    obtain ⟨n1, n2⟩ := List.nodup_cons.mp hn
    have ih := used_nd h n2 fun x hx => l x (List.mem_cons_of_mem _ hx)
    cases e : usedD (toldOf ks xs q) with
    | none =>
      have : usedOf ks xs (q :: L) = usedOf ks xs L := by
        unfold usedOf
        rw [List.filterMap_cons_none (f := fun q => usedD (toldOf ks xs q)) e]
      rw [this]
      exact ih
    | some z =>
      have e2 : usedOf ks xs (q :: L) = z :: usedOf ks xs L := by
        unfold usedOf
        rw [List.filterMap_cons_some (f := fun q => usedD (toldOf ks xs q)) e]
      rw [e2]
      refine List.nodup_cons.mpr ⟨fun hz => ?_, ih⟩
      obtain ⟨q2, hq2, k, ek, _, c, hc, hh⟩ := (used_mem h fun x hx => l x (List.mem_cons_of_mem _ hx)).mp hz
      have z1 : z ∈ usedOf ks xs [q] := by
        unfold usedOf
        rw [List.filterMap_cons_some (f := fun q => usedD (toldOf ks xs q)) e]
        exact List.mem_cons_self ..
      obtain ⟨q3, hq3, k3, ek3, _, c3, hc3, hh3⟩ := (used_mem h (L := [q]) fun x hx => l x (by rw [List.mem_singleton.mp hx]; exact List.mem_cons_self ..)).mp z1
      rw [List.mem_singleton] at hq3
      have kk : k3 = k := Int.ofNat.inj (ek3.symm.trans ek)
      rw [kk, hc] at hc3
      cases hc3
      exact n1 (by rw [← hq3, ← hh3, hh]; exact hq2)
theorem asc_of {us : List Int} (hn : us.Nodup) (h : us.Pairwise (· ≤ ·)) : us.Pairwise (· < ·) := by
  refine (h.and hn).imp fun ⟨a, b⟩ => ?_
  rcases Int.lt_or_eq_of_le a with z | z
  · exact z
  · exact absurd z b
/-- what needed tells -/
theorem need_of (h : Spr cs gs is none ks xs) (l : Led cs ks xs f L) {us ns : List Int} (hp : us.Perm (usedOf ks xs L)) (ho : us.Pairwise (· ≤ ·)) (hs : ns.Sublist us) (hm : ∀ z, z ∈ ns ↔ z ∈ us ∧ ∀ k : Nat, z = (k : Int) → ¬ HoldL cs gs is (some k) f) : Need cs gs is f ns := by
  refine .inr ⟨(h.mem f).mp (l.sub f l.mem), (asc_of (hp.nodup_iff.mpr (used_nd h l.nd l.sub)) ho).sublist hs, fun z => ?_⟩
  rw [hm z, hp.mem_iff, used_mem h l.sub]
  constructor
  · rintro ⟨⟨q, hq, k, e, _, c, hc, _⟩, g⟩
    exact ⟨k, e, (List.getElem?_eq_some_iff.mp hc).1, g k e⟩
  · rintro ⟨k, e, hk, g⟩
    refine ⟨Classical.byContradiction fun no => g (l.free h fun q hq et => no ?_), fun k' e' => ?_⟩
    · obtain ⟨n, t, _, e1, _, _, _, r3⟩ := h.at (l.sub q hq)
      rw [et] at e1
      rcases r3 with ⟨i, et2, _⟩ | ⟨i, m, c, et2, _, hc, hh, _⟩
      · rw [et2] at e1
        exact absurd (show ("clause" : Str) = "ground" by injection e1 with q1; injection q1 with q1; injection q1) (by decide)
      · rw [et2] at e1
        have ik : (k : Int) = (i : Int) := by
          injection e1 with q1
          injection q1 with _ q1
          injection q1 with q1
          injection q1
        have ik := Int.ofNat.inj ik
        subst ik
        exact ⟨q, hq, k, e, et, c, hc, hh⟩
    · have : k' = k := Int.ofNat.inj (e'.symm.trans e)
      rw [this]
      exact g
end
section
variable (K : PySem.W.Frag)
def w_led_from : WF := fun ds k => ∃ cs gs is ks xs f, ds = [ruleD K (.tup cs) (.tup gs), .dct ks xs, keyD f] ∧ Parts cs gs ∧ Lot gs.length is ∧ Spr cs gs is none ks xs ∧ f ∈ ks ∧ ∀ L, Led cs ks xs f L → k (.d (.lst (L.map keyD)))
abbrev pairT (ks : List (List Key)) (xs : List D) (q : List Key) : D := .tup [keyD q, toldOf ks xs q]
def w_reasons : WF := fun ds k => ∃ cs gs is f, ds = [ruleD K (.tup cs) (.tup gs), lotD is, f] ∧ Parts cs gs ∧ Lot gs.length is ∧ isFact f = true ∧ (¬ HoldL cs gs is none (keyF f) → k (.d .non)) ∧
  ∀ ks xs L, Spr cs gs is none ks xs → Led cs ks xs (keyF f) L → k (.d (.tup (L.map (pairT ks xs))))
def w_needed : WF := fun ds k => ∃ cs gs is f, ds = [ruleD K (.tup cs) (.tup gs), lotD is, f] ∧ Parts cs gs ∧ Lot gs.length is ∧ isFact f = true ∧ ∀ ns, Need cs gs is (keyF f) ns → k (.d (.tup (ns.map D.int)))
theorem len_led_from : ∀ ds k, w_led_from K ds k → ds.length = 3 := fun _ _ ⟨_, _, _, _, _, _, e, _⟩ => by rw [e]; rfl
theorem len_reasons : ∀ ds k, w_reasons K ds k → ds.length = 3 := fun _ _ ⟨_, _, _, _, e, _⟩ => by rw [e]; rfl
theorem len_needed : ∀ ds k, w_needed K ds k → ds.length = 3 := fun _ _ ⟨_, _, _, _, e, _⟩ => by rw [e]; rfl
end
end LawK54
end
section
namespace LawK54
open PySem PySem.Spec PyProof.Rows L2 C8 PW
local macro_rules | `(tactic| walk_at "jn") => `(tactic| first | exact fact_jn (by assumption) | exact clause_jn (by assumption) | exact ground_jn (by assumption))
local macro_rules | `(tactic| walk_at "pw") => `(tactic| first
  | ((with_reducible show w_is_integer _ _); with_reducible refine i_is_integer (by walk_at "bi") ?_) | ((with_reducible show w_is_within _ _); with_reducible refine i_is_within (by walk_at "bi") ?_) | ((with_reducible show w_is_tuple_of _ _); with_reducible refine i_is_tuple_of (by walk_at "bi") ?_)
  | ((with_reducible show w_law_is_number _ _); with_reducible refine i_law_is_number (by walk_at "bi") ?_)
  | ((with_reducible show w_fact _ _); with_reducible refine i_fact (by walk_at "jn") ?_)
  | ((with_reducible show w_is_clause _ _); with_reducible refine i_is_clause (by walk_at "jn") ?_)
  | ((with_reducible show w_is_ground _ _); with_reducible refine i_is_ground (by walk_at "jn") ?_)
  | ((with_reducible show w_law_draw _ _); refine i_law_draw (by first | omega | decide) (by first | omega | decide) ?_; intro r h0 h1)
  | with_reducible refine xe_any (by with_unfolding_all exact rfl) ?_
  | ((with_reducible show ∃ x ds, _ = some x ∧ itemsD x = some ds ∧ ds ≠ [] ∧ ds.length < 1073741824 ∧ _); refine ex_any (by with_unfolding_all exact rfl) (by with_unfolding_all exact rfl) (by first | assumption | (intro z; cases z; done) | exact List.append_ne_nil_of_right_ne_nil _ (List.cons_ne_nil _ _)) (by first | omega | (simp only [List.length_append, List.length_cons, List.length_nil]; omega) | decide) ?_; intro d hd)
  | ((with_reducible show w_law_fact _ _); refine i_law_fact ?_; intro f hf)
  | ((with_reducible show w_law_nested _ _); refine i_law_nested ?_; intro f hf; have hfj := hf.1))
local macro_rules | `(tactic| walk_at "sz") => `(tactic| first | (rw [rngD_len]; refine szl ?_; omega))
local macro_rules | `(tactic| walk_at "pw") => `(tactic| first
  | ((with_reducible show ∃ xs x, _ = some xs ∧ ∃ ρ2, _ = ρ2 ∧ ρ2[_]? = some (Ent.own x) ∧ MtD _ rAppend x xs _); refine ⟨_, _, rfl, _, rfl, rfl, m_append (szlt (by first | omega | (simp only [List.length_append, List.length_cons, List.length_nil]; omega))) ?_⟩)
  | ((with_reducible show ∃ n, _ = some [D.int n] ∧ -2 ^ 62 ≤ n ∧ n < 2 ^ 62 ∧ _); refine ⟨_, rfl, by omega, by omega, ?_⟩))
local macro_rules | `(tactic| walk_at "pw") => `(tactic| first
  | with_reducible refine ye_fldC (by assumption) ?_ | with_reducible refine ye_fldG (by assumption) ?_
  | ((with_reducible show ∃ x y, _ = some (ruleD _ x y) ∧ _); refine ⟨_, _, by with_unfolding_all exact rfl, ?_⟩)
  | ((with_reducible show w_unlike _ _); refine i_unlike (by assumption) (by first | omega | assumption) ?_)
  | ((with_reducible show w_check_fact _ _); refine i_check_fact (by assumption) ?_)
  | ((with_reducible show w_check_lot _ _ _); refine i_check_lot (by assumption) (by first | omega | assumption) ?_)
  | with_reducible refine ye_dnewT ?_)
def t_spread (K : PySem.W.Frag) : TS :=
  (tRet (tFld K (tMake (CSp K) (spI K (CSp K) (w_Spread K)) [] L2.E0 (tCons (tVar 0) (tCons (tVar 1) (tCons (tC .non) tNil)))) "found"))
def capsL : List (Str × Nat) := [("known", 3), ("fact", 2)]
def t_key (K : PySem.W.Frag) : TE := (tTup (tCons (tOp (rIx K) (tDGet (tVar 1) (tVar 0)) (tC (.int 0))) (tCons (tOp (rNeD K) (tVar 0) (tVar 2)) (tCons (tVar 0) tNil))))
def t_ledB (K : PySem.W.Frag) : TS :=
  (tSeq (tAsg (tBM0 K "list" rPop (tVar 4)) (gName 5))
  (tIfS (tTest (tOp rNotInK (tVar 5) (tVar 3)))
  (tSeq (sDPut (tVar 3) (tVar 5) (tDGet (tVar 1) (tVar 5)))
  (tSeq (tAsg (tOp (rIx K) (tDGet (tVar 1) (tVar 5)) (tC (.int 1))) (gTup K 2 (gCons (gName 6) (gCons (gName 7) gNil))))
  (tIfS (tTest (tOp (rEqD K) (tVar 6) (tC (.str "clause"))))
  (tDrop (tBM K "list" rExtendT (tVar 4) (tCons (tOp (rIx K) (tOp (rIx K) (tFld K (tVar 0) "clauses") (tVar 7)) (tC (.int 0))) tNil)))
  tNext)))
  tNext))
def t_led_from (K : PySem.W.Frag) (PL : Addr) : TS :=
  (tSeq (tAsg tDNewT (gName 3))
  (tSeq (tAsg (tLst (tCons (tVar 2) tNil)) (gName 4))
  (tSeq (tWhile (tTest (tOp rGtI (tCB (rLenU K) (tCons (tVar 4) tNil)) (tC (.int 0)))) (t_ledB K))
  (tRet (tSortL K (TL PL) 3 capsL (t_key K))))))
section
variable {K : PySem.W.Frag} {cs gs : List D} {is : List Int} {ks : List (List Key)} {xs : List D}
theorem pure_spread (T : TR K) : ∀ ds kk, w_spread K ds kk → XS K (t_spread K) (ini 2 ds) { nx := fun _ => kk (.d .non), rt := fun r _ => kk r } := by
  rintro _ kk ⟨cs, gs, is, rfl, hP, hL, g⟩
  show XS K (t_spread K) [.d (ruleD K (.tup cs) (.tup gs)), .d (lotD is)] (Fin kk)
  unfold t_spread
  refine ys_ret (ye_makeFld T.cS T.s3 (xa_cons (xe_var_d rfl (xa_cons (xe_var_d rfl (xa_cons (xe_non (xa_nil ?_))))))))
  exact ⟨_, rfl, _, rfl, fun a => ⟨cs, gs, is, none, rfl, hP, hL, fun p q ks xs ws hS => ⟨p, .dct ks xs, by with_unfolding_all exact rfl, g ks xs hS⟩⟩⟩
/-- while the reasons are gathered -/
structure Wk (cs : List D) (ks : List (List Key)) (xs : List D) (f : List Key) (kn : List (List Key)) (vs : List D) (wt : List (List Key)) : Prop where
  nd : kn.Nodup
  len : vs.length = kn.length
  sub : ∀ q ∈ kn, q ∈ ks
  val : ∀ q ∈ kn, dget kn vs q = dget ks xs q
  wsub : ∀ q ∈ wt, q ∈ ks
  mem : f ∈ kn ∨ f ∈ wt
  cl : ∀ q ∈ kn, ∀ i : Nat, toldOf ks xs q = .tup [.str "clause", .int (i : Int)] → ∀ b ∈ (clK (cs.getD i .non)).1, b ∈ kn ∨ b ∈ wt
  few : wt.length ≤ 1 + 4 * kn.length
theorem wk_start {f : List Key} (hf : f ∈ ks) : Wk cs ks xs f [] [] [f] := ⟨List.nodup_nil, rfl, fun q h => (nomatch h), fun q h => (nomatch h), fun q h => by rw [List.mem_singleton.mp h]; exact hf, .inr (List.mem_singleton.mpr rfl), fun q h => (nomatch h), by simp⟩
theorem Wk.skip {f q : List Key} {kn : List (List Key)} {vs : List D} {wt : List (List Key)} (h : Wk cs ks xs f kn vs (wt ++ [q])) (hq : q ∈ kn) : Wk cs ks xs f kn vs wt := by
  have out : ∀ b, b ∈ kn ∨ b ∈ wt ++ [q] → b ∈ kn ∨ b ∈ wt := fun b hb => hb.elim .inl fun z => (List.mem_append.mp z).elim .inr fun z => .inl (by rw [List.mem_singleton.mp z]; exact hq)
  exact ⟨h.nd, h.len, h.sub, h.val, fun b hb => h.wsub b (List.mem_append_left _ hb), out f h.mem, fun x hx i e b hb => out b (h.cl x hx i e b hb), by have := h.few; rw [List.length_append] at this; omega⟩
theorem dget_snoc : ∀ {kn : List (List Key)} {vs : List D} {q r : List Key} {y : D}, vs.length = kn.length → q ∉ kn → dget (kn ++ [q]) (vs ++ [y]) r = if r = q then some y else dget kn vs r
  | [], [], q, r, y, _, _ => by
    show (if q = r then some y else none) = _
    by_cases z : r = q
    · rw [if_pos z, if_pos z.symm]
    · rw [if_neg z, if_neg (Ne.symm z)]
      rfl
  | [], _ :: _, _, _, _, h, _ => by cases h
  | _ :: _, [], _, _, _, h, _ => by cases h
  | a :: kn, v :: vs, q, r, y, h, n => by
    show (if a = r then some v else dget (kn ++ [q]) (vs ++ [y]) r) = _
    rw [dget_snoc (Nat.succ.inj h) fun z => n (List.mem_cons_of_mem _ z)]
    show _ = if r = q then some y else (if a = r then some v else dget kn vs r)
    by_cases z : a = r
    · rw [if_pos z, if_pos z, if_neg fun e => n (by rw [z, e]; exact List.mem_cons_self ..)]
    · rw [if_neg z, if_neg z]
theorem Wk.put {f q : List Key} {kn : List (List Key)} {vs : List D} {wt : List (List Key)} {body : List (List Key)} {y : D} (h : Wk cs ks xs f kn vs (wt ++ [q])) (hq : q ∉ kn) (hy : dget ks xs q = some y) (hb : ∀ b ∈ body, b ∈ ks) (hl : body.length ≤ 4)
    (ht : ∀ i : Nat, toldOf ks xs q = .tup [.str "clause", .int (i : Int)] → ∀ b ∈ (clK (cs.getD i .non)).1, b ∈ body) : Wk cs ks xs f (kn ++ [q]) (vs ++ [y]) (wt ++ body) := by
  have hqk := h.wsub q (List.mem_append_right _ (List.mem_singleton.mpr rfl))
  have out : ∀ b, b ∈ kn ∨ b ∈ wt ++ [q] → b ∈ kn ++ [q] ∨ b ∈ wt ++ body := fun b hb => hb.elim (fun z => .inl (List.mem_append_left _ z)) fun z => (List.mem_append.mp z).elim (fun z => .inr (List.mem_append_left _ z)) fun z => .inl (List.mem_append_right _ z)
  refine ⟨List.nodup_append.mpr ⟨h.nd, by simp, fun a ha b hb z => hq (by rw [← List.mem_singleton.mp hb, ← z]; exact ha)⟩, by rw [List.length_append, List.length_append, h.len]; rfl, fun x hx => ?_, fun x hx => ?_, fun x hx => ?_, out f h.mem, fun x hx i e b hbm => ?_, ?_⟩
  · exact (List.mem_append.mp hx).elim (h.sub x) fun z => by rw [List.mem_singleton.mp z]; exact hqk
  · rw [dget_snoc h.len hq]
    by_cases z : x = q
    · rw [if_pos z, z, hy]
    · rw [if_neg z]
      exact h.val x ((List.mem_append.mp hx).elim id fun y => absurd (List.mem_singleton.mp y) z)
  · exact (List.mem_append.mp hx).elim (fun z => h.wsub x (List.mem_append_left _ z)) (hb x)
  · rcases List.mem_append.mp hx with z | z
    · exact out b (h.cl x z i e b hbm)
    · rw [List.mem_singleton.mp z] at e
      exact .inr (List.mem_append_right _ (ht i e b hbm))
  · have := h.few
    rw [List.length_append, List.length_singleton] at this
    rw [List.length_append, List.length_append, List.length_singleton]
    omega
abbrev rhoL (K : PySem.W.Frag) (PL : Addr) (v : V) (x : D) (ks : List (List Key)) (xs : List D) (f : List Key) (kn : List (List Key)) (vs : List D) (wt : List (List Key)) (e5 e6 e7 : Ent) : List Ent :=
  [tabE K (TL PL) v x, .d (.dct ks xs), .d (keyD f), .own (.dct kn vs), .own (.lst (wt.map keyD)), e5, e6, e7]
section
variable {K : PySem.W.Frag} {ρ : List Ent} {k : PW.KE} {i : Nat} {x : D} {v : V} {T : List (Addr × Str)}
theorem ye_varT (h : ρ[i]? = some (tabE K T v x)) (g : k (.d x) ρ) : PW.XE K (tVar i) ρ k := PW.xe_varT h g
end
local macro_rules | `(tactic| walk_at "pw") => `(tactic| first
  | with_reducible refine ye_varT (T := TL _) rfl ?_)
theorem o_eqSt {a b : Str} {kk : Res → Prop} (ha : PyData.strOk a = true) (hb : PyData.strOk b = true) (g : kk (.d (.bl (decide (a = b))))) : OpD K (rEqD K) (.str a) (.str b) kk := PW.o_eq (x := .str a) (y := .str b) (by simp [D.sh, D.pln, D.py, SeqAt.shaped, PyData.canLay0, PyData.depth, ha]) (by simp [D.sh, D.pln, D.py, SeqAt.shaped, PyData.canLay0, PyData.depth, hb]) (by rw [eqv_str]; exact g)
theorem led_step {Φ : Post} {PL : Addr} {v : V} {f q : List Key} {kn : List (List Key)} {vs : List D} {wt : List (List Key)} {e5 e6 e7 : Ent} (T : TR K) (hP : Parts cs gs) (hS : Spr cs gs is none ks xs) (h : Wk cs ks xs f kn vs (wt ++ [q]))
    (g : ∀ kn' vs' wt' e5 e6 e7, Wk cs ks xs f kn' vs' wt' → 5 * (ks.length - kn'.length) + wt'.length < 5 * (ks.length - kn.length) + (wt.length + 1) → Φ.nx (rhoL K PL v (ruleD K (.tup cs) (.tup gs)) ks xs f kn' vs' wt' e5 e6 e7)) :
    XS K (t_ledB K) (rhoL K PL v (ruleD K (.tup cs) (.tup gs)) ks xs f kn vs (wt ++ [q]) e5 e6 e7) Φ := by
  have kl : kn.length ≤ 100 := Nat.le_trans (nodup_len kn ks h.nd h.sub) hS.few
  have wl := h.few
  have hqk := h.wsub q (List.mem_append_right _ (List.mem_singleton.mpr rfl))
  obtain ⟨n, t, ed, et, _, _, _, rt⟩ := hS.at hqk
  unfold t_ledB
  walk_at "pws"
  have hpop : ((wt ++ [q]).map keyD)[((wt ++ [q]).map keyD).length - 1]? = some (keyD q) := by simp
  have htk : ((wt ++ [q]).map keyD).take (((wt ++ [q]).map keyD).length - 1) = wt.map keyD := by simp
  refine m_pop hpop ?_
  rw [htk]
  refine ⟨rhoL K PL v (ruleD K (.tup cs) (.tup gs)) ks xs f kn vs wt e5 e6 e7, rfl, rhoL K PL v (ruleD K (.tup cs) (.tup gs)) ks xs f kn vs wt (.d (keyD q)) e6 e7, rfl, ?_⟩
  walk_at "pws"
  refine o_notInK ⟨_, rfl, fun hb => ?_, fun hb => ?_⟩
  · have hq : q ∉ kn := fun z => by
      rw [(dget_some h.len).mpr z] at hb
      cases hb
    have ek : dputK kn q = kn ++ [q] := by
      unfold dputK
      rw [if_neg fun z => by
        obtain ⟨a, ha, e⟩ := List.any_eq_true.mp z
        exact hq (by rw [← of_decide_eq_true e]; exact ha)]
    have ev : dputX kn vs q (.tup [.int (n : Int), t]) = vs ++ [.tup [.int (n : Int), t]] := dputX_new h.len hq
    refine xs_seq (ys_dput (xe_dget (xe_var_d rfl (xe_var_d rfl ⟨ks, xs, q, _, rfl, rfl, ed, _, rfl, _, rfl, _, rfl, xe_var_d rfl ⟨q, kn, vs, rfl, rfl, h.nd, by omega, rhoL K PL v (ruleD K (.tup cs) (.tup gs)) ks xs f (kn ++ [q]) (vs ++ [.tup [.int (n : Int), t]]) wt (.d (keyD q)) e6 e7, by rw [ek, ev]; rfl, ?_⟩⟩))))
    have lt : ∀ b : List (List Key), b.length ≤ 4 → 5 * (ks.length - (kn ++ [q]).length) + (wt ++ b).length < 5 * (ks.length - kn.length) + (wt.length + 1) := fun b hb => by
      have q1 : (kn ++ [q]).length ≤ ks.length := nodup_len (kn ++ [q]) ks (List.nodup_append.mpr ⟨h.nd, by simp, fun a ha b hb z => hq (by rw [← List.mem_singleton.mp hb, ← z]; exact ha)⟩) fun x hx => (List.mem_append.mp hx).elim (h.sub x) fun z => by rw [List.mem_singleton.mp z]; exact hqk
      rw [List.length_append, List.length_singleton] at q1 ⊢
      rw [List.length_append]
      omega
    rcases rt with ⟨i, et2, _⟩ | ⟨i, m, c, et2, _, hc, hh, en, hbm⟩
    · subst et2
      refine xs_seq (ys_asgG (xe_op (xe_dget (xe_var_d rfl (xe_var_d rfl ⟨ks, xs, q, _, rfl, rfl, ed, xe_int ?_⟩)))))
      walk_at "pws"
      refine o_eqSt (by decide +kernel) (by decide +kernel) ⟨_, rfl, fun z => absurd z (by decide), fun _ => xs_next ?_⟩
      have p := h.put (body := []) hq ed (fun b hb => (nomatch hb)) (Nat.zero_le _) fun i' e => by
        rw [et] at e
        exact absurd (show ("ground" : Str) = "clause" by injection e with q1; injection q1 with q1; injection q1) (by decide)
      have l0 := lt [] (Nat.zero_le _)
      rw [List.append_nil] at p l0
      exact g _ _ wt _ _ _ p l0
    · subst et2
      obtain ⟨bd, head, ec, b4, hbf, hh2⟩ := isClause_form (hP.cl c (List.mem_of_getElem? hc))
      have few := hP.few
      have il := (List.getElem?_eq_some_iff.mp hc).1
      have ebd : (clK c).1 = bd.map keyF := by rw [ec]; rfl
      have hbd : ((clK c).1).map keyD = bd := by
        rw [ebd, List.map_map]
        exact (List.map_congr_left fun x hx => (fact_key (hbf x hx)).symm).trans (List.map_id _)
      have p := h.put (body := (clK c).1) hq ed (fun b hb => (hS.mem b).mpr (rnd_hold (hbm b hb))) (by rw [ebd, List.length_map]; exact b4) fun i' e b hb => by
        rw [et] at e
        have ik : (i : Int) = (i' : Int) := by
          injection e with q1
          injection q1 with _ q1
          injection q1 with q1
          injection q1
        have ik := Int.ofNat.inj ik
        subst ik
        rw [List.getD_eq_getElem?_getD, hc] at hb
        exact hb
      have l0 := lt (clK c).1 (by rw [ebd, List.length_map]; exact b4)
      have wl2 : wt.length ≤ 401 := by rw [List.length_append] at wl; omega
      refine xs_seq (ys_asgG (xe_op (xe_dget (xe_var_d rfl (xe_var_d rfl ⟨ks, xs, q, _, rfl, rfl, ed, xe_int ?_⟩)))))
      walk_at "pws"
      refine o_eqSt (by decide +kernel) (by decide +kernel) ⟨_, rfl, fun _ => xs_drop (ye_meth rfl (fun _ _ _ h => ty_list h) (xa_cons ?_)), fun z => absurd z (by decide)⟩
      walk_at "pws"
      refine o_ixAnyT (by omega) (by omega) ?_
      intro d hd
      rw [Int.toNat_natCast, hc, ec] at hd
      cases hd
      walk_at "pws"
      refine ⟨_, _, rfl, _, rfl, rfl, m_extendT (szl (by rw [List.length_map]; omega)) ⟨rhoL K PL v (ruleD K (.tup cs) (.tup gs)) ks xs f (kn ++ [q]) (vs ++ [.tup [.int (n : Int), .tup [.str "clause", .int (i : Int)]]]) (wt ++ (clK c).1) (.d (keyD q)) (.d (.str "clause")) (.d (.int (i : Int))), ?_, ?_⟩⟩
      · have e : (wt ++ (clK c).1).map keyD = wt.map keyD ++ bd := by rw [List.map_append, hbd]
        unfold rhoL
        rw [e]
        rfl
      · exact g _ _ _ _ _ _ p l0
  · have hq : q ∈ kn := (dget_some h.len).mp (by cases z : (dget kn vs q).isSome with | true => rfl | false => rw [z] at hb; cases hb)
    exact xs_next (g kn vs wt _ _ _ (h.skip hq) (by omega))
/-- what holds is a fact -/
theorem hold_fact {w : Option Nat} {q : List Key} (hP : Parts cs gs) (h : HoldL cs gs is w q) : ∃ d, isFact d = true ∧ q = keyF d := by
  induction h with
  | base h =>
    obtain ⟨i, _, fs, hg, hq⟩ := h
    obtain ⟨d, hd, e⟩ := List.mem_map.mp hq
    have g := hP.gr _ (List.mem_of_getElem? hg)
    obtain ⟨fs', e2, _, h3⟩ := isGround_form g
    cases e2
    exact ⟨d, h3 d hd, e.symm⟩
  | @step i body head h _ _ _ =>
    rw [List.getElem?_map] at h
    cases hc : cs[i]? with
    | none => rw [hc] at h; cases h
    | some c =>
      rw [hc] at h
      obtain ⟨bd, hd, rfl, _, _, hh⟩ := isClause_form (hP.cl c (List.mem_of_getElem? hc))
      have e := Option.some.inj h
      exact ⟨hd, hh, by rw [← show keyF hd = head from congrArg Prod.snd e]⟩
def fkL (ks : List (List Key)) (xs : List D) (f q : List Key) : D := .tup [.int (rndOf ks xs q : Nat), .bl (!PyData.eqv (keyD q).py (keyD f).py), keyD q]
theorem fact_py {d : D} (h : isFact d = true) : ∃ (s : Str) (r : List Int), (keyD (keyF d)).py = .tuple (.str s :: r.map .int) := by
  obtain ⟨s, ys, rfl, _, _, _, _, h5⟩ := isFact_form h
  rw [← fact_key h]
  have : ∀ ys : List D, (∀ y ∈ ys, ∃ i : Int, y = .int i ∧ 0 ≤ i ∧ i ≤ 999999999999) → ∃ r : List Int, D.pyL ys = r.map .int := fun ys => by
    induction ys with
    | nil => exact fun _ => ⟨[], rfl⟩
    | cons y ys ih =>
      intro h
      obtain ⟨r, e⟩ := ih fun z hz => h z (List.mem_cons_of_mem _ hz)
      obtain ⟨i, rfl, _⟩ := h y (List.mem_cons_self ..)
      exact ⟨i :: r, by show PyData.int i :: D.pyL ys = _; rw [e]; rfl⟩
  obtain ⟨r, e⟩ := this ys h5
  exact ⟨s, r, by show PyData.tuple (.str s :: D.pyL ys) = _; rw [e]⟩
theorem alike_ints : ∀ a b : List Int, PySem.W.alikeAll (a.map .int) (b.map .int) = true
  | [], b => by simp [PySem.W.alikeAll]
  | x :: a, [] => by simp [PySem.W.alikeAll]
  | x :: a, y :: b => by
    show PySem.W.alikeAll (.int x :: a.map .int) (.int y :: b.map .int) = true
    rw [PySem.W.alikeAll, alike_ints a b]
    simp [PySem.W.alike]
theorem depth_ints : ∀ a : List Int, PyData.depthAll (a.map .int) = 0
  | [] => by simp [PyData.depthAll]
  | x :: a => by
    show PyData.depthAll (.int x :: a.map .int) = 0
    simp [PyData.depthAll, PyData.depth, depth_ints a]
theorem byKeyL {f : List Key} {kn : List (List Key)} (hk : ∀ q ∈ kn, ∃ d, isFact d = true ∧ q = keyF d) : ByKey kn (fkL ks xs f) := by
  have py : ∀ q, (fkL ks xs f q).py = .tuple [.int (rndOf ks xs q : Nat), .bool (!PyData.eqv (keyD q).py (keyD f).py), (keyD q).py] := fun q => rfl
  refine ⟨fun q hq => ?_, fun a ha b hb => ?_, .inl fun d hd => ?_⟩
  · obtain ⟨d, hd, rfl⟩ := hk q hq
    obtain ⟨s, r, e⟩ := fact_py hd
    refine ⟨?_, ?_⟩
    · show (true && (true && (D.pln (keyD (keyF d)) && true))) = true
      rw [show D.pln (keyD (keyF d)) = true by rw [← fact_key hd]; exact (fact_sh hd).1]
      rfl
    · rw [py, e]
      simp [PyData.depth, PyData.depthAll, depth_ints]
  · obtain ⟨q, hq, rfl⟩ := List.mem_map.mp ha
    obtain ⟨q', hq', rfl⟩ := List.mem_map.mp hb
    obtain ⟨d, hd, rfl⟩ := hk q hq
    obtain ⟨d', hd', rfl⟩ := hk q' hq'
    obtain ⟨s, r, e⟩ := fact_py hd
    obtain ⟨s', r', e'⟩ := fact_py hd'
    show PySem.W.alike (fkL ks xs f (keyF d)).py (fkL ks xs f (keyF d')).py = true
    rw [py, py, e, e']
    simp [PySem.W.alike, PySem.W.alikeAll, alike_ints]
  · obtain ⟨q, hq, rfl⟩ := List.mem_map.mp hd
    exact ⟨_, _, py q⟩
end

end LawK54
end
section
namespace LawK54
open PySem PySem.Spec PyProof.Rows L2 C8 PW
local macro_rules | `(tactic| walk_at "jn") => `(tactic| first | exact fact_jn (by assumption) | exact clause_jn (by assumption) | exact ground_jn (by assumption))
local macro_rules | `(tactic| walk_at "pw") => `(tactic| first
  | ((with_reducible show w_is_integer _ _); with_reducible refine i_is_integer (by walk_at "bi") ?_) | ((with_reducible show w_is_within _ _); with_reducible refine i_is_within (by walk_at "bi") ?_) | ((with_reducible show w_is_tuple_of _ _); with_reducible refine i_is_tuple_of (by walk_at "bi") ?_)
  | ((with_reducible show w_law_is_number _ _); with_reducible refine i_law_is_number (by walk_at "bi") ?_)
  | ((with_reducible show w_fact _ _); with_reducible refine i_fact (by walk_at "jn") ?_)
  | ((with_reducible show w_is_clause _ _); with_reducible refine i_is_clause (by walk_at "jn") ?_)
  | ((with_reducible show w_is_ground _ _); with_reducible refine i_is_ground (by walk_at "jn") ?_)
  | ((with_reducible show w_law_draw _ _); refine i_law_draw (by first | omega | decide) (by first | omega | decide) ?_; intro r h0 h1)
  | with_reducible refine xe_any (by with_unfolding_all exact rfl) ?_
  | ((with_reducible show ∃ x ds, _ = some x ∧ itemsD x = some ds ∧ ds ≠ [] ∧ ds.length < 1073741824 ∧ _); refine ex_any (by with_unfolding_all exact rfl) (by with_unfolding_all exact rfl) (by first | assumption | (intro z; cases z; done) | exact List.append_ne_nil_of_right_ne_nil _ (List.cons_ne_nil _ _)) (by first | omega | (simp only [List.length_append, List.length_cons, List.length_nil]; omega) | decide) ?_; intro d hd)
  | ((with_reducible show w_law_fact _ _); refine i_law_fact ?_; intro f hf)
  | ((with_reducible show w_law_nested _ _); refine i_law_nested ?_; intro f hf; have hfj := hf.1))
local macro_rules | `(tactic| walk_at "sz") => `(tactic| first | (rw [rngD_len]; refine szl ?_; omega))
local macro_rules | `(tactic| walk_at "pw") => `(tactic| first
  | ((with_reducible show ∃ xs x, _ = some xs ∧ ∃ ρ2, _ = ρ2 ∧ ρ2[_]? = some (Ent.own x) ∧ MtD _ rAppend x xs _); refine ⟨_, _, rfl, _, rfl, rfl, m_append (szlt (by first | omega | (simp only [List.length_append, List.length_cons, List.length_nil]; omega))) ?_⟩)
  | ((with_reducible show ∃ n, _ = some [D.int n] ∧ -2 ^ 62 ≤ n ∧ n < 2 ^ 62 ∧ _); refine ⟨_, rfl, by omega, by omega, ?_⟩))
local macro_rules | `(tactic| walk_at "pw") => `(tactic| first
  | with_reducible refine ye_fldC (by assumption) ?_ | with_reducible refine ye_fldG (by assumption) ?_
  | ((with_reducible show ∃ x y, _ = some (ruleD _ x y) ∧ _); refine ⟨_, _, by with_unfolding_all exact rfl, ?_⟩)
  | ((with_reducible show w_unlike _ _); refine i_unlike (by assumption) (by first | omega | assumption) ?_)
  | ((with_reducible show w_check_fact _ _); refine i_check_fact (by assumption) ?_)
  | ((with_reducible show w_check_lot _ _ _); refine i_check_lot (by assumption) (by first | omega | assumption) ?_)
  | with_reducible refine ye_dnewT ?_)
section
variable {K : PySem.W.Frag} {ρ : List Ent} {k : PW.KE} {i : Nat} {x : D} {v : V} {T : List (Addr × Str)}
theorem ye_varT2 (h : ρ[i]? = some (tabE K T v x)) (g : k (.d x) ρ) : PW.XE K (tVar i) ρ k := PW.xe_varT h g
end
local macro_rules | `(tactic| walk_at "pw") => `(tactic| first
  | with_reducible refine ye_varT2 (T := TL _) rfl ?_)
def t_reasons (K : PySem.W.Frag) (PL : Addr) : TS :=
  (tSeq (tDrop (tCall (spW K (w_check_lot K)) [] L2.E0 (tCons (tVar 0) (tCons (tVar 1) tNil))))
  (tSeq (tDrop (tCall (spW K w_check_fact) [] L2.E0 (tCons (tVar 2) tNil)))
  (tSeq (tAsg (tCall (spW K (w_spread K)) [] L2.E0 (tCons (tVar 0) (tCons (tVar 1) tNil))) (gName 3))
  (tSeq (tIfS (tTest (tOp rNotInK (tVar 2) (tVar 3)))
  (tRet (tC .non))
  tNext)
  (tRet (tCB (rTupU K) (tCons (tLc (iSeqU K (tCall (spT K (TL PL) (w_led_from K)) [] L2.E0 (tCons (tVar 0) (tCons (tVar 3) (tCons (tVar 2) tNil))))) (gName 4) tYes (tTup (tCons (tVar 4) (tCons (tOp (rIx K) (tDGet (tVar 3) (tVar 4)) (tC (.int 1))) tNil))) [4]) tNil)))))))
def t_needed (K : PySem.W.Frag) (PL : Addr) : TS :=
  (tSeq (tAsg (tCall (spT K (TL PL) (w_reasons K)) [] L2.E0 (tCons (tVar 0) (tCons (tVar 1) (tCons (tVar 2) tNil)))) (gName 3))
  (tSeq (tIfS (tTest (tOp rIsNo (tVar 3) (tC .non)))
  (tRet (tTup tNil))
  tNext)
  (tSeq (tAsg (tCB (rSortedI K) (tCons (tLc (iSeqU K (tVar 3)) (gTup K 2 (gCons (gName 5) (gCons (gTup K 2 (gCons (gName 6) (gCons (gName 7) gNil))) gNil))) (tTest (tOp (rEqD K) (tVar 6) (tC (.str "clause")))) (tVar 7) [5, 6, 7]) tNil)) (gName 4))
  (tRet (tCB (rTupU K) (tCons (tLc (iSeqU K (tVar 4)) (gName 7) (tTest (tOp rNotInK (tVar 2) (tFld K (tMake (CSp K) (spI K (CSp K) (w_Spread K)) [] L2.E0 (tCons (tVar 0) (tCons (tVar 1) (tCons (tVar 7) tNil)))) "found"))) (tVar 7) [7]) tNil))))))
section
variable {K : PySem.W.Frag} {cs gs : List D} {is : List Int} {ks : List (List Key)} {xs : List D}
theorem pure_led_from (T : TR K) {PL : Addr} {v : V} : ∀ x ds kk, w_led_from K (x :: ds) kk → XS K (t_led_from K PL) (tabE K (TL PL) v x :: ini 7 ds) (FinT K (TL PL) v x kk) := by
  rintro x ds kk ⟨cs, gs, is, ks, xs, f, e, hP, hL, hS, hf, g⟩
  cases e
  show XS K _ [tabE K (TL PL) v (ruleD K (.tup cs) (.tup gs)), .d (.dct ks xs), .d (keyD f), .u, .u, .u, .u, .u] _
  unfold t_led_from
  refine xs_seq (ys_asg (ye_dnewT ⟨[tabE K (TL PL) v (ruleD K (.tup cs) (.tup gs)), .d (.dct ks xs), .d (keyD f), .own (.dct [] []), .u, .u, .u, .u], rfl, ?_⟩))
  refine xs_seq (ys_asg (ye_lst (xa_cons (xe_var_d rfl (xa_nil ⟨[keyD f], rfl, szl (by simp), _, rfl, rhoL K PL v (ruleD K (.tup cs) (.tup gs)) ks xs f [] [] [f] .u .u .u, rfl, ?_⟩)))))
  refine xs_seq (xs_while (fun m ρ => ∃ kn vs wt e5 e6 e7, ρ = rhoL K PL v (ruleD K (.tup cs) (.tup gs)) ks xs f kn vs wt e5 e6 e7 ∧ Wk cs ks xs f kn vs wt ∧ m = 5 * (ks.length - kn.length) + wt.length) _ ⟨[], [], [f], .u, .u, .u, rfl, wk_start hf, rfl⟩ ?_)
  rintro m ρ' ⟨kn, vs, wt, e5, e6, e7, rfl, hW, rfl⟩
  have kl : kn.length ≤ 100 := Nat.le_trans (nodup_len kn ks hW.nd hW.sub) hS.few
  have wl := hW.few
  walk_at "pws"
  · rename_i hpos
    obtain ⟨w0, q, rfl⟩ : ∃ w0 q, wt = w0 ++ [q] := by
      have hne : wt ≠ [] := fun z => by
        rw [z] at hpos
        simp at hpos
      exact ⟨wt.dropLast, wt.getLast hne, (List.dropLast_concat_getLast hne).symm⟩
    exact led_step T hP hS hW fun kn' vs' wt' e5 e6 e7 hW' lt => ⟨_, by rw [List.length_append]; exact lt, kn', vs', wt', e5, e6, e7, rfl, hW', rfl⟩
  · rename_i hpos
    have hw : wt = [] := by
      cases wt with
      | nil => rfl
      | cons a r => exact absurd (by simp) hpos
    subst hw
    have hk : ∀ q ∈ kn, ∃ d, isFact d = true ∧ q = keyF d := fun q hq => hold_fact hP ((hS.mem q).mp (hW.sub q hq))
    have ffact : ∃ d, isFact d = true ∧ f = keyF d := hold_fact hP ((hS.mem f).mp hf)
    have pm := List.mergeSort_perm kn (PySem.W.dataLe false fun q => (fkL ks xs f q).py)
    refine xe_sortL (fk := fkL ks xs f) (j := 0) (dc := [.dct kn vs, keyD f]) rfl rfl (byKeyL hk) rfl (fun n p y h1 h2 => ?_) (fun q hq => ?_) ⟨rfl, .inr ⟨_, rfl, g _ ⟨pm.nodup_iff.mpr hW.nd, fun q hq => hW.sub q (pm.mem_iff.mp hq), pm.mem_iff.mpr (hW.mem.elim id fun z => nomatch z), fun q hq i e b hb => pm.mem_iff.mpr ((hW.cl q (pm.mem_iff.mp hq) i e b hb).elim id fun z => nomatch z)⟩⟩⟩
    · match n, h1, h2 with
      | 0, h1, h2 => cases h1; cases h2; rfl
      | 1, h1, h2 => cases h1; cases h2; rfl
      | n + 2, h1, h2 => cases h1
    · obtain ⟨d, hd, eq⟩ := hk q hq
      obtain ⟨d', hd', ef⟩ := ffact
      obtain ⟨n, t, ed, _, er, _⟩ := hS.at (hW.sub q hq)
      rw [← hW.val q hq] at ed
      have sq : (keyD q).sh = true := by rw [eq, ← fact_key hd]; exact (fact_sh hd).sh (by decide)
      have sf : (keyD f).sh = true := by rw [ef, ← fact_key hd']; exact (fact_sh hd').sh (by decide)
      show PW.XE K (t_key K) [.d (keyD q), .d (.dct kn vs), .d (keyD f)] _
      unfold t_key
      refine xe_tup (xa_cons (xe_op (xe_dget (xe_var_d rfl (xe_var_d rfl ⟨kn, vs, q, _, rfl, rfl, ed, xe_int ?_⟩)))))
      walk_at "pws"
      refine o_ne sq sf ?_
      walk_at "pws"
      unfold fkL
      rw [er]
theorem pure_reasons (T : TR K) {PL : Addr} {v : V} : ∀ x ds kk, w_reasons K (x :: ds) kk → XS K (t_reasons K PL) (tabE K (TL PL) v x :: ini 4 ds) (FinT K (TL PL) v x kk) := by
  rintro x ds kk ⟨cs, gs, is, f, e, hP, hL, hf, g0, g⟩
  cases e
  have fewG := hP.fewG
  show XS K _ [tabE K (TL PL) v (ruleD K (.tup cs) (.tup gs)), .d (lotD is), .d f, .u, .u] _
  have ef := fact_key hf
  generalize hq : keyF f = q at ef g0 g
  subst ef
  unfold t_reasons
  walk_at "pws"
  refine ⟨cs, gs, is, rfl, hP, hL, fun ks xs hS => ⟨[tabE K (TL PL) v (ruleD K (.tup cs) (.tup gs)), .d (lotD is), .d (keyD q), .own (.dct ks xs), .u], rfl, ?_⟩⟩
  walk_at "pws"
  refine o_notInK ⟨_, rfl, fun hb => ?_, fun hb => ?_⟩
  · have hn : q ∉ ks := fun z => by
      rw [(dget_some hS.len).mpr z] at hb
      cases hb
    refine ys_ret (xe_non ?_)
    exact ⟨rfl, .inl ⟨_, rfl, g0 fun z => hn ((hS.mem q).mpr z)⟩⟩
  · have hk : q ∈ ks := (dget_some hS.len).mp (by cases z : (dget ks xs q).isSome with | true => rfl | false => rw [z] at hb; cases hb)
    refine xs_next ?_
    refine ys_ret (xe_cb (xa_cons (ye_lcm (vs := [4]) (fun d => match d with | .tup ys => .tup [d, toldOf ks xs (ys.map unO)] | _ => .non) own_name wipe1 ?_)))
    refine yi_seqU (xe_callT (j := 0) (x := ruleD K (.tup cs) (.tup gs)) (v := v) (xa_cons (ye_varT2 (T := TL PL) rfl (xa_cons (xe_var_o rfl (xa_cons (xe_var_d rfl (xa_nil ⟨_, rfl, _, rfl, rfl, cs, gs, is, ks, xs, q, rfl, hP, hL, hS, hk, fun L hLd => ?_⟩))))))))
    walk_at "pws"
    have Ll : L.length ≤ 100 := Nat.le_trans (nodup_len L ks hLd.nd hLd.sub) hS.few
    have em : (L.map keyD).map (fun d => match d with | .tup ys => .tup [d, toldOf ks xs (ys.map unO)] | _ => .non) = L.map (pairT ks xs) := by
      rw [List.map_map]
      refine List.map_congr_left fun a _ => ?_
      show D.tup [keyD a, toldOf ks xs ((a.map keyO).map unO)] = _
      rw [unO_keyO]
    refine ⟨szl (by rw [List.length_map]; omega), _, rfl, fun d hd => ?_, ?_⟩
    · obtain ⟨q', hq', rfl⟩ := List.mem_map.mp hd
      obtain ⟨n, t, ed, et, _⟩ := hS.at (hLd.sub q' hq')
      refine yg_name ⟨[tabE K (TL PL) v (ruleD K (.tup cs) (.tup gs)), .d (lotD is), .d (keyD q), .d (.dct ks xs), .d (keyD q')], rfl, rfl, ?_⟩
      refine xe_tup (xa_cons (xe_var_d rfl (xa_cons (xe_op (xe_dget (xe_var_d rfl (xe_var_d rfl ⟨ks, xs, q', _, rfl, rfl, ed, xe_int ?_⟩)))))))
      walk_at "pws"
      show _ = D.tup [keyD q', toldOf ks xs ((q'.map keyO).map unO)]
      rw [unO_keyO, et]
    · rw [em]
      walk_at "pws"
      exact ⟨rfl, .inl ⟨_, rfl, g ks xs L hS hLd⟩⟩
end

end LawK54
end
section
namespace LawK54
open PySem PySem.Spec PyProof.Rows L2 C8 PW
local macro_rules | `(tactic| walk_at "jn") => `(tactic| first | exact fact_jn (by assumption) | exact clause_jn (by assumption) | exact ground_jn (by assumption))
local macro_rules | `(tactic| walk_at "pw") => `(tactic| first
  | ((with_reducible show w_is_integer _ _); with_reducible refine i_is_integer (by walk_at "bi") ?_) | ((with_reducible show w_is_within _ _); with_reducible refine i_is_within (by walk_at "bi") ?_) | ((with_reducible show w_is_tuple_of _ _); with_reducible refine i_is_tuple_of (by walk_at "bi") ?_)
  | ((with_reducible show w_law_is_number _ _); with_reducible refine i_law_is_number (by walk_at "bi") ?_)
  | ((with_reducible show w_fact _ _); with_reducible refine i_fact (by walk_at "jn") ?_)
  | ((with_reducible show w_is_clause _ _); with_reducible refine i_is_clause (by walk_at "jn") ?_)
  | ((with_reducible show w_is_ground _ _); with_reducible refine i_is_ground (by walk_at "jn") ?_)
  | ((with_reducible show w_law_draw _ _); refine i_law_draw (by first | omega | decide) (by first | omega | decide) ?_; intro r h0 h1)
  | with_reducible refine xe_any (by with_unfolding_all exact rfl) ?_
  | ((with_reducible show ∃ x ds, _ = some x ∧ itemsD x = some ds ∧ ds ≠ [] ∧ ds.length < 1073741824 ∧ _); refine ex_any (by with_unfolding_all exact rfl) (by with_unfolding_all exact rfl) (by first | assumption | (intro z; cases z; done) | exact List.append_ne_nil_of_right_ne_nil _ (List.cons_ne_nil _ _)) (by first | omega | (simp only [List.length_append, List.length_cons, List.length_nil]; omega) | decide) ?_; intro d hd)
  | ((with_reducible show w_law_fact _ _); refine i_law_fact ?_; intro f hf)
  | ((with_reducible show w_law_nested _ _); refine i_law_nested ?_; intro f hf; have hfj := hf.1))
local macro_rules | `(tactic| walk_at "sz") => `(tactic| first | (rw [rngD_len]; refine szl ?_; omega))
local macro_rules | `(tactic| walk_at "pw") => `(tactic| first
  | ((with_reducible show ∃ xs x, _ = some xs ∧ ∃ ρ2, _ = ρ2 ∧ ρ2[_]? = some (Ent.own x) ∧ MtD _ rAppend x xs _); refine ⟨_, _, rfl, _, rfl, rfl, m_append (szlt (by first | omega | (simp only [List.length_append, List.length_cons, List.length_nil]; omega))) ?_⟩)
  | ((with_reducible show ∃ n, _ = some [D.int n] ∧ -2 ^ 62 ≤ n ∧ n < 2 ^ 62 ∧ _); refine ⟨_, rfl, by omega, by omega, ?_⟩))
local macro_rules | `(tactic| walk_at "pw") => `(tactic| first
  | with_reducible refine ye_fldC (by assumption) ?_ | with_reducible refine ye_fldG (by assumption) ?_
  | ((with_reducible show ∃ x y, _ = some (ruleD _ x y) ∧ _); refine ⟨_, _, by with_unfolding_all exact rfl, ?_⟩)
  | ((with_reducible show w_unlike _ _); refine i_unlike (by assumption) (by first | omega | assumption) ?_)
  | ((with_reducible show w_check_fact _ _); refine i_check_fact (by assumption) ?_)
  | ((with_reducible show w_check_lot _ _ _); refine i_check_lot (by assumption) (by first | omega | assumption) ?_)
  | with_reducible refine ye_dnewT ?_)
section
variable {K : PySem.W.Frag} {ρ : List Ent} {k : PW.KE} {i : Nat} {x : D} {v : V} {T : List (Addr × Str)}
theorem ye_varT3 (h : ρ[i]? = some (tabE K T v x)) (g : k (.d x) ρ) : PW.XE K (tVar i) ρ k := PW.xe_varT h g
/-- sorted of ints -/
theorem c_sortedI {ns : List Int} {kk : Res → Prop} (g : ∀ us : List Int, us.Perm ns → us.Pairwise (· ≤ ·) → kk (.nw (.lst (us.map D.int)))) : CaD K (rSortedI K) [.lst (ns.map D.int)] kk := fun M H us Q tr hl h fin => by
  match us, hl with
  | [u], _ =>
    have hs : ∃ a, u = .ref a ∧ SqL K H a (ns.map V.int) := by
      rcases h 0 u _ rfl rfl with hd | ⟨p, rfl, _, ho⟩
      · obtain ⟨a, vs, rfl, c, d⟩ := hd
        rw [ints_inv d] at c
        exact ⟨a, rfl, c.sq⟩
      · obtain ⟨vs, h1, d⟩ := ho
        rw [ints_inv d] at h1
        exact ⟨p, rfl, SqL.of h1⟩
    obtain ⟨a, rfl, sq⟩ := hs
    exact ⟨a, ns, rfl, sq, fun us p pm ho hp => fin _ _ (.nw (.lst _)) (Ext.new hp) (newL DaAll.ints hp) (g us pm ho)⟩
end
local macro_rules | `(tactic| walk_at "pw") => `(tactic| first
  | with_reducible refine ye_varT3 (T := TL _) rfl ?_
  | with_reducible refine ye_makeFld (C := CSp _) (TR.cS (by assumption)) (TR.s3 (by assumption)) ?_)
section
variable {K : PySem.W.Frag} {cs gs : List D} {is : List Int} {ks L : List (List Key)} {xs : List D}
theorem wipe_at : ∀ (vs : List Nat) (σ : L2.St) (n : Nat), (wipe σ vs)[n]? = if n ∈ vs ∧ n < σ.length then some none else σ[n]?
  | [], σ, n => by
    rw [if_neg fun z => nomatch z.1]
    rfl
  | i :: vs, σ, n => by
    show ((wipe σ vs).set i none)[n]? = _
    by_cases h : n = i
    · subst h
      by_cases hl : n < σ.length
      · rw [List.getElem?_set_self (by rw [wipe_length]; exact hl), if_pos ⟨List.mem_cons_self .., hl⟩]
      · rw [if_neg fun z => hl z.2, List.getElem?_eq_none (by rw [List.length_set, wipe_length]; omega), List.getElem?_eq_none (by omega)]
    · rw [List.getElem?_set_ne (Ne.symm h), wipe_at vs σ n]
      have e : (n ∈ vs ∧ n < σ.length) ↔ (n ∈ i :: vs ∧ n < σ.length) := ⟨fun z => ⟨List.mem_cons_of_mem _ z.1, z.2⟩, fun z => ⟨(List.mem_cons.mp z.1).elim (fun y => absurd y h) id, z.2⟩⟩
      by_cases c : n ∈ vs ∧ n < σ.length
      · rw [if_pos c, if_pos (e.mp c)]
      · rw [if_neg c, if_neg fun z => c (e.mpr z)]
theorem wipe_twice (vs : List Nat) (σ : L2.St) : wipe (wipe σ vs) vs = wipe σ vs := by
  apply List.ext_getElem?
  intro n
  rw [wipe_at, wipe_at, wipe_length]
  by_cases c : n ∈ vs ∧ n < σ.length
  · rw [if_pos c, if_pos c]
  · rw [if_neg c, if_neg c]
theorem wipe_set {vs : List Nat} {i : Nat} (h : i ∈ vs) (σ : L2.St) (v : Option V) : wipe (σ.set i v) vs = wipe σ vs := by
  apply List.ext_getElem?
  intro n
  rw [wipe_at, wipe_at, List.length_set]
  by_cases c : n ∈ vs ∧ n < σ.length
  · rw [if_pos c, if_pos c]
  · rw [if_neg c, if_neg c]
    by_cases e : n = i
    · subst e
      have hl : ¬ n < σ.length := fun z => c ⟨h, z⟩
      rw [List.getElem?_eq_none (by rw [List.length_set]; omega), List.getElem?_eq_none (by omega)]
    · rw [List.getElem?_set_ne (Ne.symm e)]
theorem own_nest {i j l : Nat} : OwnSlots (gTup K 2 (gCons (gName i) (gCons (gTup K 2 (gCons (gName j) (gCons (gName l) gNil))) gNil))) [i, j, l] := fun σ v H Q h => by
  obtain ⟨a, ys, e, hq, hl, v1, r1, e1, v2, r2, e2, a', ys', e', hq', hl', w1, s1, f1, w2, s2, f2, f3, e3, q⟩ := h
  have ew : wipe (((σ.set i (some v1)).set j (some w1)).set l (some w2)) [i, j, l] = wipe σ [i, j, l] := by
    rw [wipe_set (by simp), wipe_set (by simp), wipe_set (by simp)]
  exact ⟨a, ys, e, hq, hl, v1, r1, e1, v2, r2, e2, a', ys', e', hq', hl', w1, s1, f1, w2, s2, f2, f3, e3, ew, q ew⟩
def isCl (d : D) : Bool := match d with
  | .tup [_, .tup [.str w, _]] => decide (w = "clause")
  | _ => false
def numD (d : D) : D := match d with
  | .tup [_, .tup [_, n]] => n
  | _ => .non
theorem used_eq (hS : Spr cs gs is none ks xs) : ∀ {L : List (List Key)}, (∀ q ∈ L, q ∈ ks) → ((L.map (pairT ks xs)).filter isCl).map numD = (usedOf ks xs L).map D.int
  | [], _ => rfl
  | q :: L, h => by
    have ih := used_eq hS (L := L) fun x hx => h x (List.mem_cons_of_mem _ hx)
    obtain ⟨n, t, _, e1, _, _, _, r⟩ := hS.at (h q (List.mem_cons_self ..))
    have eu : usedOf ks xs (q :: L) = (match usedD (toldOf ks xs q) with | some z => z :: usedOf ks xs L | none => usedOf ks xs L) := by
      unfold usedOf
      cases e : usedD (toldOf ks xs q) with
      | none => rw [List.filterMap_cons_none (f := fun q => usedD (toldOf ks xs q)) e]
      | some z => rw [List.filterMap_cons_some (f := fun q => usedD (toldOf ks xs q)) e]
    rw [eu, List.map_cons]
    rcases r with ⟨i, et, _⟩ | ⟨i, m, c, et, _⟩
    · have f1 : isCl (pairT ks xs q) = false := by
        show isCl (.tup [keyD q, toldOf ks xs q]) = false
        rw [e1, et]
        show decide (("ground" : Str) = "clause") = false
        decide
      have f2 : usedD (toldOf ks xs q) = none := by
        rw [e1, et]
        show (if ("ground" : Str) = "clause" then some i else none) = none
        exact if_neg (by decide)
      rw [List.filter_cons_of_neg (by rw [f1]; exact Bool.false_ne_true), f2]
      exact ih
    · have f1 : isCl (pairT ks xs q) = true := by
        show isCl (.tup [keyD q, toldOf ks xs q]) = true
        rw [e1, et]
        show decide (("clause" : Str) = "clause") = true
        exact decide_eq_true rfl
      have f2 : usedD (toldOf ks xs q) = some (i : Int) := by
        rw [e1, et]
        show (if ("clause" : Str) = "clause" then some (i : Int) else none) = some (i : Int)
        exact if_pos rfl
      rw [List.filter_cons_of_pos f1, f2, List.map_cons, ih]
      show numD (.tup [keyD q, toldOf ks xs q]) :: _ = _
      rw [e1, et]
      rfl
theorem used_len : (usedOf ks xs L).length ≤ L.length := List.length_filterMap_le ..
open Classical in
/-- the clause of this number is needed -/
noncomputable def needP (cs gs : List D) (is : List Int) (q : List Key) (d : D) : Bool := decide (∀ k : Nat, d = .int (k : Int) → ¬ HoldL cs gs is (some k) q)
theorem needP_iff {cs gs : List D} {is : List Int} {q : List Key} {d : D} : needP cs gs is q d = true ↔ ∀ k : Nat, d = .int (k : Int) → ¬ HoldL cs gs is (some k) q := by
  unfold needP
  exact ⟨fun h => @of_decide_eq_true _ (Classical.propDecidable _) h, fun h => @decide_eq_true _ (Classical.propDecidable _) h⟩
theorem pure_needed (T : TR K) {PL : Addr} {v : V} : ∀ x ds kk, w_needed K (x :: ds) kk → XS K (t_needed K PL) (tabE K (TL PL) v x :: ini 7 ds) (FinT K (TL PL) v x kk) := by
  rintro x ds kk ⟨cs, gs, is, f, e, hP, hL, hf, g⟩
  cases e
  have few := hP.few
  show XS K _ [tabE K (TL PL) v (ruleD K (.tup cs) (.tup gs)), .d (lotD is), .d f, .u, .u, .u, .u, .u] _
  have ef := fact_key hf
  generalize hq : keyF f = q at ef g
  subst ef
  unfold t_needed
  refine xs_seq (ys_asg (xe_callT (j := 0) (x := ruleD K (.tup cs) (.tup gs)) (v := v) (xa_cons (ye_varT3 (T := TL PL) rfl (xa_cons (xe_var_d rfl (xa_cons (xe_var_d rfl (xa_nil ⟨_, rfl, _, rfl, rfl, cs, gs, is, keyD q, rfl, hP, hL, hf, fun hn => ?_, fun ks xs L hS hLd => ?_⟩)))))))))
  · rw [hq] at hn
    refine ⟨[tabE K (TL PL) v (ruleD K (.tup cs) (.tup gs)), .d (lotD is), .d (keyD q), .d .non, .u, .u, .u, .u], rfl, ?_⟩
    walk_at "pws"
    exact ⟨rfl, .inl ⟨_, rfl, g [] (.inl ⟨hn, rfl⟩)⟩⟩
  · rw [hq] at hLd
    have Ll : L.length ≤ 100 := Nat.le_trans (nodup_len L ks hLd.nd hLd.sub) hS.few
    have Ul := used_len (ks := ks) (xs := xs) (L := L)
    refine ⟨[tabE K (TL PL) v (ruleD K (.tup cs) (.tup gs)), .d (lotD is), .d (keyD q), .d (.tup (L.map (pairT ks xs))), .u, .u, .u, .u], rfl, ?_⟩
    walk_at "pws"
    refine ye_lcf (vs := [5, 6, 7]) isCl numD own_nest (wipe_twice _) ?_
    walk_at "pws"
    refine ⟨szl (by rw [List.length_map]; omega), [tabE K (TL PL) v (ruleD K (.tup cs) (.tup gs)), .d (lotD is), .d (keyD q), .d (.tup (L.map (pairT ks xs))), .u, .u, .u, .u], rfl, fun d hd => ?_, ?_⟩
    · obtain ⟨q', hq', rfl⟩ := List.mem_map.mp hd
      obtain ⟨n, t, _, e1, _, _, _, rt⟩ := hS.at (hLd.sub q' hq')
      obtain ⟨wd, z, et⟩ : ∃ (wd : Str) (z : Int), toldOf ks xs q' = .tup [.str wd, .int z] ∧ PyData.strOk wd = true := by
        rcases rt with ⟨i, et, _⟩ | ⟨i, m, c, et, _⟩
        · exact ⟨_, _, e1.trans et, by decide +kernel⟩
        · exact ⟨_, _, e1.trans et, by decide +kernel⟩
      have ep : pairT ks xs q' = .tup [keyD q', .tup [.str wd, .int z]] := by
        show D.tup [keyD q', toldOf ks xs q'] = _
        rw [et.1]
      rw [ep]
      walk_at "pws"
      refine o_eqSt et.2 (by decide +kernel) ⟨_, rfl, rfl, rfl, fun _ => ?_⟩
      walk_at "pws"
    · rw [used_eq hS hLd.sub]
      walk_at "pws"
      refine c_sortedI fun us pm ho => ⟨[tabE K (TL PL) v (ruleD K (.tup cs) (.tup gs)), .d (lotD is), .d (keyD q), .d (.tup (L.map (pairT ks xs))), .own (.lst (us.map D.int)), .u, .u, .u], rfl, ?_⟩
      have ul : us.length ≤ 100 := by rw [pm.length_eq]; omega
      refine ys_ret (xe_cb (xa_cons (ye_lcf (vs := [7]) (needP cs gs is q) (fun d => d) own_name wipe1 ?_)))
      walk_at "pws"
      refine ⟨szl (by rw [List.length_map]; omega), [tabE K (TL PL) v (ruleD K (.tup cs) (.tup gs)), .d (lotD is), .d (keyD q), .d (.tup (L.map (pairT ks xs))), .d (.lst (us.map D.int)), .u, .u, .u], rfl, fun d hd => ?_, ?_⟩
      · obtain ⟨z, hz, rfl⟩ := List.mem_map.mp hd
        obtain ⟨_, _, k, ek, _⟩ := (used_mem hS hLd.sub).mp (pm.mem_iff.mp hz)
        subst ek
        refine yg_name ⟨[tabE K (TL PL) v (ruleD K (.tup cs) (.tup gs)), .d (lotD is), .d (keyD q), .d (.tup (L.map (pairT ks xs))), .d (.lst (us.map D.int)), .u, .u, .d (.int (k : Int))], rfl, rfl, ?_⟩
        walk_at "pws"
        intro a
        refine ⟨cs, gs, is, some k, rfl, hP, hL, fun p' q2 ks2 xs2 ws hS2 => ⟨p', .dct ks2 xs2, by with_unfolding_all exact rfl, _, _, rfl, rfl, o_notInK ⟨_, rfl, rfl, ?_, fun _ => ?_⟩⟩⟩
        · by_cases hm : q ∈ ks2
          · rw [(dget_some hS2.len).mpr hm]
            cases z : needP cs gs is q (.int (k : Int)) with
            | false => rfl
            | true => exact absurd ((hS2.mem q).mp hm) (needP_iff.mp z k rfl)
          · have hx : (dget ks2 xs2 q).isSome = false := by
              cases z : (dget ks2 xs2 q).isSome with
              | false => rfl
              | true => exact absurd ((dget_some hS2.len).mp z) hm
            rw [hx]
            refine (needP_iff.mpr fun k' e h => hm ((hS2.mem q).mpr ?_)).symm
            have e2 : (k : Int) = (k' : Int) := by injection e
            rw [Int.ofNat.inj e2]
            exact h
        · walk_at "pws"
      · have em : ((us.map D.int).filter (needP cs gs is q)).map (fun d => d) = (us.filter fun z => needP cs gs is q (.int z)).map D.int := by
          rw [List.map_id', List.filter_map]
          rfl
        rw [em]
        walk_at "pws"
        refine ⟨rfl, .inl ⟨_, rfl, g _ (need_of hS hLd pm ho List.filter_sublist fun z => ?_)⟩⟩
        rw [List.mem_filter, needP_iff]
        exact ⟨fun ⟨a, b⟩ => ⟨a, fun k e => b k (by rw [e])⟩, fun ⟨a, b⟩ => ⟨a, fun k e => b k (by injection e)⟩⟩
end

end LawK54
end
section
namespace LawK54
open PySem PySem.Spec PyProof.Rows L2 C8 PW
local macro_rules | `(tactic| walk_at "jn") => `(tactic| first | exact fact_jn (by assumption) | exact clause_jn (by assumption) | exact ground_jn (by assumption))
local macro_rules | `(tactic| walk_at "pw") => `(tactic| first
  | ((with_reducible show w_is_integer _ _); with_reducible refine i_is_integer (by walk_at "bi") ?_) | ((with_reducible show w_is_within _ _); with_reducible refine i_is_within (by walk_at "bi") ?_) | ((with_reducible show w_is_tuple_of _ _); with_reducible refine i_is_tuple_of (by walk_at "bi") ?_)
  | ((with_reducible show w_law_is_number _ _); with_reducible refine i_law_is_number (by walk_at "bi") ?_)
  | ((with_reducible show w_fact _ _); with_reducible refine i_fact (by walk_at "jn") ?_)
  | ((with_reducible show w_is_clause _ _); with_reducible refine i_is_clause (by walk_at "jn") ?_)
  | ((with_reducible show w_is_ground _ _); with_reducible refine i_is_ground (by walk_at "jn") ?_)
  | ((with_reducible show w_law_draw _ _); refine i_law_draw (by first | omega | decide) (by first | omega | decide) ?_; intro r h0 h1)
  | with_reducible refine xe_any (by with_unfolding_all exact rfl) ?_
  | ((with_reducible show ∃ x ds, _ = some x ∧ itemsD x = some ds ∧ ds ≠ [] ∧ ds.length < 1073741824 ∧ _); refine ex_any (by with_unfolding_all exact rfl) (by with_unfolding_all exact rfl) (by first | assumption | (intro z; cases z; done) | exact List.append_ne_nil_of_right_ne_nil _ (List.cons_ne_nil _ _)) (by first | omega | (simp only [List.length_append, List.length_cons, List.length_nil]; omega) | decide) ?_; intro d hd)
  | ((with_reducible show w_law_fact _ _); refine i_law_fact ?_; intro f hf)
  | ((with_reducible show w_law_nested _ _); refine i_law_nested ?_; intro f hf; have hfj := hf.1))
local macro_rules | `(tactic| walk_at "sz") => `(tactic| first | (rw [rngD_len]; refine szl ?_; omega))
local macro_rules | `(tactic| walk_at "pw") => `(tactic| first
  | ((with_reducible show ∃ xs x, _ = some xs ∧ ∃ ρ2, _ = ρ2 ∧ ρ2[_]? = some (Ent.own x) ∧ MtD _ rAppend x xs _); refine ⟨_, _, rfl, _, rfl, rfl, m_append (szlt (by first | omega | (simp only [List.length_append, List.length_cons, List.length_nil]; omega))) ?_⟩)
  | ((with_reducible show ∃ n, _ = some [D.int n] ∧ -2 ^ 62 ≤ n ∧ n < 2 ^ 62 ∧ _); refine ⟨_, rfl, by omega, by omega, ?_⟩))
local macro_rules | `(tactic| walk_at "pw") => `(tactic| first
  | with_reducible refine ye_fldC (by assumption) ?_ | with_reducible refine ye_fldG (by assumption) ?_
  | ((with_reducible show ∃ x y, _ = some (ruleD _ x y) ∧ _); refine ⟨_, _, by with_unfolding_all exact rfl, ?_⟩)
  | ((with_reducible show w_unlike _ _); refine i_unlike (by assumption) (by first | omega | assumption) ?_)
  | ((with_reducible show w_check_fact _ _); refine i_check_fact (by assumption) ?_)
  | ((with_reducible show w_check_lot _ _ _); refine i_check_lot (by assumption) (by first | omega | assumption) ?_)
  | with_reducible refine ye_dnewT ?_)
/-- what the top says of led_from's lambda -/
structure Gl (P : Program) (K : PySem.W.Frag) (mg : Str → Option Value) (base : Heap) (cL PL : Addr) : Prop where
  s : Gs P K mg
  cS : mg "Spread" = some (.ref (CSp K))
  fL : ∃ f fd, FunD K "led_from" "led_from" (defArgs s_led_from) (defBody s_led_from) (defScope s_led_from) [] [] f fd ∧ mg "led_from" = some (.ref f) ∧ fd.code = .ref cL
  tb : LamX.TabB base mg cL PL
/-- the scope of the lambda at the end of such a body -/
def lamOf (b : List Stmt) : Scope := match b with
  | [_, _, _, .Return (some (.Call _ _ [⟨_, .Lambda _ _ sc _, _⟩] _)) _] => sc
  | _ => defScope s_led_from
theorem lamL : lam1B (defScope s_led_from) (lamOf (defBody s_led_from)) "one" = true := by decide +kernel
theorem capLL : capB ["rule", "found", "fact", "known", "waiting", "one", "word", "number"] (lamOf (defBody s_led_from)) capsL = true := by decide +kernel
section
variable {P : Program} {w : World} {K : PySem.W.Frag} {mg : Str → Option Value} {base : Heap} {cL PL : Addr}
theorem c_spread (G : Gl P K mg base cL PL) : Cal P w K mg base 10 "spread" (spW K (w_spread K)) [] := by
  obtain ⟨f, fd, F, hm⟩ := G.s.t.g.f_spread
  obtain ⟨_, FS, bS⟩ := c_Spread_init (w := w) (base := base) G.s
  refine ⟨f, fd, ["rule", "lot"], [], F.ok sc_spread (fun vs H Q E h => len_w h fun ds k z => (len_spread ds k z)) (fun cdv A outer s H vs Q E hr h => ⟨t_spread K, PSs.nox ?_, entry_w h (pure_spread G.s.tr)⟩), hm, F.kp, F.bindsN (fun _ _ _ _ _ _ us hl => match us, hl with | [_, _], _ => rfl), .nil⟩
  exact (pss_one (ps_ret (pe_fld (pe_make (dvs := []) (ds := []) G.s.mkS FS (hr.mono (by decide)) rfl G.cS bS .nil C8.pass0 (pa_cons (pv 0) (pa_cons (pv 1) (pa_cons pe_non pa_nil)))) rfl)))
theorem c_reasons0 (G : Gl P K mg base cL PL) (cl : Cal P w K mg base 4 "led_from" (spT K (TL PL) (w_led_from K)) []) : Cal P w K mg base 12 "reasons" (spT K (TL PL) (w_reasons K)) [] := by
  obtain ⟨f, fd, F, hm⟩ := G.s.t.g.f_reasons
  have G0 := G.s.t.g
  refine ⟨f, fd, ["rule", "lot", "fact"], [], F.ok sc_reasons (fun vs H Q E h => len_t h fun ds k z => (len_reasons K ds k z)) (fun cdv A outer s H vs Q E hr h => ⟨t_reasons K PL, PSs.nox ?_, entry_t (by decide) h (fun kk z => by obtain ⟨_, _, _, _, e, _⟩ := z; cases e) (fun v x ds kk hw => pure_reasons G.s.tr x ds kk hw)⟩), hm, F.kp, F.bindsN (fun _ _ _ _ _ _ us hl => match us, hl with | [_, _, _], _ => rfl), .nil⟩
  exact (pss_cons (ps_expr (pe_c (c_check_lot G0 G.s.tr) hr (by decide) rfl (pa_cons (pv 0) (pa_cons (pv 1) pa_nil))))
  (pss_cons (ps_expr (pe_c (c_check_fact G0) hr (by decide) rfl (pa_cons (pv 2) pa_nil)))
  (pss_cons (ps_set (i := 3) sc_reasons.nd rfl (by first | exact Or.inl rfl | exact Or.inr rfl) (pe_c (c_spread G) hr (by decide) rfl (pa_cons (pv 0) (pa_cons (pv 1) pa_nil))))
  (pss_cons (ps_if (pt_cmpR (op_notInK (hu1 hr)) (pv 2) (pv 3) (by with_unfolding_all rfl))
  (pss_one (ps_ret pe_non))
  pss_nil)
  (pss_one (ps_ret (pe_callTy call_tupU rfl G0.b_tuple (by decide +kernel) (pa_cons (pe_lc (own := [("one", 4)]) rfl sc_reasons.nd (pi_seqU (pe_c cl hr (by decide) rfl (pa_cons (pv 0) (pa_cons (pv 3) (pa_cons (pv 2) pa_nil))))) (blkOk_by (N := ["rule", "lot", "fact", "found", "one"]) (sc := defScope s_reasons) (by decide +kernel)) (fun _ _ _ _ _ => (pg_name (i := 4) sc_reasons.nd rfl (by first | exact Or.inl rfl | exact Or.inr rfl))) (fun _ _ _ _ _ => pts_nil) (fun _ _ _ _ _ => (pe_tup (pa_cons (pv 4) (pa_cons (pe_ix ix_seq (pe_dget (hu1 hr) (pv 3) (pv 4) (fun _ _ => rfl)) pe_int (fun _ _ => rfl)) pa_nil))))) pa_nil))))))))
theorem c_needed0 (G : Gl P K mg base cL PL) (cl : Cal P w K mg base 12 "reasons" (spT K (TL PL) (w_reasons K)) []) : Cal P w K mg base 13 "needed" (spT K (TL PL) (w_needed K)) [] := by
  obtain ⟨f, fd, F, hm⟩ := G.s.t.g.f_needed
  have G0 := G.s.t.g
  obtain ⟨_, FS, bS⟩ := c_Spread_init (w := w) (base := base) G.s
  refine ⟨f, fd, ["rule", "lot", "fact"], [], F.ok sc_needed (fun vs H Q E h => len_t h fun ds k z => (len_needed K ds k z)) (fun cdv A outer s H vs Q E hr h => ⟨t_needed K PL, PSs.nox ?_, entry_t (by decide) h (fun kk z => by obtain ⟨_, _, _, _, e, _⟩ := z; cases e) (fun v x ds kk hw => pure_needed G.s.tr x ds kk hw)⟩), hm, F.kp, F.bindsN (fun _ _ _ _ _ _ us hl => match us, hl with | [_, _, _], _ => rfl), .nil⟩
  exact (pss_cons (ps_set (i := 3) sc_needed.nd rfl (by first | exact Or.inl rfl | exact Or.inr rfl) (pe_c cl hr (by decide) rfl (pa_cons (pv 0) (pa_cons (pv 1) (pa_cons (pv 2) pa_nil)))))
  (pss_cons (ps_if (pt_cmpR op_isNo (pv 3) pe_non (nomark _))
  (pss_one (ps_ret (pe_tup pa_nil)))
  pss_nil)
  (pss_cons (ps_set (i := 4) sc_needed.nd rfl (by first | exact Or.inl rfl | exact Or.inr rfl) (pe_callB cr_sortedI rfl G0.b_sorted (by decide +kernel) (pa_cons (pe_lc (own := [("one", 5), ("word", 6), ("number", 7)]) rfl sc_needed.nd (pi_seqU (pv 3)) (blkOk_by (N := ["rule", "lot", "fact", "told", "used", "one", "word", "number"]) (sc := defScope s_needed) (by decide +kernel)) (fun _ _ _ _ _ => (pg_tup rfl (pgs_cons (pg_name (i := 5) sc_needed.nd rfl (by first | exact Or.inl rfl | exact Or.inr rfl)) (pgs_cons (pg_tup rfl (pgs_cons (pg_name (i := 6) sc_needed.nd rfl (by first | exact Or.inl rfl | exact Or.inr rfl)) (pgs_cons (pg_name (i := 7) sc_needed.nd rfl (by first | exact Or.inl rfl | exact Or.inr rfl)) pgs_nil))) pgs_nil)))) (fun _ _ _ _ _ => (pts_one (pt_cmpR (op_eqD (hu64 hr)) (pv 6) (pe_gc rfl G0.k_CLAUSE) (nomark _)))) (fun _ _ _ _ _ => (pv 7))) pa_nil)))
  (pss_one (ps_ret (pe_callTy call_tupU rfl G0.b_tuple (by decide +kernel) (pa_cons (pe_lc (own := [("number", 7)]) rfl sc_needed.nd (pi_seqU (pv 4)) (blkOk_by (N := ["rule", "lot", "fact", "told", "used", "one", "word", "number"]) (sc := defScope s_needed) (by decide +kernel)) (fun _ _ _ _ _ => (pg_name (i := 7) sc_needed.nd rfl (by first | exact Or.inl rfl | exact Or.inr rfl))) (fun _ _ _ _ _ => (pts_one (pt_cmpR (op_notInK (hu1 hr)) (pv 2) (pe_fld (pe_make (dvs := []) (ds := []) G.s.mkS FS (hr.mono (by decide)) rfl G.cS bS .nil C8.pass0 (pa_cons (pv 0) (pa_cons (pv 1) (pa_cons (pv 7) pa_nil)))) rfl) (by with_unfolding_all rfl)))) (fun _ _ _ _ _ => (pv 7))) pa_nil)))))))
theorem c_led_from (G : Gl P K mg base cL PL) : Cal P w K mg base 4 "led_from" (spT K (TL PL) (w_led_from K)) [] := by
  obtain ⟨f, fd, F, hm, hcode⟩ := G.fL
  have G0 := G.s.t.g
  obtain ⟨oc, od, dV, kV, doc, pm, an, cdv, ct, osl, rfl, lk, hcd, _, _⟩ := F.ex
  have hc : cdv = .ref cL := hcode
  refine ⟨f, _, ["rule", "found", "fact"], [], fn_of lk hcd sc_led_from (fun vs H Q E h => len_t h fun ds k z => (len_led_from K ds k z)) (fun A outer s H vs Q E hr h => ⟨t_led_from K PL, PSs.nox ?_, entry_t (by decide) h (fun kk z => by obtain ⟨_, _, _, _, _, _, e, _⟩ := z; cases e) (fun v x ds kk hw => pure_led_from G.s.tr x ds kk hw)⟩), hm, F.kp, F.bindsN (fun _ _ _ _ _ _ us hl => match us, hl with | [_, _, _], _ => rfl), .nil⟩
  exact (pss_cons (ps_set (i := 3) sc_led_from.nd rfl (by first | exact Or.inl rfl | exact Or.inr rfl) pe_dnewT)
  (pss_cons (ps_set (i := 4) sc_led_from.nd rfl (by first | exact Or.inl rfl | exact Or.inr rfl) (pe_lst (pa_cons (pv 2) pa_nil)))
  (pss_cons (ps_while PassesOwn.never (pt_cmpR op_gtU (pe_callB call_lenU rfl G0.b_len (by decide +kernel) (pa_cons (pv 4) pa_nil)) pe_int (nomark _))
  (pss_cons (ps_set (i := 5) sc_led_from.nd rfl (by first | exact Or.inl rfl | exact Or.inr rfl) (pe_bm0 PySem.F.plainAttrs_list PySem.F.slot_list_pop PySem.F.type_list_pop mt_pop (pv 4)))
  (pss_one (ps_if (pt_cmpR (op_notInK (hu1 hr)) (pv 5) (pv 3) (by with_unfolding_all rfl))
  (pss_cons (ps_dput (hu1 hr) (pv 3) (pv 5) (pe_dget (hu1 hr) (pv 1) (pv 5) (fun _ _ => rfl)) rfl)
  (pss_cons (ps_asg (pe_ix ix_seq (pe_dget (hu1 hr) (pv 1) (pv 5) (fun _ _ => rfl)) pe_int (fun _ _ => rfl)) (pg_tup rfl (pgs_cons (pg_name (i := 6) sc_led_from.nd rfl (by first | exact Or.inl rfl | exact Or.inr rfl)) (pgs_cons (pg_name (i := 7) sc_led_from.nd rfl (by first | exact Or.inl rfl | exact Or.inr rfl)) pgs_nil))))
  (pss_one (ps_if (pt_cmpR (op_eqD (hu64 hr)) (pv 6) (pe_gc rfl G0.k_CLAUSE) (nomark _))
  (pss_one (ps_expr (pe_bm PySem.F.plainAttrs_list PySem.F.slot_list_extend PySem.F.type_list_extend mt_extendT (pv 4) (pa_cons (pe_ix ix_seq (pe_ix ix_seq (pe_fld (pv 0) rfl) (pv 7) (fun _ _ => rfl)) pe_int (fun _ _ => rfl)) pa_nil))))
  pss_nil))))
  pss_nil))))
  (pss_one (ps_ret (pe_sortL (a := "one") (caps := capsL) (c := cL) (P := PL) (n := 1) (tb := t_key K) rfl rfl G0.b_sorted rfl (.inr (.inl rfl)) G.tb hc (List.mem_cons_self ..) (fun p hp e => by rw [List.mem_singleton.mp hp]; rfl) hr (lam1_by lamL) (cap_by capLL) rfl (fun _ _ _ _ _ _ => rfl)
    (fun A s H f c' hr2 => (pe_tup (pa_cons (pe_ix ix_seq (pe_dget (hu1 (hr2.deeper _)) (pv 1) (pv 0) (fun _ _ => rfl)) pe_int (fun _ _ => rfl)) (pa_cons (pe_cmpR (op_neD (hu64 (hr2.deeper _))) (pv 0) (pv 2) (nomark _)) (pa_cons (pv 0) pa_nil)))))))))))
end

end LawK54
end
section
namespace LawK54
open PySem PySem.Spec PyProof.Rows L2 C8 PW
local macro_rules | `(tactic| walk_at "jn") => `(tactic| first | exact fact_jn (by assumption) | exact clause_jn (by assumption) | exact ground_jn (by assumption))
local macro_rules | `(tactic| walk_at "pw") => `(tactic| first
  | ((with_reducible show w_is_integer _ _); with_reducible refine i_is_integer (by walk_at "bi") ?_) | ((with_reducible show w_is_within _ _); with_reducible refine i_is_within (by walk_at "bi") ?_) | ((with_reducible show w_is_tuple_of _ _); with_reducible refine i_is_tuple_of (by walk_at "bi") ?_)
  | ((with_reducible show w_law_is_number _ _); with_reducible refine i_law_is_number (by walk_at "bi") ?_)
  | ((with_reducible show w_fact _ _); with_reducible refine i_fact (by walk_at "jn") ?_)
  | ((with_reducible show w_is_clause _ _); with_reducible refine i_is_clause (by walk_at "jn") ?_)
  | ((with_reducible show w_is_ground _ _); with_reducible refine i_is_ground (by walk_at "jn") ?_)
  | ((with_reducible show w_law_draw _ _); refine i_law_draw (by first | omega | decide) (by first | omega | decide) ?_; intro r h0 h1)
  | with_reducible refine xe_any (by with_unfolding_all exact rfl) ?_
  | ((with_reducible show ∃ x ds, _ = some x ∧ itemsD x = some ds ∧ ds ≠ [] ∧ ds.length < 1073741824 ∧ _); refine ex_any (by with_unfolding_all exact rfl) (by with_unfolding_all exact rfl) (by first | assumption | (intro z; cases z; done) | exact List.append_ne_nil_of_right_ne_nil _ (List.cons_ne_nil _ _)) (by first | omega | (simp only [List.length_append, List.length_cons, List.length_nil]; omega) | decide) ?_; intro d hd)
  | ((with_reducible show w_law_fact _ _); refine i_law_fact ?_; intro f hf)
  | ((with_reducible show w_law_nested _ _); refine i_law_nested ?_; intro f hf; have hfj := hf.1))
local macro_rules | `(tactic| walk_at "sz") => `(tactic| first | (rw [rngD_len]; refine szl ?_; omega))
local macro_rules | `(tactic| walk_at "pw") => `(tactic| first
  | ((with_reducible show ∃ xs x, _ = some xs ∧ ∃ ρ2, _ = ρ2 ∧ ρ2[_]? = some (Ent.own x) ∧ MtD _ rAppend x xs _); refine ⟨_, _, rfl, _, rfl, rfl, m_append (szlt (by first | omega | (simp only [List.length_append, List.length_cons, List.length_nil]; omega))) ?_⟩)
  | ((with_reducible show ∃ n, _ = some [D.int n] ∧ -2 ^ 62 ≤ n ∧ n < 2 ^ 62 ∧ _); refine ⟨_, rfl, by omega, by omega, ?_⟩))
set_option pp.maxSteps 500
def w_law_isN (n : Nat) : WF := fun ds k => ∃ x : D, ds = [x, x] ∧ x.jn = true ∧ Sh n x ∧ k (.d (.bl true))
theorem len_law_isN {n : Nat} : ∀ ds k, w_law_isN n ds k → ds.length = 2 := fun _ _ ⟨_, e, _⟩ => by rw [e]; rfl
theorem i_law_isN {n : Nat} {x : D} {k : Res → Prop} (h1 : x.jn = true) (h2 : Sh n x) (q : k (.d (.bl true))) : w_law_isN n [x, x] k := ⟨x, rfl, h1, h2, q⟩
def t_isUp (K : PySem.W.Frag) (n : Nat) : TS := (tSeq (tIfS (tOr (tTest (tOp (rNeD K) (tCB (rIsi K) (tCons (tVar 0) (tCons (tC (.ty "tuple")) tNil))) (tCB (rIsi K) (tCons (tVar 1) (tCons (tC (.ty "tuple")) tNil))))) (tNot (tB (tCB (rIsiT K) (tCons (tVar 0) (tCons (tTup (tCons (tC (.ty "tuple")) (tCons (tC (.ty "list")) tNil))) tNil))))))
  (tRet (tC (.bl false)))
  tNext)
  (tRet (tAndV (tOp (rEqD K) (tCB (rLenU K) (tCons (tVar 0) tNil)) (tCB (rLenU K) (tCons (tVar 1) tNil))) (tCB (rAll K) (tCons (tLc (RZ.iZipA K (tCons (tVar 0) (tCons (tVar 1) tNil))) (gTup K 2 (gCons (gName 2) (gCons (gName 3) gNil))) tYes (PW.tCallS (spW K (w_law_isN n)) L2.E0 (tCons (tVar 2) (tCons (tVar 3) tNil))) [2, 3]) tNil)))))
def t_is (K : PySem.W.Frag) (up : TS) : TS := tSeq (tIfS (tB (tCB (rIsiT K) (tCons (tVar 1) (tCons (tTup (tCons (tC (.ty "tuple")) (tCons (tC (.ty "list")) tNil))) tNil)))) up tNext)
  (tRet (tAndV (tOp (rEqD K) (tCB (rIsi K) (tCons (tVar 0) (tCons (tC (.ty "bool")) tNil))) (tCB (rIsi K) (tCons (tVar 1) (tCons (tC (.ty "bool")) tNil)))) (tOp (rEqD K) (tVar 0) (tVar 1))))
theorem sh_inA {n : Nat} : ∀ {xs : List D}, D.plnL xs = true → PyData.canLayAll0 (D.pyL xs) = true → PyData.depthAll (D.pyL xs) ≤ n → ∀ x ∈ xs, Sh n x
  | [], _, _, _, x, hx => nomatch hx
  | y :: ys, h1, h2, h3, x, hx => by
    obtain ⟨a1, b1⟩ := Bool.and_eq_true_iff.mp (show (D.pln y && D.plnL ys) = true from h1)
    simp only [D.pyL, PyData.canLayAll0, Bool.and_eq_true] at h2
    simp only [D.pyL, PyData.depthAll] at h3
    rcases List.mem_cons.mp hx with e | hx
    · rw [e]; exact ⟨a1, h2.1, by omega⟩
    · exact sh_inA b1 h2.2 (by omega) x hx
theorem sh_inT {n : Nat} {xs : List D} (h : Sh (n + 1) (.tup xs)) : ∀ x ∈ xs, Sh n x := by
  obtain ⟨h1, h2, h3⟩ := h
  simp only [D.py, PyData.depth] at h3
  exact sh_inA h1 (by simpa only [D.py, PyData.canLay0] using h2) (by omega)
theorem sh_inL {n : Nat} {xs : List D} (h : Sh (n + 1) (.lst xs)) : ∀ x ∈ xs, Sh n x := by
  obtain ⟨h1, h2, h3⟩ := h
  simp only [D.py, PyData.depth] at h3
  exact sh_inA h1 (by simpa only [D.py, PyData.canLay0] using h2) (by omega)
theorem eqv_same {x : D} (h : x.sh = true) : PyData.eqv x.py x.py = true := SeqAt.eqv_refl _ (Bool.and_eq_true_iff.mp (Bool.and_eq_true_iff.mp h).2).1
theorem sc_sh {n : Nat} {x : D} (h : Sh n x) (hs : x.scalar = true) : x.sh = true := by
  have h0 : Sh 0 x := by
    cases x with
    | non => exact sh_non
    | bl b => exact sh_bl
    | int i => exact sh_int
    | str s => exact ⟨rfl, h.2.1, by simp only [D.py, PyData.depth]; omega⟩
    | _ => cases hs
  exact h0.sh (by decide)
theorem zip_mem {d : D} : ∀ {xs : List D}, d ∈ zipD xs xs → ∃ x ∈ xs, d = .tup [x, x]
  | [], h => by
    rw [zipD] at h
    · cases h
    · exact fun _ _ _ _ z => nomatch z
  | x :: xs, h => by
    rw [zipD] at h
    rcases List.mem_cons.mp h with e | h
    · exact ⟨x, List.mem_cons_self .., e⟩
    · obtain ⟨y, hy, e⟩ := zip_mem h
      exact ⟨y, List.mem_cons_of_mem _ hy, e⟩
theorem sh_noT {xs : List D} (h : Sh 0 (.tup xs)) : False := by
  have h3 := h.2.2
  simp only [D.py, PyData.depth] at h3
  omega
theorem sh_noL {xs : List D} (h : Sh 0 (.lst xs)) : False := by
  have h3 := h.2.2
  simp only [D.py, PyData.depth] at h3
  omega
section
variable {K : PySem.W.Frag}
theorem o_neBB {b : Bool} {kk : Res → Prop} (g : kk (.d (.bl false))) : OpD K (rNeD K) (.bl b) (.bl b) kk := by
  refine o_ne (by cases b <;> rfl) (by cases b <;> rfl) ?_
  have e : (!PyData.eqv (D.bl b).py (D.bl b).py) = false := by cases b <;> rfl
  rw [e]
  exact g
theorem pure_law_is0 : ∀ ds kk, w_law_isN 0 ds kk → XS K (t_is K tDead) (ini 4 ds) { nx := fun _ => kk (.d .non), rt := fun r _ => kk r } := by
  rintro _ kk ⟨x, rfl, jx, sx, g⟩
  show XS K (t_is K tDead) [.d x, .d x, .u, .u] (Fin kk)
  unfold t_is
  cases x with
  | tup xs => exact (sh_noT sx).elim
  | lst xs => exact (sh_noL sx).elim
  | emp => exact Bool.noConfusion (show false = true from sx.1)
  | obj C ns xs => exact Bool.noConfusion (show false = true from sx.1)
  | dct ks xs => exact Bool.noConfusion (show false = true from sx.1)
  | _ =>
    walk_at "pws"
    all_goals first
      | exact g
      | exact Bool.noConfusion (show false = true from (by assumption))
      | (refine o_eq (sc_sh sx rfl) (sc_sh sx rfl) ?_; rw [eqv_same (sc_sh sx rfl)]; exact g)
      | (refine fin_bl g ?_; simp; done)
      | contradiction
      | (simp_all; done)
      | trace_state
section
local macro_rules | `(tactic| walk_at "pw") => `(tactic| first
  | ((with_reducible show w_law_isN _ _ _); refine i_law_isN (by assumption) (by assumption) ?_)
  | with_reducible refine ye_lcm (vs := [2, 3]) (fun d => .bl true) (own_pair (by decide)) (wipe2 (by decide)) ?_)
theorem pure_law_isS (n : Nat) : ∀ ds kk, w_law_isN (n + 1) ds kk → XS K (t_is K (t_isUp K n)) (ini 4 ds) { nx := fun _ => kk (.d .non), rt := fun r _ => kk r } := by
  rintro _ kk ⟨x, rfl, jx, sx, g⟩
  show XS K (t_is K (t_isUp K n)) [.d x, .d x, .u, .u] (Fin kk)
  unfold t_is t_isUp
  cases x with
  | emp => exact Bool.noConfusion (show false = true from sx.1)
  | obj C ns xs => exact Bool.noConfusion (show false = true from sx.1)
  | dct ks xs => exact Bool.noConfusion (show false = true from sx.1)
  | tup xs =>
    have hx := sh_inT sx
    have jm : ∀ x ∈ xs, x.jn = true := (jn_tup jx).2
    walk_at "pws"
    all_goals first
      | exact Bool.noConfusion (show true = false from (by assumption))
      | exact absurd trivial (by assumption)
      | skip
    refine ⟨by rw [zipD_len, Nat.min_self]; exact szl (by first | exact (jn_tup jx).1 | exact (jn_lst jx).1), _, rfl, fun d hd => ?_, ?_⟩
    · obtain ⟨x, hx1, rfl⟩ := zip_mem hd
      have hx2 := hx x hx1
      have jx2 := jm x hx1
      walk_at "pws"
    · walk_at "pws"
      refine fin_bl g ?_
      simp
  | lst xs =>
    have hx := sh_inL sx
    have jm : ∀ x ∈ xs, x.jn = true := (jn_lst jx).2
    walk_at "pws"
    all_goals first
      | exact Bool.noConfusion (show true = false from (by assumption))
      | exact absurd trivial (by assumption)
      | skip
    refine ⟨by rw [zipD_len, Nat.min_self]; exact szl (by first | exact (jn_tup jx).1 | exact (jn_lst jx).1), _, rfl, fun d hd => ?_, ?_⟩
    · obtain ⟨x, hx1, rfl⟩ := zip_mem hd
      have hx2 := hx x hx1
      have jx2 := jm x hx1
      walk_at "pws"
    · walk_at "pws"
      refine fin_bl g ?_
      simp
  | _ =>
    walk_at "pws"
    all_goals first
      | exact g
      | exact Bool.noConfusion (show false = true from (by assumption))
      | (refine o_eq (sc_sh sx rfl) (sc_sh sx rfl) ?_; rw [eqv_same (sc_sh sx rfl)]; exact g)
      | (refine fin_bl g ?_; simp; done)
      | contradiction
      | (simp_all; done)
      | trace_state
end
end
section
variable {P : Program} {w : World} {K : PySem.W.Frag} {mg : Str → Option Value} {base : Heap}
theorem pss_dead {X : Cx} : ∀ {ss : List Stmt}, ss ≠ [] → PSs X ss tDead
  | [_], _ => pss_one ps_dead
  | _ :: b :: r, _ => pss_cons (t := tDead) (u := tDead) ps_dead (pss_dead (List.cons_ne_nil b r))
theorem c_law_isN (G : Gx K mg) : ∀ n : Nat, Cal P w K mg base (n + 1) "_law_is" (spW K (w_law_isN n)) []
  | 0 => by
    obtain ⟨f, fd, F, hm⟩ := G.f_law_is
    refine ⟨f, fd, ["given", "due"], [], F.ok sc_law_is (fun vs H Q E h => len_w h fun ds k z => (len_law_isN ds k z)) (fun cdv A outer s H vs Q E hr h => ⟨t_is K tDead, PSs.nox ?_, entry_w h (pure_law_is0)⟩), hm, F.kp, F.bindsN (fun _ _ _ _ _ _ us hl => match us, hl with | [_, _], _ => rfl), .nil⟩
    refine pss_cons (ps_if (pt_val (pe_callB call_isiT rfl G.b_isinstance (by decide +kernel) (pa_cons (pv 1) (pa_cons (pe_tup (pa_cons (pe_bltn (v := .ty "tuple") rfl G.b_tuple (by decide +kernel) rfl) (pa_cons (pe_bltn (v := .ty "list") rfl G.b_list (by decide +kernel) rfl) pa_nil))) pa_nil))))
  (pss_dead (List.cons_ne_nil _ _))
  pss_nil) ?_
    exact pss_one (ps_ret (pe_and (pe_cmpR (op_eqD (hu64 hr)) (pe_callB call_isi rfl G.b_isinstance (by decide +kernel) (pa_cons (pv 0) (pa_cons (pe_bltn (v := .ty "bool") rfl G.b_bool (by decide +kernel) rfl) pa_nil))) (pe_callB call_isi rfl G.b_isinstance (by decide +kernel) (pa_cons (pv 1) (pa_cons (pe_bltn (v := .ty "bool") rfl G.b_bool (by decide +kernel) rfl) pa_nil))) (nomark _)) (pe_one (pe_cmpR (op_eqD (hu64 hr)) (pv 0) (pv 1) (nomark _)))))
  | n + 1 => by
    have c_rec := c_law_isN G n
    obtain ⟨f, fd, F, hm⟩ := G.f_law_is
    refine ⟨f, fd, ["given", "due"], [], F.ok sc_law_is (fun vs H Q E h => len_w h fun ds k z => (len_law_isN ds k z)) (fun cdv A outer s H vs Q E hr h => ⟨t_is K (t_isUp K n), PSs.nox ?_, entry_w h (pure_law_isS n)⟩), hm, F.kp, F.bindsN (fun _ _ _ _ _ _ us hl => match us, hl with | [_, _], _ => rfl), .nil⟩
    refine pss_cons (ps_if (pt_val (pe_callB call_isiT rfl G.b_isinstance (by decide +kernel) (pa_cons (pv 1) (pa_cons (pe_tup (pa_cons (pe_bltn (v := .ty "tuple") rfl G.b_tuple (by decide +kernel) rfl) (pa_cons (pe_bltn (v := .ty "list") rfl G.b_list (by decide +kernel) rfl) pa_nil))) pa_nil))))
  (pss_cons (ps_if (L2.PW.pt (pw_or (pt_cmpR (op_neD (hu64 hr)) (pe_callB call_isi rfl G.b_isinstance (by decide +kernel) (pa_cons (pv 0) (pa_cons (pe_bltn (v := .ty "tuple") rfl G.b_tuple (by decide +kernel) rfl) pa_nil))) (pe_callB call_isi rfl G.b_isinstance (by decide +kernel) (pa_cons (pv 1) (pa_cons (pe_bltn (v := .ty "tuple") rfl G.b_tuple (by decide +kernel) rfl) pa_nil))) (nomark _)) (pw_or1 (pt_not (pt_val (pe_callB call_isiT rfl G.b_isinstance (by decide +kernel) (pa_cons (pv 0) (pa_cons (pe_tup (pa_cons (pe_bltn (v := .ty "tuple") rfl G.b_tuple (by decide +kernel) rfl) (pa_cons (pe_bltn (v := .ty "list") rfl G.b_list (by decide +kernel) rfl) pa_nil))) pa_nil))))))))
  (pss_one (ps_ret pe_bl))
  pss_nil)
  (pss_one (ps_ret (pe_and (pe_cmpR (op_eqD (hu64 hr)) (pe_callB call_lenU rfl G.b_len (by decide +kernel) (pa_cons (pv 0) pa_nil)) (pe_callB call_lenU rfl G.b_len (by decide +kernel) (pa_cons (pv 1) pa_nil)) (nomark _)) (pe_one (pe_callB (cr_all rfl) rfl G.b_all (by decide +kernel) (pa_cons (pe_lc (own := [("one", 2), ("two", 3)]) rfl sc_law_is.nd (RZ.pi_zipA rfl G.b_zip (pa_cons (pv 0) (pa_cons (pv 1) pa_nil))) (blkOk_by (N := ["given", "due", "one", "two"]) (sc := defScope s_law_is) (by decide +kernel)) (fun _ _ _ _ _ => (pg_tup rfl (pgs_cons (pg_name (i := 2) sc_law_is.nd rfl (by first | exact Or.inl rfl | exact Or.inr rfl)) (pgs_cons (pg_name (i := 3) sc_law_is.nd rfl (by first | exact Or.inl rfl | exact Or.inr rfl)) pgs_nil)))) (fun _ _ _ _ _ => pts_nil) (fun _ _ _ _ _ => (pe_c c_rec hr (Nat.le_refl _) rfl (pa_cons (pv 2) (pa_cons (pv 3) pa_nil))))) pa_nil)))))))
  pss_nil) ?_
    exact pss_one (ps_ret (pe_and (pe_cmpR (op_eqD (hu64 hr)) (pe_callB call_isi rfl G.b_isinstance (by decide +kernel) (pa_cons (pv 0) (pa_cons (pe_bltn (v := .ty "bool") rfl G.b_bool (by decide +kernel) rfl) pa_nil))) (pe_callB call_isi rfl G.b_isinstance (by decide +kernel) (pa_cons (pv 1) (pa_cons (pe_bltn (v := .ty "bool") rfl G.b_bool (by decide +kernel) rfl) pa_nil))) (nomark _)) (pe_one (pe_cmpR (op_eqD (hu64 hr)) (pv 0) (pv 1) (nomark _)))))
end

end LawK54
end
section
/-! PWTab3: the tables, owned by a slot whose value is not read (the law's script). -/
namespace PW
open PySem PySem.Spec PyProof.Rows L2
def tabN (T : List (Addr × Str)) (v : V) : Ent := .big (tabA T) v (fun M H => TabM T M H)
theorem tabN_stab {T : List (Addr × Str)} : Stab (tabA T) (fun M H => TabM T M H) := fun _ _ _ _ h g t => h.mono g t
section
variable {K : PySem.W.Frag} {T : List (Addr × Str)} {ρ : List Ent} {k : KE} {j : Nat} {v : V} {w : WF} {E : XK} {t : TA}
theorem xe_callN (h : XA K t ρ fun rs ρ1 => ∃ xs, peekAll ρ1 rs = some xs ∧ ∃ ρ2, frzAll ρ1 rs = ρ2 ∧ ρ2[j]? = some (tabN T v) ∧ w xs fun z => k z ρ2) : XE K (tCall (spT K T w) [] E t) ρ k := fun F H σ Q E0 q =>
  h F H σ _ E0 fun vs H1 rs ρ1 kp E1 hs ⟨xs, px, ρ2, eq, hj, g⟩ => by
    obtain ⟨E2, d2, k2⟩ := HeldAll.frz E1 hs px
    rw [eq] at E2 d2 k2
    rw [List.append_nil]
    have own : ∀ b ∈ tabA T, hot F σ ρ2 b := fun b hb => .inr ⟨j, _, hj, hb⟩
    obtain ⟨e0, t0, _, _⟩ := E2.slot j _ hj
    refine ⟨_, xs, _, hot_tr E2, own, t0, d2, g, fun u H' y up tm hd kr => ?_⟩
    have same : ρ2.set j (tabN T v) = ρ2 := by
      apply List.ext_getElem?
      intro n
      by_cases z : n = j
      · rw [z, List.getElem?_set_self (List.getElem?_eq_some_iff.mp hj).1, hj]
      · rw [List.getElem?_set_ne (Ne.symm z)]
    have r := E2.redo (e' := tabN T v) (H' := H') hj (fun b z => .inl z) (fun b o n e => up b o n e) (by
      rw [same]
      exact ⟨e0, tm, tabN_stab, tab_nt tm⟩)
    rw [same] at r
    exact q u H' (.d y) ρ2 (hotR.d ((kp.trans k2).trans r.2)) ⟨r.1, hd⟩ kr
end
end PW
end
section
namespace LawK54
open PySem PySem.Spec PyProof.Rows L2 C8 PW
local macro_rules | `(tactic| walk_at "jn") => `(tactic| first | exact fact_jn (by assumption) | exact clause_jn (by assumption) | exact ground_jn (by assumption))
local macro_rules | `(tactic| walk_at "pw") => `(tactic| first
  | ((with_reducible show w_is_integer _ _); with_reducible refine i_is_integer (by walk_at "bi") ?_) | ((with_reducible show w_is_within _ _); with_reducible refine i_is_within (by walk_at "bi") ?_) | ((with_reducible show w_is_tuple_of _ _); with_reducible refine i_is_tuple_of (by walk_at "bi") ?_)
  | ((with_reducible show w_law_is_number _ _); with_reducible refine i_law_is_number (by walk_at "bi") ?_)
  | ((with_reducible show w_fact _ _); with_reducible refine i_fact (by walk_at "jn") ?_)
  | ((with_reducible show w_is_clause _ _); with_reducible refine i_is_clause (by walk_at "jn") ?_)
  | ((with_reducible show w_is_ground _ _); with_reducible refine i_is_ground (by walk_at "jn") ?_)
  | ((with_reducible show w_law_draw _ _); refine i_law_draw (by first | omega | decide) (by first | omega | decide) ?_; intro r h0 h1)
  | with_reducible refine xe_any (by with_unfolding_all exact rfl) ?_
  | ((with_reducible show ∃ x ds, _ = some x ∧ itemsD x = some ds ∧ ds ≠ [] ∧ ds.length < 1073741824 ∧ _); refine ex_any (by with_unfolding_all exact rfl) (by with_unfolding_all exact rfl) (by first | assumption | (intro z; cases z; done) | exact List.append_ne_nil_of_right_ne_nil _ (List.cons_ne_nil _ _)) (by first | omega | (simp only [List.length_append, List.length_cons, List.length_nil]; omega) | decide) ?_; intro d hd)
  | ((with_reducible show w_law_fact _ _); refine i_law_fact ?_; intro f hf)
  | ((with_reducible show w_law_nested _ _); refine i_law_nested ?_; intro f hf; have hfj := hf.1))
local macro_rules | `(tactic| walk_at "sz") => `(tactic| first | (rw [rngD_len]; refine szl ?_; omega))
local macro_rules | `(tactic| walk_at "pw") => `(tactic| first
  | ((with_reducible show ∃ xs x, _ = some xs ∧ ∃ ρ2, _ = ρ2 ∧ ρ2[_]? = some (Ent.own x) ∧ MtD _ rAppend x xs _); refine ⟨_, _, rfl, _, rfl, rfl, m_append (szlt (by first | omega | (simp only [List.length_append, List.length_cons, List.length_nil]; omega))) ?_⟩)
  | ((with_reducible show ∃ n, _ = some [D.int n] ∧ -2 ^ 62 ≤ n ∧ n < 2 ^ 62 ∧ _); refine ⟨_, rfl, by omega, by omega, ?_⟩))
local macro_rules | `(tactic| walk_at "pw") => `(tactic| first
  | with_reducible refine ye_fldC (by assumption) ?_ | with_reducible refine ye_fldG (by assumption) ?_
  | ((with_reducible show ∃ x y, _ = some (ruleD _ x y) ∧ _); refine ⟨_, _, by with_unfolding_all exact rfl, ?_⟩)
  | ((with_reducible show w_unlike _ _); refine i_unlike (by assumption) (by first | omega | assumption) ?_)
  | ((with_reducible show w_check_fact _ _); refine i_check_fact (by assumption) ?_)
  | ((with_reducible show w_check_lot _ _ _); refine i_check_lot (by assumption) (by first | omega | assumption) ?_)
  | with_reducible refine ye_dnewT ?_)
def t_law_hand (K : PySem.W.Frag) : TS :=
  (tSeq (tAsg (tLc (iSeqU K (tSl (rSlU K) (tVar 0) tNoPart (tPart (tC (.int 63))))) (gName 2) tYes (tCB rAbsU (tCons (tCB rIntU (tCons (tVar 2) tNil)) tNil)) [2]) (gName 1))
  (tRet (tLst (tCons (tVar 1) (tCons (tC (.int 0)) (tCons (tC (.int 0)) (tCons (tOp (rAddU K) (tC (.int 1)) (tCB (rLenU K) (tCons (tVar 1) tNil))) (tCons (tC (.int 0)) tNil))))))))
def t_again2 (K : PySem.W.Frag) (PL : Addr) : TS :=
  (tSeq (tAsg (tTup tNil) (gName 9))
  (tSeq (tIfS (tTest (tOp rInK (tVar 8) (tCall (spW K w_law_rounds) [] L2.E0 (tCons (tVar 4) (tCons (tVar 7) (tCons (tC .non) tNil))))))
  (tSeq (tAsg (tLstRg (tRg1 (tCB (rLenU K) (tCons (tOp (rIx K) (tVar 4) (tC (.int 0))) tNil)))) (gName 10))
  (tAsg (tCB (rTupU K) (tCons (tLc (iSeqU K (tVar 10)) (gName 11) (tTest (tOp rNotInK (tVar 8) (tCall (spW K w_law_rounds) [] L2.E0 (tCons (tVar 4) (tCons (tVar 7) (tCons (tVar 11) tNil)))))) (tVar 11) [11]) tNil)) (gName 9)))
  tNext)
  (tIfS (tNot (tB (tCall (spW K (w_law_isN 1)) [] L2.E0 (tCons (tCall (spT K (TL PL) (w_needed K)) [] L2.E0 (tCons (tVar 5) (tCons (tVar 7) (tCons (tVar 8) tNil)))) (tCons (tVar 9) tNil)))))
  (tRet (tC (.bl false)))
  tNext)))
def t_again (K : PySem.W.Frag) (PL : Addr) : TS :=
  (tSeq (tAsg (tTup (tCons (PW.tCallH (spH K w_law_lot) L2.E0 1 (tCons (tVar 3) tNil)) (tCons (PW.tCallH (spH K w_law_asked) L2.E0 1 (tCons (tVar 4) tNil)) tNil))) (gTup K 2 (gCons (gName 7) (gCons (gName 8) gNil))))
  (t_again2 K PL))
def t_turn (K : PySem.W.Frag) (PL : Addr) : TS :=
  (tSeq (tAsg (tOp (rAddU K) (tC (.int 1)) (PW.tCallH (spH K w_law_draw) L2.E0 1 (tCons (tC (.int 5)) tNil))) (gName 3))
  (tSeq (tAsg (PW.tCallH (spH K w_law_parts) L2.E0 1 (tCons (tC (.int 22)) (tCons (tVar 3) tNil))) (gName 4))
  (tSeq (tAsg (tCall (spW K (w_law_made K)) [] L2.E0 (tCons (tVar 4) tNil)) (gName 5))
  (tFor (iRng1 (tCons (tC (.int 4)) tNil)) (gName 6) (t_again K PL)))))
def t_rest (K : PySem.W.Frag) (PL : Addr) : TS := tSeq (tFor (iRng1 (tCons (tC (.int 3)) tNil)) (gName 2) (t_turn K PL)) (tRet (tC (.bl true)))
/-- the hand is made of the script -/
def spMk (K : PySem.W.Frag) : Sp := fun vs H Q _ => ∃ (a : Addr) (ns : List Int), vs = [.ref a] ∧ SqL K H a (ns.map V.int) ∧ ns.length ≤ 63 ∧
  ∀ (p c : Addr) (cs : List Int) (s : Int) (H' : Hp), PW.Ext H H' → H p = none → H c = none → c ≠ p → H' p = some (.lst [.ref c, .int 0, .int 0, .int s, .int 0]) → H' c = some (.lst (cs.map V.int)) → Q (.ref p) H'
def t_law_main (K : PySem.W.Frag) (PL : Addr) : TS := tSeq (tAsg (tCall (spMk K) [] L2.E0 (tCons (tVar 0) tNil)) (gName 1)) (t_rest K PL)
section
variable {K : PySem.W.Frag} {cs gs : List D} {is : List Int}
theorem need_one {f : List Key} {ns ms : List Int} (h1 : Need cs gs is f ns) (h2 : Need cs gs is f ms) : ns = ms := by
  rcases h1 with ⟨a, e⟩ | ⟨a, b, c⟩
  · rcases h2 with ⟨_, e2⟩ | ⟨a2, _⟩
    · rw [e, e2]
    · exact absurd a2 a
  · rcases h2 with ⟨a2, _⟩ | ⟨_, b2, c2⟩
    · exact absurd a a2
    · exact asc_eq b b2 fun z => (c z).trans (c2 z).symm
theorem sql_x {K : PySem.W.Frag} {H H' : Hp} {a : Addr} {xs : List V} (h : SqL K H a xs) (e : PW.Ext H H') : SqL K H' a xs := by
  rcases h with (h | ⟨o, h⟩) | h
  · exact .inl (.inl (e _ _ h))
  · exact .inl (.inr ⟨o, e _ _ h⟩)
  · exact .inr h
theorem cut_i {ns : List Int} {lo hi : Option Int} : ∃ ms : List Int, cutV (ns.map V.int) lo hi = ms.map V.int ∧ ms.length ≤ ns.length := by
  refine ⟨(ns.drop (HT.sIx ns.length 0 lo)).take (HT.sIx ns.length ns.length hi - HT.sIx ns.length 0 lo), ?_, ?_⟩
  · unfold cutV
    rw [List.length_map, List.map_take, List.map_drop]
  · rw [List.length_take, List.length_drop]
    omega
theorem body_law_hand {vs : List V} {H : Hp} {Q : VK} {E : XK} (h : spMk K vs H Q E) : t_law_hand K { nx := fun _ H' => Q .non H', rt := Q } (L2.start ["script", "cells", "cell"] vs) H := by
  obtain ⟨a, ns, rfl, hs, hl, fin⟩ := h
  rw [show L2.start ["script", "cells", "cell"] [.ref a] = [some (.ref a), none, none] from rfl]
  unfold t_law_hand
  refine r_seq (r_asg ?_)
  obtain ⟨ms, e, hm⟩ := cut_i (ns := ns) (lo := none) (hi := some 63)
  refine ⟨.ref a, rfl, 63, rfl, .inl (.inl ⟨a, ns.map V.int, rfl, hs, fun p hp => ?_⟩)⟩
  refine .inl ⟨p, rfl, .inl ⟨⟨_, SqL.of upd_same⟩, ?_⟩⟩
  rw [e]
  have x1 : PW.Ext H (upd H p (.lst (ms.map V.int))) := PW.Ext.new hp
  have k1 : upd H p (.lst (ms.map V.int)) p = some (.lst (ms.map V.int)) := upd_same
  generalize upd H p (.lst (ms.map V.int)) = H1 at x1 k1 ⊢
  intro c hc
  have pc : p ≠ c := fun z => by rw [z, hc] at k1; cases k1
  have hc0 : H c = none := x1.back hc
  have x2 : PW.Ext H1 (upd H1 c (.lst [])) := PW.Ext.new hc
  refine lc_list (xs := ms.map V.int) (fun i H' => (∀ b o, b ≠ c → H1 b = some o → H' b = some o) ∧ ∃ acc : List Int, H' c = some (.lst (acc.map V.int)) ∧ acc.length ≤ i) ⟨fun b o _ e => x2 b o e, [], upd_same, Nat.le_refl 0⟩ (fun i H' _ ⟨st, _⟩ => SqL.of (st p _ pc k1)) (fun i x H' hx ⟨st, acc, hacc, hla⟩ => ?_) (fun H' ⟨st, acc, hacc, hla⟩ => ?_)
  · rw [List.getElem?_map] at hx
    obtain ⟨z, hz, ez⟩ := Option.map_eq_some_iff.mp hx
    subst ez
    have hi : i < ms.length := (List.getElem?_eq_some_iff.mp hz).1
    refine ⟨rfl, ?_⟩
    refine ⟨.int z, rfl, .inl ⟨z, rfl, z, rfl, ?_⟩⟩
    refine ⟨acc.map V.int, hacc, by rw [List.length_map, sizeLine_eq]; omega, fun b o hb e => by rw [upd_ne hb]; exact st b o hb e, acc ++ [_], by rw [upd_same, List.map_append]; rfl, by rw [List.length_append]; show acc.length + 1 ≤ i + 1; omega⟩
  · refine ⟨[some (.ref a), some (.ref c), none], rfl, ?_⟩
    have x3 : PW.Ext H H' := fun b o e => st b o (fun z => by have := x1 b o e; rw [z, hc] at this; cases this) (x1 b o e)
    refine ⟨.ref c, rfl, r_op ?_⟩
    refine r_c (r_cb (r_cons (r_var rfl (r_nil (r_len hacc (r_addI ?_))))))
    refine ⟨by show 5 ≤ sizeLine; decide, fun q hq => ?_⟩
    have cq : c ≠ q := fun z => by rw [z, hq] at hacc; cases hacc
    exact fin q c acc _ _ (x3.trans (PW.Ext.new hq)) (x3.back hq) hc0 cq upd_same (by rw [upd_ne cq]; exact hacc)
/-- let go of at will -/
theorem xs_frz {Φ : Post} {ρ : List Ent} {t : TS} {i : Nat} {x : D} (hi : ρ[i]? = some (.own x)) (h : XS K t (ρ.set i (.d x)) Φ) : XS K t ρ Φ := fun F H σ Dn E I => by
  obtain ⟨p, hs, _, E'⟩ := E.freeze hi
  have kf : PW.Keep (hot F σ ρ) H (hot F σ (ρ.set i (.d x))) H := fun b o n e => ⟨fun z => n (by
    rcases z with z | ⟨j, z⟩
    · exact .inl z
    · rcases z.put with ⟨_, q, _⟩ | ⟨_, q⟩
      · exact (show False from q).elim
      · exact .inr ⟨j, q⟩), e⟩
  exact h F H σ Dn E' (I.later kf)
end
local macro_rules | `(tactic| walk_at "pw") => `(tactic| first
  | ((with_reducible show w_law_lot _ _); refine i_law_lot (by omega) (by omega) ?_; intro is hL)
  | ((with_reducible show w_law_asked _ _); refine i_law_asked (by assumption) ?_; intro f hf))
section
variable {K : PySem.W.Frag} {cs gs : List D} {Φ : Post}
abbrev rhoT (K : PySem.W.Frag) (PL : Addr) (v : V) (t : Ent) (m : Int) (cs gs : List D) (e6 e7 e8 e9 e10 e11 : Ent) : List Ent :=
  [tabN (TL PL) v, .hand, t, .d (.int m), .d (.tup [.tup cs, .tup gs]), .d (ruleD K (.tup cs) (.tup gs)), e6, e7, e8, e9, e10, e11]
theorem ints_jn (ms : List Int) (hl : ms.length ≤ 100) : (D.tup (ms.map D.int)).jn = true := jn_T (by rw [List.length_map]; omega) fun x hx => by
  obtain ⟨i, _, rfl⟩ := List.mem_map.mp hx
  rfl
theorem ints_Sh (ms : List Int) : Sh 1 (D.tup (ms.map D.int)) := sh_tup fun x hx => by
  obtain ⟨i, _, rfl⟩ := List.mem_map.mp hx
  exact sh_int
theorem need_len {is : List Int} {q : List Key} {ms : List Int} (h : Need cs gs is q ms) : ms.length ≤ cs.length := by
  rcases h with ⟨_, e⟩ | ⟨_, a, c⟩
  · rw [e]
    exact Nat.zero_le _
  · have := lot_len0 (lo := 0) (hi := cs.length) a fun i hi => by
      obtain ⟨k, e, hk, _⟩ := (c i).mp hi
      omega
    omega
theorem tail_xe {PL : Addr} {v : V} {t e6 e10 e11 : Ent} {m : Int} {is ms : List Int} {q : List Key} (hP : Parts cs gs) (hL : Lot gs.length is) (hf : isFact (keyD q) = true) (hq : keyF (keyD q) = q) (hN : Need cs gs is q ms)
    (g : Φ.nx (rhoT K PL v t m cs gs e6 (.d (lotD is)) (.d (keyD q)) (.d (.tup (ms.map D.int))) e10 e11)) :
    PW.XE K (tCall (PW.spT K (TL PL) (w_needed K)) [] L2.E0 (tCons (tVar 5) (tCons (tVar 7) (tCons (tVar 8) tNil)))) (rhoT K PL v t m cs gs e6 (.d (lotD is)) (.d (keyD q)) (.d (.tup (ms.map D.int))) e10 e11)
      fun r ρ1 => XA K (tCons (tVar 9) tNil) ρ1 fun rs ρ2 => ∃ xs, peekAll ρ2 (r :: rs) = some xs ∧ ∃ ρ3, frzAll ρ2 (r :: rs) = ρ3 ∧ w_law_isN 1 xs fun z => ∃ b, z = Res.d (D.bl b) ∧ ((!b) = true → XS K (tRet (tC (V.bl false))) ρ3 Φ) ∧ ((!b) = false → XS K tNext ρ3 Φ) := by
  have few := hP.few
  have ml := need_len hN
  refine xe_callN (j := 0) (v := v) (xa_cons (xe_var_d rfl (xa_cons (xe_var_d rfl (xa_cons (xe_var_d rfl (xa_nil ⟨_, rfl, _, rfl, rfl, cs, gs, is, keyD q, rfl, hP, hL, hf, fun ns hN2 => xa_cons (xe_var_d rfl (xa_nil ?_))⟩)))))))
  rw [hq] at hN2
  rw [need_one hN2 hN]
  exact ⟨_, rfl, _, rfl, _, rfl, ints_jn ms (by omega), ints_Sh ms, true, rfl, fun z => (nomatch z), fun _ => xs_next g⟩
theorem tail_pure {PL : Addr} {v : V} {t e6 e10 e11 : Ent} {m : Int} {is ms : List Int} {q : List Key} (hP : Parts cs gs) (hL : Lot gs.length is) (hf : isFact (keyD q) = true) (hq : keyF (keyD q) = q) (hN : Need cs gs is q ms)
    (g : Φ.nx (rhoT K PL v t m cs gs e6 (.d (lotD is)) (.d (keyD q)) (.d (.tup (ms.map D.int))) e10 e11)) :
    XS K (tIfS (tNot (tB (tCall (spW K (w_law_isN 1)) [] L2.E0 (tCons (tCall (spT K (TL PL) (w_needed K)) [] L2.E0 (tCons (tVar 5) (tCons (tVar 7) (tCons (tVar 8) tNil)))) (tCons (tVar 9) tNil)))))
  (tRet (tC (.bl false)))
  tNext) (rhoT K PL v t m cs gs e6 (.d (lotD is)) (.d (keyD q)) (.d (.tup (ms.map D.int))) e10 e11) Φ :=
  xs_if (xt_not (xt_B (ye_call (xa_cons (tail_xe hP hL hf hq hN g)))))
theorem again_pure (T : TR K) {PL : Addr} {v : V} {t e6 e7 e8 e9 e10 e11 : Ent} {m : Int} (hP : Parts cs gs) (hm : (gs.length : Int) = m) (h0 : 0 < m) (h7 : m ≤ 7)
    (g : ∀ e7 e8 e9 e10 e11, Φ.nx (rhoT K PL v t m cs gs e6 e7 e8 e9 e10 e11)) : XS K (t_again K PL) (rhoT K PL v t m cs gs e6 e7 e8 e9 e10 e11) Φ := by
  have few := hP.few
  unfold t_again
  walk_at "pws"
  rename_i is hL f hf
  have hL2 : Lot gs.length is := by rw [hm]; exact hL
  have ef := fact_key hf
  generalize hq : keyF f = q at ef
  subst ef
  show XS K (t_again2 K PL) (rhoT K PL v t m cs gs e6 (.d (lotD is)) (.d (keyD q)) e9 e10 e11) Φ
  unfold t_again2
  refine xs_seq (ys_asg (xe_tup (xa_nil ⟨[], rfl, Nat.zero_le _, rhoT K PL v t m cs gs e6 (.d (lotD is)) (.d (keyD q)) (.d (.tup [])) e10 e11, rfl, ?_⟩)))
  refine xs_seq (xs_if (xt_test (xe_op (xe_var_d rfl (ye_call (xa_cons (xe_var_d rfl (xa_cons (xe_var_d rfl (xa_cons (xe_non (xa_nil ⟨_, rfl, _, rfl, i_law_rounds (w := none) hP hL2 fun ks xs hlen hmem => ⟨_, _, rfl, rfl, o_inK ⟨_, rfl, fun hb => ?_, fun hb => ?_⟩⟩⟩))))))))))))
  · have hh : HoldL cs gs is none q := (hmem q).mp ((dget_some hlen).mp hb)
    show XS K _ (rhoT K PL v t m cs gs e6 (.d (lotD is)) (.d (keyD q)) (.d (.tup [])) e10 e11) _
    walk_at "pws"
    refine ⟨by unfold RgOk; omega, rhoT K PL v t m cs gs e6 (.d (lotD is)) (.d (keyD q)) (.d (.tup [])) (.own (.lst (rngD 0 cs.length))) e11, rfl, ?_⟩
    refine ys_asg (xe_cb (xa_cons (ye_lcf (vs := [11]) (needP cs gs is q) (fun d => d) own_name wipe1 ?_)))
    walk_at "pws"
    · rename_i d hd
      obtain ⟨k, hk, rfl⟩ := List.mem_map.mp hd
      have e0 : (0 : Int) + (k : Int) = (k : Int) := by omega
      rw [e0]
      refine i_law_rounds (w := some k) hP hL2 fun ks2 xs2 hlen2 hmem2 => ⟨_, _, rfl, rfl, o_notInK ⟨_, rfl, rfl, ?_, fun _ => by walk_at "pws"⟩⟩
      by_cases hx : q ∈ ks2
      · rw [(dget_some hlen2).mpr hx]
        cases z : needP cs gs is q (.int (k : Int)) with
        | false => rfl
        | true => exact absurd ((hmem2 q).mp hx) (needP_iff.mp z k rfl)
      · have hf2 : (dget ks2 xs2 q).isSome = false := by
          cases z : (dget ks2 xs2 q).isSome with
          | false => rfl
          | true => exact absurd ((dget_some hlen2).mp z) hx
        rw [hf2]
        refine (needP_iff.mpr fun k' e h => hx ((hmem2 q).mpr ?_)).symm
        have e2 : (k : Int) = (k' : Int) := by injection e
        rw [Int.ofNat.inj e2]
        exact h
    · have em : ((rngD 0 cs.length).filter (needP cs gs is q)).map (fun d => d) = (((List.range cs.length).map fun i : Nat => (i : Int)).filter fun z => needP cs gs is q (.int z)).map D.int := by
        have er : rngD 0 cs.length = ((List.range cs.length).map fun i : Nat => (i : Int)).map D.int := by
          unfold rngD
          rw [List.map_map]
          exact List.map_congr_left fun i _ => by show D.int (0 + (i : Int)) = D.int (i : Int); rw [Int.zero_add]
        rw [List.map_id', er, List.filter_map]
        rfl
      rw [em]
      have hN : Need cs gs is q (((List.range cs.length).map fun i : Nat => (i : Int)).filter fun z => needP cs gs is q (.int z)) := by
        refine .inr ⟨hh, ?_, fun z => ?_⟩
        · refine List.Pairwise.sublist List.filter_sublist ?_
          rw [List.pairwise_map]
          exact List.pairwise_lt_range.imp fun h => Int.ofNat_lt.mpr h
        · rw [List.mem_filter, needP_iff, List.mem_map]
          constructor
          · rintro ⟨⟨k, hk, rfl⟩, b⟩
            exact ⟨k, rfl, List.mem_range.mp hk, b k rfl⟩
          · rintro ⟨k, rfl, hk, b⟩
            refine ⟨⟨k, List.mem_range.mpr hk, rfl⟩, fun k' e => ?_⟩
            have e2 : (k : Int) = (k' : Int) := by injection e
            rw [← Int.ofNat.inj e2]
            exact b
      exact tail_xe hP hL2 hf hq hN (g _ _ _ _ _)
  · have hn : ¬ HoldL cs gs is none q := fun z => by
      rw [(dget_some hlen).mpr ((hmem q).mpr z)] at hb
      cases hb
    exact xs_next (tail_pure (ms := []) hP hL2 hf hq (.inl ⟨hn, rfl⟩) (g _ _ _ _ _))
theorem turn_pure (T : TR K) {PL : Addr} {v : V} {t e3 e4 e5 e6 e7 e8 e9 e10 e11 : Ent}
    (g : ∀ e3 e4 e5 e6 e7 e8 e9 e10 e11, Φ.nx [tabN (TL PL) v, .hand, t, e3, e4, e5, e6, e7, e8, e9, e10, e11]) : XS K (t_turn K PL) [tabN (TL PL) v, .hand, t, e3, e4, e5, e6, e7, e8, e9, e10, e11] Φ := by
  unfold t_turn
  walk_at "pws"
  rename_i r h0 h5
  refine i_law_parts (by decide) (by decide) (by omega) (by omega) fun cs gs hP hg => ⟨[tabN (TL PL) v, .hand, t, .d (.int (1 + r)), .d (.tup [.tup cs, .tup gs]), e5, e6, e7, e8, e9, e10, e11], rfl, ?_⟩
  refine xs_seq (ys_asg (ye_call (xa_cons (xe_var_d rfl (xa_nil ⟨_, rfl, _, rfl, cs, gs, rfl, hP, [tabN (TL PL) v, .hand, t, .d (.int (1 + r)), .d (.tup [.tup cs, .tup gs]), .own (ruleD K (.tup cs) (.tup gs)), e6, e7, e8, e9, e10, e11], rfl, ?_⟩)))))
  refine xs_frz (i := 5) rfl ?_
  show XS K _ (rhoT K PL v t (1 + r) cs gs e6 e7 e8 e9 e10 e11) _
  walk_at "pws"
  refine ⟨fun _ ρ => ∃ e6 e7 e8 e9 e10 e11, ρ = rhoT K PL v t (1 + r) cs gs e6 e7 e8 e9 e10 e11, ⟨_, _, _, _, _, _, rfl⟩, ?_, ?_⟩
  · rintro i d ρ' _ ⟨e6, e7, e8, e9, e10, e11, rfl⟩
    exact yg_name ⟨rhoT K PL v t (1 + r) cs gs (.d d) e7 e8 e9 e10 e11, rfl, again_pure T hP hg (by omega) (by omega) fun e7 e8 e9 e10 e11 => ⟨_, _, _, _, _, _, rfl⟩⟩
  · rintro ρ' ⟨e6, e7, e8, e9, e10, e11, rfl⟩
    exact g _ _ _ _ _ _ _ _ _
theorem rest_pure (T : TR K) {PL : Addr} {v : V} {e2 e3 e4 e5 e6 e7 e8 e9 e10 e11 : Ent} : XS K (t_rest K PL) [tabN (TL PL) v, .hand, e2, e3, e4, e5, e6, e7, e8, e9, e10, e11] { nx := fun _ => False, rt := fun r _ => r = .d (.bl true) } := by
  unfold t_rest
  walk_at "pws"
  refine ⟨fun _ ρ => ∃ e2 e3 e4 e5 e6 e7 e8 e9 e10 e11, ρ = [tabN (TL PL) v, .hand, e2, e3, e4, e5, e6, e7, e8, e9, e10, e11], ⟨_, _, _, _, _, _, _, _, _, _, rfl⟩, ?_, ?_⟩
  · rintro i d ρ' _ ⟨e2, e3, e4, e5, e6, e7, e8, e9, e10, e11, rfl⟩
    exact yg_name ⟨[tabN (TL PL) v, .hand, .d d, e3, e4, e5, e6, e7, e8, e9, e10, e11], rfl, turn_pure T fun e3 e4 e5 e6 e7 e8 e9 e10 e11 => ⟨_, _, _, _, _, _, _, _, _, _, rfl⟩⟩
  · rintro ρ' ⟨e2, e3, e4, e5, e6, e7, e8, e9, e10, e11, rfl⟩
    walk_at "pws"
    exact rfl
end

end LawK54
end
section
namespace LawK54
open PySem PySem.Spec PyProof.Rows L2 C8 PW
local macro_rules | `(tactic| walk_at "jn") => `(tactic| first | exact fact_jn (by assumption) | exact clause_jn (by assumption) | exact ground_jn (by assumption))
local macro_rules | `(tactic| walk_at "pw") => `(tactic| first
  | ((with_reducible show w_is_integer _ _); with_reducible refine i_is_integer (by walk_at "bi") ?_) | ((with_reducible show w_is_within _ _); with_reducible refine i_is_within (by walk_at "bi") ?_) | ((with_reducible show w_is_tuple_of _ _); with_reducible refine i_is_tuple_of (by walk_at "bi") ?_)
  | ((with_reducible show w_law_is_number _ _); with_reducible refine i_law_is_number (by walk_at "bi") ?_)
  | ((with_reducible show w_fact _ _); with_reducible refine i_fact (by walk_at "jn") ?_)
  | ((with_reducible show w_is_clause _ _); with_reducible refine i_is_clause (by walk_at "jn") ?_)
  | ((with_reducible show w_is_ground _ _); with_reducible refine i_is_ground (by walk_at "jn") ?_)
  | ((with_reducible show w_law_draw _ _); refine i_law_draw (by first | omega | decide) (by first | omega | decide) ?_; intro r h0 h1)
  | with_reducible refine xe_any (by with_unfolding_all exact rfl) ?_
  | ((with_reducible show ∃ x ds, _ = some x ∧ itemsD x = some ds ∧ ds ≠ [] ∧ ds.length < 1073741824 ∧ _); refine ex_any (by with_unfolding_all exact rfl) (by with_unfolding_all exact rfl) (by first | assumption | (intro z; cases z; done) | exact List.append_ne_nil_of_right_ne_nil _ (List.cons_ne_nil _ _)) (by first | omega | (simp only [List.length_append, List.length_cons, List.length_nil]; omega) | decide) ?_; intro d hd)
  | ((with_reducible show w_law_fact _ _); refine i_law_fact ?_; intro f hf)
  | ((with_reducible show w_law_nested _ _); refine i_law_nested ?_; intro f hf; have hfj := hf.1))
local macro_rules | `(tactic| walk_at "sz") => `(tactic| first | (rw [rngD_len]; refine szl ?_; omega))
local macro_rules | `(tactic| walk_at "pw") => `(tactic| first
  | ((with_reducible show ∃ xs x, _ = some xs ∧ ∃ ρ2, _ = ρ2 ∧ ρ2[_]? = some (Ent.own x) ∧ MtD _ rAppend x xs _); refine ⟨_, _, rfl, _, rfl, rfl, m_append (szlt (by first | omega | (simp only [List.length_append, List.length_cons, List.length_nil]; omega))) ?_⟩)
  | ((with_reducible show ∃ n, _ = some [D.int n] ∧ -2 ^ 62 ≤ n ∧ n < 2 ^ 62 ∧ _); refine ⟨_, rfl, by omega, by omega, ?_⟩))
local macro_rules | `(tactic| walk_at "pw") => `(tactic| first
  | with_reducible refine ye_fldC (by assumption) ?_ | with_reducible refine ye_fldG (by assumption) ?_
  | ((with_reducible show ∃ x y, _ = some (ruleD _ x y) ∧ _); refine ⟨_, _, by with_unfolding_all exact rfl, ?_⟩)
  | ((with_reducible show w_unlike _ _); refine i_unlike (by assumption) (by first | omega | assumption) ?_)
  | ((with_reducible show w_check_fact _ _); refine i_check_fact (by assumption) ?_)
  | ((with_reducible show w_check_lot _ _ _); refine i_check_lot (by assumption) (by first | omega | assumption) ?_)
  | with_reducible refine ye_dnewT ?_)
/-- the law: the script's numbers, the table of led_from's code empty -/
def spLaw (K : PySem.W.Frag) (PL : Addr) : Sp := fun vs H Q _ => ∃ (a : Addr) (ns : List Int), vs = [.ref a] ∧ SqL K H a (ns.map V.int) ∧ ns.length ≤ 63 ∧ H PL = some (.tbl #[]) ∧ ∀ H', Q (.bl true) H'
def NL : List Str := ["script", "hand", "turn", "many", "parts", "rule", "again", "lot", "fact", "due", "numbers", "k"]
section
variable {K : PySem.W.Frag} {PL : Addr}
theorem body_law (T : TR K) {vs : List V} {H : Hp} {Q : VK} {E : XK} (h : spLaw K PL vs H Q E) : t_law_main K PL { nx := fun _ H' => Q .non H', rt := Q } (L2.start NL vs) H := by
  obtain ⟨a, ns, rfl, hs, hl, hT, fin⟩ := h
  refine ⟨.ref a, rfl, ?_⟩
  refine ⟨a, ns, rfl, hs, hl, fun p c cs s H' ex hp hc hcp h1 h2 => ?_⟩
  show t_rest K PL _ (some (.ref a) :: some (.ref p) :: List.replicate 10 none) H'
  have hT' : H' PL = some (.tbl #[]) := ex _ _ hT
  have mt : ∀ b, b ∈ tabA (TL PL) → b = PL := fun b hb => List.mem_singleton.mp hb
  let F : Fr := ⟨fun b => b = p, fun b => if b = p then H' p else none, some p, fun _ => none, fun _ => False⟩
  let ρ : List Ent := [tabN (TL PL) (.ref a), .hand, .u, .u, .u, .u, .u, .u, .u, .u, .u, .u]
  let σ : L2.St := some (.ref a) :: some (.ref p) :: List.replicate 10 none
  have own : ∀ (i : Nat) (b : Addr), Owns σ ρ i b → i = 0 ∧ b = PL := fun i b ⟨e, q1, q2⟩ => by
    match i, q1 with
    | 0, q1 => cases q1; exact ⟨rfl, mt b q2⟩
    | 1, q1 => cases q1; exact (show False from q2).elim
    | i + 2, q1 =>
      have q1 : (List.replicate 10 Ent.u)[i]? = some e := q1
      rw [List.getElem?_replicate] at q1
      split at q1
      · cases q1; exact (show False from q2).elim
      · cases q1
  have less : ∀ b, hot F σ ρ b → b = p ∨ b = PL := fun b hb => by
    rcases hb with hb | ⟨j, q⟩
    · exact .inl hb
    · exact .inr (own j b q).2
  have pPL : PL ≠ p := fun z => by rw [z, h1] at hT'; cases hT'
  have cPL : c ≠ PL := fun z => by rw [z, hT'] at h2; cases h2
  have tr : Tr (hot F σ ρ) H' := fun b hb => by
    rcases less b hb with z | z
    · rw [z, h1]; trivial
    · rw [z, hT']; trivial
  have tabs : LamX.Tabs (TL PL) H' := fun q hq => by
    rw [List.mem_singleton.mp hq]
    exact LamX.TabS.nil hT'
  have E1 : Env K F H' σ ρ := by
    refine ⟨rfl, fun b o n e => ?_, fun b hb => ?_, fun b hb => ?_, fun i b q => ?_, fun i j b q1 q2 => (own i b q1).1.trans (own j b q2).1.symm, fun i e he => ?_, ⟨fun b o e => (nomatch e), fun b hb _ => absurd rfl hb⟩⟩
    · have e : (if b = p then H' p else none) = some o := e
      by_cases z : b = p
      · exact absurd (by rw [z]) n
      · rw [if_neg z] at e
        cases e
    · have hb : b = p := hb
      rw [hb, h1]
      trivial
    · cases hb
      refine ⟨rfl, ?_, c, cs, 0, 0, s, 0, h1, ⟨fun z => (less c z).elim hcp cPL, h2⟩, Int.le_refl 0, Int.le_refl 0⟩
      show (if p = p then H' p else none) ≠ none
      rw [if_pos rfl, h1]
      exact fun z => nomatch z
    · have e := (own i b q).2
      refine ⟨?_, fun z => pPL (by rw [← e]; exact z)⟩
      show (if b = p then H' p else none) = none
      exact if_neg (by rw [e]; exact pPL)
    · match i, he with
      | 0, he =>
        cases he
        exact ⟨rfl, TabM.of tabs tr, tabN_stab, tab_nt (TabM.of tabs tr)⟩
      | 1, he => cases he; exact ⟨p, rfl, rfl⟩
      | i + 2, he =>
        have he : (List.replicate 10 Ent.u)[i]? = some e := he
        rw [List.getElem?_replicate] at he
        split at he
        · cases he; trivial
        · cases he
  refine rest_pure T F H' σ _ E1 ⟨fun _ _ _ _ _ z => z.elim, fun v H2 σ ρ r _ R n g => ?_, fun _ _ _ _ _ g => g.elim, fun _ _ _ _ _ g => g.elim⟩
  subst g
  rw [show v = .bl true from R.held]
  exact fin H2
end
section
variable {P : Program} {w : World} {K : PySem.W.Frag} {mg : Str → Option Value} {base : Heap} {cL PL : Addr}
theorem c_law_hand (G0 : Gx K mg) : Cal P w K mg base 1 "_law_hand" (spMk K) [] := by
  obtain ⟨f, fd, F, hm⟩ := G0.f_law_hand
  refine ⟨f, fd, ["script"], [], F.ok sc_law_hand (fun vs H Q E h => by obtain ⟨_, _, e, _⟩ := h; rw [e]; rfl) (fun cdv A outer s H vs Q E hr h => ⟨t_law_hand K, PSs.nox ?_, body_law_hand h⟩), hm, F.kp, F.bindsN (fun _ _ _ _ _ _ us hl => match us, hl with | [_], _ => rfl), .nil⟩
  exact (pss_cons (ps_setLc (i := 1) (own := [("cell", 2)]) rfl sc_law_hand.nd rfl rfl (sw_true rfl rfl rfl (by decide +kernel)) (pi_seqU (pe_slice sl_U (pv 0) po_none (po_some pe_int))) (blkOk_by (N := ["script", "cells", "cell"]) (sc := defScope s_law_hand) (by decide +kernel)) (fun _ _ _ _ _ => (pg_name (i := 2) sc_law_hand.nd rfl (by first | exact Or.inl rfl | exact Or.inr rfl))) (fun _ _ _ _ _ => pts_nil) (fun _ _ _ _ _ => (pe_callB call_absU rfl G0.b_abs (by decide +kernel) (pa_cons (pe_callTy call_intU rfl G0.b_int (by decide +kernel) (pa_cons (pv 2) pa_nil)) pa_nil))))
  (pss_one (ps_ret (pe_lst (pa_cons (pv 1) (pa_cons pe_int (pa_cons pe_int (pa_cons (pe_op op_addU pe_int (pe_callB call_lenU rfl G0.b_len (by decide +kernel) (pa_cons (pv 1) pa_nil))) (pa_cons pe_int pa_nil)))))))))
theorem ok_law (G : Gl P K mg base cL PL) {f : Addr} {fd : FuncData} (F : FunD K "law" "law" (defArgs s_law_main) (defBody s_law_main) (defScope s_law_main) [] [] f fd) : FnOk P w K mg base C8.CX0 14 f fd ["script"] (spLaw K PL) := by
  have G0 := G.s.t.g
  refine F.ok sc_law_main (fun vs H Q E h => by obtain ⟨_, _, e, _⟩ := h; rw [e]; rfl) (fun cdv A outer s H vs Q E hr h => ⟨t_law_main K PL, PSs.nox ?_, body_law G.s.tr h⟩)
  exact (pss_cons (ps_set (i := 1) sc_law_main.nd rfl (by first | exact Or.inl rfl | exact Or.inr rfl) (pe_c (c_law_hand G0) hr (by decide) rfl (pa_cons (pv 0) pa_nil)))
  (pss_cons (ps_for PassesOwn.never rfl (pi_range1 rfl G0.b_range (pa_cons pe_int pa_nil)) (pg_name (i := 2) sc_law_main.nd rfl (by first | exact Or.inl rfl | exact Or.inr rfl))
  (pss_cons (ps_set (i := 3) sc_law_main.nd rfl (by first | exact Or.inl rfl | exact Or.inr rfl) (pe_op op_addU pe_int (pe_c (c_law_draw G0) hr (by decide) rfl (pa_cons (pv 1) (pa_cons pe_int pa_nil)))))
  (pss_cons (ps_set (i := 4) sc_law_main.nd rfl (by first | exact Or.inl rfl | exact Or.inr rfl) (pe_c (c_law_parts G0) hr (by decide) rfl (pa_cons (pv 1) (pa_cons pe_int (pa_cons (pv 3) pa_nil)))))
  (pss_cons (ps_set (i := 5) sc_law_main.nd rfl (by first | exact Or.inl rfl | exact Or.inr rfl) (pe_c (c_law_made G.s.t) hr (by decide) rfl (pa_cons (pv 4) pa_nil)))
  (pss_one (ps_for PassesOwn.never rfl (pi_range1 rfl G0.b_range (pa_cons pe_int pa_nil)) (pg_name (i := 6) sc_law_main.nd rfl (by first | exact Or.inl rfl | exact Or.inr rfl))
  (pss_cons (ps_asg (pe_tup (pa_cons (pe_c (c_law_lot G0) hr (by decide) rfl (pa_cons (pv 1) (pa_cons (pv 3) pa_nil))) (pa_cons (pe_c (c_law_asked G0) hr (by decide) rfl (pa_cons (pv 1) (pa_cons (pv 4) pa_nil))) pa_nil))) (pg_tup rfl (pgs_cons (pg_name (i := 7) sc_law_main.nd rfl (by first | exact Or.inl rfl | exact Or.inr rfl)) (pgs_cons (pg_name (i := 8) sc_law_main.nd rfl (by first | exact Or.inl rfl | exact Or.inr rfl)) pgs_nil))))
  (pss_cons (ps_set (i := 9) sc_law_main.nd rfl (by first | exact Or.inl rfl | exact Or.inr rfl) (pe_tup pa_nil))
  (pss_cons (ps_if (pt_cmpR (op_inK (hu1 hr)) (pv 8) (pe_c (c_law_rounds G0) hr (by decide) rfl (pa_cons (pv 4) (pa_cons (pv 7) (pa_cons pe_non pa_nil)))) (by with_unfolding_all rfl))
  (pss_cons (ps_set (i := 10) sc_law_main.nd rfl (by first | exact Or.inl rfl | exact Or.inr rfl) (pe_listRg rfl rfl G0.b_list (prg_1 rfl G0.b_range (pe_callB call_lenU rfl G0.b_len (by decide +kernel) (pa_cons (pe_ix ix_seq (pv 4) pe_int (fun _ _ => rfl)) pa_nil)))))
  (pss_one (ps_set (i := 9) sc_law_main.nd rfl (by first | exact Or.inl rfl | exact Or.inr rfl) (pe_callTy call_tupU rfl G0.b_tuple (by decide +kernel) (pa_cons (pe_lc (own := [("k", 11)]) rfl sc_law_main.nd (pi_seqU (pv 10)) (blkOk_by (N := ["script", "hand", "turn", "many", "parts", "rule", "again", "lot", "fact", "due", "numbers", "k"]) (sc := defScope s_law_main) (by decide +kernel)) (fun _ _ _ _ _ => (pg_name (i := 11) sc_law_main.nd rfl (by first | exact Or.inl rfl | exact Or.inr rfl))) (fun _ _ _ _ _ => (pts_one (pt_cmpR (op_notInK (hu1 hr)) (pv 8) (pe_c (c_law_rounds G0) hr (by decide) rfl (pa_cons (pv 4) (pa_cons (pv 7) (pa_cons (pv 11) pa_nil)))) (by with_unfolding_all rfl)))) (fun _ _ _ _ _ => (pv 11))) pa_nil)))))
  pss_nil)
  (pss_one (ps_if (pt_not (pt_val (pe_c (c_law_isN G0 1) hr (by decide) rfl (pa_cons (pe_c (c_needed0 G (c_reasons0 G (c_led_from G))) hr (by decide) rfl (pa_cons (pv 5) (pa_cons (pv 7) (pa_cons (pv 8) pa_nil)))) (pa_cons (pv 9) pa_nil)))))
  (pss_one (ps_ret pe_bl))
  pss_nil)))))))))))
  (pss_one (ps_ret pe_bl))))
end

end LawK54
end
section
set_option maxHeartbeats 0
namespace LawK54
open PySem PySem.Spec PyProof.Rows L2 C8 PW
theorem st_args : defArgs s_BadRule_init = PySem.SupX.sArg "part" ⟨13, 17, 13, 21⟩ ⟨13, 23, 13, 27⟩ := by kernel_rfl
theorem st_body : defBody s_BadRule_init = [PySem.SupX.sExp "part" ⟨14, 8, 14, 13⟩ ⟨14, 8, 14, 15⟩ ⟨14, 8, 14, 24⟩ ⟨14, 25, 14, 29⟩ ⟨14, 8, 14, 30⟩ ⟨14, 8, 14, 30⟩, PySem.SupX.sAsg "part" ⟨15, 8, 15, 12⟩ ⟨15, 8, 15, 17⟩ ⟨15, 20, 15, 24⟩ ⟨15, 8, 15, 24⟩] := by kernel_rfl
theorem st_scope : defScope s_BadRule_init = PySem.SupX.sSc "part" := by kernel_rfl
theorem sup_of {K : PySem.W.Frag} (x : xb K = true) (e : xf K = xv) : PySem.SupX.SupC hP K (CB K) (He.ma K (CB K) "__init__") "part" "BadRule.__init__" := by
  have e2 : PySem.SupX.fnY K (He.ma K (CB K) "__init__") = some (("__init__" : Str), ("BadRule.__init__" : Str), PySem.SupX.sArg "part" ⟨13, 17, 13, 21⟩ ⟨13, 23, 13, 27⟩, FuncBody.stmts [PySem.SupX.sExp "part" ⟨14, 8, 14, 13⟩ ⟨14, 8, 14, 15⟩ ⟨14, 8, 14, 24⟩ ⟨14, 25, 14, 29⟩ ⟨14, 8, 14, 30⟩ ⟨14, 8, 14, 30⟩, PySem.SupX.sAsg "part" ⟨15, 8, 15, 12⟩ ⟨15, 8, 15, 17⟩ ⟨15, 20, 15, 24⟩ ⟨15, 8, 15, 24⟩], PySem.SupX.sSc "part", mainGlobals, [("__class__" : Str)], builtinsNs) := by
    rw [← st_args, ← st_body, ← st_scope]
    exact e
  obtain ⟨oc, od, doc, pm, an, cda, ct, cc, osl, ccl, cdd, vs, ccs, tf, cl, cld, csl, h1, h2, h3, h4, h5⟩ := PySem.SupX.fnB_ok e2 (xb_at x 1 rfl)
  exact {
    cls := PySem.SupX.clsB_ok (xb_at x 0 rfl)
    sa := of_decide_eq_true (xb_at x 2 rfl)
    ga := of_decide_eq_true (xb_at x 3 rfl)
    gg := of_decide_eq_true (xb_at x 4 rfl)
    noN := of_decide_eq_true (xb_at x 5 rfl)
    iC := of_decide_eq_true (xb_at x 6 rfl)
    tC := of_decide_eq_true (xb_at x 7 rfl)
    kC := xb_at x 8 rfl
    hdC := xb_at x 13 rfl
    exC := of_decide_eq_true (xb_at x 9 rfl)
    veC := of_decide_eq_true (xb_at x 10 rfl)
    sub := of_decide_eq_true (xb_at x 11 rfl)
    tyC := of_decide_eq_true (xb_at x 12 rfl)
    te := of_decide_eq_true (xb_at x 14 rfl)
    sup := of_decide_eq_true (xb_at x 15 rfl)
    opq := of_decide_eq_true (xb_at x 16 rfl)
    top := by decide +kernel
    lk1 := by decide +kernel
    lk2 := by decide +kernel
    lk3 := by decide +kernel
    lk4 := by decide +kernel
    nf := ⟨by decide +kernel, by decide +kernel⟩
    fn := ⟨oc, od, doc, pm, an, cda, ct, cc, osl, _, _, ⟨14, 8, 14, 13⟩, ⟨14, 8, 14, 15⟩, ⟨14, 8, 14, 24⟩, ⟨14, 25, 14, 29⟩, ⟨14, 8, 14, 30⟩, ⟨14, 8, 14, 30⟩, ⟨15, 8, 15, 12⟩, ⟨15, 8, 15, 17⟩, ⟨15, 20, 15, 24⟩, ⟨15, 8, 15, 24⟩, ccl, cdd, vs, ccs, _, tf, cl, cld, csl, h1, h2, h3, h4, by decide +kernel, h5, _, fun _ => rfl⟩
    bnd := fun _ _ _ _ _ _ _ _ _ _ _ => rfl }
theorem gx_of {K : PySem.W.Frag} {h : Heap} {mg : Str → Option Value} (X : K.In h) (G : h.Ns mainGlobals mg) (c1 : He.SaysD hfa hfn K) : Gx K mg := {
  b_all := He.free_ok X G (c1.fact 0 (f := .free "all") rfl)
  b_bool := He.free_ok X G (c1.fact 1 (f := .free "bool") rfl)
  b_enumerate := He.free_ok X G (c1.fact 2 (f := .free "enumerate") rfl)
  b_int := He.free_ok X G (c1.fact 3 (f := .free "int") rfl)
  b_isinstance := He.free_ok X G (c1.fact 4 (f := .free "isinstance") rfl)
  b_len := He.free_ok X G (c1.fact 5 (f := .free "len") rfl)
  b_list := He.free_ok X G (c1.fact 6 (f := .free "list") rfl)
  b_range := He.free_ok X G (c1.fact 7 (f := .free "range") rfl)
  b_str := He.free_ok X G (c1.fact 8 (f := .free "str") rfl)
  b_tuple := He.free_ok X G (c1.fact 9 (f := .free "tuple") rfl)
  k_GROUND := by obtain ⟨t, e⟩ := He.str_ok X G (c1.fact 21 (f := .str "GROUND" "ground") rfl); exact ⟨_, e, t, rfl⟩
  k_LETTERS := by obtain ⟨t, e⟩ := He.str_ok X G (c1.fact 22 (f := .str "LETTERS" "abcdefghijklmnopqrstuvwxyz") rfl); exact ⟨_, e, t, rfl⟩
  k_MOST_BODY := by obtain ⟨t, e⟩ := He.int_ok X G (c1.fact 14 (f := .int "MOST_BODY" 4) rfl); exact ⟨_, e, t, rfl⟩
  k_MOST_CLAUSES := by obtain ⟨t, e⟩ := He.int_ok X G (c1.fact 15 (f := .int "MOST_CLAUSES" 20000) rfl); exact ⟨_, e, t, rfl⟩
  k_MOST_FACTS := by obtain ⟨t, e⟩ := He.int_ok X G (c1.fact 16 (f := .int "MOST_FACTS" 5000) rfl); exact ⟨_, e, t, rfl⟩
  k_MOST_GROUNDS := by obtain ⟨t, e⟩ := He.int_ok X G (c1.fact 17 (f := .int "MOST_GROUNDS" 60) rfl); exact ⟨_, e, t, rfl⟩
  k_MOST_NUMBER := by obtain ⟨t, e⟩ := He.int_ok X G (c1.fact 18 (f := .int "MOST_NUMBER" 999999999999) rfl); exact ⟨_, e, t, rfl⟩
  k_MOST_PLACES := by obtain ⟨t, e⟩ := He.int_ok X G (c1.fact 19 (f := .int "MOST_PLACES" 4) rfl); exact ⟨_, e, t, rfl⟩
  k_MOST_SIGNS := by obtain ⟨t, e⟩ := He.int_ok X G (c1.fact 20 (f := .int "MOST_SIGNS" 12) rfl); exact ⟨_, e, t, rfl⟩
  f_is_integer := by obtain ⟨fd, F⟩ := c1.def_ 0 (d := hd0) rfl; exact ⟨_, fd, F, He.glo_ok X G (c1.fact 24 (f := .glo "is_integer") rfl)⟩
  f_is_within := by obtain ⟨fd, F⟩ := c1.def_ 1 (d := hd1) rfl; exact ⟨_, fd, F, He.glo_ok X G (c1.fact 25 (f := .glo "is_within") rfl)⟩
  f_is_tuple_of := by obtain ⟨fd, F⟩ := c1.def_ 2 (d := hd2) rfl; exact ⟨_, fd, F, He.glo_ok X G (c1.fact 26 (f := .glo "is_tuple_of") rfl)⟩
  f_is_fact := by obtain ⟨fd, F⟩ := c1.def_ 3 (d := hd3) rfl; exact ⟨_, fd, F, He.glo_ok X G (c1.fact 27 (f := .glo "is_fact") rfl)⟩
  f_is_clause := by obtain ⟨fd, F⟩ := c1.def_ 4 (d := hd4) rfl; exact ⟨_, fd, F, He.glo_ok X G (c1.fact 28 (f := .glo "is_clause") rfl)⟩
  f_is_ground := by obtain ⟨fd, F⟩ := c1.def_ 5 (d := hd5) rfl; exact ⟨_, fd, F, He.glo_ok X G (c1.fact 29 (f := .glo "is_ground") rfl)⟩
  f_bad_part := by obtain ⟨fd, F⟩ := c1.def_ 6 (d := hd6) rfl; exact ⟨_, fd, F, He.glo_ok X G (c1.fact 30 (f := .glo "bad_part") rfl)⟩
  f_law_draw := by obtain ⟨fd, F⟩ := c1.def_ 7 (d := hd7) rfl; exact ⟨_, fd, F, He.glo_ok X G (c1.fact 31 (f := .glo "_law_draw") rfl)⟩
  f_law_any := by obtain ⟨fd, F⟩ := c1.def_ 8 (d := hd8) rfl; exact ⟨_, fd, F, He.glo_ok X G (c1.fact 32 (f := .glo "_law_any") rfl)⟩
  f_law_fact := by obtain ⟨fd, F⟩ := c1.def_ 9 (d := hd9) rfl; exact ⟨_, fd, F, He.glo_ok X G (c1.fact 33 (f := .glo "_law_fact") rfl)⟩
  f_law_pool := by obtain ⟨fd, F⟩ := c1.def_ 10 (d := hd10) rfl; exact ⟨_, fd, F, He.glo_ok X G (c1.fact 34 (f := .glo "_law_pool") rfl)⟩
  f_law_parts := by obtain ⟨fd, F⟩ := c1.def_ 11 (d := hd11) rfl; exact ⟨_, fd, F, He.glo_ok X G (c1.fact 35 (f := .glo "_law_parts") rfl)⟩
  f_law_ground_facts := by obtain ⟨fd, F⟩ := c1.def_ 12 (d := hd12) rfl; exact ⟨_, fd, F, He.glo_ok X G (c1.fact 36 (f := .glo "_law_ground_facts") rfl)⟩
  f_law_asked := by obtain ⟨fd, F⟩ := c1.def_ 13 (d := hd13) rfl; exact ⟨_, fd, F, He.glo_ok X G (c1.fact 37 (f := .glo "_law_asked") rfl)⟩
  f_law_lot := by obtain ⟨fd, F⟩ := c1.def_ 14 (d := hd14) rfl; exact ⟨_, fd, F, He.glo_ok X G (c1.fact 38 (f := .glo "_law_lot") rfl)⟩
  f_unlike := by obtain ⟨fd, F⟩ := c1.def_ 15 (d := hd15) rfl; exact ⟨_, fd, F, He.glo_ok X G (c1.fact 39 (f := .glo "unlike") rfl)⟩
  f_check_fact := by obtain ⟨fd, F⟩ := c1.def_ 16 (d := hd16) rfl; exact ⟨_, fd, F, He.glo_ok X G (c1.fact 40 (f := .glo "check_fact") rfl)⟩
  f_check_lot := by obtain ⟨fd, F⟩ := c1.def_ 17 (d := hd17) rfl; exact ⟨_, fd, F, He.glo_ok X G (c1.fact 41 (f := .glo "check_lot") rfl)⟩
  f_ground_facts := by obtain ⟨fd, F⟩ := c1.def_ 18 (d := hd18) rfl; exact ⟨_, fd, F, He.glo_ok X G (c1.fact 42 (f := .glo "ground_facts") rfl)⟩
  f_spread := by obtain ⟨fd, F⟩ := c1.def_ 19 (d := hd19) rfl; exact ⟨_, fd, F, He.glo_ok X G (c1.fact 43 (f := .glo "spread") rfl)⟩
  f_led_from := by obtain ⟨fd, F⟩ := c1.def_ 20 (d := hd20) rfl; exact ⟨_, fd, F, He.glo_ok X G (c1.fact 44 (f := .glo "led_from") rfl)⟩
  f_reasons := by obtain ⟨fd, F⟩ := c1.def_ 21 (d := hd21) rfl; exact ⟨_, fd, F, He.glo_ok X G (c1.fact 45 (f := .glo "reasons") rfl)⟩
  f_needed := by obtain ⟨fd, F⟩ := c1.def_ 22 (d := hd22) rfl; exact ⟨_, fd, F, He.glo_ok X G (c1.fact 46 (f := .glo "needed") rfl)⟩
  f_law_hand := by obtain ⟨fd, F⟩ := c1.def_ 23 (d := hd23) rfl; exact ⟨_, fd, F, He.glo_ok X G (c1.fact 47 (f := .glo "_law_hand") rfl)⟩
  f_law_is := by obtain ⟨fd, F⟩ := c1.def_ 24 (d := hd24) rfl; exact ⟨_, fd, F, He.glo_ok X G (c1.fact 48 (f := .glo "_law_is") rfl)⟩
  f_law_made := by obtain ⟨fd, F⟩ := c1.def_ 25 (d := hd25) rfl; exact ⟨_, fd, F, He.glo_ok X G (c1.fact 49 (f := .glo "_law_made") rfl)⟩
  f_law_rounds := by obtain ⟨fd, F⟩ := c1.def_ 26 (d := hd26) rfl; exact ⟨_, fd, F, He.glo_ok X G (c1.fact 50 (f := .glo "_law_rounds") rfl)⟩
  f_law_main := by obtain ⟨fd, F⟩ := c1.def_ 27 (d := hd27) rfl; exact ⟨_, fd, F, He.glo_ok X G (c1.fact 51 (f := .glo "law") rfl)⟩
  b_super := He.free_ok X G (c1.fact 10 (f := .free "super") rfl)
  b_sorted := He.free_ok X G (c1.fact 11 (f := .free "sorted") rfl)
  b_zip := He.free_ok X G (c1.fact 12 (f := .free "zip") rfl)
  b_abs := He.free_ok X G (c1.fact 13 (f := .free "abs") rfl)
  c_Rule := He.glo_ok X G (c1.fact 52 (f := .glo "Rule") rfl)
  c_BadRule := He.glo_ok X G (c1.fact 53 (f := .glo "BadRule") rfl)
  c_PostError := He.glo_ok X G (c1.fact 54 (f := .glo "PostError") rfl)
  c_NoLot := He.glo_ok X G (c1.fact 55 (f := .glo "NoLot") rfl)
  c_NoFact := He.glo_ok X G (c1.fact 56 (f := .glo "NoFact") rfl)
  c_Spread := He.glo_ok X G (c1.fact 57 (f := .glo "Spread") rfl)
  k_CLAUSE := by obtain ⟨t, e⟩ := He.str_ok X G (c1.fact 23 (f := .str "CLAUSE" "clause") rfl); exact ⟨_, e, t, rfl⟩
}
theorem gs_of {K : PySem.W.Frag} {h : Heap} {mg : Str → Option Value} (X : K.In h) (G : h.Ns mainGlobals mg) (c : HeX.obsX hfa hfn xb xf K = (He.valD hfn, true, xv)) : Gs hP K mg := by
  have c1 : He.SaysD hfa hfn K := congrArg (fun z : HeX.AlX => z.1) c
  have x : xb K = true := congrArg (fun z : HeX.AlX => z.2.1) c
  have e : xf K = xv := congrArg (fun z : HeX.AlX => z.2.2) c
  have S := sup_of x e
  have t : Gt hP K mg := {
    g := gx_of X G c1
    cT := He.cls_ok (c1.fact 58 (f := .cls "Rule") rfl)
    mkT := He.mkr_ok (c1.fact 59 (f := .mkr "Rule") rfl)
    n1 := He.noat_ok (c1.fact 62 (f := .noat "Rule" "clauses") rfl)
    n2 := He.noat_ok (c1.fact 63 (f := .noat "Rule" "grounds") rfl)
    fI := c1.def_ 28 (d := hd28) rfl
    bad := S
    tCl := of_decide_eq_true (xb_at x 21 rfl)
    tSp := of_decide_eq_true (xb_at x 18 rfl)
    tTk := of_decide_eq_true (xb_at x 19 rfl)
    tMr := of_decide_eq_true (xb_at x 22 rfl)
    exc := { hg := S.ga, hk := S.gg, hs := S.exC, hd := S.hdC, ha := of_decide_eq_true (xb_at x 17 rfl), hn := of_decide_eq_true (xb_at x 18 rfl), ht := of_decide_eq_true (xb_at x 19 rfl), hm := of_decide_eq_true (xb_at x 20 rfl) } }
  exact {
    t := t
    tr := { cR := t.cT, n1 := t.n1, n2 := t.n2, cS := He.cls_ok (c1.fact 60 (f := .cls "Spread") rfl), s1 := He.noat_ok (c1.fact 64 (f := .noat "Spread" "rule") rfl), s2 := He.noat_ok (c1.fact 65 (f := .noat "Spread" "left_out") rfl), s3 := He.noat_ok (c1.fact 66 (f := .noat "Spread" "found") rfl), s4 := He.noat_ok (c1.fact 67 (f := .noat "Spread" "wanting") rfl) }
    mkS := He.mkr_ok (c1.fact 61 (f := .mkr "Spread") rfl)
    mU := He.meth_ok (c1.fact 68 (f := .meth "Rule" "users") rfl)
    mM := He.meth_ok (c1.fact 69 (f := .meth "Spread" "met") rfl)
    mD := He.meth_ok (c1.fact 70 (f := .meth "Spread" "drawn") rfl)
    fU := c1.def_ 29 (d := hd29) rfl
    fM := c1.def_ 31 (d := hd31) rfl
    fD := c1.def_ 32 (d := hd32) rfl
    fS := c1.def_ 30 (d := hd30) rfl }
theorem at_law {w : World} {K : PySem.W.Frag} {h : Heap} {mg : Str → Option Value} {fa : Addr} (X : K.In h) (G : h.Ns mainGlobals mg) (c : HeX.obsX hfa hfn xb xf K = (He.valD hfn, true, xv)) (hmg : mg ("law" : Str) = some (.ref fa)) (tb : TabOf "led_from" mg h) :
    LamX.LawAtS PySem.Challenge.rw_strangerspost_k54_whole_needed_clauses w K C8.CX0 14 63 "script" mg fa h := by
  have S := gs_of X G c
  have c1 : He.SaysD hfa hfn K := congrArg (fun z : HeX.AlX => z.1) c
  have x : xb K = true := congrArg (fun z : HeX.AlX => z.2.1) c
  obtain ⟨a, o, fd0, cL, PL, h1, h2, h3, h4, h5, h6⟩ := tb
  obtain ⟨fL, fdL, FL, hL⟩ := S.t.g.f_led_from
  have ea : a = fL := by
    have e := h1.symm.trans hL
    cases e
    rfl
  have eg : a = He.ga K "led_from" := by
    have e := h1.symm.trans (He.glo_ok X G (c1.fact 44 (f := .glo "led_from") rfl))
    cases e
    rfl
  obtain ⟨oc, od, dV, kV, doc, pm, an, cdv, ct, osl, ef, lk, _, _, _⟩ := FL.ex
  have ec : fdL.code = .ref cL := by
    have k := X _ _ lk
    rw [← ea, h2] at k
    have k := Option.some.inj k
    rw [k] at h3
    cases h3
    exact h4
  obtain ⟨f, fd, F, hf⟩ := S.t.g.f_law_main
  have hff : f = fa := by
    have e := hf.symm.trans hmg
    cases e
    rfl
  subst hff
  have b := FunD.bindsA (ps := ["script"]) F fun _ _ _ _ _ _ us hl => match us, hl with | [_], _ => rfl
  have nT : K.lookup PL = none := tabFree_ok (fa := a) (by rw [eg]; exact xb_at x 23 rfl) X h2 h3 h4 h6
  refine ⟨fd, [(cL, PL)], spLaw K PL, fun p hp => ?_, fun p hp => ?_, fun p hp => ?_, fun s u => b s [u] rfl, fun H a ns hl _ hT hS => ⟨a, ns, rfl, hS, hl, hT (cL, PL) (List.mem_singleton.mpr rfl), fun _ => rfl⟩, fun base _ _ TB => ok_law { s := S, cS := S.t.g.c_Spread, fL := ⟨fL, fdL, FL, hL, ec⟩, tb := TB (cL, PL) (List.mem_singleton.mpr rfl) } F⟩
  · rw [List.mem_singleton.mp hp]
    exact h6.2
  · rw [List.mem_singleton.mp hp]
    exact nT
  · rw [List.mem_singleton.mp hp]
    exact PySem.W.CodeHd.of h5 h6
end LawK54
end
end
set_option maxHeartbeats 0
open PySem PySem.W PySem.Calls PyProof.Rows
theorem PySem.Challenge.cw_strangerspost_k54_whole_needed_clauses_holds : PySem.Challenge.rw_strangerspost_k54_whole_needed_clauses.Holds :=
  LawK54.holds_of fun w K mg h fa KX G c hmg tb => LawK54.at_law KX G c hmg tb
