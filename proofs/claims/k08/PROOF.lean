import PyProof.Rows.All
import Wide.All
import OpenK.AllK
import Wide.FinOn
import HandS.ForMost
import HandS.IsInst
import HandS.Deep
import HandS.TupAny
import HandS.TupMul
import HandS.TupLe
import HandS.Conv
import HandS.Codes
import HandS.Defaults
import HandS.Zip
import HandS.Style
import KE.GoesMore
import KE.GoesEnum
import PyProof.Draws
import PyProof.EqAt
import PyProof.EqKinds
import PyProof.TupleCall
import KE.KRevIter
import HandS.Base
import HandS.Call
import HandS.List
import HandS.Dict
import HandS.Iter
import HandS.RevTup
import HandS.Rev
import PyProof.Rows.FactsT2
import PyProof.Rows.SetFrom
import HandS.Wide
import HandS.Text
import KE.KExcSuper
import HandS.ForExc
import HandS.ExcIs
import HandS.ExcSuper
import HandS.ExcOwn
import HandS.TryMany
import KE.KExcIs
import HandS.Ends
import HandS.HeadEnd
import HandS.Exc
import HandS.HeadHook1
import HandS.HeadHook2
import KE.KStateDown
import Lean
import HandS.Words
import HandS.ExcField
import HandS.TryOnly
import PySem.Challenge.RW_strangerspost_k08_whole_trees_judged
import HandS.FStrTup
import PyProof.ReprReads
import PyProof.ReprRoads
import PyProof.ReprLen
import PyProof.FitsInt
import PyProof.StrLawsRepr
import KE.DataCmp
import HandS.Head0
import HandS.Head1
import HandS.Head2
set_option Elab.async false
set_option linter.all false
set_option maxRecDepth 100000
set_option maxHeartbeats 4000000
section
/-! PW: a layer of my own over the hand layer: plain data, environments of data, judgements in continuation style. -/
namespace PW
open PySem PySem.Spec PyProof.Rows L2

/-! ### plain data -/
inductive D where
  | non | bl (b : Bool) | int (i : Int) | str (x : Str)
  | tup (xs : List D) | lst (xs : List D) | emp
  | obj (C : Addr) (ns : List Str) (xs : List D)
  | dct (ks : List (List Key)) (xs : List D)

/-- a list | a tuple that is read, at no hot address -/
def ColdL (M : Addr → Prop) (K : PySem.W.Frag) (H : Hp) (a : Addr) (xs : List V) : Prop := ¬ M a ∧ H a = some (.lst xs)
def ColdT (M : Addr → Prop) (K : PySem.W.Frag) (H : Hp) (a : Addr) (xs : List V) : Prop :=
  (¬ M a ∧ Rd H a (.tup xs)) ∨
    ∃ (o : Obj) (its : Array Value) (n : Nat), K.lookup a = some o ∧ o.cls = .type "tuple" ∧ o.data = .seq its n ∧ its.size ≤ sizeLine ∧ Vals xs its.toList

mutual
/-- in the heap H the value v is the data d, none of it at a hot address -/
def Da (M : Addr → Prop) (K : PySem.W.Frag) (H : Hp) (v : V) : D → Prop
  | .non => v = .non
  | .bl b => v = .bl b
  | .int i => v = .int i
  | .str x => v = .str x
  | .tup ds => ∃ a vs, v = .ref a ∧ ColdT M K H a vs ∧ DaAll M K H vs ds
  | .lst ds => ∃ a vs, v = .ref a ∧ ColdL M K H a vs ∧ DaAll M K H vs ds
  | .emp => ∃ a, v = .ref a ∧ ¬ M a ∧ H a = some (.dK [])
  | .obj C ns ds => ∃ a dx fs, v = .ref a ∧ ¬ M a ∧ H a = some (.ins C dx fs) ∧ fs.map (·.1) = ns ∧ DaAll M K H (fs.map (·.2)) ds
  | .dct ks ds => ∃ a kvs, v = .ref a ∧ ¬ M a ∧ H a = some (.dT kvs) ∧ kvs.map (·.1) = ks ∧ DaAll M K H (kvs.map (·.2)) ds
def DaAll (M : Addr → Prop) (K : PySem.W.Frag) (H : Hp) (vs : List V) : List D → Prop
  | [] => vs = []
  | d :: ds => ∃ v r, vs = v :: r ∧ Da M K H v d ∧ DaAll M K H r ds
end

section
variable {M M' : Addr → Prop} {K : PySem.W.Frag} {H H' : Hp} {a p : Addr} {xs : List V} {v : V} {vs : List V} {d : D} {ds : List D}
theorem ColdL.sq (h : ColdL M K H a xs) : SqL K H a xs := SqL.of h.2
theorem ColdT.sq (h : ColdT M K H a xs) : SqT K H a xs := by
  rcases h with h | h
  · exact .inl h.2
  · exact .inr h
theorem rd_mono {u : HO} (h : Rd H a u) (g : ∀ o, H a = some o → H' a = some o) : Rd H' a u := by
  rcases h with h | ⟨o, h⟩
  · exact .inl (g _ h)
  · exact .inr ⟨o, g _ h⟩
theorem rd_some {u : HO} (h : Rd H a u) : H a ≠ none := by
  rcases h with h | ⟨o, h⟩ <;> (rw [h]; exact fun e => nomatch e)
theorem ColdL.mono (h : ColdL M K H a xs) (g : ∀ b o, ¬ M b → H b = some o → ¬ M' b ∧ H' b = some o) : ColdL M' K H' a xs := g a _ h.1 h.2
theorem ColdT.mono (h : ColdT M K H a xs) (g : ∀ b o, ¬ M b → H b = some o → ¬ M' b ∧ H' b = some o) : ColdT M' K H' a xs := by
  rcases h with ⟨h1, h2⟩ | h
  · obtain ⟨o, ho⟩ := Option.ne_none_iff_exists'.mp (rd_some h2)
    exact .inl ⟨(g a o h1 ho).1, rd_mono h2 fun o' e => (g a o' h1 e).2⟩
  · exact .inr h
mutual
theorem Da.mono : ∀ {d : D} {v : V}, Da M K H v d → (∀ b o, ¬ M b → H b = some o → ¬ M' b ∧ H' b = some o) → Da M' K H' v d
  | .non, _, h, _ => h
  | .bl _, _, h, _ => h
  | .int _, _, h, _ => h
  | .str _, _, h, _ => h
  | .tup ds, _, h, g => by
    obtain ⟨a, vs, e, h1, h2⟩ := h
    exact ⟨a, vs, e, h1.mono g, DaAll.mono h2 g⟩
  | .lst ds, _, h, g => by
    obtain ⟨a, vs, e, h1, h2⟩ := h
    exact ⟨a, vs, e, h1.mono g, DaAll.mono h2 g⟩
  | .emp, _, h, g => by
    obtain ⟨a, e, h1, h2⟩ := h
    exact ⟨a, e, (g a _ h1 h2).1, (g a _ h1 h2).2⟩
  | .obj C ns ds, _, h, g => by
    obtain ⟨a, dx, fs, e, h1, h2, h3, h4⟩ := h
    exact ⟨a, dx, fs, e, (g a _ h1 h2).1, (g a _ h1 h2).2, h3, DaAll.mono h4 g⟩
  | .dct ks ds, _, h, g => by
    obtain ⟨a, kvs, e, h1, h2, h3, h4⟩ := h
    exact ⟨a, kvs, e, (g a _ h1 h2).1, (g a _ h1 h2).2, h3, DaAll.mono h4 g⟩
theorem DaAll.mono : ∀ {ds : List D} {vs : List V}, DaAll M K H vs ds → (∀ b o, ¬ M b → H b = some o → ¬ M' b ∧ H' b = some o) → DaAll M' K H' vs ds
  | [], _, h, _ => h
  | d :: ds, _, h, g => by
    obtain ⟨v, r, e, h1, h2⟩ := h
    exact ⟨v, r, e, Da.mono h1 g, DaAll.mono h2 g⟩
end
theorem DaAll.length : ∀ {ds : List D} {vs : List V}, DaAll M K H vs ds → vs.length = ds.length
  | [], _, h => by
    rw [show _ = [] from h] <;> rfl
  | d :: ds, _, h => by
    obtain ⟨v, r, e, _, h2⟩ := h
    rw [e, List.length_cons, List.length_cons, DaAll.length h2]
theorem DaAll.append : ∀ {ds es : List D} {vs ws : List V}, DaAll M K H vs ds → DaAll M K H ws es → DaAll M K H (vs ++ ws) (ds ++ es)
  | [], _, _, _, h, g => by
    rw [show _ = [] from h]
    exact g
  | d :: ds, es, _, ws, h, g => by
    obtain ⟨v, r, e, h1, h2⟩ := h
    rw [e]
    exact ⟨v, r ++ ws, rfl, h1, DaAll.append h2 g⟩
theorem DaAll.get : ∀ {ds : List D} {vs : List V} {i : Nat} {v : V}, DaAll M K H vs ds → vs[i]? = some v → ∃ d, ds[i]? = some d ∧ Da M K H v d
  | [], _, _, _, h, e => by
    rw [show _ = [] from h] at e
    cases e
  | d :: ds, _, 0, _, h, e => by
    obtain ⟨v, r, e1, h1, h2⟩ := h
    rw [e1] at e
    cases e
    exact ⟨d, rfl, h1⟩
  | d :: ds, _, i + 1, _, h, e => by
    obtain ⟨v, r, e1, h1, h2⟩ := h
    rw [e1] at e
    exact DaAll.get (i := i) h2 e
theorem DaAll.at : ∀ {ds : List D} {vs : List V} {i : Nat} {d : D}, DaAll M K H vs ds → ds[i]? = some d → ∃ v, vs[i]? = some v ∧ Da M K H v d
  | [], _, _, _, h, e => by cases e
  | d :: ds, _, 0, _, h, e => by
    obtain ⟨v, r, e1, h1, h2⟩ := h
    cases e
    exact ⟨v, by rw [e1]; rfl, h1⟩
  | d :: ds, _, i + 1, _, h, e => by
    obtain ⟨v, r, e1, h1, h2⟩ := h
    obtain ⟨w, q1, q2⟩ := DaAll.at (i := i) h2 e
    exact ⟨w, by rw [e1]; exact q1, q2⟩
theorem DaAll.set : ∀ {ds : List D} {vs : List V} {i : Nat} {v : V} {d : D}, DaAll M K H vs ds → Da M K H v d → DaAll M K H (vs.set i v) (ds.set i d)
  | [], _, _, _, _, h, _ => by
    rw [show _ = [] from h]
    exact rfl
  | d :: ds, _, 0, v, e, h, g => by
    obtain ⟨w, r, e1, h1, h2⟩ := h
    rw [e1]
    exact ⟨v, r, rfl, g, h2⟩
  | d :: ds, _, i + 1, v, e, h, g => by
    obtain ⟨w, r, e1, h1, h2⟩ := h
    rw [e1]
    exact ⟨w, r.set i v, rfl, h1, DaAll.set h2 g⟩
theorem DaAll.drop : ∀ {ds : List D} {vs : List V} (n : Nat), DaAll M K H vs ds → DaAll M K H (vs.drop n) (ds.drop n)
  | _, _, 0, h => h
  | [], _, _ + 1, h => by
    rw [show _ = [] from h]
    exact rfl
  | d :: ds, _, n + 1, h => by
    obtain ⟨w, r, e1, h1, h2⟩ := h
    rw [e1]
    exact DaAll.drop n h2
theorem DaAll.take : ∀ {ds : List D} {vs : List V} (n : Nat), DaAll M K H vs ds → DaAll M K H (vs.take n) (ds.take n)
  | _, _, 0, h => rfl
  | [], _, _ + 1, h => by
    rw [show _ = [] from h]
    exact rfl
  | d :: ds, _, n + 1, h => by
    obtain ⟨w, r, e1, h1, h2⟩ := h
    rw [e1]
    exact ⟨w, _, rfl, h1, DaAll.take n h2⟩
theorem DaAll.eraseIdx : ∀ {ds : List D} {vs : List V} (n : Nat), DaAll M K H vs ds → DaAll M K H (vs.eraseIdx n) (ds.eraseIdx n)
  | [], _, _, h => by
    rw [show _ = [] from h]
    exact rfl
  | d :: ds, _, 0, h => by
    obtain ⟨w, r, e1, h1, h2⟩ := h
    rw [e1]
    exact h2
  | d :: ds, _, n + 1, h => by
    obtain ⟨w, r, e1, h1, h2⟩ := h
    rw [e1]
    exact ⟨w, _, rfl, h1, DaAll.eraseIdx n h2⟩
theorem DaAll.reverse : ∀ {ds : List D} {vs : List V}, DaAll M K H vs ds → DaAll M K H vs.reverse ds.reverse
  | [], _, h => by
    rw [show _ = [] from h]
    exact rfl
  | d :: ds, _, h => by
    obtain ⟨w, r, e1, h1, h2⟩ := h
    rw [e1, List.reverse_cons, List.reverse_cons]
    exact DaAll.append (DaAll.reverse h2) ⟨w, [], rfl, h1, rfl⟩
theorem DaAll.one (h : Da M K H v d) : DaAll M K H [v] [d] := ⟨v, [], rfl, h, rfl⟩
theorem DaAll.ints : ∀ {is : List Int}, DaAll M K H (is.map V.int) (is.map D.int)
  | [] => rfl
  | i :: is => ⟨_, _, rfl, rfl, DaAll.ints⟩
/-- the weaker claim: at this heap, nothing said of hot ones -/
abbrev D0 (K : PySem.W.Frag) (H : Hp) (v : V) (d : D) : Prop := Da (fun _ => False) K H v d
theorem Da.now (h : Da M K H v d) : D0 K H v d := h.mono fun b o _ e => ⟨fun z => z, e⟩
theorem DaAll.now (h : DaAll M K H vs ds) : DaAll (fun _ => False) K H vs ds := h.mono fun b o _ e => ⟨fun z => z, e⟩
/-- one more hot address, that is not tracked yet -/
theorem Da.push (h : Da M K H v d) (hp : H p = none) : Da (fun b => M b ∨ b = p) K H v d := h.mono fun b o n e => ⟨fun z => z.elim n fun z => (by rw [z, hp] at e; cases e), e⟩
theorem DaAll.push (h : DaAll M K H vs ds) (hp : H p = none) : DaAll (fun b => M b ∨ b = p) K H vs ds := h.mono fun b o n e => ⟨fun z => z.elim n fun z => (by rw [z, hp] at e; cases e), e⟩
theorem Da.less (h : Da M K H v d) (g : ∀ b, M' b → M b) : Da M' K H v d := h.mono fun b o n e => ⟨fun z => n (g b z), e⟩
theorem DaAll.less (h : DaAll M K H vs ds) (g : ∀ b, M' b → M b) : DaAll M' K H vs ds := h.mono fun b o n e => ⟨fun z => n (g b z), e⟩
theorem Da.newT (h : DaAll M K H vs ds) (hp : H p = none) (hM : ¬ M p) : Da M K (upd H p (.tup vs)) (.ref p) (.tup ds) :=
  ⟨p, vs, rfl, .inl ⟨hM, .inl upd_same⟩, h.mono fun b o n e => ⟨n, by rw [upd_ne (ne_of_none e hp)]; exact e⟩⟩
end

/-! data without objects and dicts: what == speaks of -/
mutual
def D.py : D → PyData
  | .non => .none
  | .bl b => .bool b
  | .int i => .int i
  | .str x => .str x
  | .tup xs => .tuple (D.pyL xs)
  | .lst xs => .list (D.pyL xs)
  | .emp => .dict []
  | .obj _ _ _ => .none
  | .dct _ _ => .none
def D.pyL : List D → List PyData
  | [] => []
  | d :: ds => D.py d :: D.pyL ds
end
mutual
def D.pln : D → Bool
  | .tup xs => D.plnL xs
  | .lst xs => D.plnL xs
  | .emp => false
  | .obj _ _ _ => false
  | .dct _ _ => false
  | _ => true
def D.plnL : List D → Bool
  | [] => true
  | d :: ds => D.pln d && D.plnL ds
end
section
variable {M : Addr → Prop} {K : PySem.W.Frag} {H : Hp}
mutual
theorem Da.dp : ∀ {d : D} {v : V}, Da M K H v d → d.pln = true → Dp K H v d.py
  | .non, _, h, _ => by rw [show _ = V.non from h]; exact .non
  | .bl b, _, h, _ => by rw [show _ = V.bl b from h]; exact .bl b
  | .int i, _, h, _ => by rw [show _ = V.int i from h]; exact .int i
  | .str x, _, h, _ => by rw [show _ = V.str x from h]; exact .str x
  | .tup ds, _, h, p => by
    obtain ⟨a, vs, e, h1, h2⟩ := h
    rw [e]
    exact .tup h1.sq (DaAll.dp h2 p)
  | .lst ds, _, h, p => by
    obtain ⟨a, vs, e, h1, h2⟩ := h
    rw [e]
    exact .lst h1.sq (DaAll.dp h2 p)
  | .emp, _, _, p => by cases p
  | .obj _ _ _, _, _, p => by cases p
  | .dct _ _, _, _, p => by cases p
theorem DaAll.dp : ∀ {ds : List D} {vs : List V}, DaAll M K H vs ds → D.plnL ds = true → DpAll K H vs (D.pyL ds)
  | [], _, h, _ => by rw [show _ = [] from h]; exact .nil
  | d :: ds, _, h, p => by
    obtain ⟨v, r, e, h1, h2⟩ := h
    obtain ⟨p1, p2⟩ := Bool.and_eq_true_iff.mp (show (D.pln d && D.plnL ds) = true from p)
    rw [e]
    exact .cons (Da.dp h1 p1) (DaAll.dp h2 p2)
end
end
def D.scalar : D → Bool
  | .non => true | .bl _ => true | .int _ => true | .str _ => true | _ => false
theorem Da.scal {M M' : Addr → Prop} {K : PySem.W.Frag} {H H' : Hp} {v : V} : ∀ {d : D}, Da M K H v d → d.scalar = true → Da M' K H' v d
  | .non, h, _ => h
  | .bl _, h, _ => h
  | .int _, h, _ => h
  | .str _, h, _ => h
  | .tup _, _, p => by cases p
  | .lst _, _, p => by cases p
  | .emp, _, p => by cases p
  | .obj _ _ _, _, p => by cases p
  | .dct _ _, _, p => by cases p

/-! ### environments of data -/
/-- what a slot holds: nothing known; data; an object of its own (a list, a dict, an instance that only this slot knows); the hand of the draws -/
inductive Ent where
  | u | d (x : D) | own (x : D) | hand
/-- an object at p whose content is x, p itself being hot -/
def OwnAt (M : Addr → Prop) (K : PySem.W.Frag) (H : Hp) (p : Addr) : D → Prop
  | .lst ds => ∃ vs, H p = some (.lst vs) ∧ DaAll M K H vs ds
  | .dct ks ds => ∃ kvs, H p = some (.dT kvs) ∧ kvs.map (·.1) = ks ∧ DaAll M K H (kvs.map (·.2)) ds
  | .obj C ns ds => ∃ dx fs, H p = some (.ins C dx fs) ∧ fs.map (·.1) = ns ∧ DaAll M K H (fs.map (·.2)) ds
  | _ => False
/-- the box: a dict of the cells, four numbers and a mark -/
def boxK (c : Addr) (i r m : Int) (g : Bool) (n : Int) : List (Key × V) :=
  [(.inr "cells", .ref c), (.inr "at", .int i), (.inr "rest", .int r), (.inr "many", .int m), (.inr "great", .bl g), (.inr "all", .int n)]
def HandOk (M : Addr → Prop) (K : PySem.W.Frag) (H : Hp) (a : Addr) : Prop :=
  ∃ (c : Addr) (cs : List Int) (i r m : Int) (g : Bool) (n : Int), H a = some (.dK (boxK c i r m g n)) ∧ ColdL M K H c (cs.map V.int) ∧ 0 ≤ i
structure Fr where
  M : Addr → Prop
  H0 : Hp
  hd : Option Addr
abbrev Fr.push (F : Fr) (p : Addr) : Fr := { F with M := fun b => F.M b ∨ b = p }
def hot (F : Fr) (σ : L2.St) (ρ : List Ent) (b : Addr) : Prop := F.M b ∨ ∃ (i : Nat) (x : D), ρ[i]? = some (Ent.own x) ∧ σ[i]? = some (some (.ref b))
def SlotOk (K : PySem.W.Frag) (F : Fr) (M : Addr → Prop) (H : Hp) (o : Option (Option V)) : Ent → Prop
  | .u => True
  | .d x => ∃ v, o = some (some v) ∧ Da M K H v x
  | .own x => ∃ p, o = some (some (.ref p)) ∧ OwnAt M K H p x
  | .hand => ∃ a, F.hd = some a ∧ o = some (some (.ref a))
structure Env (K : PySem.W.Frag) (F : Fr) (H : Hp) (σ : L2.St) (ρ : List Ent) : Prop where
  len : σ.length = ρ.length
  go : ∀ b o, F.hd ≠ some b → F.H0 b = some o → H b = some o
  trk : ∀ b, F.M b → H b ≠ none
  hand : ∀ a, F.hd = some a → F.M a ∧ F.H0 a ≠ none ∧ HandOk (hot F σ ρ) K H a
  new : ∀ (i : Nat) (x : D) (b : Addr), ρ[i]? = some (.own x) → σ[i]? = some (some (.ref b)) → F.H0 b = none ∧ ¬ F.M b
  inj : ∀ (i j : Nat) (x y : D) (b : Addr), ρ[i]? = some (.own x) → ρ[j]? = some (.own y) → σ[i]? = some (some (.ref b)) → σ[j]? = some (some (.ref b)) → i = j
  slot : ∀ (i : Nat) (e : Ent), ρ[i]? = some e → SlotOk K F (hot F σ ρ) H σ[i]? e

section
variable {M M' : Addr → Prop} {K : PySem.W.Frag} {F : Fr} {H H' : Hp} {σ : L2.St} {ρ : List Ent} {p : Addr} {x y : D} {v : V} {i : Nat}
theorem OwnAt.mono (h : OwnAt M K H p x) (g : ∀ b o, ¬ M b → H b = some o → ¬ M' b ∧ H' b = some o) (hp : ∀ o, H p = some o → H' p = some o) : OwnAt M' K H' p x := by
  cases x with
  | lst ds => obtain ⟨vs, h1, h2⟩ := h; exact ⟨vs, hp _ h1, h2.mono g⟩
  | dct ks ds => obtain ⟨kvs, h1, h2, h3⟩ := h; exact ⟨kvs, hp _ h1, h2, h3.mono g⟩
  | obj C ns ds => obtain ⟨dx, fs, h1, h2, h3⟩ := h; exact ⟨dx, fs, hp _ h1, h2, h3.mono g⟩
  | _ => exact (show False from h).elim
theorem OwnAt.there (h : OwnAt M K H p x) : H p ≠ none := by
  cases x with
  | lst ds => obtain ⟨vs, h1, h2⟩ := h; rw [h1]; exact fun e => nomatch e
  | dct ks ds => obtain ⟨kvs, h1, h2, h3⟩ := h; rw [h1]; exact fun e => nomatch e
  | obj C ns ds => obtain ⟨dx, fs, h1, h2, h3⟩ := h; rw [h1]; exact fun e => nomatch e
  | _ => exact (show False from h).elim
/-- let go: it is data now -/
theorem OwnAt.da (h : OwnAt M K H p x) (g : ∀ b, M' b → M b) (n : ¬ M' p) : Da M' K H (.ref p) x := by
  cases x with
  | lst ds => obtain ⟨vs, h1, h2⟩ := h; exact ⟨p, vs, rfl, ⟨n, h1⟩, h2.less g⟩
  | dct ks ds => obtain ⟨kvs, h1, h2, h3⟩ := h; exact ⟨p, kvs, rfl, n, h1, h2, h3.less g⟩
  | obj C ns ds => obtain ⟨dx, fs, h1, h2, h3⟩ := h; exact ⟨p, dx, fs, rfl, n, h1, h2, h3.less g⟩
  | _ => exact (show False from h).elim
theorem OwnAt.now (h : OwnAt M K H p x) : D0 K H (.ref p) x := h.da (fun _ z => z.elim) fun z => z
theorem HandOk.there (h : HandOk M K H p) : H p ≠ none := by
  obtain ⟨c, cs, i, r, m, g, n, h1, _⟩ := h
  rw [h1]
  exact fun e => nomatch e
theorem HandOk.mono (h : HandOk M K H p) (g : ∀ b o, ¬ M b → H b = some o → ¬ M' b ∧ H' b = some o) (hp : ∀ o, H p = some o → H' p = some o) : HandOk M' K H' p := by
  obtain ⟨c, cs, i, r, m, g', n, h1, h2, h3⟩ := h
  exact ⟨c, cs, i, r, m, g', n, hp _ h1, h2.mono g, h3⟩
theorem Env.hotTrk (E : Env K F H σ ρ) : ∀ b, hot F σ ρ b → H b ≠ none := fun b h => by
  rcases h with h | ⟨i, x, h1, h2⟩
  · exact E.trk b h
  · obtain ⟨q, e, ho⟩ := E.slot i _ h1
    rw [h2] at e
    cases e
    exact ho.there
theorem SlotOk.mono {o : Option (Option V)} {e : Ent} {F' : Fr} (h : SlotOk K F M H o e) (g : ∀ b o, ¬ M b → H b = some o → ¬ M' b ∧ H' b = some o) (hp : ∀ p x, e = .own x → o = some (some (.ref p)) → ∀ o, H p = some o → H' p = some o) (hd : F'.hd = F.hd) : SlotOk K F' M' H' o e := by
  cases e with
  | u => trivial
  | d x => obtain ⟨v, e, h1⟩ := h; exact ⟨v, e, h1.mono g⟩
  | own x => obtain ⟨p, e, h1⟩ := h; exact ⟨p, e, h1.mono g (hp p x rfl e)⟩
  | hand => obtain ⟨a, e, h1⟩ := h; exact ⟨a, hd.trans e, h1⟩
/-- the heap goes on: all is kept but the hand, that is a hand still -/
theorem Env.step (E : Env K F H σ ρ) (g : ∀ b o, F.hd ≠ some b → H b = some o → H' b = some o) (hh : ∀ a, F.hd = some a → HandOk (hot F σ ρ) K H' a) : Env K F H' σ ρ := by
  have cold : ∀ b o, ¬ hot F σ ρ b → H b = some o → ¬ hot F σ ρ b ∧ H' b = some o := fun b o n e => ⟨n, g b o (fun z => n (.inl (E.hand b z).1)) e⟩
  refine ⟨E.len, fun b o n e => g b o n (E.go b o n e), fun b hb => ?_, fun a e => ⟨(E.hand a e).1, (E.hand a e).2.1, hh a e⟩, E.new, E.inj, fun i e he => ?_⟩
  · by_cases z : F.hd = some b
    · exact (hh b z).there
    · obtain ⟨o, ho⟩ := Option.ne_none_iff_exists'.mp (E.trk b hb)
      rw [g b o z ho]
      exact fun e => nomatch e
  · refine (E.slot i e he).mono cold (fun p x ee eo o ho => ?_) rfl
    subst ee
    exact g p o (fun z => (E.new i x p he eo).2 (E.hand p z).1) ho
theorem Env.ex (E : Env K F H σ ρ) (g : ∀ b o, H b = some o → H' b = some o) : Env K F H' σ ρ :=
  E.step (fun b o _ e => g b o e) fun a e => HandOk.mono (E.hand a e).2.2 (fun b o n e => ⟨n, g b o e⟩) fun o e => g a o e
theorem ex_new {o : HO} (hp : H p = none) : ∀ b u, H b = some u → upd H p o b = some u := fun b u e => by
  rw [upd_ne (ne_of_none e hp)]
  exact e
/-- a new object at p, hot from now on -/
theorem Env.push (E : Env K F H σ ρ) (hp : H p = none) (g : ∀ b o, H b = some o → H' b = some o) (h1 : H' p ≠ none) : Env K (F.push p) H' σ ρ := by
  have E1 := E.ex g
  have np : ∀ b, H b ≠ none → b ≠ p := fun b hb z => hb (by rw [z]; exact hp)
  have old : ∀ b, hot (F.push p) σ ρ b → hot F σ ρ b ∨ b = p := fun b h => by
    rcases h with h | h
    · rcases h with h | h
      · exact .inl (.inl h)
      · exact .inr h
    · exact .inl (.inr h)
  have cold : ∀ b o, ¬ hot F σ ρ b → H b = some o → ¬ hot (F.push p) σ ρ b ∧ H' b = some o := fun b o n e => ⟨fun z => (old b z).elim n fun z => (by rw [z, hp] at e; cases e), g b o e⟩
  refine ⟨E.len, E1.go, fun b hb => ?_, fun a e => ?_, fun i x b h2 h3 => ?_, E.inj, fun i e he => ?_⟩
  · rcases hb with hb | hb
    · exact E1.trk b hb
    · rw [hb]; exact h1
  · obtain ⟨q1, q2, q3⟩ := E.hand a e
    exact ⟨.inl q1, q2, HandOk.mono q3 cold fun o z => g a o z⟩
  · obtain ⟨q1, q2⟩ := E.new i x b h2 h3
    refine ⟨q1, fun z => z.elim q2 fun z => ?_⟩
    exact E.hotTrk b (.inr ⟨i, x, h2, h3⟩) (by rw [z]; exact hp)
  · refine (E.slot i e he).mono cold (fun p x _ _ o ho => g _ o ho) rfl
/-- it is hot no more -/
theorem Env.pop (E : Env K (F.push p) H σ ρ) (h0 : F.H0 p = none) : Env K F H σ ρ := by
  have up : ∀ b, hot F σ ρ b → hot (F.push p) σ ρ b := fun b h => by
    rcases h with h | h
    · exact .inl (.inl h)
    · exact .inr h
  have cold : ∀ b o, ¬ hot (F.push p) σ ρ b → H b = some o → ¬ hot F σ ρ b ∧ H b = some o := fun b o n e => ⟨fun z => n (up b z), e⟩
  refine ⟨E.len, E.go, fun b hb => E.trk b (.inl hb), fun a e => ?_, fun i x b h2 h3 => ⟨(E.new i x b h2 h3).1, fun z => (E.new i x b h2 h3).2 (.inl z)⟩, E.inj, fun i e he => (E.slot i e he).mono cold (fun _ _ _ _ _ z => z) rfl⟩
  obtain ⟨q1, q2, q3⟩ := E.hand a e
  refine ⟨?_, q2, HandOk.mono q3 cold fun _ z => z⟩
  rcases q1 with q | q
  · exact q
  · rw [q] at q2
    exact absurd h0 q2

theorem set_get {α : Type} {l : List α} {i j : Nat} {a b : α} (h : (l.set i a)[j]? = some b) : (j = i ∧ b = a ∧ i < l.length) ∨ (j ≠ i ∧ l[j]? = some b) := by
  by_cases e : j = i
  · subst e
    by_cases hl : j < l.length
    · rw [List.getElem?_set_self hl] at h
      exact .inl ⟨rfl, (Option.some.inj h).symm, hl⟩
    · rw [List.set_eq_of_length_le (by omega)] at h
      rw [List.getElem?_eq_none (by omega)] at h
      cases h
  · rw [List.getElem?_set_ne (Ne.symm e)] at h
    exact .inr ⟨e, h⟩
/-- name = data -/
theorem Env.setD (E : Env K F H σ ρ) (hv : Da (hot F σ ρ) K H v x) : Env K F H (σ.set i (some v)) (ρ.set i (.d x)) := by
  have own : ∀ (j : Nat) (y : D), (ρ.set i (.d x))[j]? = some (.own y) → j ≠ i ∧ ρ[j]? = some (.own y) := fun j y h => by
    rcases set_get h with ⟨_, e, _⟩ | h
    · cases e
    · exact h
  have at_ : ∀ (j : Nat), j ≠ i → (σ.set i (some v))[j]? = σ[j]? := fun j n => List.getElem?_set_ne (Ne.symm n)
  have less : ∀ b, hot F (σ.set i (some v)) (ρ.set i (.d x)) b → hot F σ ρ b := fun b h => by
    rcases h with h | ⟨j, y, h1, h2⟩
    · exact .inl h
    · obtain ⟨n, h3⟩ := own j y h1
      rw [at_ j n] at h2
      exact .inr ⟨j, y, h3, h2⟩
  have cold : ∀ b o, ¬ hot F σ ρ b → H b = some o → ¬ hot F (σ.set i (some v)) (ρ.set i (.d x)) b ∧ H b = some o := fun b o n e => ⟨fun z => n (less b z), e⟩
  refine ⟨by rw [List.length_set, List.length_set]; exact E.len, E.go, E.trk, fun a e => ?_, fun j y b h1 h2 => ?_, fun j k y z b h1 h2 h3 h4 => ?_, fun j e he => ?_⟩
  · obtain ⟨q1, q2, q3⟩ := E.hand a e
    exact ⟨q1, q2, HandOk.mono q3 cold fun _ z => z⟩
  · obtain ⟨n, h3⟩ := own j y h1
    rw [at_ j n] at h2
    exact E.new j y b h3 h2
  · obtain ⟨n, h5⟩ := own j y h1
    obtain ⟨n', h6⟩ := own k z h2
    rw [at_ j n] at h3
    rw [at_ k n'] at h4
    exact E.inj j k y z b h5 h6 h3 h4
  · rcases set_get he with ⟨e1, e2, hl⟩ | ⟨n, h⟩
    · subst e1 e2
      exact ⟨v, List.getElem?_set_self (by rw [E.len]; exact hl), hv.mono cold⟩
    · rw [at_ j n]
      exact (E.slot j e h).mono cold (fun _ _ _ _ _ z => z) rfl
/-- name = a new object -/
theorem Env.setNew (E : Env K (F.push p) H σ ρ) (h0 : F.H0 p = none) (nh : ¬ hot F σ ρ p) (ho : OwnAt (hot (F.push p) σ ρ) K H p x) : Env K F H (σ.set i (some (.ref p))) (ρ.set i (.own x)) := by
  have E0 := E.pop h0
  have own : ∀ (j : Nat) (y : D), (ρ.set i (.own x))[j]? = some (.own y) → (j = i ∧ y = x ∧ i < ρ.length) ∨ (j ≠ i ∧ ρ[j]? = some (.own y)) := fun j y h => by
    rcases set_get h with ⟨e1, e2, e3⟩ | h
    · cases e2
      exact .inl ⟨e1, rfl, e3⟩
    · exact .inr h
  have at_ : ∀ (j : Nat), j ≠ i → (σ.set i (some (V.ref p)))[j]? = σ[j]? := fun j n => List.getElem?_set_ne (Ne.symm n)
  have less : ∀ b, hot F (σ.set i (some (.ref p))) (ρ.set i (.own x)) b → hot (F.push p) σ ρ b := fun b h => by
    rcases h with h | ⟨j, y, h1, h2⟩
    · exact .inl (.inl h)
    · rcases own j y h1 with ⟨e1, e2, e3⟩ | ⟨n, h3⟩
      · subst e1
        rw [List.getElem?_set_self (by rw [E.len]; exact e3)] at h2
        cases h2
        exact .inl (.inr rfl)
      · rw [at_ j n] at h2
        exact .inr ⟨j, y, h3, h2⟩
  have cold : ∀ b o, ¬ hot (F.push p) σ ρ b → H b = some o → ¬ hot F (σ.set i (some (.ref p))) (ρ.set i (.own x)) b ∧ H b = some o := fun b o n e => ⟨fun z => n (less b z), e⟩
  refine ⟨by rw [List.length_set, List.length_set]; exact E.len, E0.go, E0.trk, fun a e => ?_, fun j y b h1 h2 => ?_, fun j k y z b h1 h2 h3 h4 => ?_, fun j e he => ?_⟩
  · obtain ⟨q1, q2, q3⟩ := E.hand a e
    exact ⟨(E0.hand a e).1, q2, HandOk.mono q3 cold fun _ z => z⟩
  · rcases own j y h1 with ⟨e1, e2, e3⟩ | ⟨n, h3⟩
    · subst e1
      rw [List.getElem?_set_self (by rw [E.len]; exact e3)] at h2
      cases h2
      exact ⟨h0, fun z => nh (.inl z)⟩
    · rw [at_ j n] at h2
      exact E0.new j y b h3 h2
  · rcases own j y h1 with ⟨e1, e2, e3⟩ | ⟨n, h5⟩
    · rcases own k z h2 with ⟨e4, e5, e6⟩ | ⟨n', h6⟩
      · rw [e1, e4]
      · subst e1
        rw [List.getElem?_set_self (by rw [E.len]; exact e3)] at h3
        cases h3
        rw [at_ k n'] at h4
        exact absurd (show hot F σ ρ p from .inr ⟨k, z, h6, h4⟩) nh
    · rcases own k z h2 with ⟨e4, e5, e6⟩ | ⟨n', h6⟩
      · subst e4
        rw [List.getElem?_set_self (by rw [E.len]; exact e6)] at h4
        cases h4
        rw [at_ j n] at h3
        exact absurd (show hot F σ ρ p from .inr ⟨j, y, h5, h3⟩) nh
      · rw [at_ j n] at h3
        rw [at_ k n'] at h4
        exact E.inj j k y z b h5 h6 h3 h4
  · rcases set_get he with ⟨e1, e2, hl⟩ | ⟨n, h⟩
    · subst e1 e2
      exact ⟨p, List.getElem?_set_self (by rw [E.len]; exact hl), ho.mono cold fun _ z => z⟩
    · rw [at_ j n]
      exact (E.slot j e h).mono cold (fun _ _ _ _ _ z => z) rfl
/-- an own object is changed -/
theorem Env.write {o' : HO} (E : Env K F H σ ρ) (he : ρ[i]? = some (.own x)) (hs : σ[i]? = some (some (.ref p))) (ho : OwnAt (hot F σ ρ) K (upd H p o') p y) : Env K F (upd H p o') σ (ρ.set i (.own y)) := by
  obtain ⟨h0, nM⟩ := E.new i x p he hs
  have hp : hot F σ ρ p := .inr ⟨i, x, he, hs⟩
  have il : i < ρ.length := (List.getElem?_eq_some_iff.mp he).1
  have own : ∀ (j : Nat) (z : D), (ρ.set i (.own y))[j]? = some (.own z) → ∃ z', ρ[j]? = some (.own z') := fun j z h => by
    rcases set_get h with ⟨e1, e2, e3⟩ | h
    · rw [e1]; exact ⟨x, he⟩
    · exact ⟨z, h.2⟩
  have less : ∀ b, hot F σ (ρ.set i (.own y)) b → hot F σ ρ b := fun b h => by
    rcases h with h | ⟨j, z, h1, h2⟩
    · exact .inl h
    · obtain ⟨z', h3⟩ := own j z h1
      exact .inr ⟨j, z', h3, h2⟩
  have up : ∀ b o, b ≠ p → H b = some o → upd H p o' b = some o := fun b o n e => by rw [upd_ne n]; exact e
  have cold : ∀ b o, ¬ hot F σ ρ b → H b = some o → ¬ hot F σ (ρ.set i (.own y)) b ∧ upd H p o' b = some o := fun b o n e => ⟨fun z => n (less b z), up b o (fun z => n (by rw [z]; exact hp)) e⟩
  refine ⟨by rw [List.length_set]; exact E.len, fun b o n e => up b o (fun z => by rw [z, h0] at e; cases e) (E.go b o n e), fun b hb => ?_, fun a e => ?_, fun j z b h1 h2 => ?_, fun j k z z2 b h1 h2 h3 h4 => ?_, fun j e hj => ?_⟩
  · rw [upd_ne (fun z => nM (by rw [← z]; exact hb))]
    exact E.trk b hb
  · obtain ⟨q1, q2, q3⟩ := E.hand a e
    exact ⟨q1, q2, HandOk.mono q3 cold fun o z => up a o (fun z => nM (by rw [← z]; exact q1)) z⟩
  · obtain ⟨z', h3⟩ := own j z h1
    exact E.new j z' b h3 h2
  · obtain ⟨z', h5⟩ := own j z h1
    obtain ⟨z'', h6⟩ := own k z2 h2
    exact E.inj j k z' z'' b h5 h6 h3 h4
  · rcases set_get hj with ⟨e1, e2, hl⟩ | ⟨n, h⟩
    · subst e1 e2
      refine ⟨p, hs, ho.mono (fun b o n e => ⟨fun z => n (less b z), e⟩) fun _ z => z⟩
    · refine (E.slot j e h).mono cold (fun q z ee eo o hq => up q o (fun zz => ?_) hq) rfl
      subst ee zz
      exact n (E.inj j i z x _ h he eo hs)
/-- an own object is let go: it is data now -/
theorem Env.freeze (E : Env K F H σ ρ) (he : ρ[i]? = some (.own x)) : ∃ p, σ[i]? = some (some (.ref p)) ∧ Da (hot F σ (ρ.set i (.d x))) K H (.ref p) x ∧ Env K F H σ (ρ.set i (.d x)) := by
  obtain ⟨p, hs, ho⟩ := E.slot i _ he
  obtain ⟨h0, nM⟩ := E.new i x p he hs
  have il : i < ρ.length := (List.getElem?_eq_some_iff.mp he).1
  have own : ∀ (j : Nat) (z : D), (ρ.set i (.d x))[j]? = some (.own z) → j ≠ i ∧ ρ[j]? = some (.own z) := fun j z h => by
    rcases set_get h with ⟨e1, e2, e3⟩ | h
    · cases e2
    · exact h
  have less : ∀ b, hot F σ (ρ.set i (.d x)) b → hot F σ ρ b ∧ b ≠ p := fun b h => by
    rcases h with h | ⟨j, z, h1, h2⟩
    · exact ⟨.inl h, fun z => nM (by rw [← z]; exact h)⟩
    · obtain ⟨n, h3⟩ := own j z h1
      refine ⟨.inr ⟨j, z, h3, h2⟩, fun zz => ?_⟩
      subst zz
      exact n (E.inj j i z x _ h3 he h2 hs)
  have da : Da (hot F σ (ρ.set i (.d x))) K H (.ref p) x := ho.da (fun b z => (less b z).1) fun z => (less p z).2 rfl
  have cold : ∀ b o, ¬ hot F σ ρ b → H b = some o → ¬ hot F σ (ρ.set i (.d x)) b ∧ H b = some o := fun b o n e => ⟨fun z => n (less b z).1, e⟩
  refine ⟨p, hs, da, by rw [List.length_set]; exact E.len, E.go, E.trk, fun a e => ?_, fun j z b h1 h2 => E.new j z b (own j z h1).2 h2, fun j k z z2 b h1 h2 h3 h4 => E.inj j k z z2 b (own j z h1).2 (own k z2 h2).2 h3 h4, fun j e hj => ?_⟩
  · obtain ⟨q1, q2, q3⟩ := E.hand a e
    exact ⟨q1, q2, HandOk.mono q3 cold fun _ z => z⟩
  · rcases set_get hj with ⟨e1, e2, hl⟩ | ⟨n, h⟩
    · subst e1 e2
      exact ⟨.ref p, hs, da⟩
    · exact (E.slot j e h).mono cold (fun _ _ _ _ _ z => z) rfl
end
end PW
end
section
/-! PW: judgements in continuation style over environments of data, and their rules. -/
namespace PW
open PySem PySem.Spec PyProof.Rows L2

/-- what an expression gives: data; a new object that nobody knows; the object that is slot i's own -/
inductive Res where
  | d (x : D) | nw (x : D) | v (i : Nat)
def Tr (M : Addr → Prop) (H : Hp) : Prop := ∀ b, M b → H b ≠ none
def Ext (H H' : Hp) : Prop := ∀ b o, H b = some o → H' b = some o
theorem Ext.refl (H : Hp) : Ext H H := fun _ _ h => h
theorem Ext.trans {H H1 H2 : Hp} (a : Ext H H1) (b : Ext H1 H2) : Ext H H2 := fun x o h => b x o (a x o h)
theorem Ext.new {H : Hp} {p : Addr} {o : HO} (h : H p = none) : Ext H (upd H p o) := ex_new h
theorem Ext.back {H H' : Hp} {p : Addr} (e : Ext H H') (h : H' p = none) : H p = none := by
  cases q : H p with
  | none => rfl
  | some o => rw [e p o q] at h; cases h
/-- in an environment -/
def RV (K : PySem.W.Frag) (F : Fr) (H : Hp) (σ : L2.St) (ρ : List Ent) (v : V) : Res → Prop
  | .d x => Env K F H σ ρ ∧ Da (hot F σ ρ) K H v x
  | .nw x => ∃ p, v = .ref p ∧ F.H0 p = none ∧ ¬ hot F σ ρ p ∧ Env K (F.push p) H σ ρ ∧ OwnAt (hot (F.push p) σ ρ) K H p x
  | .v i => Env K F H σ ρ ∧ σ[i]? = some (some v) ∧ ∃ x, ρ[i]? = some (.own x)
/-- of a quiet operation: the heap grew from H to H' -/
def ResV (M : Addr → Prop) (K : PySem.W.Frag) (H H' : Hp) (v : V) : Res → Prop
  | .d x => Da M K H' v x
  | .nw x => ∃ p, v = .ref p ∧ H p = none ∧ OwnAt (fun b => M b ∨ b = p) K H' p x
  | .v _ => False
/-- a value that may be read: data, or an own object -/
def Pk (M : Addr → Prop) (K : PySem.W.Frag) (H : Hp) (v : V) (x : D) : Prop := Da M K H v x ∨ ∃ p, v = .ref p ∧ M p ∧ OwnAt M K H p x
/-- the content of what was given, as the environment now is -/
def peekE : Option Ent → Option D
  | some (.own x) => some x
  | some (.d x) => some x
  | _ => none
def peek (ρ : List Ent) : Res → Option D
  | .d x => some x
  | .nw x => some x
  | .v i => peekE ρ[i]?
/-- let go of it: data from now on -/
def frzE (ρ : List Ent) (i : Nat) : Option Ent → List Ent
  | some (.own x) => ρ.set i (.d x)
  | _ => ρ
def frz (ρ : List Ent) : Res → List Ent
  | .v i => frzE ρ i ρ[i]?
  | _ => ρ
def Res.ent : Res → Ent
  | .d x => .d x
  | .nw x => .own x
  | .v _ => .u

section
variable {K : PySem.W.Frag} {F : Fr} {H H' : Hp} {σ : L2.St} {ρ : List Ent} {v : V} {r : Res} {x y : D} {i : Nat} {M : Addr → Prop}
theorem hot_tr (E : Env K F H σ ρ) : Tr (hot F σ ρ) H := E.hotTrk
theorem h0_none {p : Addr} (E : Env K F H σ ρ) (hp : H p = none) : F.H0 p = none := by
  cases q : F.H0 p with
  | none => rfl
  | some o =>
    by_cases z : F.hd = some p
    · exact absurd hp (E.hand p z).2.2.there
    · rw [E.go p o z q] at hp; cases hp
theorem ResV.rv (E : Env K F H σ ρ) (e : Ext H H') (h : ResV (hot F σ ρ) K H H' v r) : RV K F H' σ ρ v r := by
  cases r with
  | d x => exact ⟨E.ex e, h⟩
  | nw x =>
    obtain ⟨p, rfl, hp, ho⟩ := h
    refine ⟨p, rfl, h0_none E hp, fun z => E.hotTrk p z hp, E.push hp e ho.there, ho.mono (fun b o n ee => ⟨fun z => n ?_, ee⟩) fun _ z => z⟩
    rcases z with z | z
    · rcases z with z | z
      · exact .inl (.inl z)
      · exact .inr z
    · exact .inl (.inr z)
  | v i => exact h.elim
theorem Env.slotOwn (E : Env K F H σ ρ) (he : ρ[i]? = some (.own x)) : ∃ p, σ[i]? = some (some (.ref p)) ∧ hot F σ ρ p ∧ OwnAt (hot F σ ρ) K H p x := by
  obtain ⟨p, e, ho⟩ := E.slot i _ he
  exact ⟨p, e, .inr ⟨i, x, he, e⟩, ho⟩
theorem RV.env (h : RV K F H σ ρ v r) : Env K F H σ ρ := by
  cases r with
  | d x => exact h.1
  | nw x => obtain ⟨p, _, h0, _, E, _⟩ := h; exact E.pop h0
  | v i => exact h.1
theorem RV.pk (h : RV K F H σ ρ v r) (hp : peek ρ r = some x) : Pk (hot F σ ρ) K H v x := by
  cases r with
  | d y => cases hp; exact .inl h.2
  | nw y =>
    cases hp
    obtain ⟨p, rfl, h0, nh, E, ho⟩ := h
    refine .inl (ho.da (fun b z => ?_) nh)
    rcases z with z | z
    · exact .inl (.inl z)
    · exact .inr z
  | v i =>
    obtain ⟨E, hs, y, hy⟩ := h
    have hp : peekE ρ[i]? = some x := hp
    rw [hy] at hp
    cases hp
    obtain ⟨p, e, hh, ho⟩ := E.slotOwn hy
    rw [hs] at e
    cases e
    exact .inr ⟨p, rfl, hh, ho⟩
theorem RV.frz (h : RV K F H σ ρ v r) (hp : peek ρ r = some x) : Env K F H σ (frz ρ r) ∧ Da (hot F σ (frz ρ r)) K H v x := by
  cases r with
  | d y => cases hp; exact h
  | nw y =>
    cases hp
    obtain ⟨p, rfl, h0, nh, E, ho⟩ := h
    refine ⟨E.pop h0, ho.da (fun b z => ?_) nh⟩
    rcases z with z | z
    · exact .inl (.inl z)
    · exact .inr z
  | v i =>
    obtain ⟨E, hs, y, hy⟩ := h
    have hp : peekE ρ[i]? = some x := hp
    rw [hy] at hp
    cases hp
    obtain ⟨p, e, hd, E'⟩ := E.freeze hy
    rw [hs] at e
    cases e
    show Env K F H σ (frzE ρ i ρ[i]?) ∧ Da (hot F σ (frzE ρ i ρ[i]?)) K H _ _
    rw [hy]
    exact ⟨E', hd⟩
/-- name = value -/
theorem RV.set {j : Nat} (h : RV K F H σ ρ v r) (hr : ∀ i, r ≠ .v i) : Env K F H (σ.set j (some v)) (ρ.set j r.ent) := by
  cases r with
  | d y => exact h.1.setD h.2
  | nw y =>
    obtain ⟨p, rfl, h0, nh, E, ho⟩ := h
    exact E.setNew h0 nh ho
  | v i => exact absurd rfl (hr i)
theorem Pk.now (h : Pk M K H v x) : D0 K H v x := by
  rcases h with h | ⟨p, rfl, _, h⟩
  · exact h.now
  · exact h.now
theorem Pk.ex (h : Pk M K H v x) (e : Ext H H') : Pk M K H' v x := by
  rcases h with h | ⟨p, rfl, m, h⟩
  · exact .inl (h.mono fun b o n z => ⟨n, e b o z⟩)
  · exact .inr ⟨p, rfl, m, h.mono (fun b o n z => ⟨n, e b o z⟩) fun o z => e p o z⟩
theorem Pk.lst {ds : List D} (h : Pk M K H v (.lst ds)) : ∃ a vs, v = .ref a ∧ H a = some (.lst vs) ∧ DaAll M K H vs ds := by
  rcases h with h | ⟨p, rfl, _, h⟩
  · obtain ⟨a, vs, e, h1, h2⟩ := h
    exact ⟨a, vs, e, h1.2, h2⟩
  · obtain ⟨vs, h1, h2⟩ := h
    exact ⟨p, vs, rfl, h1, h2⟩
theorem Pk.tup {ds : List D} (h : Pk M K H v (.tup ds)) : ∃ a vs, v = .ref a ∧ SqT K H a vs ∧ DaAll M K H vs ds := by
  rcases h with h | ⟨p, rfl, _, h⟩
  · obtain ⟨a, vs, e, h1, h2⟩ := h
    exact ⟨a, vs, e, h1.sq, h2⟩
  · exact (show False from h).elim
theorem Pk.int {i : Int} (h : Pk M K H v (.int i)) : v = .int i := by
  rcases h with h | ⟨p, rfl, _, h⟩
  · exact h
  · exact (show False from h).elim
theorem Pk.bl {b : Bool} (h : Pk M K H v (.bl b)) : v = .bl b := by
  rcases h with h | ⟨p, rfl, _, h⟩
  · exact h
  · exact (show False from h).elim
theorem Pk.str {z : Str} (h : Pk M K H v (.str z)) : v = .str z := by
  rcases h with h | ⟨p, rfl, _, h⟩
  · exact h
  · exact (show False from h).elim
theorem Pk.non (h : Pk M K H v .non) : v = .non := by
  rcases h with h | ⟨p, rfl, _, h⟩
  · exact h
  · exact (show False from h).elim
end

/-! ### what stays -/
/-- from (M, H) to (M', H'): what was cold is cold, and as it was -/
def Keep (M : Addr → Prop) (H : Hp) (M' : Addr → Prop) (H' : Hp) : Prop := ∀ b o, ¬ M b → H b = some o → ¬ M' b ∧ H' b = some o
theorem Keep.refl (M : Addr → Prop) (H : Hp) : Keep M H M H := fun _ _ n h => ⟨n, h⟩
theorem Keep.trans {M M1 M2 : Addr → Prop} {H H1 H2 : Hp} (a : Keep M H M1 H1) (b : Keep M1 H1 M2 H2) : Keep M H M2 H2 := fun x o n h => b x o (a x o n h).1 (a x o n h).2
theorem Keep.ext {M : Addr → Prop} {H H' : Hp} (e : Ext H H') : Keep M H M H' := fun b o n h => ⟨n, e b o h⟩
/-- a value that was given is held while others are reckoned -/
def Held (K : PySem.W.Frag) (F : Fr) (H : Hp) (σ : L2.St) (ρ : List Ent) (v : V) : Res → Prop
  | .d x => Da (hot F σ ρ) K H v x
  | .nw x => Da (hot F σ ρ) K H v x
  | .v i => σ[i]? = some (some v)
def HeldAll (K : PySem.W.Frag) (F : Fr) (H : Hp) (σ : L2.St) (ρ : List Ent) (vs : List V) : List Res → Prop
  | [] => vs = []
  | r :: rs => ∃ v ws, vs = v :: ws ∧ Held K F H σ ρ v r ∧ HeldAll K F H σ ρ ws rs
section
variable {K : PySem.W.Frag} {F : Fr} {H H' : Hp} {σ : L2.St} {ρ ρ' : List Ent} {v : V} {r : Res} {x y : D} {i : Nat} {M : Addr → Prop}
theorem RV.held (h : RV K F H σ ρ v r) : Held K F H σ ρ v r := by
  cases r with
  | d y => exact h.2
  | nw y =>
    obtain ⟨p, rfl, h0, nh, E, ho⟩ := h
    refine ho.da (fun b z => ?_) nh
    rcases z with z | z
    · exact .inl (.inl z)
    · exact .inr z
  | v i => exact h.2.1
theorem Held.keep (h : Held K F H σ ρ v r) (g : Keep (hot F σ ρ) H (hot F σ ρ') H') : Held K F H' σ ρ' v r := by
  cases r with
  | d y => exact Da.mono h g
  | nw y => exact Da.mono h g
  | v i => exact h
theorem HeldAll.keep : ∀ {rs : List Res} {vs : List V}, HeldAll K F H σ ρ vs rs → Keep (hot F σ ρ) H (hot F σ ρ') H' → HeldAll K F H' σ ρ' vs rs
  | [], _, h, _ => h
  | r :: rs, _, h, g => by
    obtain ⟨v, ws, e, h1, h2⟩ := h
    exact ⟨v, ws, e, h1.keep g, HeldAll.keep h2 g⟩
theorem Held.pk (E : Env K F H σ ρ) (h : Held K F H σ ρ v r) (hp : peek ρ r = some x) : Pk (hot F σ ρ) K H v x := by
  cases r with
  | d y => cases hp; exact .inl h
  | nw y => cases hp; exact .inl h
  | v i =>
    have h : σ[i]? = some (some v) := h
    have hp : peekE ρ[i]? = some x := hp
    cases e : ρ[i]? with
    | none => rw [e] at hp; cases hp
    | some en =>
      rw [e] at hp
      cases en with
      | own y =>
        cases hp
        obtain ⟨p, e2, hh, ho⟩ := E.slotOwn e
        rw [h] at e2
        cases e2
        exact .inr ⟨p, rfl, hh, ho⟩
      | d y =>
        cases hp
        obtain ⟨w, e2, hd⟩ := E.slot i _ e
        rw [h] at e2
        cases e2
        exact .inl hd
      | _ => cases hp
theorem keep_frz (E : Env K F H σ ρ) : Keep (hot F σ ρ) H (hot F σ (frz ρ r)) H := by
  cases r with
  | v i =>
    show Keep (hot F σ ρ) H (hot F σ (frzE ρ i ρ[i]?)) H
    cases e : ρ[i]? with
    | none => exact Keep.refl _ _
    | some en =>
      cases en with
      | own y =>
        intro b o n ho
        refine ⟨fun z => n ?_, ho⟩
        rcases z with z | ⟨j, w, h1, h2⟩
        · exact .inl z
        · rcases set_get h1 with ⟨_, q, _⟩ | ⟨_, q⟩
          · cases q
          · exact .inr ⟨j, w, q, h2⟩
      | _ => exact Keep.refl _ _
  | _ => exact Keep.refl _ _
theorem Held.frz (E : Env K F H σ ρ) (h : Held K F H σ ρ v r) (hp : peek ρ r = some x) : Env K F H σ (frz ρ r) ∧ Da (hot F σ (frz ρ r)) K H v x := by
  cases r with
  | d y => cases hp; exact ⟨E, h⟩
  | nw y => cases hp; exact ⟨E, h⟩
  | v i =>
    have h : σ[i]? = some (some v) := h
    have hp : peekE ρ[i]? = some x := hp
    show Env K F H σ (frzE ρ i ρ[i]?) ∧ Da (hot F σ (frzE ρ i ρ[i]?)) K H _ _
    cases e : ρ[i]? with
    | none => rw [e] at hp; cases hp
    | some en =>
      rw [e] at hp
      cases en with
      | own y =>
        cases hp
        obtain ⟨p, e2, hd, E'⟩ := E.freeze e
        rw [h] at e2
        cases e2
        exact ⟨E', hd⟩
      | d y =>
        cases hp
        obtain ⟨w, e2, hd⟩ := E.slot i _ e
        rw [h] at e2
        cases e2
        exact ⟨E, hd⟩
      | _ => cases hp
def peekAll (ρ : List Ent) : List Res → Option (List D)
  | [] => some []
  | r :: rs => match peek ρ r, peekAll ρ rs with
    | some x, some xs => some (x :: xs)
    | _, _ => none
def frzAll (ρ : List Ent) : List Res → List Ent
  | [] => ρ
  | r :: rs => frzAll (PW.frz ρ r) rs
theorem peek_frz {s : Res} (h : peek ρ s = some x) : peek (frz ρ r) s = some x := by
  cases s with
  | d y => exact h
  | nw y => exact h
  | v j =>
    cases r with
    | v i =>
      have h : peekE ρ[j]? = some x := h
      show peekE (frzE ρ i ρ[i]?)[j]? = some x
      cases e : ρ[i]? with
      | none => exact h
      | some en =>
        cases en with
        | own y =>
          show peekE (ρ.set i (.d y))[j]? = some x
          by_cases q : j = i
          · subst q
            rw [e] at h
            cases h
            have hl : j < ρ.length := (List.getElem?_eq_some_iff.mp e).1
            rw [List.getElem?_set_self hl]
            rfl
          · rw [List.getElem?_set_ne (Ne.symm q)]
            exact h
        | _ => exact h
    | _ => exact h
theorem HeldAll.pk (E : Env K F H σ ρ) : ∀ {rs : List Res} {vs : List V} {xs : List D}, HeldAll K F H σ ρ vs rs → peekAll ρ rs = some xs → vs.length = xs.length ∧ ∀ (i : Nat) (v : V) (x : D), vs[i]? = some v → xs[i]? = some x → Pk (hot F σ ρ) K H v x
  | [], _, _, h, hp => by
    cases hp
    rw [show _ = [] from h]
    exact ⟨rfl, fun i v x e => by cases e⟩
  | r :: rs, _, xs, h, hp => by
    obtain ⟨v, ws, e, h1, h2⟩ := h
    unfold peekAll at hp
    cases p1 : peek ρ r with
    | none => rw [p1] at hp; cases hp
    | some x =>
      cases p2 : peekAll ρ rs with
      | none => rw [p1, p2] at hp; cases hp
      | some ys =>
        rw [p1, p2] at hp
        cases hp
        obtain ⟨q1, q2⟩ := HeldAll.pk E h2 p2
        subst e
        refine ⟨by rw [List.length_cons, List.length_cons, q1], fun i w z e1 e2 => ?_⟩
        cases i with
        | zero => cases e1; cases e2; exact h1.pk E p1
        | succ i => exact q2 i w z e1 e2
theorem HeldAll.now (E : Env K F H σ ρ) : ∀ {rs : List Res} {vs : List V} {xs : List D}, HeldAll K F H σ ρ vs rs → peekAll ρ rs = some xs → DaAll (fun _ => False) K H vs xs
  | [], _, _, h, hp => by
    cases hp
    exact h
  | r :: rs, _, xs, h, hp => by
    obtain ⟨v, ws, e, h1, h2⟩ := h
    unfold peekAll at hp
    cases p1 : peek ρ r with
    | none => rw [p1] at hp; cases hp
    | some x =>
      cases p2 : peekAll ρ rs with
      | none => rw [p1, p2] at hp; cases hp
      | some ys =>
        rw [p1, p2] at hp
        cases hp
        exact ⟨v, ws, e, (h1.pk E p1).now, HeldAll.now E h2 p2⟩
theorem peekAll_frz : ∀ {rs : List Res} {xs : List D}, peekAll ρ rs = some xs → peekAll (frz ρ r) rs = some xs
  | [], _, h => h
  | s :: rs, xs, hp => by
    unfold peekAll at hp ⊢
    cases p1 : peek ρ s with
    | none => rw [p1] at hp; cases hp
    | some x =>
      cases p2 : peekAll ρ rs with
      | none => rw [p1, p2] at hp; cases hp
      | some ys =>
        rw [p1, p2] at hp
        rw [peek_frz p1, peekAll_frz p2]
        exact hp
theorem HeldAll.frz : ∀ {rs : List Res} {ρ : List Ent} {vs : List V} {xs : List D}, Env K F H σ ρ → HeldAll K F H σ ρ vs rs → peekAll ρ rs = some xs →
    Env K F H σ (frzAll ρ rs) ∧ DaAll (hot F σ (frzAll ρ rs)) K H vs xs ∧ Keep (hot F σ ρ) H (hot F σ (frzAll ρ rs)) H
  | [], ρ, _, _, E, h, hp => by
    cases hp
    exact ⟨E, h, Keep.refl _ _⟩
  | r :: rs, ρ, _, xs, E, h, hp => by
    obtain ⟨v, ws, e, h1, h2⟩ := h
    unfold peekAll at hp
    cases p1 : peek ρ r with
    | none => rw [p1] at hp; cases hp
    | some x =>
      cases p2 : peekAll ρ rs with
      | none => rw [p1, p2] at hp; cases hp
      | some ys =>
        rw [p1, p2] at hp
        cases hp
        obtain ⟨E1, d1⟩ := h1.frz E p1
        have k1 : Keep (hot F σ ρ) H (hot F σ (PW.frz ρ r)) H := keep_frz E
        obtain ⟨E2, d2, k2⟩ := HeldAll.frz E1 (h2.keep k1) (peekAll_frz p2)
        exact ⟨E2, ⟨v, ws, e, d1.mono k2, d2⟩, k1.trans k2⟩
end

/-- hot behind an expression: also what it made -/
def hotR (F : Fr) (σ : L2.St) (ρ : List Ent) (v : V) (r : Res) (b : Addr) : Prop := hot F σ ρ b ∨ ((∃ x, r = .nw x) ∧ v = .ref b)
theorem hotR.hot {F : Fr} {σ : L2.St} {ρ : List Ent} {v : V} {r : Res} {M : Addr → Prop} {H H' : Hp} (g : Keep M H (hotR F σ ρ v r) H') : Keep M H (PW.hot F σ ρ) H' := fun b o n h => ⟨fun z => (g b o n h).1 (.inl z), (g b o n h).2⟩
theorem hotR.d {F : Fr} {σ : L2.St} {ρ : List Ent} {v : V} {x : D} {M : Addr → Prop} {H H' : Hp} (g : Keep M H (PW.hot F σ ρ) H') : Keep M H (hotR F σ ρ v (.d x)) H' := fun b o n h => ⟨fun z => z.elim (g b o n h).1 (fun z => by obtain ⟨⟨_, z⟩, _⟩ := z; cases z), (g b o n h).2⟩
theorem hotR.v {F : Fr} {σ : L2.St} {ρ : List Ent} {v : V} {i : Nat} {M : Addr → Prop} {H H' : Hp} (g : Keep M H (PW.hot F σ ρ) H') : Keep M H (hotR F σ ρ v (.v i)) H' := fun b o n h => ⟨fun z => z.elim (g b o n h).1 (fun z => by obtain ⟨⟨_, z⟩, _⟩ := z; cases z), (g b o n h).2⟩
/-- behind a quiet operation -/
theorem hotR.res {K : PySem.W.Frag} {F : Fr} {σ : L2.St} {ρ : List Ent} {v : V} {r : Res} {M : Addr → Prop} {H0 H H' : Hp} (g : Keep M H0 (PW.hot F σ ρ) H) (e : Ext H H') (h : ResV (PW.hot F σ ρ) K H H' v r) : Keep M H0 (hotR F σ ρ v r) H' := fun b o n h0 => by
  obtain ⟨g1, g2⟩ := g b o n h0
  refine ⟨fun z => z.elim g1 fun z => ?_, e b o g2⟩
  obtain ⟨⟨x, ex⟩, zz⟩ := z
  subst ex
  obtain ⟨p, e2, hp, _⟩ := h
  have z' : p = b := by injection (e2.symm.trans zz)
  rw [z', g2] at hp
  cases hp

/-! ### the judgements -/
abbrev KE := Res → List Ent → Prop
def XE (K : PySem.W.Frag) (te : TE) (ρ : List Ent) (k : KE) : Prop := ∀ (F : Fr) (H : Hp) (σ : L2.St) (Q : VK), Env K F H σ ρ →
  (∀ v H' r ρ', Keep (hot F σ ρ) H (hotR F σ ρ' v r) H' → RV K F H' σ ρ' v r → k r ρ' → Q v H') → te σ H Q
def XT (K : PySem.W.Frag) (tt : TT) (ρ : List Ent) (k : Bool → List Ent → Prop) : Prop := ∀ (F : Fr) (H : Hp) (σ : L2.St) (Q : Bool → Hp → Prop), Env K F H σ ρ →
  (∀ b H' ρ', Keep (hot F σ ρ) H (hot F σ ρ') H' → Env K F H' σ ρ' → k b ρ' → Q b H') → tt σ H Q
def XA (K : PySem.W.Frag) (ta : TA) (ρ : List Ent) (k : List Res → List Ent → Prop) : Prop := ∀ (F : Fr) (H : Hp) (σ : L2.St) (Q : List V → Hp → Prop), Env K F H σ ρ →
  (∀ vs H' rs ρ', Keep (hot F σ ρ) H (hot F σ ρ') H' → Env K F H' σ ρ' → HeldAll K F H' σ ρ' vs rs → k rs ρ' → Q vs H') → ta σ H Q
/-- what is wanted behind a statement -/
structure Post where
  nx : List Ent → Prop
  rt : Res → List Ent → Prop
  bk : List Ent → Prop := fun _ => False
  ct : List Ent → Prop := fun _ => False
structure Impl (K : PySem.W.Frag) (F : Fr) (M : Addr → Prop) (H0 : Hp) (Dn : Ends) (Φ : Post) : Prop where
  nx : ∀ H σ ρ, Keep M H0 (hot F σ ρ) H → Env K F H σ ρ → Φ.nx ρ → Dn.nx σ H
  rt : ∀ v H σ ρ r, Keep M H0 (hotR F σ ρ v r) H → RV K F H σ ρ v r → (∀ i, r ≠ .v i) → Φ.rt r ρ → Dn.rt v H
  bk : ∀ H σ ρ, Keep M H0 (hot F σ ρ) H → Env K F H σ ρ → Φ.bk ρ → Dn.bk σ H
  ct : ∀ H σ ρ, Keep M H0 (hot F σ ρ) H → Env K F H σ ρ → Φ.ct ρ → Dn.ct σ H
theorem Impl.later {K : PySem.W.Frag} {F : Fr} {M M1 : Addr → Prop} {H H1 : Hp} {Dn : Ends} {Φ : Post} (I : Impl K F M H Dn Φ) (k : Keep M H M1 H1) : Impl K F M1 H1 Dn Φ :=
  ⟨fun H σ ρ g E p => I.nx H σ ρ (k.trans g) E p, fun v H σ ρ r g R n p => I.rt v H σ ρ r (k.trans g) R n p, fun H σ ρ g E p => I.bk H σ ρ (k.trans g) E p, fun H σ ρ g E p => I.ct H σ ρ (k.trans g) E p⟩
def XS (K : PySem.W.Frag) (ts : TS) (ρ : List Ent) (Φ : Post) : Prop := ∀ (F : Fr) (H : Hp) (σ : L2.St) (Dn : Ends), Env K F H σ ρ → Impl K F (hot F σ ρ) H Dn Φ → ts Dn σ H

section
variable {K : PySem.W.Frag} {ρ : List Ent} {k : KE} {ta tb tc te : TE} {i : Nat} {x : D}
theorem xe_mono {k' : KE} (h : XE K te ρ k) (g : ∀ r ρ', k r ρ' → k' r ρ') : XE K te ρ k' := fun F H σ Q E q => h F H σ Q E fun v H' r ρ' kp a b => q v H' r ρ' kp a (g r ρ' b)
/-! names, constants -/
theorem xe_var_d (h : ρ[i]? = some (.d x)) (g : k (.d x) ρ) : XE K (tVar i) ρ k := fun F H σ Q E q => by
  obtain ⟨v, e, hd⟩ := E.slot i _ h
  exact ⟨v, e, q v H (.d x) ρ (hotR.d (Keep.refl _ _)) ⟨E, hd⟩ g⟩
theorem xe_var_o (h : ρ[i]? = some (.own x)) (g : k (.v i) ρ) : XE K (tVar i) ρ k := fun F H σ Q E q => by
  obtain ⟨p, e, hd⟩ := E.slot i _ h
  exact ⟨_, e, q _ H (.v i) ρ (hotR.v (Keep.refl _ _)) ⟨E, e, x, h⟩ g⟩
theorem xe_val {v : V} (hv : ∀ M H, Da M K H v x) (g : k (.d x) ρ) : XE K (tC v) ρ k := fun F H σ Q E q => q _ H (.d x) ρ (hotR.d (Keep.refl _ _)) ⟨E, hv _ H⟩ g
theorem xe_int {n : Int} (g : k (.d (.int n)) ρ) : XE K (tC (.int n)) ρ k := xe_val (x := .int n) (fun _ _ => rfl) g
theorem xe_bl {n : Bool} (g : k (.d (.bl n)) ρ) : XE K (tC (.bl n)) ρ k := xe_val (x := .bl n) (fun _ _ => rfl) g
theorem xe_str {n : Str} (g : k (.d (.str n)) ρ) : XE K (tC (.str n)) ρ k := xe_val (x := .str n) (fun _ _ => rfl) g
theorem xe_non (g : k (.d .non) ρ) : XE K (tC .non) ρ k := xe_val (x := .non) (fun _ _ => rfl) g

/-! quiet operations on values -/
def OpD (K : PySem.W.Frag) (r : R2) (x y : D) (k : Res → Prop) : Prop := ∀ (M : Addr → Prop) (H : Hp) (u v : V) (Q : VK), Tr M H → Pk M K H u x → Pk M K H v y → (∀ w H' z, Ext H H' → ResV M K H H' w z → k z → Q w H') → r u v H Q
def UnD (K : PySem.W.Frag) (r : V → Hp → VK → Prop) (x : D) (k : Res → Prop) : Prop := ∀ (M : Addr → Prop) (H : Hp) (u : V) (Q : VK), Tr M H → Pk M K H u x → (∀ w H' z, Ext H H' → ResV M K H H' w z → k z → Q w H') → r u H Q
theorem xe_un {r : V → Hp → VK → Prop} (h : XE K ta ρ fun r1 ρ1 => ∃ x1, peek ρ1 r1 = some x1 ∧ UnD K r x1 fun z => k z ρ1) : XE K (tUn r ta) ρ k := fun F H σ Q E q =>
  h F H σ _ E fun v H1 r1 ρ1 kp R1 ⟨x1, p1, g⟩ => g _ H1 v Q (hot_tr R1.env) (R1.held.pk R1.env p1) fun w H' z e hz kz => q w H' z ρ1 (hotR.res (hotR.hot kp) e hz) (ResV.rv R1.env e hz) kz
theorem xe_op {r : R2} (h : XE K ta ρ fun r1 ρ1 => XE K tb ρ1 fun r2 ρ2 => ∃ x1 x2, peek ρ2 r1 = some x1 ∧ peek ρ2 r2 = some x2 ∧ OpD K r x1 x2 fun z => k z ρ2) : XE K (tOp r ta tb) ρ k := fun F H σ Q E q =>
  h F H σ _ E fun v H1 r1 ρ1 kp R1 h2 => h2 F H1 σ _ R1.env fun u H2 r2 ρ2 kp2 R2 ⟨x1, x2, p1, p2, g⟩ =>
    g _ H2 v u Q (hot_tr R2.env) ((R1.held.keep (hotR.hot kp2)).pk R2.env p1) (R2.held.pk R2.env p2) fun w H' z e hz kz => q w H' z ρ2 (hotR.res ((hotR.hot kp).trans (hotR.hot kp2)) e hz) (ResV.rv R2.env e hz) kz
/-- a quiet operation that gives one datum (no part of the operands' own lists), the heap as it was -/
theorem opd_val {r : R2} {x y z : D} {kk : Res → Prop} (hz : ∀ (M : Addr → Prop) (H : Hp) (u v : V) (Q : VK), Pk M K H u x → Pk M K H v y → (∀ w, Da M K H w z → Q w H) → r u v H Q) (g : kk (.d z)) : OpD K r x y kk :=
  fun M H u v Q _ h1 h2 q => hz M H u v Q h1 h2 fun w hw => q w H (.d z) (Ext.refl H) hw g

/-! tests -/
theorem xt_test {kb : Bool → List Ent → Prop} (h : XE K te ρ fun r ρ' => ∃ b, r = .d (.bl b) ∧ kb b ρ') : XT K (tTest te) ρ kb := fun F H σ Q E q =>
  h F H σ _ E fun v H' r ρ' kp R ⟨b, e, g⟩ => by
    subst e
    obtain ⟨E', hv⟩ := R
    exact ⟨b, hv, q b H' ρ' (hotR.hot kp) E' g⟩
theorem xt_B {kb : Bool → List Ent → Prop} (h : XE K te ρ fun r ρ' => ∃ b, r = .d (.bl b) ∧ kb b ρ') : XT K (tB te) ρ kb := xt_test h
theorem xt_not {tt : TT} {kb : Bool → List Ent → Prop} (h : XT K tt ρ fun b ρ' => kb (!b) ρ') : XT K (tNot tt) ρ kb := fun F H σ Q E q => h F H σ _ E fun b H' ρ' kp E' g => q (!b) H' ρ' kp E' g
theorem xt_and {t u : TT} {kb : Bool → List Ent → Prop} (h : XT K t ρ fun b ρ' => (b = true → XT K u ρ' kb) ∧ (b = false → kb false ρ')) : XT K (tAnd t u) ρ kb := fun F H σ Q E q =>
  h F H σ _ E fun b H' ρ' kp E' g => by
    cases b with
    | true => exact g.1 rfl F H' σ Q E' fun b2 H2 ρ2 kp2 E2 g2 => q b2 H2 ρ2 (kp.trans kp2) E2 g2
    | false => exact q false H' ρ' kp E' (g.2 rfl)
theorem xt_or {t u : TT} {kb : Bool → List Ent → Prop} (h : XT K t ρ fun b ρ' => (b = false → XT K u ρ' kb) ∧ (b = true → kb true ρ')) : XT K (tOr t u) ρ kb := fun F H σ Q E q =>
  h F H σ _ E fun b H' ρ' kp E' g => by
    cases b with
    | false => exact g.1 rfl F H' σ Q E' fun b2 H2 ρ2 kp2 E2 g2 => q b2 H2 ρ2 (kp.trans kp2) E2 g2
    | true => exact q true H' ρ' kp E' (g.2 rfl)
theorem xe_if {tt : TT} (h : XT K tt ρ fun b ρ' => (b = true → XE K ta ρ' k) ∧ (b = false → XE K tb ρ' k)) : XE K (tIf tt ta tb) ρ k := fun F H σ Q E q =>
  h F H σ _ E fun b H' ρ' kp E' g => by
    cases b with
    | true => exact g.1 rfl F H' σ Q E' fun v H2 r ρ2 kp2 R g2 => q v H2 r ρ2 (kp.trans kp2) R g2
    | false => exact g.2 rfl F H' σ Q E' fun v H2 r ρ2 kp2 R g2 => q v H2 r ρ2 (kp.trans kp2) R g2
theorem xe_andV (h : XE K ta ρ fun r ρ' => ∃ b, r = .d (.bl b) ∧ (b = true → XE K tb ρ' k) ∧ (b = false → k (.d (.bl false)) ρ')) : XE K (tAndV ta tb) ρ k := fun F H σ Q E q =>
  h F H σ _ E fun v H' r ρ' kp R ⟨b, e, g1, g2⟩ => by
    subst e
    obtain ⟨E', hv⟩ := R
    refine ⟨b, hv, ?_⟩
    cases b with
    | true => exact g1 rfl F H' σ Q E' fun v H2 r ρ2 kp2 R g2 => q v H2 r ρ2 ((hotR.hot kp).trans kp2) R g2
    | false => exact q _ H' (.d (.bl false)) ρ' (hotR.d (hotR.hot kp)) ⟨E', rfl⟩ (g2 rfl)
theorem xe_orV (h : XE K ta ρ fun r ρ' => ∃ b, r = .d (.bl b) ∧ (b = false → XE K tb ρ' k) ∧ (b = true → k (.d (.bl true)) ρ')) : XE K (tOrV ta tb) ρ k := fun F H σ Q E q =>
  h F H σ _ E fun v H' r ρ' kp R ⟨b, e, g1, g2⟩ => by
    subst e
    obtain ⟨E', hv⟩ := R
    refine ⟨b, hv, ?_⟩
    cases b with
    | false => exact g1 rfl F H' σ Q E' fun v H2 r ρ2 kp2 R g2 => q v H2 r ρ2 ((hotR.hot kp).trans kp2) R g2
    | true => exact q _ H' (.d (.bl true)) ρ' (hotR.d (hotR.hot kp)) ⟨E', rfl⟩ (g2 rfl)
theorem xe_notV (h : XE K ta ρ fun r ρ' => ∃ b, r = .d (.bl b) ∧ k (.d (.bl (!b))) ρ') : XE K (tNotV ta) ρ k := fun F H σ Q E q =>
  h F H σ _ E fun v H' r ρ' kp R ⟨b, e, g⟩ => by
    subst e
    obtain ⟨E', hv⟩ := R
    exact ⟨b, hv, q _ H' (.d (.bl (!b))) ρ' (hotR.d (hotR.hot kp)) ⟨E', rfl⟩ g⟩
theorem xe_chain {r r' : R2} (h : XE K ta ρ fun r1 ρ1 => XE K tb ρ1 fun r2 ρ2 => ∃ x1 x2, peek ρ2 r1 = some x1 ∧ peek ρ2 r2 = some x2 ∧ OpD K r x1 x2 fun z => ∃ b, z = .d (.bl b) ∧
    (b = true → XE K tc ρ2 fun r3 ρ3 => ∃ x2' x3, peek ρ3 r2 = some x2' ∧ peek ρ3 r3 = some x3 ∧ OpD K r' x2' x3 fun z => k z ρ3) ∧ (b = false → k (.d (.bl false)) ρ2)) : XE K (tChain r r' ta tb tc) ρ k := fun F H σ Q E q =>
  h F H σ _ E fun v H1 r1 ρ1 kp R1 h2 => h2 F H1 σ _ R1.env fun u H2 r2 ρ2 kp2 R2 ⟨x1, x2, p1, p2, g⟩ =>
    g _ H2 v u _ (hot_tr R2.env) ((R1.held.keep (hotR.hot kp2)).pk R2.env p1) (R2.held.pk R2.env p2) fun w H3 z e hz ⟨b, ez, g1, g2⟩ => by
      subst ez
      have E3 : Env K F H3 σ ρ2 := R2.env.ex e
      have k3 : Keep (hot F σ ρ2) H2 (hot F σ ρ2) H3 := Keep.ext e
      have k12 := (hotR.hot kp).trans (hotR.hot kp2)
      refine ⟨b, hz, ?_⟩
      cases b with
      | true =>
        show tc σ H3 fun w' H4 => r' u w' H4 Q
        exact g1 rfl F H3 σ _ E3 fun w' H4 r3 ρ3 kp4 R4 ⟨x2', x3, p2', p3, g3⟩ => g3 _ H4 u w' Q (hot_tr R4.env) (((R2.held.keep k3).keep (hotR.hot kp4)).pk R4.env p2') (R4.held.pk R4.env p3)
          fun w2 H5 z2 e5 hz2 kz => q w2 H5 z2 ρ3 (hotR.res ((k12.trans k3).trans (hotR.hot kp4)) e5 hz2) (ResV.rv R4.env e5 hz2) kz
      | false =>
        show Q (.bl false) H3
        exact q _ H3 (.d (.bl false)) ρ2 (hotR.d (k12.trans k3)) ⟨E3, rfl⟩ (g2 rfl)

/-! arguments, displays, calls -/
theorem xa_nil {ka : List Res → List Ent → Prop} (g : ka [] ρ) : XA K tNil ρ ka := fun F H σ Q E q => q [] H [] ρ (Keep.refl _ _) E rfl g
theorem xa_cons {ta' : TA} {ka : List Res → List Ent → Prop} (h : XE K te ρ fun r ρ1 => XA K ta' ρ1 fun rs ρ2 => ka (r :: rs) ρ2) : XA K (tCons te ta') ρ ka := fun F H σ Q E q =>
  h F H σ _ E fun v H1 r ρ1 kp R h2 => h2 F H1 σ _ R.env fun vs H2 rs ρ2 kp2 E2 hs g => q (v :: vs) H2 (r :: rs) ρ2 ((hotR.hot kp).trans kp2) E2 ⟨v, vs, rfl, R.held.keep kp2, hs⟩ g
theorem xe_tup {t : TA} (h : XA K t ρ fun rs ρ1 => ∃ xs, peekAll ρ1 rs = some xs ∧ xs.length ≤ sizeLine ∧ k (.d (.tup xs)) (frzAll ρ1 rs)) : XE K (tTup t) ρ k := fun F H σ Q E q =>
  h F H σ _ E fun vs H1 rs ρ1 kp E1 hs ⟨xs, px, hl, g⟩ => by
    obtain ⟨E2, d2, k2⟩ := HeldAll.frz E1 hs px
    refine ⟨by rw [d2.length]; exact hl, fun p hp => ?_⟩
    have e : Ext H1 (upd H1 p (.tup vs)) := Ext.new hp
    refine q _ _ (.d (.tup xs)) (frzAll ρ1 rs) (hotR.d ((kp.trans k2).trans (Keep.ext e))) ⟨E2.ex e, ?_⟩ g
    exact Da.newT d2 hp fun z => E2.hotTrk p z hp
theorem newL {M : Addr → Prop} {H : Hp} {p : Addr} {vs : List V} {xs : List D} (d : DaAll M K H vs xs) (hp : H p = none) : ResV M K H (upd H p (.lst vs)) (.ref p) (.nw (.lst xs)) :=
  ⟨p, rfl, hp, vs, upd_same, (d.push hp).mono fun b o n z => ⟨n, Ext.new hp b o z⟩⟩
theorem newT {M : Addr → Prop} {H : Hp} {p : Addr} {vs : List V} {xs : List D} (t : Tr M H) (d : DaAll M K H vs xs) (hp : H p = none) : ResV M K H (upd H p (.tup vs)) (.ref p) (.d (.tup xs)) :=
  Da.newT d hp fun z => t p z hp
theorem xe_lst {t : TA} (h : XA K t ρ fun rs ρ1 => ∃ xs, peekAll ρ1 rs = some xs ∧ xs.length ≤ sizeLine ∧ k (.nw (.lst xs)) (frzAll ρ1 rs)) : XE K (tLst t) ρ k := fun F H σ Q E q =>
  h F H σ _ E fun vs H1 rs ρ1 kp E1 hs ⟨xs, px, hl, g⟩ => by
    obtain ⟨E2, d2, k2⟩ := HeldAll.frz E1 hs px
    refine ⟨by rw [d2.length]; exact hl, fun p hp => ?_⟩
    have e : Ext H1 (upd H1 p (.lst vs)) := Ext.new hp
    have z := newL d2 hp
    exact q _ _ (.nw (.lst xs)) (frzAll ρ1 rs) (hotR.res (kp.trans k2) e z) (ResV.rv E2 e z) g
/-- a call by values (a builtin, a def that promises nothing else): quiet -/
def CaD (K : PySem.W.Frag) (r : List V → Hp → VK → Prop) (xs : List D) (k : Res → Prop) : Prop := ∀ (M : Addr → Prop) (H : Hp) (us : List V) (Q : VK), Tr M H → us.length = xs.length →
  (∀ (i : Nat) (v : V) (x : D), us[i]? = some v → xs[i]? = some x → Pk M K H v x) → (∀ w H' z, Ext H H' → ResV M K H H' w z → k z → Q w H') → r us H Q
theorem xe_cb {r : List V → Hp → VK → Prop} {t : TA} (h : XA K t ρ fun rs ρ1 => ∃ xs, peekAll ρ1 rs = some xs ∧ CaD K r xs fun z => k z ρ1) : XE K (tCB r t) ρ k := fun F H σ Q E q =>
  h F H σ _ E fun vs H1 rs ρ1 kp E1 hs ⟨xs, px, g⟩ => by
    obtain ⟨q1, q2⟩ := HeldAll.pk E1 hs px
    exact g _ H1 vs Q (hot_tr E1) q1 q2 fun w H' z e hz kz => q w H' z ρ1 (hotR.res kp e hz) (ResV.rv E1 e hz) kz
/-- the promise of a def on data: w ds k says that it may give any r with k r (and surely such a one) -/
abbrev WF := List D → (Res → Prop) → Prop
def spW (K : PySem.W.Frag) (w : WF) : Sp := fun vs H Q _ => ∃ (M : Addr → Prop) (ds : List D) (kk : Res → Prop), Tr M H ∧ DaAll M K H vs ds ∧ w ds kk ∧ ∀ v H' r, Ext H H' → ResV M K H H' v r → kk r → Q v H'
theorem xe_call {w : WF} {E : XK} {t : TA} (h : XA K t ρ fun rs ρ1 => ∃ xs, peekAll ρ1 rs = some xs ∧ w xs fun z => k z (frzAll ρ1 rs)) : XE K (tCall (spW K w) [] E t) ρ k := fun F H σ Q E0 q =>
  h F H σ _ E0 fun vs H1 rs ρ1 kp E1 hs ⟨xs, px, g⟩ => by
    obtain ⟨E2, d2, k2⟩ := HeldAll.frz E1 hs px
    rw [List.append_nil]
    exact ⟨_, xs, _, hot_tr E2, d2, g, fun v H' r e hr kr => q v H' r _ (hotR.res (kp.trans k2) e hr) (ResV.rv E2 e hr) kr⟩
/-- .. that gives a scalar: its arguments are only read -/
def tCallS (sp : Sp) (E : XK) (t : TA) : TE := tCall sp [] E t
theorem xe_callS {w : WF} {E : XK} {t : TA} (h : XA K t ρ fun rs ρ1 => ∃ xs, peekAll ρ1 rs = some xs ∧ w xs fun z => ∃ y, z = .d y ∧ y.scalar = true ∧ k (.d y) ρ1) : XE K (tCallS (spW K w) E t) ρ k := fun F H σ Q E0 q =>
  h F H σ _ E0 fun vs H1 rs ρ1 kp E1 hs ⟨xs, px, g⟩ => by
    show spW K w (vs ++ []) H1 Q E
    rw [List.append_nil]
    refine ⟨fun _ => False, xs, _, fun b z => z.elim, HeldAll.now E1 hs px, g, fun v H' r e hr ⟨y, er, sy, kr⟩ => ?_⟩
    subst er
    exact q v H' (.d y) ρ1 (hotR.d (kp.trans (Keep.ext e))) ⟨E1.ex e, hr.scal sy⟩ kr
/-- the promise of a def whose first argument is the hand -/
def hotN (M : Addr → Prop) (v : V) (r : Res) (b : Addr) : Prop := M b ∨ ((∃ x, r = .nw x) ∧ v = .ref b)
def spH (K : PySem.W.Frag) (w : WF) : Sp := fun vs H Q _ => ∃ (M : Addr → Prop) (a : Addr) (ws : List V) (ds : List D) (kk : Res → Prop), vs = .ref a :: ws ∧ Tr M H ∧ M a ∧ HandOk M K H a ∧ DaAll M K H ws ds ∧ w ds kk ∧
  ∀ v H' r, (∀ b o, b ≠ a → H b = some o → H' b = some o) → HandOk (hotN M v r) K H' a → ResV M K H H' v r → kk r → Q v H'
def tCallH (sp : Sp) (E : XK) (i : Nat) (t : TA) : TE := tCall sp [] E (tCons (tVar i) t)
theorem xe_callH {w : WF} {E : XK} {t : TA} (hi : ρ[i]? = some .hand) (h : XA K t ρ fun rs ρ1 => ∃ xs, peekAll ρ1 rs = some xs ∧ w xs fun z => k z (frzAll ρ1 rs)) : XE K (tCallH (spH K w) E i t) ρ k := fun F H σ Q E0 q => by
  obtain ⟨a, ha, es⟩ := E0.slot i _ hi
  refine ⟨_, es, ?_⟩
  refine h F H σ _ E0 fun vs H1 rs ρ1 kp E1 hs ⟨xs, px, g⟩ => ?_
  obtain ⟨E2, d2, k2⟩ := HeldAll.frz E1 hs px
  obtain ⟨m1, m2, m3⟩ := E2.hand a ha
  rw [List.append_nil]
  refine ⟨_, a, vs, xs, _, rfl, hot_tr E2, .inl m1, m3, d2, g, fun v H' r st hh hr kr => ?_⟩
  have st' : ∀ b o, F.hd ≠ some b → H1 b = some o → H' b = some o := fun b o n e => st b o (fun z => n (by rw [z]; exact ha)) e
  have E3 : Env K F H' σ (frzAll ρ1 rs) := E2.step st' fun c hc => by
    rw [ha] at hc
    cases hc
    exact HandOk.mono hh (fun b o n e => ⟨fun z => n (.inl z), e⟩) fun _ z => z
  have k3 : Keep (hot F σ (frzAll ρ1 rs)) H1 (hot F σ (frzAll ρ1 rs)) H' := fun b o n e => ⟨n, st b o (fun z => n (by rw [z]; exact .inl m1)) e⟩
  cases r with
  | d x => exact q v H' (.d x) _ (hotR.d ((kp.trans k2).trans k3)) ⟨E3, hr⟩ kr
  | v j => exact hr.elim
  | nw x =>
    obtain ⟨p, rfl, hp, ho⟩ := hr
    have np : ∀ b, hot F σ (frzAll ρ1 rs) b → b ≠ p := fun b hb z => E2.hotTrk b hb (by rw [z]; exact hp)
    have split : ∀ b, hot (F.push p) σ (frzAll ρ1 rs) b → hot F σ (frzAll ρ1 rs) b ∨ b = p := fun b z => by
      rcases z with z | z
      · rcases z with z | z
        · exact .inl (.inl z)
        · exact .inr z
      · exact .inl (.inr z)
    refine q _ H' (.nw x) _ ?_ ⟨p, rfl, h0_none E2 hp, fun z => np p z rfl, ?_, ho.mono (fun b o n ee => ⟨fun z => n (split b z), ee⟩) fun _ z => z⟩ kr
    · intro b o n e0
      obtain ⟨g1, g2⟩ := ((kp.trans k2)) b o n e0
      refine ⟨fun z => z.elim g1 fun z => ?_, (k3 b o g1 g2).2⟩
      obtain ⟨_, z⟩ := z
      have z' : p = b := by injection z
      rw [z', g2] at hp
      cases hp
    · -- hot from now on: the new address was not tracked
      have old := split
      have cold : ∀ b o, ¬ hot F σ (frzAll ρ1 rs) b → H1 b = some o → ¬ hot (F.push p) σ (frzAll ρ1 rs) b ∧ H' b = some o := fun b o n e => ⟨fun z => (old b z).elim n fun z => (by rw [z, hp] at e; cases e), (k3 b o n e).2⟩
      refine ⟨E3.len, E3.go, fun b hb => ?_, fun c hc => ?_, fun j y b h2 h3 => ?_, E3.inj, fun j e he => ?_⟩
      · rcases hb with hb | hb
        · exact E3.trk b hb
        · rw [hb]; exact ho.there
      · rw [ha] at hc
        cases hc
        refine ⟨.inl m1, m2, HandOk.mono hh (fun b o n e => ⟨fun z => n ?_, e⟩) fun _ z => z⟩
        rcases split b z with z | z
        · exact .inl z
        · rw [z]
          exact .inr ⟨⟨x, rfl⟩, rfl⟩
      · obtain ⟨q1, q2⟩ := E2.new j y b h2 h3
        refine ⟨q1, fun z => z.elim q2 fun z => ?_⟩
        exact np b (.inr ⟨j, y, h2, h3⟩) z
      · refine (E2.slot j e he).mono cold (fun p' x' ee eo o ho' => st' p' o (fun z => ?_) ho') rfl
        subst ee
        exact (E2.new j x' p' he eo).2 (E2.hand p' z).1

/-! ### statements -/
variable {Φ : Post} {t u : TS}
theorem xs_seq (h : XS K t ρ { Φ with nx := fun ρ' => XS K u ρ' Φ }) : XS K (tSeq t u) ρ Φ := fun F H σ Dn E I =>
  h F H σ { Dn with nx := u Dn } E ⟨fun H' σ' ρ' kp E' g => g F H' σ' Dn E' (I.later kp), I.rt, I.bk, I.ct⟩
theorem xs_next (g : Φ.nx ρ) : XS K tNext ρ Φ := fun F H σ Dn E I => I.nx H σ ρ (Keep.refl _ _) E g
theorem xs_break (g : Φ.bk ρ) : XS K tBreak ρ Φ := fun F H σ Dn E I => I.bk H σ ρ (Keep.refl _ _) E g
theorem xs_cont (g : Φ.ct ρ) : XS K tCont ρ Φ := fun F H σ Dn E I => I.ct H σ ρ (Keep.refl _ _) E g
/-- what a name's store leaves: an own object of another slot is let go first -/
def stoE (ρ : List Ent) (i j : Nat) : Option Ent → List Ent
  | some (.own x) => (ρ.set i (.d x)).set j (.d x)
  | _ => ρ.set j .u
def sto (ρ : List Ent) (j : Nat) (r : Res) : List Ent := match r with
  | .d x => ρ.set j (.d x)
  | .nw x => ρ.set j (.own x)
  | .v i => stoE ρ i j ρ[i]?
theorem hot_setD {F : Fr} {σ : L2.St} {j : Nat} {v : V} {b : Addr} (h : hot F (σ.set j (some v)) (ρ.set j (.d x)) b) : hot F σ ρ b := by
  rcases h with h | ⟨l, y, h1, h2⟩
  · exact .inl h
  · rcases set_get h1 with ⟨_, e, _⟩ | ⟨n, h3⟩
    · cases e
    · rw [List.getElem?_set_ne (Ne.symm n)] at h2
      exact .inr ⟨l, y, h3, h2⟩
theorem RV.sto {F : Fr} {H : Hp} {σ : L2.St} {v : V} {r : Res} {j : Nat} (R : RV K F H σ ρ v r) : Env K F H (σ.set j (some v)) (sto ρ j r) ∧ ∀ b, hot F (σ.set j (some v)) (sto ρ j r) b → hotR F σ ρ v r b := by
  cases r with
  | d x => exact ⟨R.set fun i z => (nomatch z), fun b h => .inl (hot_setD h)⟩
  | nw x =>
    refine ⟨R.set fun i z => (nomatch z), fun b h => ?_⟩
    rcases h with h | ⟨l, y, h1, h2⟩
    · exact .inl (.inl h)
    · rcases set_get h1 with ⟨e1, _, e3⟩ | ⟨n, h3⟩
      · subst e1
        rw [List.getElem?_set_self (by rw [R.env.len]; exact e3)] at h2
        cases h2
        exact .inr ⟨⟨x, rfl⟩, rfl⟩
      · rw [List.getElem?_set_ne (Ne.symm n)] at h2
        exact .inl (.inr ⟨l, y, h3, h2⟩)
  | v i =>
    obtain ⟨E, hs, x, hx⟩ := id R
    have hp : peek ρ (.v i) = some x := by show peekE ρ[i]? = some x; rw [hx]; rfl
    obtain ⟨E', hd⟩ := R.frz hp
    show Env K F H (σ.set j (some v)) (stoE ρ i j ρ[i]?) ∧ ∀ b, hot F (σ.set j (some v)) (stoE ρ i j ρ[i]?) b → _
    rw [hx]
    have e : PW.frz ρ (.v i) = ρ.set i (.d x) := by
      show frzE ρ i ρ[i]? = _
      rw [hx]
      rfl
    rw [e] at E' hd
    refine ⟨E'.setD hd, fun b h => .inl ?_⟩
    have h1 := hot_setD (x := x) h
    rcases h1 with h1 | ⟨l, y, h1, h2⟩
    · exact .inl h1
    · rcases set_get h1 with ⟨_, q, _⟩ | ⟨n, h3⟩
      · cases q
      · exact .inr ⟨l, y, h3, h2⟩
theorem xs_asg {j : Nat} (h : XE K te ρ fun r ρ' => Φ.nx (sto ρ' j r)) : XS K (tAsg te (gName j)) ρ Φ := fun F H σ Dn E I =>
  h F H σ _ E fun v H' r ρ' kp R g => I.nx H' _ _ (fun b o n e => ⟨fun z => (kp b o n e).1 (R.sto.2 b z), (kp b o n e).2⟩) R.sto.1 g
/-- what is handed back: an own object is a new one for the caller -/
def backE (ρ : List Ent) (i : Nat) (k : Res → List Ent → Prop) : Option Ent → Prop
  | some (.own x) => k (.nw x) (ρ.set i .u)
  | _ => False
def back (ρ : List Ent) (r : Res) (k : Res → List Ent → Prop) : Prop := match r with
  | .d x => k (.d x) ρ
  | .nw x => k (.nw x) ρ
  | .v i => backE ρ i k ρ[i]?
theorem RV.backs {F : Fr} {H : Hp} {σ : L2.St} {v : V} {r : Res} {kk : Res → List Ent → Prop} (R : RV K F H σ ρ v r) (h : back ρ r kk) :
    ∃ ρ' r', RV K F H σ ρ' v r' ∧ (∀ i, r' ≠ .v i) ∧ kk r' ρ' ∧ ∀ b, hotR F σ ρ' v r' b → hotR F σ ρ v r b := by
  cases r with
  | d x => exact ⟨ρ, .d x, R, (fun i z => nomatch z), h, fun _ z => z⟩
  | nw x => exact ⟨ρ, .nw x, R, (fun i z => nomatch z), h, fun _ z => z⟩
  | v i =>
    obtain ⟨E, hs, x, hx⟩ := id R
    have h : backE ρ i kk ρ[i]? := h
    rw [hx] at h
    obtain ⟨p, e, hh, ho⟩ := E.slotOwn hx
    rw [hs] at e
    cases e
    obtain ⟨h0, nM⟩ := E.new i x p hx hs
    have own : ∀ (j : Nat) (z : D), (ρ.set i .u)[j]? = some (.own z) → j ≠ i ∧ ρ[j]? = some (.own z) := fun j z hh => by
      rcases set_get hh with ⟨e1, e2, e3⟩ | hh
      · cases e2
      · exact hh
    have sub : ∀ b, hot F σ (ρ.set i .u) b → hot F σ ρ b ∧ b ≠ p := fun b hb => by
      rcases hb with hb | ⟨j, z, h1, h2⟩
      · exact ⟨.inl hb, fun z => nM (by rw [← z]; exact hb)⟩
      · obtain ⟨n, h3⟩ := own j z h1
        refine ⟨.inr ⟨j, z, h3, h2⟩, fun zz => ?_⟩
        subst zz
        exact n (E.inj j i z x _ h3 hx h2 hs)
    have sub2 : ∀ b, hot (F.push p) σ (ρ.set i .u) b → hot F σ ρ b := fun b hb => by
      rcases hb with hb | hb
      · rcases hb with hb | hb
        · exact .inl hb
        · rw [hb]; exact hh
      · exact (sub b (.inr hb)).1
    have cold : ∀ b o, ¬ hot F σ ρ b → H b = some o → ¬ hot (F.push p) σ (ρ.set i .u) b ∧ H b = some o := fun b o n e => ⟨fun z => n (sub2 b z), e⟩
    refine ⟨ρ.set i .u, .nw x, ⟨p, rfl, h0, fun z => (sub p z).2 rfl, ⟨by rw [List.length_set]; exact E.len, E.go, fun b hb => ?_, fun a e => ?_, fun j z b h1 h2 => ?_, fun j k z z2 b h1 h2 h3 h4 => E.inj j k z z2 b (own j z h1).2 (own k z2 h2).2 h3 h4, fun j e hj => ?_⟩, ho.mono cold fun _ z => z⟩,
      (fun i z => nomatch z), h, fun b hb => ?_⟩
    · rcases hb with hb | hb
      · exact E.trk b hb
      · rw [hb]; exact ho.there
    · obtain ⟨q1, q2, q3⟩ := E.hand a e
      exact ⟨.inl q1, q2, HandOk.mono q3 cold fun _ z => z⟩
    · obtain ⟨n, h3⟩ := own j z h1
      refine ⟨(E.new j z b h3 h2).1, fun q => ?_⟩
      rcases q with q | q
      · exact (E.new j z b h3 h2).2 q
      · subst q
        exact n (E.inj j i z x _ h3 hx h2 hs)
    · rcases set_get hj with ⟨e1, e2, hl⟩ | ⟨n, h⟩
      · subst e1 e2
        trivial
      · exact (E.slot j e h).mono cold (fun _ _ _ _ _ z => z) rfl
    · rcases hb with hb | ⟨_, hb⟩
      · exact .inl (sub b hb).1
      · cases hb
        exact .inl hh
theorem xs_ret (h : XE K te ρ fun r ρ' => back ρ' r Φ.rt) : XS K (tRet te) ρ Φ := fun F H σ Dn E I =>
  h F H σ _ E fun v H' r ρ' kp R g => by
    obtain ⟨ρ2, r', R', n, g', hs⟩ := R.backs g
    exact I.rt v H' σ ρ2 r' (fun b o n e => ⟨fun z => (kp b o n e).1 (hs b z), (kp b o n e).2⟩) R' n g'
theorem xs_retN (g : Φ.rt (.d .non) ρ) : XS K tRetN ρ Φ := fun F H σ Dn E I => I.rt .non H σ ρ (.d .non) (hotR.d (Keep.refl _ _)) ⟨E, rfl⟩ (fun i z => nomatch z) g
theorem xs_drop (h : XE K te ρ fun _ ρ' => Φ.nx ρ') : XS K (tDrop te) ρ Φ := fun F H σ Dn E I =>
  h F H σ _ E fun v H' r ρ' kp R g => I.nx H' σ ρ' (hotR.hot kp) R.env g
theorem xs_if {c : TT} (h : XT K c ρ fun b ρ' => (b = true → XS K t ρ' Φ) ∧ (b = false → XS K u ρ' Φ)) : XS K (tIfS c t u) ρ Φ := fun F H σ Dn E I =>
  h F H σ _ E fun b H' ρ' kp E' g => by
    cases b with
    | true => exact g.1 rfl F H' σ Dn E' (I.later kp)
    | false => exact g.2 rfl F H' σ Dn E' (I.later kp)
end
end PW
end
section
/-! PW: a def's entry; loops, comprehensions; methods of own lists. -/
namespace PW
open PySem PySem.Spec PyProof.Rows L2

/-! ### a def's entry -/
def ini (n : Nat) (ds : List D) : List Ent := ds.map Ent.d ++ List.replicate (n - ds.length) .u
theorem ini_get {n : Nat} {ds : List D} {i : Nat} {e : Ent} (h : (ini n ds)[i]? = some e) : (∃ x, ds[i]? = some x ∧ e = .d x) ∨ e = .u := by
  unfold ini at h
  by_cases hi : i < ds.length
  · rw [List.getElem?_append_left (by simpa using hi), List.getElem?_map] at h
    cases q : ds[i]? with
    | none => rw [q] at h; cases h
    | some x => rw [q] at h; cases h; exact .inl ⟨x, rfl, rfl⟩
  · rw [List.getElem?_append_right (by simpa using hi), List.getElem?_replicate] at h
    split at h
    · cases h; exact .inr rfl
    · cases h
theorem start_get {N : List Str} {vs : List V} {i : Nat} {v : V} (h : vs[i]? = some v) : (L2.start N vs)[i]? = some (some v) := by
  have hi : i < vs.length := (List.getElem?_eq_some_iff.mp h).1
  unfold L2.start
  rw [List.getElem?_append_left (by simpa using hi), List.getElem?_map, h]
  rfl
section
variable {K : PySem.W.Frag} {w : WF} {N : List Str} {vs : List V} {H : Hp} {Q : VK} {E : XK} {t : TS}
theorem env_ini {M : Addr → Prop} {ds : List D} (tr : Tr M H) (d : DaAll M K H vs ds) : Env K ⟨M, H, none⟩ H (L2.start N vs) (ini N.length ds) := by
  have own : ∀ (i : Nat) (x : D), (ini N.length ds)[i]? = some (.own x) → False := fun i x h => by
    rcases ini_get h with ⟨y, _, e⟩ | e <;> cases e
  refine ⟨?_, fun b o _ e => e, tr, fun a e => (nomatch e), fun i x b h => (own i x h).elim, fun i j x y b h => (own i x h).elim, fun i e he => ?_⟩
  · have := d.length
    unfold L2.start ini
    rw [List.length_append, List.length_append, List.length_map, List.length_map, List.length_replicate, List.length_replicate, this]
  · rcases ini_get he with ⟨x, hx, rfl⟩ | rfl
    · obtain ⟨v, hv, hd⟩ := d.at hx
      refine ⟨v, start_get hv, hd.less fun b hb => ?_⟩
      rcases hb with hb | ⟨j, y, h1, _⟩
      · exact hb
      · exact (own j y h1).elim
    · trivial
theorem rv_res {F : Fr} {H' : Hp} {σ : L2.St} {ρ : List Ent} {v : V} {r : Res} (R : RV K F H' σ ρ v r) (n : ∀ i, r ≠ .v i) : ResV F.M K F.H0 H' v r := by
  cases r with
  | d x => exact R.2.less fun b hb => .inl hb
  | nw x =>
    obtain ⟨p, e, h0, nh, E, ho⟩ := R
    exact ⟨p, e, h0, ho.mono (fun b o z ee => ⟨fun y => z (.inl y), ee⟩) fun _ z => z⟩
  | v i => exact absurd rfl (n i)
/-- a def that promises spW -/
theorem entry_w (h : spW K w vs H Q E) (body : ∀ ds kk, w ds kk → XS K t (ini N.length ds) { nx := fun _ => kk (.d .non), rt := fun r _ => kk r }) : t { nx := fun _ H' => Q .non H', rt := Q } (L2.start N vs) H := by
  obtain ⟨M, ds, kk, tr, d, hw, fin⟩ := h
  have E0 := env_ini (N := N) tr d
  refine body ds kk hw ⟨M, H, none⟩ H _ _ E0 ⟨fun H' σ' ρ' _ E' g => ?_, fun v H' σ' ρ' r _ R n g => ?_, fun _ _ _ _ _ g => g.elim, fun _ _ _ _ _ g => g.elim⟩
  · exact fin .non H' (.d .non) (fun b o e => E'.go b o (fun z => nomatch z) e) rfl g
  · exact fin v H' r (fun b o e => R.env.go b o (fun z => nomatch z) e) (rv_res R n) g
def iniH (n : Nat) (ds : List D) : List Ent := Ent.hand :: ini (n - 1) ds
/-- a def that promises spH: the hand its first argument -/
theorem entry_h (h : spH K w vs H Q E) (hN : 1 ≤ N.length) (body : ∀ ds kk, w ds kk → XS K t (iniH N.length ds) { nx := fun _ => kk (.d .non), rt := fun r _ => kk r }) : t { nx := fun _ H' => Q .non H', rt := Q } (L2.start N vs) H := by
  obtain ⟨M, a, ws, ds, kk, rfl, tr, ma, ho, d, hw, fin⟩ := h
  have own : ∀ (i : Nat) (x : D), (iniH N.length ds)[i]? = some (.own x) → False := fun i x h => by
    cases i with
    | zero => cases h
    | succ i => rcases ini_get (show (ini (N.length - 1) ds)[i]? = _ from h) with ⟨y, _, e⟩ | e <;> cases e
  have less : ∀ b, hot ⟨M, H, some a⟩ (L2.start N (.ref a :: ws)) (iniH N.length ds) b → M b := fun b hb => by
    rcases hb with hb | ⟨j, y, h1, _⟩
    · exact hb
    · exact (own j y h1).elim
  have E0 : Env K ⟨M, H, some a⟩ H (L2.start N (.ref a :: ws)) (iniH N.length ds) := by
    refine ⟨?_, fun b o _ e => e, tr, fun c e => ?_, fun i x b h => (own i x h).elim, fun i j x y b h => (own i x h).elim, fun i e he => ?_⟩
    · have := d.length
      unfold L2.start iniH ini
      simp only [List.length_append, List.length_map, List.length_replicate, List.length_cons]
      omega
    · cases e
      exact ⟨ma, ho.there, HandOk.mono ho (fun b o n e => ⟨fun z => n (less b z), e⟩) fun _ z => z⟩
    · cases i with
      | zero =>
        cases he
        exact ⟨a, rfl, start_get rfl⟩
      | succ i =>
        rcases ini_get (show (ini (N.length - 1) ds)[i]? = _ from he) with ⟨x, hx, rfl⟩ | rfl
        · obtain ⟨v, hv, hd⟩ := d.at hx
          exact ⟨v, start_get (show (V.ref a :: ws)[i + 1]? = some v from hv), hd.less less⟩
        · trivial
  have fin2 : ∀ {H' : Hp} {σ' : L2.St} {ρ' : List Ent} {v : V} {r : Res}, RV K ⟨M, H, some a⟩ H' σ' ρ' v r → (∀ i, r ≠ .v i) → kk r → Q v H' := fun {H' σ' ρ' v r} R n g => by
    refine fin v H' r (fun b o nb e => R.env.go b o (fun z => nb (Option.some.inj z).symm) e) ?_ (rv_res R n) g
    cases r with
    | d x =>
      refine HandOk.mono (R.env.hand a rfl).2.2 (fun b o n e => ⟨fun z => n ?_, e⟩) fun _ z => z
      rcases z with z | ⟨⟨_, z⟩, _⟩
      · exact .inl z
      · cases z
    | nw x =>
      obtain ⟨p, e, h0, nh, E, ho⟩ := R
      refine HandOk.mono (E.hand a rfl).2.2 (fun b o n e2 => ⟨fun z => n ?_, e2⟩) fun _ z => z
      rcases z with z | ⟨_, z⟩
      · exact .inl (.inl z)
      · rw [e] at z
        cases z
        exact .inl (.inr rfl)
    | v i => exact absurd rfl (n i)
  exact body ds kk hw ⟨M, H, some a⟩ H _ _ E0 ⟨fun H' σ' ρ' _ E' g => fin2 (r := .d .non) ⟨E', rfl⟩ (fun i z => nomatch z) g, fun v H' σ' ρ' r _ R n g => fin2 R n g, fun _ _ _ _ _ g => g.elim, fun _ _ _ _ _ g => g.elim⟩
theorem ints_inv {M : Addr → Prop} : ∀ {ns : List Int} {vs : List V}, DaAll M K H vs (ns.map D.int) → vs = ns.map V.int
  | [], _, h => h
  | n :: ns, _, h => by
    obtain ⟨v, r, e, h1, h2⟩ := h
    rw [e, show v = V.int n from h1, ints_inv h2]
    rfl
end

/-! ### what is walked -/
/-- J yields the data ds; W: what of the heap it leans on -/
structure Gives (K : PySem.W.Frag) (J : It) (ds : List D) (W : (Addr → Prop) → Hp → Prop) : Prop where
  keep : ∀ M H M' H', W M H → Keep M H M' H' → W M' H'
  stop : ∀ M H i, W M H → ds.length ≤ i → J.stop i H
  go : ∀ M H i, W M H → i < ds.length → J.go i H
  yld : ∀ M H i x H' d, Tr M H → W M H → ds[i]? = some d → J.yld i H x H' → Ext H H' ∧ Da M K H' x d
def XI (K : PySem.W.Frag) (wi : TI) (ρ : List Ent) (k : List D → List Ent → Prop) : Prop := ∀ (F : Fr) (H : Hp) (σ : L2.St) (R : It → Hp → Prop), Env K F H σ ρ →
  (∀ J H' ρ' ds W, Keep (hot F σ ρ) H (hot F σ ρ') H' → Env K F H' σ ρ' → Gives K J ds W → W (hot F σ ρ') H' → k ds ρ' → R J H') → wi σ H R
theorem gives_list {K : PySem.W.Frag} {a : Addr} {ds : List D} : Gives K (Itl K a) ds (fun M H => ∃ vs, ColdL M K H a vs ∧ DaAll M K H vs ds) where
  keep := fun M H M' H' ⟨vs, h1, h2⟩ g => ⟨vs, h1.mono g, h2.mono g⟩
  stop := fun M H i ⟨vs, h1, h2⟩ hi => ⟨vs, h1.sq, by rw [h2.length]; exact hi⟩
  go := fun M H i ⟨vs, h1, h2⟩ hi => by
    have hl : i < vs.length := by rw [h2.length]; exact hi
    exact ⟨vs, vs[i], h1.sq, by simp [hl]⟩
  yld := fun M H i x H' d _ ⟨vs, h1, h2⟩ hd y => by
    obtain ⟨e, y⟩ := y
    subst e
    obtain ⟨v, hv, q⟩ := h2.at hd
    have := y vs h1.sq
    rw [hv] at this
    cases this
    exact ⟨Ext.refl _, q⟩
theorem gives_tup {K : PySem.W.Frag} {a : Addr} {ds : List D} : Gives K (Itt K a) ds (fun M H => ∃ vs, ColdT M K H a vs ∧ DaAll M K H vs ds) where
  keep := fun M H M' H' ⟨vs, h1, h2⟩ g => ⟨vs, h1.mono g, h2.mono g⟩
  stop := fun M H i ⟨vs, h1, h2⟩ hi => ⟨vs, h1.sq, by rw [h2.length]; exact hi⟩
  go := fun M H i ⟨vs, h1, h2⟩ hi => by
    have hl : i < vs.length := by rw [h2.length]; exact hi
    exact ⟨vs, vs[i], h1.sq, by simp [hl]⟩
  yld := fun M H i x H' d _ ⟨vs, h1, h2⟩ hd y => by
    obtain ⟨e, y⟩ := y
    subst e
    obtain ⟨v, hv, q⟩ := h2.at hd
    have := y vs h1.sq
    rw [hv] at this
    cases this
    exact ⟨Ext.refl _, q⟩
def rngD (lo : Int) (n : Nat) : List D := (List.range n).map fun (i : Nat) => D.int (lo + (i : Int))
theorem rngD_at {lo : Int} {n i : Nat} {d : D} (h : (rngD lo n)[i]? = some d) : d = .int (lo + (i : Int)) ∧ i < n := by
  unfold rngD at h
  rw [List.getElem?_map] at h
  by_cases hi : i < n
  · rw [List.getElem?_range hi] at h
    cases h
    exact ⟨rfl, hi⟩
  · rw [List.getElem?_eq_none (by simpa using hi)] at h
    cases h
theorem rngD_len {lo : Int} {n : Nat} : (rngD lo n).length = n := by unfold rngD; simp
theorem gives_range {K : PySem.W.Frag} {lo : Int} {n : Nat} : Gives K (Itr lo n) (rngD lo n) (fun _ _ => True) where
  keep := fun _ _ _ _ _ _ => trivial
  stop := fun M H i _ hi => by rw [rngD_len] at hi; exact hi
  go := fun M H i _ hi => by rw [rngD_len] at hi; exact hi
  yld := fun M H i x H' d _ _ hd y => by
    obtain ⟨e, y⟩ := y
    subst e y
    rw [(rngD_at hd).1]
    exact ⟨Ext.refl _, rfl⟩
/-- a list or a tuple -/
def iSeq (K : PySem.W.Frag) (tl : TE) : TI := fun σ H R => tl σ H fun x H1 => ∃ a, x = .ref a ∧ (((∃ xs, SqL K H1 a xs) ∧ R (Itl K a) H1) ∨ ((∃ xs, SqT K H1 a xs) ∧ R (Itt K a) H1))
theorem pi_seq {X : Cx} {tg l : Expr} {tl : TE} (hl : PE X l tl) : PI X tg l (iSeq X.K tl) := by
  refine ⟨fun pins s σ H R I h => ?_⟩
  refine thn (hl.run pins s σ H _ I h) fun v s1 ⟨x, H1, I1, r1, q1⟩ => ?_
  obtain ⟨a, e, q⟩ := q1
  subst e
  cases r1
  rcases q with ⟨⟨xs, hq⟩, q⟩ | ⟨⟨xs, hq⟩, q⟩
  · obtain ⟨its, rv, p, hz⟩ := I1.list hq
    refine wpAny_pyIter_list p.isList ?_
    refine ⟨s1.heap.objs.size, [s1.heap.objs.size], _, _, H1, rfl, I1.kept (t' := s1.toks) fun b o e => Heap.get?_push_of_some _ e, turn_list a _, ⟨_, Heap.get?_push_size _ rfl, rfl, rfl⟩, fun b hb => ?_, q⟩
    have e : b = s1.heap.objs.size := by simpa using hb
    subst e
    exact I1.fpOk (Nat.le_refl _) (I1.hok.fresh (Nat.le_refl _))
  · obtain ⟨its, rv, p, hz⟩ := I1.tuple hq
    refine wpAny_pyIter_tuple (show s1.heap.IsTuple a its.toArray from p) ?_
    refine ⟨s1.heap.objs.size, [s1.heap.objs.size], _, _, H1, rfl, I1.kept (t' := s1.toks) fun b o e => Heap.get?_push_of_some _ e, turn_tuple a _, ⟨_, Heap.get?_push_size _ rfl, rfl, rfl⟩, fun b hb => ?_, q⟩
    have e : b = s1.heap.objs.size := by simpa using hb
    subst e
    exact I1.fpOk (Nat.le_refl _) (I1.hok.fresh (Nat.le_refl _))
/-- the items of a list, a tuple -/
def itemsD : D → Option (List D)
  | .lst ds => some ds
  | .tup ds => some ds
  | _ => none
section
variable {K : PySem.W.Frag} {ρ : List Ent} {te : TE} {ta : TA} {wi : TI}
theorem xi_seq {k : List D → List Ent → Prop} (h : XE K te ρ fun r ρ1 => ∃ x ds, peek ρ1 r = some x ∧ itemsD x = some ds ∧ k ds (frz ρ1 r)) : XI K (iSeq K te) ρ k := fun F H σ R E q =>
  h F H σ _ E fun v H1 r ρ1 kp Rv ⟨x, ds, px, hi, g⟩ => by
    obtain ⟨E2, d2⟩ := Rv.frz px
    have k2 : Keep (hot F σ ρ) H (hot F σ (frz ρ1 r)) H1 := (hotR.hot kp).trans (keep_frz Rv.env)
    cases x with
    | lst es =>
      cases hi
      obtain ⟨a, vs, e, h1, h2⟩ := d2
      exact ⟨a, e, .inl ⟨⟨vs, h1.sq⟩, q _ H1 _ ds _ k2 E2 gives_list ⟨vs, h1, h2⟩ g⟩⟩
    | tup es =>
      cases hi
      obtain ⟨a, vs, e, h1, h2⟩ := d2
      exact ⟨a, e, .inr ⟨⟨vs, h1.sq⟩, q _ H1 _ ds _ k2 E2 gives_tup ⟨vs, h1, h2⟩ g⟩⟩
    | _ => cases hi
theorem da1 {M : Addr → Prop} {H : Hp} {vs : List V} {x : D} (h : DaAll M K H vs [x]) : ∃ v, vs = [v] ∧ Da M K H v x := by
  obtain ⟨v, r, e, h1, h2⟩ := h
  exact ⟨v, by rw [e, show r = [] from h2], h1⟩
theorem da2 {M : Addr → Prop} {H : Hp} {vs : List V} {x y : D} (h : DaAll M K H vs [x, y]) : ∃ v w, vs = [v, w] ∧ Da M K H v x ∧ Da M K H w y := by
  obtain ⟨v, r, e, h1, h2⟩ := h
  obtain ⟨w, e2, h3⟩ := da1 h2
  exact ⟨v, w, by rw [e, e2], h1, h3⟩
theorem xi_range1 {k : List D → List Ent → Prop} (h : XA K ta ρ fun rs ρ1 => ∃ n : Int, peekAll ρ1 rs = some [.int n] ∧ -(2 ^ 62) ≤ n ∧ n < 2 ^ 62 ∧ k (rngD 0 n.toNat) ρ1) : XI K (iRng1 ta) ρ k := fun F H σ R E q =>
  h F H σ _ E fun vs H1 rs ρ1 kp E1 hs ⟨n, px, b1, b2, g⟩ => by
    obtain ⟨v, e, hv⟩ := da1 (HeldAll.now E1 hs px)
    exact ⟨n, by rw [e, show v = V.int n from hv], b1, b2, q _ H1 ρ1 _ _ kp E1 gives_range trivial g⟩
theorem xi_range2 {k : List D → List Ent → Prop} (h : XA K ta ρ fun rs ρ1 => ∃ m n : Int, peekAll ρ1 rs = some [.int m, .int n] ∧ (-(2 ^ 62) ≤ m ∧ m < 2 ^ 62 ∧ -(2 ^ 62) ≤ n ∧ n < 2 ^ 62) ∧ k (rngD m (n - m).toNat) ρ1) : XI K (iRng2 ta) ρ k := fun F H σ R E q =>
  h F H σ _ E fun vs H1 rs ρ1 kp E1 hs ⟨m, n, px, b, g⟩ => by
    obtain ⟨v, w, e, hv, hw⟩ := da2 (HeldAll.now E1 hs px)
    exact ⟨m, n, by rw [e, show v = V.int m from hv, show w = V.int n from hw], b, q _ H1 ρ1 _ _ kp E1 gives_range trivial g⟩

/-! ### targets -/
def XG (K : PySem.W.Frag) (g : TG) (d : D) (ρ : List Ent) (k : List Ent → Prop) : Prop := ∀ (F : Fr) (H : Hp) (σ : L2.St) (v : V) (Q : L2.St → Hp → Prop), Env K F H σ ρ → Da (hot F σ ρ) K H v d →
  (∀ σ' ρ', Keep (hot F σ ρ) H (hot F σ' ρ') H → Env K F H σ' ρ' → k ρ' → Q σ' H) → g v σ H Q
def XGs (K : PySem.W.Frag) (g : TGs) (ds : List D) (ρ : List Ent) (k : List Ent → Prop) : Prop := ∀ (F : Fr) (H : Hp) (σ : L2.St) (vs : List V) (Q : L2.St → Hp → Prop), Env K F H σ ρ → DaAll (hot F σ ρ) K H vs ds →
  (∀ σ' ρ', Keep (hot F σ ρ) H (hot F σ' ρ') H → Env K F H σ' ρ' → k ρ' → Q σ' H) → g vs σ H Q
theorem xg_name {j : Nat} {d : D} {k : List Ent → Prop} (g : k (ρ.set j (.d d))) : XG K (gName j) d ρ k := fun F H σ v Q E hd q =>
  q _ _ (fun b o n e => ⟨fun z => n (hot_setD z), e⟩) (E.setD hd) g
theorem xgs_nil {k : List Ent → Prop} (g : k ρ) : XGs K gNil [] ρ k := fun F H σ v Q E hd q => ⟨hd, q _ _ (Keep.refl _ _) E g⟩
theorem xgs_cons {t : TG} {u : TGs} {d : D} {ds : List D} {k : List Ent → Prop} (h : XG K t d ρ fun ρ1 => XGs K u ds ρ1 k) : XGs K (gCons t u) (d :: ds) ρ k := fun F H σ vs Q E hd q => by
  obtain ⟨v, r, e, h1, h2⟩ := hd
  refine ⟨v, r, e, h F H σ v _ E h1 fun σ' ρ' kp E' g => ?_⟩
  exact g F H σ' r Q E' (h2.mono kp) fun σ2 ρ2 kp2 E2 g2 => q σ2 ρ2 (kp.trans kp2) E2 g2
theorem xg_tup {n : Nat} {t : TGs} {ds : List D} {k : List Ent → Prop} (hl : ds.length = n) (h : XGs K t ds ρ k) : XG K (gTup K n t) (.tup ds) ρ k := fun F H σ v Q E hd q => by
  obtain ⟨a, vs, e, h1, h2⟩ := hd
  exact ⟨a, vs, e, h1.sq, by rw [h2.length]; exact hl, h F H σ vs Q E h2 q⟩
/-- target = value -/
theorem xs_asgG {g : TG} {Φ : Post} (h : XE K te ρ fun r ρ1 => ∃ x, peek ρ1 r = some x ∧ XG K g x (frz ρ1 r) Φ.nx) : XS K (tAsg te g) ρ Φ := fun F H σ Dn E I =>
  h F H σ _ E fun v H1 r ρ1 kp Rv ⟨x, px, hg⟩ => by
    obtain ⟨E2, d2⟩ := Rv.frz px
    exact hg F H1 σ v _ E2 d2 fun σ' ρ' kp2 E' g' => I.nx H1 σ' ρ' (((hotR.hot kp).trans (keep_frz Rv.env)).trans kp2) E' g'

/-! ### loops -/
theorem xs_for {Φ : Post} {g : TG} {tb : TS} (h : XI K wi ρ fun ds ρ1 => ∃ I : Nat → List Ent → Prop, I 0 ρ1 ∧
    (∀ i d ρ', ds[i]? = some d → I i ρ' → XG K g d ρ' fun ρ2 => XS K tb ρ2 { nx := I (i + 1), ct := I (i + 1), bk := Φ.nx, rt := Φ.rt }) ∧ ∀ ρ', I ds.length ρ' → Φ.nx ρ') : XS K (tFor wi g tb) ρ Φ := fun F H σ Dn E Im =>
  h F H σ _ E fun J H1 ρ1 ds W kp E1 Gv w0 ⟨I, i0, step, fin⟩ => by
    refine ⟨fun i m σ' H' => i ≤ ds.length ∧ m = ds.length - i ∧ ∃ ρ', Env K F H' σ' ρ' ∧ W (hot F σ' ρ') H' ∧ Keep (hot F σ ρ) H (hot F σ' ρ') H' ∧ I i ρ', ⟨ds.length, Nat.zero_le _, rfl, ρ1, E1, w0, kp, i0⟩, ?_⟩
    rintro i m σ' H' ⟨hi, rfl, ρ', E', w', k', I'⟩
    by_cases hlt : i < ds.length
    · have hd : ds[i]? = some ds[i] := by simp [hlt]
      refine .inr ⟨Gv.go _ _ i w' hlt, fun σ2 H2 => ∃ ρ2, Env K F H2 σ2 ρ2 ∧ W (hot F σ2 ρ2) H2 ∧ Keep (hot F σ ρ) H (hot F σ2 ρ2) H2 ∧ I (i + 1) ρ2, fun σ2 H2 ⟨ρ2, a, b, c, d⟩ => ⟨ds.length - (i + 1), by omega, hlt, rfl, ρ2, a, b, c, d⟩, fun x H2 y => ?_⟩
      obtain ⟨ex, hx⟩ := Gv.yld _ _ i x H2 _ (hot_tr E') w' hd y
      have k2 : Keep (hot F σ' ρ') H' (hot F σ' ρ') H2 := Keep.ext ex
      have w2 := Gv.keep _ _ _ _ w' k2
      refine step i _ ρ' hd I' F H2 σ' x _ (E'.ex ex) hx fun σ3 ρ3 k3 E3 body => ?_
      have w3 := Gv.keep _ _ _ _ w2 k3
      have k03 := (k'.trans k2).trans k3
      refine body F H2 σ3 _ E3 ⟨fun H4 σ4 ρ4 k4 E4 g4 => ⟨ρ4, E4, Gv.keep _ _ _ _ w3 k4, k03.trans k4, g4⟩, fun v H4 σ4 ρ4 r k4 R4 n g4 => Im.rt v H4 σ4 ρ4 r (k03.trans k4) R4 n g4,
        fun H4 σ4 ρ4 k4 E4 g4 => Im.nx H4 σ4 ρ4 (k03.trans k4) E4 g4, fun H4 σ4 ρ4 k4 E4 g4 => ⟨ρ4, E4, Gv.keep _ _ _ _ w3 k4, k03.trans k4, g4⟩⟩
    · have e : i = ds.length := by omega
      subst e
      exact .inl ⟨Gv.stop _ _ _ w' (Nat.le_refl _), Im.nx H' σ' ρ' k' E' (fin ρ' I')⟩
theorem xs_while {Φ : Post} {c : TT} {tb : TS} (I : Nat → List Ent → Prop) (m0 : Nat) (h0 : I m0 ρ)
    (step : ∀ m ρ', I m ρ' → XT K c ρ' fun b ρ2 => (b = true → XS K tb ρ2 { nx := fun ρ3 => ∃ m', m' < m ∧ I m' ρ3, ct := fun ρ3 => ∃ m', m' < m ∧ I m' ρ3, bk := Φ.nx, rt := Φ.rt }) ∧ (b = false → Φ.nx ρ2)) : XS K (tWhile c tb) ρ Φ := fun F H σ Dn E Im => by
  refine ⟨fun m σ' H' => ∃ ρ', Env K F H' σ' ρ' ∧ Keep (hot F σ ρ) H (hot F σ' ρ') H' ∧ I m ρ', ⟨m0, ρ, E, Keep.refl _ _, h0⟩, ?_⟩
  rintro m σ' H' ⟨ρ', E', k', I'⟩
  refine step m ρ' I' F H' σ' _ E' fun b H2 ρ2 k2 E2 g => ?_
  cases b with
  | true =>
    rw [if_pos rfl]
    refine ⟨fun σ3 H3 => ∃ m' ρ3, m' < m ∧ Env K F H3 σ3 ρ3 ∧ Keep (hot F σ ρ) H (hot F σ3 ρ3) H3 ∧ I m' ρ3, fun σ3 H3 ⟨m', ρ3, a, b, c, d⟩ => ⟨m', a, ρ3, b, c, d⟩, ?_⟩
    have k02 := k'.trans k2
    exact g.1 rfl F H2 σ' _ E2 ⟨fun H4 σ4 ρ4 k4 E4 ⟨m', a, b⟩ => ⟨m', ρ4, a, E4, k02.trans k4, b⟩, fun v H4 σ4 ρ4 r k4 R4 n g4 => Im.rt v H4 σ4 ρ4 r (k02.trans k4) R4 n g4, fun H4 σ4 ρ4 k4 E4 g4 => Im.nx H4 σ4 ρ4 (k02.trans k4) E4 g4,
      fun H4 σ4 ρ4 k4 E4 ⟨m', a, b⟩ => ⟨m', ρ4, a, E4, k02.trans k4, b⟩⟩
  | false =>
    rw [if_neg Bool.false_ne_true]
    exact Im.nx H2 σ' ρ2 (k'.trans k2) E2 (g.2 rfl)
end

/-! ### comprehensions -/
def wipeE (ρ : List Ent) : List Nat → List Ent
  | [] => ρ
  | v :: vs => (wipeE ρ vs).set v .u
theorem wipeE_get {ρ : List Ent} {i : Nat} {e : Ent} : ∀ {vs : List Nat}, (wipeE ρ vs)[i]? = some e → e = .u ∨ (ρ[i]? = some e ∧ i ∉ vs)
  | [], h => .inr ⟨h, by simp⟩
  | v :: vs, h => by
    rcases set_get (show ((wipeE ρ vs).set v .u)[i]? = some e from h) with ⟨_, q, _⟩ | ⟨n, h⟩
    · exact .inl q
    · rcases wipeE_get h with q | ⟨q1, q2⟩
      · exact .inl q
      · exact .inr ⟨q1, by simp [n, q2]⟩
theorem wipeE_len (ρ : List Ent) : ∀ vs : List Nat, (wipeE ρ vs).length = ρ.length
  | [] => rfl
  | v :: vs => by
    show ((wipeE ρ vs).set v .u).length = _
    rw [List.length_set, wipeE_len ρ vs]
theorem wipe_get {σ : L2.St} {i : Nat} : ∀ {vs : List Nat}, i ∉ vs → (wipe σ vs)[i]? = σ[i]?
  | [], _ => rfl
  | v :: vs, h => by
    show ((wipe σ vs).set v none)[i]? = _
    rw [List.getElem?_set_ne (fun z => h (by simp [z]))]
    exact wipe_get fun z => h (List.mem_cons_of_mem _ z)
section
variable {K : PySem.W.Frag} {F : Fr} {H : Hp} {σ σ' : L2.St} {ρ ρ' : List Ent}
/-- an environment that knows less, of slots that agree where something is known -/
theorem Env.agree (E : Env K F H σ ρ) (hl : ρ'.length = ρ.length) (hs : σ'.length = σ.length) (h : ∀ (i : Nat) (e : Ent), ρ'[i]? = some e → e = .u ∨ (ρ[i]? = some e ∧ σ'[i]? = σ[i]?)) :
    Env K F H σ' ρ' ∧ ∀ b, hot F σ' ρ' b → hot F σ ρ b := by
  have own : ∀ (i : Nat) (x : D), ρ'[i]? = some (.own x) → ρ[i]? = some (.own x) ∧ σ'[i]? = σ[i]? := fun i x hi => by
    rcases h i _ hi with q | q
    · cases q
    · exact q
  have less : ∀ b, hot F σ' ρ' b → hot F σ ρ b := fun b hb => by
    rcases hb with hb | ⟨i, x, h1, h2⟩
    · exact .inl hb
    · obtain ⟨q1, q2⟩ := own i x h1
      rw [q2] at h2
      exact .inr ⟨i, x, q1, h2⟩
  have cold : ∀ b o, ¬ hot F σ ρ b → H b = some o → ¬ hot F σ' ρ' b ∧ H b = some o := fun b o n e => ⟨fun z => n (less b z), e⟩
  refine ⟨⟨by rw [hs, hl]; exact E.len, E.go, E.trk, fun a e => ?_, fun i x b h1 h2 => ?_, fun i j x y b h1 h2 h3 h4 => ?_, fun i e he => ?_⟩, less⟩
  · obtain ⟨q1, q2, q3⟩ := E.hand a e
    exact ⟨q1, q2, HandOk.mono q3 cold fun _ z => z⟩
  · obtain ⟨q1, q2⟩ := own i x h1
    rw [q2] at h2
    exact E.new i x b q1 h2
  · obtain ⟨q1, q2⟩ := own i x h1
    obtain ⟨q3, q4⟩ := own j y h2
    rw [q2] at h3
    rw [q4] at h4
    exact E.inj i j x y b q1 q3 h3 h4
  · rcases h i e he with q | ⟨q1, q2⟩
    · rw [q]; trivial
    · rw [q2]
      exact (E.slot i e q1).mono cold (fun _ _ _ _ _ z => z) rfl
end
section
variable {K : PySem.W.Frag} {F : Fr} {H : Hp} {σ : L2.St} {ρ : List Ent} {p : Addr} {o : HO}
/-- p's content stands still, too -/
abbrev Fr.pin (F : Fr) (p : Addr) (o : HO) : Fr := { M := fun b => F.M b ∨ b = p, H0 := upd F.H0 p o, hd := F.hd }
theorem Env.pin (E : Env K (F.push p) H σ ρ) (h0 : F.H0 p = none) (hp : H p = some o) : Env K (F.pin p o) H σ ρ := by
  refine ⟨E.len, fun b u n e => ?_, E.trk, fun a e => ?_, fun i x b h1 h2 => ?_, E.inj, fun i e he => (E.slot i e he).mono (fun b o n e => ⟨n, e⟩) (fun _ _ _ _ _ z => z) rfl⟩
  · have e : upd F.H0 p o b = some u := e
    by_cases z : b = p
    · subst z
      rw [upd_same] at e
      rw [hp]
      exact e
    · rw [upd_ne z] at e
      exact E.go b u n e
  · obtain ⟨q1, q2, q3⟩ := E.hand a e
    refine ⟨q1, ?_, q3⟩
    by_cases z : a = p
    · subst z
      exact absurd h0 q2
    · show upd F.H0 p o a ≠ none
      rw [upd_ne z]
      exact q2
  · obtain ⟨q1, q2⟩ := E.new i x b h1 h2
    refine ⟨?_, q2⟩
    show upd F.H0 p o b = none
    rw [upd_ne fun z => q2 (.inr z)]
    exact q1
theorem Env.unpin (E : Env K (F.pin p o) H σ ρ) (h0 : F.H0 p = none) (hh : ∀ a, F.hd = some a → F.H0 a ≠ none) : Env K (F.push p) H σ ρ := by
  refine ⟨E.len, fun b u n e => E.go b u n ?_, E.trk, fun a e => ⟨(E.hand a e).1, hh a e, (E.hand a e).2.2⟩, fun i x b h1 h2 => ?_, E.inj, fun i e he => (E.slot i e he).mono (fun b o n e => ⟨n, e⟩) (fun _ _ _ _ _ z => z) rfl⟩
  · have e : F.H0 b = some u := e
    show upd F.H0 p o b = some u
    rw [upd_ne fun z => by rw [z, h0] at e; cases e]
    exact e
  · obtain ⟨q1, q2⟩ := E.new i x b h1 h2
    refine ⟨?_, q2⟩
    have q1 : upd F.H0 p o b = none := q1
    rw [upd_ne fun z => q2 (.inr z)] at q1
    exact q1
theorem Env.poke (E : Env K (F.push p) H σ ρ) (h0 : F.H0 p = none) : Env K (F.push p) (upd H p o) σ ρ := by
  have hp : hot (F.push p) σ ρ p := .inl (.inr rfl)
  have up : ∀ b u, b ≠ p → H b = some u → upd H p o b = some u := fun b u n e => by rw [upd_ne n]; exact e
  have cold : ∀ b u, ¬ hot (F.push p) σ ρ b → H b = some u → ¬ hot (F.push p) σ ρ b ∧ upd H p o b = some u := fun b u n e => ⟨n, up b u (fun z => n (by rw [z]; exact hp)) e⟩
  have hne : ∀ a, F.hd = some a → a ≠ p := fun a e z => (E.hand a e).2.1 (by rw [z]; exact h0)
  refine ⟨E.len, fun b u n e => up b u (fun z => by rw [z] at e; rw [show F.H0 p = some u from e] at h0; cases h0) (E.go b u n e), fun b hb => ?_, fun a e => ?_, E.new, E.inj, fun i e he => ?_⟩
  · by_cases z : b = p
    · rw [z, upd_same]; exact fun q => nomatch q
    · rw [upd_ne z]; exact E.trk b hb
  · obtain ⟨q1, q2, q3⟩ := E.hand a e
    exact ⟨q1, q2, HandOk.mono q3 cold fun u z => up a u (hne a e) z⟩
  · refine (E.slot i e he).mono cold (fun q x ee eo u hq => up q u (fun z => ?_) hq) rfl
    subst ee z
    exact (E.new i x _ he eo).2 (.inr rfl)
end
section
variable {K : PySem.W.Frag} {ρ : List Ent} {te : TE} {tt : TT} {wi : TI} {g : TG} {vs : List Nat} {k : KE}
/-- the targets of a comprehension are its own slots -/
def OwnSlots (g : TG) (vs : List Nat) : Prop := ∀ (σ : L2.St) (v : V) (H : Hp) (Q : L2.St → Hp → Prop), (g v σ H fun σ2 H2 => wipe σ2 vs = wipe σ vs → Q σ2 H2) → g v σ H fun σ2 H2 => wipe σ2 vs = wipe σ vs ∧ Q σ2 H2
/-- [e for x in .. if t]: P holds of how many are walked, and of what is made -/
theorem xe_lc (hsl : OwnSlots g vs) (hww : ∀ σ : L2.St, wipe (wipe σ vs) vs = wipe σ vs)
    (h : XI K wi ρ fun ds ρ1 => ds.length ≤ sizeLine ∧ ∃ P : Nat → List D → Prop, P 0 [] ∧
      (∀ i d acc, ds[i]? = some d → acc.length ≤ i → P i acc → XG K g d (wipeE ρ1 vs) fun ρ2 => wipeE ρ2 vs = wipeE ρ1 vs ∧ XT K tt ρ2 fun b ρ3 => ρ3 = ρ2 ∧ (b = true → XE K te ρ3 fun r ρ4 => ∃ y, peek ρ4 r = some y ∧ frz ρ4 r = ρ2 ∧ P (i + 1) (acc ++ [y])) ∧ (b = false → P (i + 1) acc)) ∧
      ∀ acc, acc.length ≤ ds.length → P ds.length acc → k (.nw (.lst acc)) (wipeE ρ1 vs)) : XE K (tLc wi g tt te vs) ρ k := fun F H σ Q E q => by
  refine h F H σ _ E fun J H1 ρ1 ds W kp E1 Gv w0 ⟨hsz, P, p0, step, fin⟩ Dl hD => ?_
  have h0 := h0_none E1 hD
  have hh : ∀ a, F.hd = some a → F.H0 a ≠ none := fun a e => (E1.hand a e).2.1
  have agr : ∀ {F' : Fr} {H' : Hp}, Env K F' H' σ ρ1 → Env K F' H' (wipe σ vs) (wipeE ρ1 vs) ∧ ∀ b, hot F' (wipe σ vs) (wipeE ρ1 vs) b → hot F' σ ρ1 b := fun e => e.agree (wipeE_len _ _) (wipe_length _ _) fun i e he => by
    rcases wipeE_get he with q | ⟨q1, q2⟩
    · exact .inl q
    · exact .inr ⟨q1, wipe_get q2⟩
  have agb : ∀ {F' : Fr} {H' : Hp}, Env K F' H' (wipe σ vs) (wipeE ρ1 vs) → Env K F' H' σ (wipeE ρ1 vs) ∧ ∀ b, hot F' σ (wipeE ρ1 vs) b → hot F' (wipe σ vs) (wipeE ρ1 vs) b := fun e => e.agree rfl (wipe_length _ _).symm fun i e he => by
    rcases wipeE_get he with q | ⟨q1, q2⟩
    · exact .inl q
    · exact .inr ⟨he, (wipe_get q2).symm⟩
  have A1 := agr E1
  let Z : Nat → Hp → Prop := fun i H' => ∃ acc, i ≤ ds.length ∧ acc.length ≤ i ∧ P i acc ∧ Env K (F.push Dl) H' (wipe σ vs) (wipeE ρ1 vs) ∧ OwnAt (hot (F.push Dl) (wipe σ vs) (wipeE ρ1 vs)) K H' Dl (.lst acc) ∧ W (hot (F.push Dl) (wipe σ vs) (wipeE ρ1 vs)) H' ∧
    Keep (hot F σ ρ1) H1 (hot (F.push Dl) (wipe σ vs) (wipeE ρ1 vs)) H'
  have e0 : Ext H1 (upd H1 Dl (.lst [])) := Ext.new hD
  have E1p : Env K (F.push Dl) (upd H1 Dl (.lst [])) (wipe σ vs) (wipeE ρ1 vs) := A1.1.push hD e0 (by rw [upd_same]; exact fun z => nomatch z)
  have pushless : ∀ b, hot (F.push Dl) (wipe σ vs) (wipeE ρ1 vs) b → hot F σ ρ1 b ∨ b = Dl := fun b hb => by
    rcases hb with hb | hb
    · rcases hb with hb | hb
      · exact .inl (.inl hb)
      · exact .inr hb
    · exact .inl (A1.2 b (.inr hb))
  have k0 : Keep (hot F σ ρ1) H1 (hot (F.push Dl) (wipe σ vs) (wipeE ρ1 vs)) (upd H1 Dl (.lst [])) := fun b o n e => ⟨fun z => (pushless b z).elim n fun z => (by rw [z, hD] at e; cases e), e0 b o e⟩
  have z0 : Z 0 (upd H1 Dl (.lst [])) := ⟨[], Nat.zero_le _, Nat.le_refl _, p0, E1p, ⟨[], upd_same, rfl⟩, Gv.keep _ _ _ _ w0 k0, k0⟩
  refine ⟨fun i m H' => m = ds.length - i ∧ Z i H', ⟨ds.length, rfl, z0⟩, ?_⟩
  rintro i m H' ⟨rfl, acc, hi, hacc, p, E', ho, w', k'⟩
  by_cases hlt : i < ds.length
  · have hd : ds[i]? = some ds[i] := by simp [hlt]
    refine .inr ⟨Gv.go _ _ i w' hlt, Z (i + 1), fun H2 z => ⟨ds.length - (i + 1), by omega, rfl, z⟩, fun x H2 y => ?_⟩
    obtain ⟨ex, hx⟩ := Gv.yld _ _ i x H2 _ (hot_tr E') w' hd y
    have k2 : Keep (hot (F.push Dl) (wipe σ vs) (wipeE ρ1 vs)) H' (hot (F.push Dl) (wipe σ vs) (wipeE ρ1 vs)) H2 := Keep.ext ex
    have w2 := Gv.keep _ _ _ _ w' k2
    obtain ⟨us, hDl, dacc⟩ := ho
    have hD2 := ex _ _ hDl
    have E2 := (E'.ex ex).pin h0 hD2
    have dacc2 := dacc.mono k2
    have go := step i _ acc hd hacc p (F.pin Dl (.lst us)) H2 (wipe σ vs) x
    have conv := hsl (wipe σ vs) x H2 (fun σ2 H2 => tt σ2 H2 fun b H3 => if b = true then te σ2 H3 fun y H4 => ∃ acc, H4 Dl = some (.lst acc) ∧ acc.length < sizeLine ∧ Z (i + 1) (upd H4 Dl (.lst (acc ++ [y]))) else Z (i + 1) H3)
    rw [hww] at conv
    refine conv (go _ E2 hx fun σ3 ρ3 k3 E3 ⟨hwe, body⟩ hws => ?_)
    have agc : ∀ {F' : Fr} {H' : Hp}, Env K F' H' σ3 ρ3 → Env K F' H' (wipe σ vs) (wipeE ρ1 vs) ∧ ∀ b, hot F' (wipe σ vs) (wipeE ρ1 vs) b → hot F' σ3 ρ3 b := fun e => e.agree (by rw [← hwe, wipeE_len]) (by rw [← hws, wipe_length]) fun i e he => by
      rw [← hwe] at he
      rcases wipeE_get he with q | ⟨q1, q2⟩
      · exact .inl q
      · exact .inr ⟨q1, by rw [← hws]; exact wipe_get q2⟩
    have nd : F.hd ≠ some Dl := fun z => (hh Dl z) h0
    have ho0 : Ent.own (.lst []) ≠ Ent.u := fun z => nomatch z
    -- back to the state between two turns
    have again : ∀ (acc' : List D) (us' : List V) (H4 : Hp), Env K (F.pin Dl (.lst us)) H4 σ3 ρ3 → Keep (hot (F.pin Dl (.lst us)) σ3 ρ3) H2 (hot (F.pin Dl (.lst us)) σ3 ρ3) H4 → acc'.length ≤ i + 1 → P (i + 1) acc' → DaAll (hot (F.pin Dl (.lst us)) σ3 ρ3) K H4 us' acc' →
        Z (i + 1) (upd H4 Dl (.lst us')) := fun acc' us' H4 E4 k4 l4 p4 d4 => by
      obtain ⟨E5, less⟩ := agc E4
      have E6 := (E5.unpin h0 hh).poke (o := .lst us') h0
      have hDh : hot (F.pin Dl (.lst us)) σ3 ρ3 Dl := .inl (.inr rfl)
      have k5 : Keep (hot (F.pin Dl (.lst us)) σ3 ρ3) H4 (hot (F.push Dl) (wipe σ vs) (wipeE ρ1 vs)) (upd H4 Dl (.lst us')) := fun b o n e => ⟨fun z => n (less b z), by rw [upd_ne fun z => n (by rw [z]; exact hDh)]; exact e⟩
      have k3' : Keep (hot (F.push Dl) (wipe σ vs) (wipeE ρ1 vs)) H2 (hot (F.pin Dl (.lst us)) σ3 ρ3) H2 := k3
      have kk := (k3'.trans k4).trans k5
      exact ⟨acc', hlt, l4, p4, E6, ⟨us', upd_same, d4.mono k5⟩, Gv.keep _ _ _ _ w2 kk, (k'.trans k2).trans kk⟩
    refine body (F.pin Dl (.lst us)) H2 σ3 _ E3 fun b H3 ρ4 k4 E4 ⟨e4, g1, g2⟩ => ?_
    subst e4
    have hD3 : H3 Dl = some (.lst us) := E4.go Dl _ nd upd_same
    cases b with
    | false =>
      show Z (i + 1) H3
      have := again acc us H3 E4 k4 (by omega) (g2 rfl) ((dacc2.mono k3).mono k4)
      have e : upd H3 Dl (.lst us) = H3 := by
        funext c
        by_cases z : c = Dl
        · rw [z, upd_same, hD3]
        · rw [upd_ne z]
      rw [e] at this
      exact this
    | true =>
      show te σ3 H3 fun y H4 => ∃ acc, H4 Dl = some (.lst acc) ∧ acc.length < sizeLine ∧ Z (i + 1) (upd H4 Dl (.lst (acc ++ [y])))
      refine g1 rfl (F.pin Dl (.lst us)) H3 σ3 _ E4 fun v H4 r ρ5 k5 R5 ⟨y, py, hf, pp⟩ => ?_
      obtain ⟨E5, d5⟩ := R5.frz py
      have kf := keep_frz (r := r) R5.env
      rw [hf] at E5 d5 kf
      have k45 := k4.trans ((hotR.hot k5).trans kf)
      refine ⟨us, E5.go Dl _ nd upd_same, ?_, again (acc ++ [y]) (us ++ [v]) H4 E5 k45 (by rw [List.length_append, List.length_singleton]; omega) pp (((dacc2.mono k3).mono k45).append (DaAll.one d5))⟩
      rw [dacc2.length]
      omega
  · have e : i = ds.length := by omega
    subst e
    refine .inl ⟨Gv.stop _ _ _ w' (Nat.le_refl _), ?_⟩
    have Eb := agb E'
    refine q _ H' (.nw (.lst acc)) _ ?_ ⟨Dl, rfl, h0, fun z => ?_, Eb.1, ho.mono (fun b o n e => ⟨fun z => n (Eb.2 b z), e⟩) fun _ z => z⟩ (fin acc hacc p)
    · intro b o n e
      obtain ⟨q1, q2⟩ := kp b o n e
      obtain ⟨q3, q4⟩ := k' b o q1 q2
      refine ⟨fun z => ?_, q4⟩
      rcases z with z | ⟨_, z⟩
      · exact q3 (Eb.2 b (by
          rcases z with z | z
          · exact .inl (.inl z)
          · exact .inr z))
      · cases z
        exact q3 (.inl (.inr rfl))
    · have q : hot F σ ρ1 Dl := by
        rcases z with z | ⟨j, y, h1, h2⟩
        · exact .inl z
        · rcases wipeE_get h1 with q | ⟨q1, q2⟩
          · cases q
          · exact .inr ⟨j, y, q1, h2⟩
      exact E1.hotTrk Dl q hD
end
end PW
end
section
/-! PW: operations on data: operators, comparisons, subscripts, slices, builtins, isinstance, methods of own lists. -/
namespace PW
open PySem PySem.Spec PyProof.Rows L2

/-! ### unions of the hand layer's rules -/
def rAddI : R2 := rI0 fun i j => .int (i + j)
def rAddS : R2 := fun x y H Q => ∃ i j, x = .str i ∧ y = .str j ∧ i.length + j.length ≤ sizeLine ∧ Q (.str (i ++ j)) H
def rAddU (K : PySem.W.Frag) : R2 := fun x y H Q => ((rAddI x y H Q ∨ rAddS x y H Q) ∨ rCatA K x y H Q) ∨ rCat x y H Q
def rMulI : R2 := rI CMul fun i j => .int (i * j)
def rMulU (K : PySem.W.Frag) : R2 := fun x y H Q => rMulI x y H Q ∨ rRepT K x y H Q
def rSubI : R2 := rI0 fun i j => .int (i - j)
def rDivI : R2 := rI CDiv fun i j => .int (i / j)
def rModI : R2 := rI (fun _ j => 0 < j) fun i j => .int (i % j)
def rPowI : R2 := rI CPow fun i j => .int (i ^ j.toNat)
def rLtI : R2 := rI0 fun i j => .bl (decide (i < j))
def rLeI : R2 := rI0 fun i j => .bl (decide (i ≤ j))
def rGtI : R2 := rI0 fun i j => .bl (decide (j < i))
def rGeI : R2 := rI0 fun i j => .bl (decide (j ≤ i))
def rIsNo : R2 := fun x y H Q => y = .non ∧ Q (.bl (decide (x = .non))) H
def rIsNotNo : R2 := fun x y H Q => y = .non ∧ Q (.bl (!decide (x = .non))) H
def rIsBo : R2 := fun x y H Q => ∃ a b, x = .bl a ∧ y = .bl b ∧ Q (.bl (decide (a = b))) H
def rIsNotBo : R2 := fun x y H Q => ∃ a b, x = .bl a ∧ y = .bl b ∧ Q (.bl (!decide (a = b))) H
def rInT (K : PySem.W.Frag) (neg : Bool) : R2 := fun x y H Q => ∃ d ds, Dp K H x d ∧ Dp K H y (.tuple ds) ∧ SeqAt.shaped d = true ∧ SeqAt.shaped (.tuple ds) = true ∧ Q (.bl (if neg then !ds.any fun z => PyData.eqv z d else ds.any fun z => PyData.eqv z d)) H
def rInC : R2 := fun x y H Q => ∃ (c : Nat) (z : Str), x = .str ⟨#[c]⟩ ∧ y = .str z ∧ Q (.bl (decide (c ∈ z.cps.toList))) H
def rNotInC : R2 := fun x y H Q => ∃ (c : Nat) (z : Str), x = .str ⟨#[c]⟩ ∧ y = .str z ∧ Q (.bl (!decide (c ∈ z.cps.toList))) H
def rInU (K : PySem.W.Frag) : R2 := fun x y H Q => (rInD K x y H Q ∨ rInT K false x y H Q) ∨ rInC x y H Q
def rNotInU (K : PySem.W.Frag) : R2 := fun x y H Q => (rNotInD K x y H Q ∨ rInT K true x y H Q) ∨ rNotInC x y H Q
def rSlU (K : PySem.W.Frag) : V → Option Int → Option Int → Hp → VK → Prop := fun x lo hi H Q => (rSlL K x lo hi H Q ∨ rSlA K x lo hi H Q) ∨ rSlS x lo hi H Q
section
variable {X : Cx}
theorem op_addU : OpR X (binaryOp .Add) (rAddU X.K) := ((op_add.or op_add_str).or op_catA).or op_cat
theorem op_mulU : OpR X (binaryOp .Mult) (rMulU X.K) := op_mul.or op_repT
theorem op_subU : OpR X (binaryOp .Sub) rSubI := op_sub
theorem op_divU : OpR X (binaryOp .FloorDiv) rDivI := op_fdiv
theorem op_modU : OpR X (binaryOp .Mod) rModI := op_mod
theorem op_powU : OpR X (binaryOp .Pow) rPowI := op_pow
theorem op_ltU : OpR X (compareOp .Lt) rLtI := op_lt
theorem op_leU : OpR X (compareOp .LtE) rLeI := op_le
theorem op_gtU : OpR X (compareOp .Gt) rGtI := op_gt
theorem op_geU : OpR X (compareOp .GtE) rGeI := op_ge
theorem op_isNo : OpR X (compareOp .Is) rIsNo := op_isN
theorem op_isNotNo : OpR X (compareOp .IsNot) rIsNotNo := op_notN
theorem op_isBo : OpR X (compareOp .Is) rIsBo := op_is_bl
theorem op_isNotBo : OpR X (compareOp .IsNot) rIsNotBo := op_isnot_bl
theorem op_inT (hu : X.A.units + 65 < cLine) : OpR X (compareOp .In) (rInT X.K false) := by
  intro pins s σ H x y v u Q I rx ry h
  obtain ⟨d, ds, hd, he, sd, se, q⟩ := h
  obtain ⟨as, r1⟩ := Dp.reads I d x v hd rx
  obtain ⟨bs, r2⟩ := Dp.reads I (.tuple ds) y u he ry
  exact SeqAt.in_tuple_reads r2 r1 (SeqAt.canLay_of_shaped se) (SeqAt.canLay_of_shaped sd) (room_in_shaped sd hu) ⟨.bl _, H, I, rfl, q⟩
theorem op_notInT (hu : X.A.units + 65 < cLine) : OpR X (compareOp .NotIn) (rInT X.K true) := by
  intro pins s σ H x y v u Q I rx ry h
  obtain ⟨d, ds, hd, he, sd, se, q⟩ := h
  obtain ⟨as, r1⟩ := Dp.reads I d x v hd rx
  obtain ⟨bs, r2⟩ := Dp.reads I (.tuple ds) y u he ry
  exact SeqAt.notIn_tuple_reads r2 r1 (SeqAt.canLay_of_shaped se) (SeqAt.canLay_of_shaped sd) (room_in_shaped sd hu) ⟨.bl _, H, I, rfl, q⟩
theorem op_inU (hu : X.A.units + 65 < cLine) : OpR X (compareOp .In) (rInU X.K) := ((op_inD hu).or (op_inT hu)).or op_in_sign
theorem op_notInU (hu : X.A.units + 65 < cLine) : OpR X (compareOp .NotIn) (rNotInU X.K) := ((op_notInD hu).or (op_notInT hu)).or op_notIn_sign
theorem sl_U : SlR X (rSlU X.K) := (sl_list.or sl_tupA).or sl_str
end

/-! ### data: shapes -/
def D.sh (d : D) : Bool := D.pln d && SeqAt.shaped d.py
theorem D.sh_pln {d : D} (h : d.sh = true) : d.pln = true := (Bool.and_eq_true_iff.mp h).1
theorem D.sh_shaped {d : D} (h : d.sh = true) : SeqAt.shaped d.py = true := (Bool.and_eq_true_iff.mp h).2
section
variable {M : Addr → Prop} {K : PySem.W.Frag} {H : Hp} {v : V} {x : D}
theorem Pk.dp (h : Pk M K H v x) (p : x.pln = true) : Dp K H v x.py := h.now.dp p
theorem Pk.item {ds : List D} {a : Addr} {vs : List V} (h : DaAll M K H vs ds) {i : Int} {d : D} (e : atI ds i = some d) : ∃ w, atI vs i = some w ∧ Da M K H w d := by
  unfold atI at e ⊢
  rw [h.length]
  cases q : ixN ds.length i with
  | none => rw [q] at e; cases e
  | some j =>
    rw [q] at e
    obtain ⟨w, h1, h2⟩ := h.at (i := j) (d := d) e
    exact ⟨w, h1, h2⟩
end

/-! ### operators -/
section
variable {K : PySem.W.Frag} {k : Res → Prop} {i j : Int} {b c : Bool} {x y : D} {s t : Str} {ds es : List D}
theorem o_addI (g : k (.d (.int (i + j)))) : OpD K (rAddU K) (.int i) (.int j) k := opd_val (z := .int (i + j)) (fun M H u v Q h1 h2 q => .inl (.inl (.inl ⟨i, j, h1.int, h2.int, q _ rfl⟩))) g
theorem o_addS (hl : s.length + t.length ≤ sizeLine) (g : k (.d (.str (s ++ t)))) : OpD K (rAddU K) (.str s) (.str t) k := opd_val (z := .str (s ++ t)) (fun M H u v Q h1 h2 q => .inl (.inl (.inr ⟨s, t, h1.str, h2.str, hl, q _ rfl⟩))) g
theorem o_addT (hl : ds.length + es.length ≤ sizeLine) (g : k (.d (.tup (ds ++ es)))) : OpD K (rAddU K) (.tup ds) (.tup es) k := fun M H u v Q tr h1 h2 q => by
  have h2' := h2
  rcases h1 with h1 | ⟨p, _, _, h1⟩
  · rcases h2 with h2 | ⟨p, _, _, h2⟩
    · obtain ⟨a, vs, rfl, c1, d1⟩ := id h1
      obtain ⟨a2, ws, rfl, c2, d2⟩ := id h2
      refine .inl (.inr ⟨a, a2, vs, ws, rfl, rfl, c1.sq, c2.sq, by rw [d1.length, d2.length]; exact hl, fun e => ?_, fun _ e => ?_, fun _ _ p hp => ?_⟩)
      · subst e
        have : ds = [] := List.length_eq_zero_iff.mp (by rw [← d1.length]; rfl)
        subst this
        exact q _ H (.d (.tup es)) (Ext.refl H) h2 g
      · subst e
        have : es = [] := List.length_eq_zero_iff.mp (by rw [← d2.length]; rfl)
        subst this
        rw [List.append_nil] at g
        exact q _ H (.d (.tup ds)) (Ext.refl H) h1 g
      · exact q _ _ (.d (.tup (ds ++ es))) (Ext.new hp) (newT tr (d1.append d2) hp) g
    · exact (show False from h2).elim
  · exact (show False from h1).elim
theorem o_addL (hl : ds.length + es.length ≤ sizeLine) (g : k (.nw (.lst (ds ++ es)))) : OpD K (rAddU K) (.lst ds) (.lst es) k := fun M H u v Q tr h1 h2 q => by
  obtain ⟨a, vs, rfl, c1, d1⟩ := h1.lst
  obtain ⟨a2, ws, rfl, c2, d2⟩ := h2.lst
  exact .inr ⟨a, a2, vs, ws, rfl, rfl, c1, c2, by rw [d1.length, d2.length]; exact hl, fun p hp => q _ _ (.nw (.lst (ds ++ es))) (Ext.new hp) (newL (d1.append d2) hp) g⟩
theorem o_mulI (hc : CMul i j) (g : k (.d (.int (i * j)))) : OpD K (rMulU K) (.int i) (.int j) k := opd_val (z := .int (i * j)) (fun M H u v Q h1 h2 q => .inl ⟨i, j, h1.int, h2.int, hc, q _ rfl⟩) g
theorem DaAll.rep {M : Addr → Prop} {H : Hp} {vs : List V} (h : DaAll M K H vs ds) : ∀ n : Nat, DaAll M K H (List.replicate n vs).flatten (List.replicate n ds).flatten
  | 0 => rfl
  | n + 1 => by
    rw [List.replicate_succ, List.replicate_succ, List.flatten_cons, List.flatten_cons]
    exact h.append (DaAll.rep h n)
theorem o_mulT (h0 : ds ≠ []) (h1 : 2 ≤ j) (h2 : j ≤ 1000) (h3 : ds.length ≤ 1000) (g : k (.d (.tup (List.replicate j.toNat ds).flatten))) : OpD K (rMulU K) (.tup ds) (.int j) k := fun M H u v Q tr p1 p2 q => by
  obtain ⟨a, vs, rfl, c1, d1⟩ := p1.tup
  refine .inr ⟨a, j, vs, rfl, p2.int, c1, fun e => h0 ?_, h1, h2, by rw [d1.length]; exact h3, fun p hp => q _ _ (.d _) (Ext.new hp) (newT tr (d1.rep _) hp) g⟩
  exact List.length_eq_zero_iff.mp (by rw [← d1.length, e]; rfl)
theorem o_subI (g : k (.d (.int (i - j)))) : OpD K rSubI (.int i) (.int j) k := opd_val (z := .int (i - j)) (fun M H u v Q h1 h2 q => ⟨i, j, h1.int, h2.int, q _ rfl⟩) g
theorem o_divI (hc : 0 < j ∧ j < 1073741824) (g : k (.d (.int (i / j)))) : OpD K rDivI (.int i) (.int j) k := opd_val (z := .int (i / j)) (fun M H u v Q h1 h2 q => ⟨i, j, h1.int, h2.int, hc, q _ rfl⟩) g
theorem o_modI (hc : 0 < j) (g : k (.d (.int (i % j)))) : OpD K rModI (.int i) (.int j) k := opd_val (z := .int (i % j)) (fun M H u v Q h1 h2 q => ⟨i, j, h1.int, h2.int, hc, q _ rfl⟩) g
theorem o_powI (hc : 0 ≤ j ∧ j ≤ 1000000 ∧ i.natAbs < 2 ^ 64) (g : k (.d (.int (i ^ j.toNat)))) : OpD K rPowI (.int i) (.int j) k := opd_val (z := .int (i ^ j.toNat)) (fun M H u v Q h1 h2 q => ⟨i, j, h1.int, h2.int, hc, q _ rfl⟩) g
theorem o_ltI (g : k (.d (.bl (decide (i < j))))) : OpD K rLtI (.int i) (.int j) k := opd_val (z := .bl (decide (i < j))) (fun M H u v Q h1 h2 q => ⟨i, j, h1.int, h2.int, q _ rfl⟩) g
theorem o_leI (g : k (.d (.bl (decide (i ≤ j))))) : OpD K rLeI (.int i) (.int j) k := opd_val (z := .bl (decide (i ≤ j))) (fun M H u v Q h1 h2 q => ⟨i, j, h1.int, h2.int, q _ rfl⟩) g
theorem o_gtI (g : k (.d (.bl (decide (j < i))))) : OpD K rGtI (.int i) (.int j) k := opd_val (z := .bl (decide (j < i))) (fun M H u v Q h1 h2 q => ⟨i, j, h1.int, h2.int, q _ rfl⟩) g
theorem o_geI (g : k (.d (.bl (decide (j ≤ i))))) : OpD K rGeI (.int i) (.int j) k := opd_val (z := .bl (decide (j ≤ i))) (fun M H u v Q h1 h2 q => ⟨i, j, h1.int, h2.int, q _ rfl⟩) g
@[reducible] def D.isNon : D → Bool
  | .non => true
  | _ => false
theorem isNon_of {M : Addr → Prop} {H : Hp} {v : V} (h : Pk M K H v x) : decide (v = .non) = x.isNon := by
  rcases h with h | ⟨p, rfl, _, h⟩
  · cases x with
    | non => rw [show v = .non from h]; rfl
    | bl b => rw [show v = .bl b from h]; rfl
    | int i => rw [show v = .int i from h]; rfl
    | str z => rw [show v = .str z from h]; rfl
    | tup xs => obtain ⟨a, vs, e, _⟩ := h; rw [e]; rfl
    | lst xs => obtain ⟨a, vs, e, _⟩ := h; rw [e]; rfl
    | emp => obtain ⟨a, e, _⟩ := h; rw [e]; rfl
    | obj C ns xs => obtain ⟨a, dx, fs, e, _⟩ := h; rw [e]; rfl
    | dct ks xs => obtain ⟨a, kvs, e, _⟩ := h; rw [e]; rfl
  · cases x with
    | lst xs => rfl
    | obj C ns xs => rfl
    | dct ks xs => rfl
    | _ => exact (show False from h).elim
theorem o_isNo (g : k (.d (.bl x.isNon))) : OpD K rIsNo x .non k := fun M H u v Q tr h1 h2 q => ⟨h2.non, by rw [isNon_of h1]; exact q _ H (.d (.bl x.isNon)) (Ext.refl H) rfl g⟩
theorem o_isNotNo (g : k (.d (.bl (!x.isNon)))) : OpD K rIsNotNo x .non k := fun M H u v Q tr h1 h2 q => ⟨h2.non, by rw [isNon_of h1]; exact q _ H (.d (.bl (!x.isNon))) (Ext.refl H) rfl g⟩
theorem o_isBo (g : k (.d (.bl (decide (b = c))))) : OpD K rIsBo (.bl b) (.bl c) k := opd_val (z := .bl (decide (b = c))) (fun M H u v Q h1 h2 q => ⟨b, c, h1.bl, h2.bl, q _ rfl⟩) g
theorem o_isNotBo (g : k (.d (.bl (!decide (b = c))))) : OpD K rIsNotBo (.bl b) (.bl c) k := opd_val (z := .bl (!decide (b = c))) (fun M H u v Q h1 h2 q => ⟨b, c, h1.bl, h2.bl, q _ rfl⟩) g
theorem o_eq (hx : x.sh = true) (hy : y.sh = true) (g : k (.d (.bl (PyData.eqv x.py y.py)))) : OpD K (rEqD K) x y k := opd_val (z := .bl (PyData.eqv x.py y.py)) (fun M H u v Q h1 h2 q => ⟨_, _, h1.dp (D.sh_pln hx), h2.dp (D.sh_pln hy), D.sh_shaped hx, D.sh_shaped hy, q _ rfl⟩) g
theorem o_ne (hx : x.sh = true) (hy : y.sh = true) (g : k (.d (.bl (!PyData.eqv x.py y.py)))) : OpD K (rNeD K) x y k := opd_val (z := .bl (!PyData.eqv x.py y.py)) (fun M H u v Q h1 h2 q => ⟨_, _, h1.dp (D.sh_pln hx), h2.dp (D.sh_pln hy), D.sh_shaped hx, D.sh_shaped hy, q _ rfl⟩) g
/-- x in ds -/
def D.mem (x : D) (ds : List D) : Bool := ds.any fun z => PyData.eqv z.py x.py
theorem pyL_map : ∀ ds : List D, D.pyL ds = ds.map D.py
  | [] => rfl
  | d :: ds => by rw [D.pyL, pyL_map ds]; rfl
theorem mem_py : (D.pyL ds).any (fun z => PyData.eqv z x.py) = D.mem x ds := by
  rw [pyL_map, List.any_map]
  rfl
theorem o_inL (hx : x.sh = true) (hy : (D.lst ds).sh = true) (g : k (.d (.bl (D.mem x ds)))) : OpD K (rInU K) x (.lst ds) k := opd_val (z := .bl (D.mem x ds)) (fun M H u v Q h1 h2 q => .inl (.inl ⟨_, _, h1.dp (D.sh_pln hx), h2.dp (D.sh_pln hy), D.sh_shaped hx, D.sh_shaped hy, by rw [mem_py]; exact q _ rfl⟩)) g
theorem o_inT (hx : x.sh = true) (hy : (D.tup ds).sh = true) (g : k (.d (.bl (D.mem x ds)))) : OpD K (rInU K) x (.tup ds) k := opd_val (z := .bl (D.mem x ds)) (fun M H u v Q h1 h2 q => .inl (.inr ⟨_, _, h1.dp (D.sh_pln hx), h2.dp (D.sh_pln hy), D.sh_shaped hx, D.sh_shaped hy, by rw [mem_py]; exact q _ rfl⟩)) g
theorem o_inC {n : Nat} (g : k (.d (.bl (decide (n ∈ t.cps.toList))))) : OpD K (rInU K) (.str ⟨#[n]⟩) (.str t) k := opd_val (z := .bl (decide (n ∈ t.cps.toList))) (fun M H u v Q h1 h2 q => .inr ⟨n, t, h1.str, h2.str, q _ rfl⟩) g
theorem o_notInL (hx : x.sh = true) (hy : (D.lst ds).sh = true) (g : k (.d (.bl (!D.mem x ds)))) : OpD K (rNotInU K) x (.lst ds) k := opd_val (z := .bl (!D.mem x ds)) (fun M H u v Q h1 h2 q => .inl (.inl ⟨_, _, h1.dp (D.sh_pln hx), h2.dp (D.sh_pln hy), D.sh_shaped hx, D.sh_shaped hy, by rw [mem_py]; exact q _ rfl⟩)) g
theorem o_notInT (hx : x.sh = true) (hy : (D.tup ds).sh = true) (g : k (.d (.bl (!D.mem x ds)))) : OpD K (rNotInU K) x (.tup ds) k := opd_val (z := .bl (!D.mem x ds)) (fun M H u v Q h1 h2 q => .inl (.inr ⟨_, _, h1.dp (D.sh_pln hx), h2.dp (D.sh_pln hy), D.sh_shaped hx, D.sh_shaped hy, by rw [mem_py]; exact q _ rfl⟩)) g
theorem o_notInC {n : Nat} (g : k (.d (.bl (!decide (n ∈ t.cps.toList))))) : OpD K (rNotInU K) (.str ⟨#[n]⟩) (.str t) k := opd_val (z := .bl (!decide (n ∈ t.cps.toList))) (fun M H u v Q h1 h2 q => .inr ⟨n, t, h1.str, h2.str, q _ rfl⟩) g
/-! subscripts -/
theorem o_ixT {d : D} (e : atI ds i = some d) (g : k (.d d)) : OpD K (rIx K) (.tup ds) (.int i) k := fun M H u v Q tr h1 h2 q => by
  obtain ⟨a, vs, rfl, c1, d1⟩ := h1.tup
  obtain ⟨w, e1, e2⟩ := Pk.item (a := a) d1 e
  exact .inr (.inl ⟨a, vs, i, w, rfl, h2.int, c1, e1, q w H (.d d) (Ext.refl H) e2 g⟩)
theorem o_ixL {d : D} (e : atI ds i = some d) (g : k (.d d)) : OpD K (rIx K) (.lst ds) (.int i) k := fun M H u v Q tr h1 h2 q => by
  obtain ⟨a, vs, rfl, c1, d1⟩ := h1.lst
  obtain ⟨w, e1, e2⟩ := Pk.item (a := a) d1 e
  exact .inl ⟨a, vs, i, w, rfl, h2.int, SqL.of c1, e1, q w H (.d d) (Ext.refl H) e2 g⟩
theorem o_ixS {n : Nat} (hl : s.length ≤ sizeLine) (e : atI s.cps.toList i = some n) (g : k (.d (.str ⟨#[n]⟩))) : OpD K (rIx K) (.str s) (.int i) k := opd_val (z := .str ⟨#[n]⟩) (fun M H u v Q h1 h2 q => .inr (.inr ⟨s, i, n, h1.str, h2.int, hl, e, q _ rfl⟩)) g
end

/-! ### slices -/
section
variable {K : PySem.W.Frag} {ρ : List Ent} {k : KE} {te : TE} {tl th : TO}
def XO (K : PySem.W.Frag) (to : TO) (ρ : List Ent) (k : Option Int → List Ent → Prop) : Prop := ∀ (F : Fr) (H : Hp) (σ : L2.St) (Q : Option Int → Hp → Prop), Env K F H σ ρ → (∀ o H' ρ', Keep (hot F σ ρ) H (hot F σ ρ') H' → Env K F H' σ ρ' → k o ρ' → Q o H') → to σ H Q
theorem xo_none {ko : Option Int → List Ent → Prop} (g : ko none ρ) : XO K tNoPart ρ ko := fun F H σ Q E q => q none H ρ (Keep.refl _ _) E g
theorem xo_some {ko : Option Int → List Ent → Prop} (h : XE K te ρ fun r ρ1 => ∃ i, r = .d (.int i) ∧ ko (some i) ρ1) : XO K (tPart te) ρ ko := fun F H σ Q E q => h F H σ _ E fun v H1 r ρ1 kp R ⟨i, e, g⟩ => by
  subst e
  exact ⟨i, R.2, q (some i) H1 ρ1 (hotR.hot kp) R.1 g⟩
def SlD (K : PySem.W.Frag) (r : V → Option Int → Option Int → Hp → VK → Prop) (x : D) (lo hi : Option Int) (k : Res → Prop) : Prop := ∀ (M : Addr → Prop) (H : Hp) (u : V) (Q : VK), Tr M H → Pk M K H u x → (∀ w H' z, Ext H H' → ResV M K H H' w z → k z → Q w H') → r u lo hi H Q
theorem xe_sl {r : V → Option Int → Option Int → Hp → VK → Prop} (h : XE K te ρ fun r1 ρ1 => XO K tl ρ1 fun lo ρ2 => XO K th ρ2 fun hi ρ3 => ∃ x, peek ρ3 r1 = some x ∧ SlD K r x lo hi fun z => k z ρ3) : XE K (tSl r te tl th) ρ k := fun F H σ Q E q =>
  h F H σ _ E fun v H1 r1 ρ1 kp R1 h2 => h2 F H1 σ _ R1.env fun lo H2 ρ2 kp2 E2 h3 => h3 F H2 σ _ E2 fun hi H3 ρ3 kp3 E3 ⟨x, px, g⟩ =>
    g _ H3 v Q (hot_tr E3) (((R1.held.keep kp2).keep kp3).pk E3 px) fun w H' z e hz kz => q w H' z ρ3 (hotR.res (((hotR.hot kp).trans kp2).trans kp3) e hz) (ResV.rv E3 e hz) kz
/-- the items of a slice -/
def cutD (ds : List D) (lo hi : Option Int) : List D := (ds.drop (HT.sIx ds.length 0 lo)).take (HT.sIx ds.length ds.length hi - HT.sIx ds.length 0 lo)
theorem DaAll.cut {M : Addr → Prop} {H : Hp} {vs : List V} {ds : List D} {lo hi : Option Int} (h : DaAll M K H vs ds) : DaAll M K H (cutV vs lo hi) (cutD ds lo hi) := by
  unfold cutV cutD
  rw [h.length]
  exact (h.drop _).take _
theorem sl_T {ds : List D} {lo hi : Option Int} {kk : Res → Prop} (g : kk (.d (.tup (cutD ds lo hi)))) : SlD K (rSlU K) (.tup ds) lo hi kk := fun M H u Q tr h q => by
  have h' := h
  rcases h with h | ⟨p, _, _, h⟩
  · obtain ⟨a, vs, rfl, c1, d1⟩ := id h
    refine .inl (.inr ⟨a, vs, rfl, c1.sq, fun ⟨e1, e2⟩ => ?_, fun _ p hp => q _ _ (.d _) (Ext.new hp) (newT tr d1.cut hp) g⟩)
    have : cutD ds lo hi = ds := by
      unfold cutD
      rw [← d1.length, e1, e2, List.drop_zero, d1.length]
      simp
    rw [this] at g
    exact q _ H (.d (.tup ds)) (Ext.refl H) h g
  · exact (show False from h).elim
theorem sl_L {ds : List D} {lo hi : Option Int} {kk : Res → Prop} (g : kk (.nw (.lst (cutD ds lo hi)))) : SlD K (rSlU K) (.lst ds) lo hi kk := fun M H u Q tr h q => by
  obtain ⟨a, vs, rfl, c1, d1⟩ := h.lst
  exact .inl (.inl ⟨a, vs, rfl, SqL.of c1, fun p hp => q _ _ (.nw _) (Ext.new hp) (newL d1.cut hp) g⟩)
theorem sl_S {z : Str} {lo hi : Option Int} {kk : Res → Prop} (hl : z.length ≤ sizeLine) (g : kk (.d (.str (cutS z lo hi)))) : SlD K (rSlU K) (.str z) lo hi kk := fun M H u Q tr h q => .inr ⟨z, h.str, hl, q _ H (.d (.str (cutS z lo hi))) (Ext.refl H) rfl g⟩
end

/-! ### builtins -/
section
variable {K : PySem.W.Frag} {k : Res → Prop} {i j : Int} {b : Bool} {x y : D} {s : Str} {ds : List D}
theorem ca1 {M : Addr → Prop} {H : Hp} {us : List V} (hl : us.length = [x].length) (h : ∀ (i : Nat) (v : V) (z : D), us[i]? = some v → [x][i]? = some z → Pk M K H v z) : ∃ u, us = [u] ∧ Pk M K H u x := by
  match us, hl with
  | [u], _ => exact ⟨u, rfl, h 0 u x rfl rfl⟩
theorem ca2 {M : Addr → Prop} {H : Hp} {us : List V} (hl : us.length = [x, y].length) (h : ∀ (i : Nat) (v : V) (z : D), us[i]? = some v → [x, y][i]? = some z → Pk M K H v z) : ∃ u v, us = [u, v] ∧ Pk M K H u x ∧ Pk M K H v y := by
  match us, hl with
  | [u, v], _ => exact ⟨u, v, rfl, h 0 u x rfl rfl, h 1 v y rfl rfl⟩
def rLenU (K : PySem.W.Frag) : List V → Hp → VK → Prop := fun xs H Q => ∃ x n, xs = [x] ∧ LenV K x H n ∧ Q (.int n) H
theorem call_lenU {X : Cx} : CallR X (.builtin "len") (rLenU X.K) := call_len
theorem c_lenT (g : k (.d (.int ds.length))) : CaD K (rLenU K) [.tup ds] k := fun M H us Q tr hl h q => by
  obtain ⟨u, rfl, h1⟩ := ca1 hl h
  obtain ⟨a, vs, rfl, c1, d1⟩ := h1.tup
  exact ⟨_, ds.length, rfl, .inr ⟨vs, c1, d1.length.symm⟩, q _ H (.d (.int ds.length)) (Ext.refl H) rfl g⟩
theorem c_lenL (g : k (.d (.int ds.length))) : CaD K (rLenU K) [.lst ds] k := fun M H us Q tr hl h q => by
  obtain ⟨u, rfl, h1⟩ := ca1 hl h
  obtain ⟨a, vs, rfl, c1, d1⟩ := h1.lst
  exact ⟨_, ds.length, rfl, .inl ⟨vs, SqL.of c1, d1.length.symm⟩, q _ H (.d (.int ds.length)) (Ext.refl H) rfl g⟩
theorem c_lenS (hs : s.length ≤ sizeLine) (g : k (.d (.int s.length))) : CaD K (rLenU K) [.str s] k := fun M H us Q tr hl h q => by
  obtain ⟨u, rfl, h1⟩ := ca1 hl h
  exact ⟨_, s.length, rfl, by rw [h1.str]; exact ⟨hs, rfl⟩, q _ H (.d (.int s.length)) (Ext.refl H) rfl g⟩
def rIntU : List V → Hp → VK → Prop := fun xs H Q => (∃ i, xs = [.int i] ∧ Q (.int i) H) ∨ ∃ k, xs = [.bl k] ∧ Q (.int (if k then 1 else 0)) H
theorem call_intU {X : Cx} : CallR X (.type "int") rIntU := call_int1
theorem c_intI (g : k (.d (.int i))) : CaD K rIntU [.int i] k := fun M H us Q tr hl h q => by
  obtain ⟨u, rfl, h1⟩ := ca1 hl h
  exact .inl ⟨i, by rw [h1.int], q _ H (.d (.int i)) (Ext.refl H) rfl g⟩
theorem c_intB (g : k (.d (.int (if b then 1 else 0)))) : CaD K rIntU [.bl b] k := fun M H us Q tr hl h q => by
  obtain ⟨u, rfl, h1⟩ := ca1 hl h
  exact .inr ⟨b, by rw [h1.bl], q _ H (.d (.int (if b then 1 else 0))) (Ext.refl H) rfl g⟩
def rAbsU : List V → Hp → VK → Prop := fun xs H Q => ∃ i, xs = [.int i] ∧ Q (.int (if i < 0 then -i else i)) H
theorem call_absU {X : Cx} : CallR X (.builtin "abs") rAbsU := call_abs
theorem c_absI (g : k (.d (.int (if i < 0 then -i else i)))) : CaD K rAbsU [.int i] k := fun M H us Q tr hl h q => by
  obtain ⟨u, rfl, h1⟩ := ca1 hl h
  exact ⟨i, by rw [h1.int], q _ H (.d (.int (if i < 0 then -i else i))) (Ext.refl H) rfl g⟩
theorem bls_inv {M : Addr → Prop} {H : Hp} : ∀ {bs : List Bool} {vs : List V}, DaAll M K H vs (bs.map D.bl) → vs = bs.map V.bl
  | [], _, h => h
  | n :: ns, _, h => by
    obtain ⟨v, r, e, h1, h2⟩ := h
    rw [e, show v = V.bl n from h1, bls_inv h2]
    rfl
theorem c_all {bs : List Bool} (g : k (.d (.bl (bs.all id)))) : CaD K (rAll K) [.lst (bs.map D.bl)] k := fun M H us Q tr hl h q => by
  obtain ⟨u, rfl, h1⟩ := ca1 hl h
  obtain ⟨a, vs, rfl, c1, d1⟩ := h1.lst
  rw [bls_inv d1] at c1
  exact ⟨a, bs, rfl, SqL.of c1, q _ H (.d (.bl (bs.all id))) (Ext.refl H) rfl g⟩
theorem c_any {bs : List Bool} (g : k (.d (.bl (bs.any id)))) : CaD K (rAny K) [.lst (bs.map D.bl)] k := fun M H us Q tr hl h q => by
  obtain ⟨u, rfl, h1⟩ := ca1 hl h
  obtain ⟨a, vs, rfl, c1, d1⟩ := h1.lst
  rw [bls_inv d1] at c1
  exact ⟨a, bs, rfl, SqL.of c1, q _ H (.d (.bl (bs.any id))) (Ext.refl H) rfl g⟩
def rTupU (K : PySem.W.Frag) : List V → Hp → VK → Prop := fun xs H Q => ∃ p ys, xs = [.ref p] ∧ ((SqL K H p ys ∧ ∀ l, H l = none → Q (.ref l) (upd H l (.tup ys))) ∨ (SqT K H p ys ∧ Q (.ref p) H))
theorem call_tupU {X : Cx} : CallR X (.type "tuple") (rTupU X.K) := call_tuple_of
theorem c_tupL (g : k (.d (.tup ds))) : CaD K (rTupU K) [.lst ds] k := fun M H us Q tr hl h q => by
  obtain ⟨u, rfl, h1⟩ := ca1 hl h
  obtain ⟨a, vs, rfl, c1, d1⟩ := h1.lst
  exact ⟨a, vs, rfl, .inl ⟨SqL.of c1, fun p hp => q _ _ (.d (.tup ds)) (Ext.new hp) (newT tr d1 hp) g⟩⟩
theorem c_tupT (g : k (.d (.tup ds))) : CaD K (rTupU K) [.tup ds] k := fun M H us Q tr hl h q => by
  obtain ⟨u, rfl, h1⟩ := ca1 hl h
  rcases h1 with h1 | ⟨p, _, _, h1⟩
  · obtain ⟨a, vs, rfl, c1, d1⟩ := id h1
    exact ⟨a, vs, rfl, .inr ⟨c1.sq, q _ H (.d (.tup ds)) (Ext.refl H) h1 g⟩⟩
  · exact (show False from h1).elim
def rLstU (K : PySem.W.Frag) : List V → Hp → VK → Prop := fun xs H Q => ∃ p ys, xs = [.ref p] ∧ (SqL K H p ys ∨ SqT K H p ys) ∧ ∀ l, H l = none → Q (.ref l) (upd H l (.lst ys))
theorem call_lstU {X : Cx} : CallR X (.type "list") (rLstU X.K) := call_list_of
theorem c_lstL (g : k (.nw (.lst ds))) : CaD K (rLstU K) [.lst ds] k := fun M H us Q tr hl h q => by
  obtain ⟨u, rfl, h1⟩ := ca1 hl h
  obtain ⟨a, vs, rfl, c1, d1⟩ := h1.lst
  exact ⟨a, vs, rfl, .inl (SqL.of c1), fun p hp => q _ _ (.nw (.lst ds)) (Ext.new hp) (newL d1 hp) g⟩
theorem c_lstT (g : k (.nw (.lst ds))) : CaD K (rLstU K) [.tup ds] k := fun M H us Q tr hl h q => by
  obtain ⟨u, rfl, h1⟩ := ca1 hl h
  obtain ⟨a, vs, rfl, c1, d1⟩ := h1.tup
  exact ⟨a, vs, rfl, .inr c1, fun p hp => q _ _ (.nw (.lst ds)) (Ext.new hp) (newL d1 hp) g⟩
end

/-! ### isinstance -/
def D.tyn : D → String
  | .non => "NoneType" | .bl _ => "bool" | .int _ => "int" | .str _ => "str" | .tup _ => "tuple" | .lst _ => "list" | .emp => "dict" | .obj _ _ _ => "" | .dct _ _ => "dict"
def D.isBuiltin : D → Bool
  | .obj _ _ _ => false
  | _ => true
section
variable {K : PySem.W.Frag} {ρ : List Ent} {k : KE} {te : TE}
theorem ty_of {M : Addr → Prop} {H : Hp} {v : V} {x : D} (hx : x.isBuiltin = true) (h : Pk M K H v x) : TyX K H v (.type x.tyn) := by
  rcases h with h | ⟨p, rfl, _, h⟩
  · cases x with
    | non => rw [show v = .non from h]; exact .base .non
    | bl b => rw [show v = .bl b from h]; exact .base (.bl b)
    | int i => rw [show v = .int i from h]; exact .base (.int i)
    | str z => rw [show v = .str z from h]; exact .base (.str z)
    | tup xs =>
      obtain ⟨a, vs, e, c1, _⟩ := h
      rw [e]
      rcases c1 with ⟨_, c1 | ⟨o, c1⟩⟩ | ⟨o, its, n, c1, c2, _⟩
      · exact .base (.tup c1)
      · exact .fTuple c1
      · exact .kTuple c1 c2
    | lst xs => obtain ⟨a, vs, e, c1, _⟩ := h; rw [e]; exact .base (.lst c1.2)
    | emp => obtain ⟨a, e, _, c1⟩ := h; rw [e]; exact .base (.dK c1)
    | obj C ns xs => cases hx
    | dct ks xs =>
      obtain ⟨a, kvs, e, _, c1, _⟩ := h
      rw [e]
      exact .base (.dT c1)
  · cases x with
    | lst xs => obtain ⟨vs, c1, _⟩ := h; exact .base (.lst c1)
    | obj C ns xs => cases hx
    | dct ks xs => obtain ⟨kvs, c1, _⟩ := h; exact .base (.dT c1)
    | _ => exact (show False from h).elim
theorem xe_isi {T : String} (f : D → Bool) (hf : ∀ x : D, x.isBuiltin = true → kitB x.tyn T = some (f x)) (h : XE K te ρ fun r ρ1 => ∃ x, peek ρ1 r = some x ∧ x.isBuiltin = true ∧ k (.d (.bl (f x))) ρ1) :
    XE K (tCB (rIsi K) (tCons te (tCons (tC (.ty T)) tNil))) ρ k := fun F H σ Q E q => h F H σ _ E fun v H1 r ρ1 kp R ⟨x, px, hx, g⟩ =>
  ⟨v, .ty T, .type x.tyn, .type T, f x, rfl, .ty T, ty_of hx (R.held.pk R.env px), kit_ty (hf x hx), q _ H1 (.d (.bl (f x))) ρ1 (hotR.d (hotR.hot kp)) ⟨R.env, rfl⟩ g⟩
theorem xe_isi2 {T1 T2 : String} (f f' : D → Bool) (hf : ∀ x : D, x.isBuiltin = true → kitB x.tyn T1 = some (f x)) (hf' : ∀ x : D, x.isBuiltin = true → kitB x.tyn T2 = some (f' x))
    (h : XE K te ρ fun r ρ1 => ∃ x, peek ρ1 r = some x ∧ x.isBuiltin = true ∧ k (.d (.bl (f x || f' x))) ρ1) :
    XE K (tCB (rIsiT K) (tCons te (tCons (tTup (tCons (tC (.ty T1)) (tCons (tC (.ty T2)) tNil))) tNil))) ρ k := fun F H σ Q E q => h F H σ _ E fun v H1 r ρ1 kp R ⟨x, px, hx, g⟩ =>
  ⟨by show 2 ≤ sizeLine; decide, fun p hp => by
    have e : Ext H1 (upd H1 p (.tup [.ty T1, .ty T2])) := Ext.new hp
    have E2 := R.env.ex e
    refine ⟨v, p, [.ty T1, .ty T2], .type x.tyn, [.type T1, .type T2], f x || f' x, rfl, upd_same, .cons (.ty T1) (.cons (.ty T2) .nil), ty_of hx ((R.held.pk R.env px).ex e), ?_, q _ _ (.d (.bl (f x || f' x))) ρ1 (hotR.d ((hotR.hot kp).trans (Keep.ext e))) ⟨E2, rfl⟩ g⟩
    refine kitAny_cons (kit_ty (hf x hx)) (fun h0 => kitAny_cons (kit_ty (hf' x hx)) (fun h1 => ?_) fun h1 => ?_) fun h0 => ?_
    · rw [kitAny_nil, h0, h1] <;> rfl
    · rw [h0, h1] <;> rfl
    · rw [h0] <;> rfl⟩
end
@[reducible] def D.isTup : D → Bool
  | .tup _ => true
  | _ => false
@[reducible] def D.isLst : D → Bool
  | .lst _ => true
  | _ => false
@[reducible] def D.isStr : D → Bool
  | .str _ => true
  | _ => false
@[reducible] def D.isInt : D → Bool
  | .int _ => true
  | .bl _ => true
  | _ => false
@[reducible] def D.isBool : D → Bool
  | .bl _ => true
  | _ => false
@[reducible] def D.isDct : D → Bool
  | .emp => true
  | .dct _ _ => true
  | _ => false
theorem isi_tuple : ∀ x : D, x.isBuiltin = true → kitB x.tyn "tuple" = some x.isTup := by
  intro x h
  cases x <;> first
    | (cases h; done)
    | (simp only [D.tyn, D.isTup]; decide +kernel)
theorem isi_list : ∀ x : D, x.isBuiltin = true → kitB x.tyn "list" = some x.isLst := by
  intro x h
  cases x <;> first
    | (cases h; done)
    | (simp only [D.tyn, D.isLst]; decide +kernel)
theorem isi_str : ∀ x : D, x.isBuiltin = true → kitB x.tyn "str" = some x.isStr := by
  intro x h
  cases x <;> first
    | (cases h; done)
    | (simp only [D.tyn, D.isStr]; decide +kernel)
theorem isi_int : ∀ x : D, x.isBuiltin = true → kitB x.tyn "int" = some x.isInt := by
  intro x h
  cases x <;> first
    | (cases h; done)
    | (simp only [D.tyn, D.isInt]; decide +kernel)
theorem isi_bool : ∀ x : D, x.isBuiltin = true → kitB x.tyn "bool" = some x.isBool := by
  intro x h
  cases x <;> first
    | (cases h; done)
    | (simp only [D.tyn, D.isBool]; decide +kernel)
theorem isi_dict : ∀ x : D, x.isBuiltin = true → kitB x.tyn "dict" = some x.isDct := by
  intro x h
  cases x <;> first
    | (cases h; done)
    | (simp only [D.tyn, D.isDct]; decide +kernel)

/-! ### methods and stores of own objects -/
section
variable {K : PySem.W.Frag} {ρ : List Ent} {k : KE} {te ti : TE} {ta : TA} {i : Nat}
/-- a method of the own list x, with arguments: what it gives (data), the list behind it -/
def MtD (K : PySem.W.Frag) (r : V → List V → Hp → VK → Prop) (x : D) (xs : List D) (k : D → D → Prop) : Prop := ∀ (M : Addr → Prop) (H : Hp) (p : Addr) (us : List V) (Q : VK), M p → OwnAt M K H p x → DaAll M K H us xs →
  (∀ w o' z x', OwnAt M K (upd H p o') p x' → Da M K H w z → k z x' → Q w (upd H p o')) → r (.ref p) us H Q
theorem keep_write {F : Fr} {H : Hp} {σ : L2.St} {ρ : List Ent} {p : Addr} {o : HO} {x y : D} (he : ρ[i]? = some (.own x)) (hs : σ[i]? = some (some (.ref p))) : Keep (hot F σ ρ) H (hot F σ (ρ.set i (.own y))) (upd H p o) := fun b u n e => by
  have hp : hot F σ ρ p := .inr ⟨i, x, he, hs⟩
  refine ⟨fun z => n ?_, by rw [upd_ne fun z => n (by rw [z]; exact hp)]; exact e⟩
  rcases z with z | ⟨j, z', h1, h2⟩
  · exact .inl z
  · rcases set_get h1 with ⟨e1, _, _⟩ | ⟨_, h3⟩
    · subst e1; exact .inr ⟨j, x, he, h2⟩
    · exact .inr ⟨j, z', h3, h2⟩
theorem keep_up {F : Fr} {H : Hp} {σ : L2.St} {ρ : List Ent} {y : D} (x : D) (he : ρ[i]? = some (.own x)) : ∀ b, hot F σ (ρ.set i (.own y)) b → hot F σ ρ b := fun b z => by
  rcases z with z | ⟨j, z', h1, h2⟩
  · exact .inl z
  · rcases set_get h1 with ⟨e1, _, _⟩ | ⟨_, h3⟩
    · subst e1; exact .inr ⟨j, x, he, h2⟩
    · exact .inr ⟨j, z', h3, h2⟩
theorem xe_meth {T : String} {r : V → List V → Hp → VK → Prop} {x0 : D} (hi : ρ[i]? = some (.own x0)) (hty : ∀ M H p, OwnAt M K H p x0 → tyV K T (.ref p) H)
    (h : XA K ta ρ fun rs ρ1 => ∃ xs x, peekAll ρ1 rs = some xs ∧ (frzAll ρ1 rs)[i]? = some (.own x) ∧ MtD K r x xs fun z x' => k (.d z) ((frzAll ρ1 rs).set i (.own x'))) : XE K (tBM K T r (tVar i) ta) ρ k := fun F H σ Q E q => by
  obtain ⟨p, hs, ho⟩ := E.slot i _ hi
  refine ⟨_, hs, hty _ _ _ ho, h F H σ _ E fun vs H1 rs ρ1 kp E1 hv ⟨xs, x, px, he, g⟩ => ?_⟩
  obtain ⟨E2, d2, k2⟩ := HeldAll.frz E1 hv px
  obtain ⟨p', hs', ho2⟩ := E2.slot i _ he
  rw [hs] at hs'
  cases hs'
  have hp : hot F σ (frzAll ρ1 rs) p := .inr ⟨i, x, he, hs⟩
  refine g _ H1 p vs Q hp ho2 d2 fun w o' z x' ho' hw kz => ?_
  have E3 := E2.write he hs ho'
  have k3 : Keep (hot F σ (frzAll ρ1 rs)) H1 (hot F σ ((frzAll ρ1 rs).set i (.own x'))) (upd H1 p o') := keep_write he hs
  exact q w _ (.d z) _ (hotR.d ((kp.trans k2).trans k3)) ⟨E3, hw.mono k3⟩ kz
theorem xe_meth0 {T : String} {r : V → List V → Hp → VK → Prop} {x : D} (hi : ρ[i]? = some (.own x)) (hty : ∀ M H p, OwnAt M K H p x → tyV K T (.ref p) H)
    (g : MtD K r x [] fun z x' => k (.d z) (ρ.set i (.own x'))) : XE K (tBM0 K T r (tVar i)) ρ k := fun F H σ Q E q => by
  obtain ⟨p, hs, ho⟩ := E.slot i _ hi
  have hp : hot F σ ρ p := .inr ⟨i, x, hi, hs⟩
  refine ⟨_, hs, hty _ _ _ ho, g _ H p [] Q hp ho rfl fun w o' z x' ho' hw kz => ?_⟩
  have E3 := E.write hi hs ho'
  have k3 : Keep (hot F σ ρ) H (hot F σ (ρ.set i (.own x'))) (upd H p o') := keep_write hi hs
  exact q w _ (.d z) _ (hotR.d k3) ⟨E3, hw.mono k3⟩ kz
theorem ty_list {ds : List D} {M : Addr → Prop} {H : Hp} {p : Addr} (h : OwnAt M K H p (.lst ds)) : tyV K "list" (.ref p) H := by
  obtain ⟨vs, h1, _⟩ := h
  exact .inl ⟨rfl, vs, SqL.of h1⟩
theorem ty_dict {ks : List (List Key)} {ds : List D} {M : Addr → Prop} {H : Hp} {p : Addr} (h : OwnAt M K H p (.dct ks ds)) : tyV K "dict" (.ref p) H := by
  obtain ⟨kvs, h1, _⟩ := h
  exact .inr (.inr (.inl ⟨rfl, .inr ⟨kvs, h1⟩⟩))
theorem ownL {M : Addr → Prop} {H : Hp} {p : Addr} {vs : List V} {ds : List D} (hp : M p) (d : DaAll M K H vs ds) : OwnAt M K (upd H p (.lst vs)) p (.lst ds) :=
  ⟨vs, upd_same, d.mono fun b o n e => ⟨n, by rw [upd_ne fun z => n (by rw [z]; exact hp)]; exact e⟩⟩
theorem m_append {ds : List D} {y : D} {kk : D → D → Prop} (hl : ds.length < sizeLine) (g : kk .non (.lst (ds ++ [y]))) : MtD K rAppend (.lst ds) [y] kk := fun M H p us Q mp ⟨vs, h1, d1⟩ hu q => by
  obtain ⟨u, rfl, h2⟩ := da1 hu
  exact ⟨p, vs, u, rfl, rfl, h1, by rw [d1.length]; exact hl, q .non _ .non _ (ownL mp (d1.append (DaAll.one h2))) rfl g⟩
theorem m_extend {ds es : List D} {kk : D → D → Prop} (hl : ds.length + es.length ≤ sizeLine) (g : kk .non (.lst (ds ++ es))) : MtD K rExtend (.lst ds) [.lst es] kk := fun M H p us Q mp ⟨vs, h1, d1⟩ hu q => by
  obtain ⟨u, rfl, h2⟩ := da1 hu
  obtain ⟨a, ws, rfl, c2, d2⟩ := h2
  exact ⟨p, a, vs, ws, rfl, rfl, h1, c2.2, by rw [d1.length, d2.length]; exact hl, q .non _ .non _ (ownL mp (d1.append d2)) rfl g⟩
theorem seqIx {n : Nat} {i : Int} (h0 : 0 ≤ i) (h1 : i < n) : seqIndex? i n = some i.toNat := PySem.StrLaws.seqIndex_nonneg h0 h1
theorem m_popAt {ds : List D} {j : Int} {y : D} {kk : D → D → Prop} (h0 : 0 ≤ j) (h1 : j < 2 ^ 63) (hy : ds[j.toNat]? = some y) (g : kk y (.lst (ds.eraseIdx j.toNat))) : MtD K rPopAt (.lst ds) [.int j] kk := fun M H p us Q mp ⟨vs, h2, d1⟩ hu q => by
  obtain ⟨u, rfl, h3⟩ := da1 hu
  obtain ⟨w, e1, e2⟩ := d1.at hy
  have hl : j.toNat < vs.length := (List.getElem?_eq_some_iff.mp e1).1
  exact ⟨p, vs, j, j.toNat, w, rfl, by rw [show u = V.int j from h3], h2, by omega, h1, seqIx h0 (by omega), e1, q w _ y _ (ownL mp (d1.eraseIdx _)) e2 g⟩
theorem m_pop {ds : List D} {y : D} {kk : D → D → Prop} (hy : ds[ds.length - 1]? = some y) (g : kk y (.lst (ds.take (ds.length - 1)))) : MtD K rPop (.lst ds) [] kk := fun M H p us Q mp ⟨vs, h2, d1⟩ hu q => by
  have : us = [] := hu
  subst this
  obtain ⟨w, e1, e2⟩ := d1.at hy
  refine ⟨p, vs, w, rfl, rfl, h2, by rw [d1.length]; exact e1, q w _ y _ (ownL mp ?_) e2 g⟩
  rw [List.dropLast_eq_take, d1.length]
  exact d1.take _
/-- own[i] = e -/
theorem xs_setix {Φ : Post} {i : Nat} (h : XE K te ρ fun r ρ1 => ∃ y, peek ρ1 r = some y ∧ ∃ x0, (frz ρ1 r)[i]? = some (.own x0) ∧ XE K ti (frz ρ1 r) fun r2 ρ2 => ∃ (j : Int) (ds : List D), r2 = .d (.int j) ∧ ρ2[i]? = some (.own (.lst ds)) ∧ ∃ n, ixN ds.length j = some n ∧
    Φ.nx (ρ2.set i (.own (.lst (ds.set n y))))) : XS K (tAsg te (gSub (tVar i) ti rSetL)) ρ Φ := fun F H σ Dn E I => h F H σ _ E fun v H1 r ρ1 kp R ⟨y, py, x0, he0, h2⟩ => by
  obtain ⟨E1, d1⟩ := R.frz py
  obtain ⟨p, hs, ho⟩ := E1.slot i _ he0
  refine ⟨_, hs, h2 F H1 σ _ E1 fun w H2 r2 ρ2 kp2 R2 ⟨j, ds, e2, he, n, hn, g⟩ => ?_⟩
  subst e2
  obtain ⟨E2, hw⟩ := R2
  obtain ⟨p', hs', vs, ho1, ho2⟩ := E2.slot i _ he
  rw [hs] at hs'
  cases hs'
  have hp : hot F σ ρ2 p := .inr ⟨i, _, he, hs⟩
  have k1 := ((hotR.hot kp).trans (keep_frz R.env)).trans (hotR.hot kp2)
  refine ⟨p, vs, j, n, rfl, hw, ho1, by rw [ho2.length]; exact hn, ?_⟩
  have ho' : OwnAt (hot F σ ρ2) K (upd H2 p (.lst (vs.set n v))) p (.lst (ds.set n y)) := ownL hp (ho2.set (d1.mono (hotR.hot kp2)))
  exact I.nx _ _ _ (k1.trans (keep_write he hs)) (E2.write he hs ho') g
end
end PW
end
section
/-! PW: the rules in the forms that a tactic walks by: each new environment is told by an equation. -/
namespace PW
open PySem PySem.Spec PyProof.Rows L2

theorem hu64 {k : Nat} {A : Around} (r : Room k A) : A.units + 64 < cLine := r.units
theorem hu65 {k : Nat} {A : Around} (r : Room k A) : A.units + 65 < cLine := by have := r.un; omega
theorem len_w {K : PySem.W.Frag} {w : WF} {vs : List V} {H : Hp} {Q : VK} {E : XK} {n : Nat} (h : spW K w vs H Q E) (hl : ∀ ds kk, w ds kk → ds.length = n) : vs.length = n := by
  obtain ⟨M, ds, kk, _, d, hw, _⟩ := h
  rw [d.length]
  exact hl ds kk hw
theorem len_h {K : PySem.W.Frag} {w : WF} {vs : List V} {H : Hp} {Q : VK} {E : XK} {n : Nat} (h : spH K w vs H Q E) (hl : ∀ ds kk, w ds kk → ds.length + 1 = n) : vs.length = n := by
  obtain ⟨M, a, ws, ds, kk, rfl, _, _, _, d, hw, _⟩ := h
  rw [List.length_cons, d.length]
  exact hl ds kk hw

section
variable {K : PySem.W.Frag} {ρ : List Ent} {k : KE} {ta tb tc te ti : TE} {i j : Nat} {x : D} {Φ : Post} {t u : TS} {wi : TI}
theorem ys_asg (h : XE K te ρ fun r ρ' => ∃ ρ2, sto ρ' j r = ρ2 ∧ Φ.nx ρ2) : XS K (tAsg te (gName j)) ρ Φ := xs_asg (xe_mono h fun r ρ' ⟨_, e, g⟩ => by rw [e]; exact g)
theorem ys_asgG {g : TG} (h : XE K te ρ fun r ρ1 => ∃ x, peek ρ1 r = some x ∧ ∃ ρ2, frz ρ1 r = ρ2 ∧ XG K g x ρ2 Φ.nx) : XS K (tAsg te g) ρ Φ := xs_asgG (xe_mono h fun r ρ1 ⟨x, p, ρ2, e, g⟩ => ⟨x, p, by rw [e]; exact g⟩)
theorem yg_name {d : D} {kk : List Ent → Prop} (h : ∃ ρ2, ρ.set j (.d d) = ρ2 ∧ kk ρ2) : XG K (gName j) d ρ kk := by
  obtain ⟨_, e, g⟩ := h
  exact xg_name (by rw [e]; exact g)
theorem ys_ret (h : XE K te ρ fun r ρ' => back ρ' r Φ.rt) : XS K (tRet te) ρ Φ := xs_ret h
theorem back_d {kk : Res → List Ent → Prop} (g : kk (.d x) ρ) : back ρ (.d x) kk := g
theorem back_nw {kk : Res → List Ent → Prop} (g : kk (.nw x) ρ) : back ρ (.nw x) kk := g
theorem back_v {kk : Res → List Ent → Prop} (h : ρ[i]? = some (.own x)) (g : ∃ ρ2, ρ.set i .u = ρ2 ∧ kk (.nw x) ρ2) : back ρ (.v i) kk := by
  obtain ⟨_, e, g⟩ := g
  show backE ρ i kk ρ[i]?
  rw [h]
  show kk (.nw x) (ρ.set i .u)
  rw [e]
  exact g
theorem ye_tup {t : TA} (h : XA K t ρ fun rs ρ1 => ∃ xs, peekAll ρ1 rs = some xs ∧ xs.length ≤ sizeLine ∧ ∃ ρ2, frzAll ρ1 rs = ρ2 ∧ k (.d (.tup xs)) ρ2) : XE K (tTup t) ρ k :=
  xe_tup fun F H σ Q E q => h F H σ Q E fun vs H' rs ρ' a b c ⟨xs, p, l, ρ2, e, g⟩ => q vs H' rs ρ' a b c ⟨xs, p, l, by rw [e]; exact g⟩
theorem ye_lst {t : TA} (h : XA K t ρ fun rs ρ1 => ∃ xs, peekAll ρ1 rs = some xs ∧ xs.length ≤ sizeLine ∧ ∃ ρ2, frzAll ρ1 rs = ρ2 ∧ k (.nw (.lst xs)) ρ2) : XE K (tLst t) ρ k :=
  xe_lst fun F H σ Q E q => h F H σ Q E fun vs H' rs ρ' a b c ⟨xs, p, l, ρ2, e, g⟩ => q vs H' rs ρ' a b c ⟨xs, p, l, by rw [e]; exact g⟩
theorem ye_call {w : WF} {E : XK} {t : TA} (h : XA K t ρ fun rs ρ1 => ∃ xs, peekAll ρ1 rs = some xs ∧ ∃ ρ2, frzAll ρ1 rs = ρ2 ∧ w xs fun z => k z ρ2) : XE K (tCall (spW K w) [] E t) ρ k :=
  xe_call fun F H σ Q E q => h F H σ Q E fun vs H' rs ρ' a b c ⟨xs, p, ρ2, e, g⟩ => q vs H' rs ρ' a b c ⟨xs, p, by rw [e]; exact g⟩
theorem ye_callH {w : WF} {E : XK} {t : TA} (hi : ρ[i]? = some .hand) (h : XA K t ρ fun rs ρ1 => ∃ xs, peekAll ρ1 rs = some xs ∧ ∃ ρ2, frzAll ρ1 rs = ρ2 ∧ w xs fun z => k z ρ2) : XE K (tCallH (spH K w) E i t) ρ k :=
  xe_callH hi fun F H σ Q E q => h F H σ Q E fun vs H' rs ρ' a b c ⟨xs, p, ρ2, e, g⟩ => q vs H' rs ρ' a b c ⟨xs, p, by rw [e]; exact g⟩
theorem yi_seq {kk : List D → List Ent → Prop} (h : XE K te ρ fun r ρ1 => ∃ x ds, peek ρ1 r = some x ∧ itemsD x = some ds ∧ ∃ ρ2, frz ρ1 r = ρ2 ∧ kk ds ρ2) : XI K (iSeq K te) ρ kk :=
  xi_seq (xe_mono h fun r ρ1 ⟨x, ds, p, e, ρ2, e2, g⟩ => ⟨x, ds, p, e, by rw [e2]; exact g⟩)
/-- xs.append(e) and its like: the value is dropped -/
theorem ye_meth {T : String} {ta : TA} {r : V → List V → Hp → VK → Prop} {x0 : D} (hi : ρ[i]? = some (.own x0)) (hty : ∀ M H p, OwnAt M K H p x0 → tyV K T (.ref p) H)
    (h : XA K ta ρ fun rs ρ1 => ∃ xs x, peekAll ρ1 rs = some xs ∧ ∃ ρ2, frzAll ρ1 rs = ρ2 ∧ ρ2[i]? = some (.own x) ∧ MtD K r x xs fun z x' => ∃ ρ3, ρ2.set i (.own x') = ρ3 ∧ k (.d z) ρ3) : XE K (tBM K T r (tVar i) ta) ρ k :=
  xe_meth hi hty fun F H σ Q E q => h F H σ Q E fun vs H' rs ρ' a b c ⟨xs, x, p, ρ2, e, e2, g⟩ => q vs H' rs ρ' a b c ⟨xs, x, p, by rw [e]; exact e2, by
    rw [e]
    exact fun M H p us Q m o d q => g M H p us Q m o d fun w o' z x' a b ⟨ρ3, e3, c⟩ => q w o' z x' a b (by subst e3; exact c)⟩
theorem ye_meth0 {T : String} {r : V → List V → Hp → VK → Prop} {x : D} (hi : ρ[i]? = some (.own x)) (hty : ∀ M H p, OwnAt M K H p x → tyV K T (.ref p) H)
    (g : MtD K r x [] fun z x' => ∃ ρ3, ρ.set i (.own x') = ρ3 ∧ k (.d z) ρ3) : XE K (tBM0 K T r (tVar i)) ρ k :=
  xe_meth0 hi hty fun M H p us Q m o d q => g M H p us Q m o d fun w o' z x' a b ⟨ρ3, e3, c⟩ => q w o' z x' a b (by subst e3; exact c)
theorem ys_setix (h : XE K te ρ fun r ρ1 => ∃ y, peek ρ1 r = some y ∧ ∃ ρ', frz ρ1 r = ρ' ∧ ∃ x0, ρ'[i]? = some (.own x0) ∧ XE K ti ρ' fun r2 ρ2 => ∃ (j : Int) (ds : List D), r2 = .d (.int j) ∧ ρ2[i]? = some (.own (.lst ds)) ∧ ∃ n, ixN ds.length j = some n ∧
    ∃ ρ3, ρ2.set i (.own (.lst (ds.set n y))) = ρ3 ∧ Φ.nx ρ3) : XS K (tAsg te (gSub (tVar i) ti rSetL)) ρ Φ :=
  xs_setix (xe_mono h fun r ρ1 ⟨y, p, ρ', e, x0, e0, g⟩ => ⟨y, p, x0, by rw [e]; exact e0, by
    rw [e]
    exact xe_mono g fun r2 ρ2 ⟨j, ds, a, b, n, c, ρ3, e3, d⟩ => ⟨j, ds, a, b, n, c, by rw [e3]; exact d⟩⟩)
/-- a comprehension whose test and element neither draw nor change anything: f tells what each item gives -/
theorem xt_yes {kb : Bool → List Ent → Prop} (g : kb true ρ) : XT K tYes ρ kb := fun F H σ Q E q => q true H ρ (Keep.refl _ _) E g
end

/-! ### negation, several targets -/
def rNegI : V → Hp → VK → Prop := rU fun i => .int (-i)
theorem un_negU {X : Cx} : UnR X (unaryOp .USub) rNegI := un_neg
theorem u_neg {K : PySem.W.Frag} {n : Int} {kk : Res → Prop} (g : kk (.d (.int (-n)))) : UnD K rNegI (.int n) kk := fun M H u Q tr h q => ⟨n, h.int, q _ H (.d (.int (-n))) (Ext.refl H) rfl g⟩
section
variable {K : PySem.W.Frag} {ρ : List Ent} {k : KE} {Φ : Post}
theorem ye_emp (g : k (.d .emp) ρ) : XE K tDNewK ρ k := fun F H σ Q E q p hp => by
  have e : Ext H (upd H p (.dK [])) := Ext.new hp
  have z : ResV (hot F σ ρ) K H (upd H p (.dK [])) (.ref p) (.d .emp) := ⟨p, rfl, fun z => E.hotTrk p z hp, upd_same⟩
  exact q _ _ (.d .emp) ρ (hotR.res (Keep.refl _ _) e z) (ResV.rv E e z) g

/-! several targets: each value is stored as it is (a new object is the slot's own) -/
def sets (σ : L2.St) : List Nat → List V → L2.St
  | j :: js, v :: vs => (sets σ js vs).set j (some v)
  | _, _ => σ
def XM (K : PySem.W.Frag) (ta : TA) (js : List Nat) (ρ : List Ent) (k : List Ent → Prop) : Prop := ∀ (F : Fr) (H : Hp) (σ : L2.St) (Q : List V → Hp → Prop), Env K F H σ ρ →
  (∀ vs H' ρ', vs.length = js.length → Keep (hot F σ ρ) H (hot F (sets σ js vs) ρ') H' → Env K F H' (sets σ js vs) ρ' → k ρ' → Q vs H') → ta σ H Q
theorem xm_nil {kk : List Ent → Prop} (g : kk ρ) : XM K tNil [] ρ kk := fun F H σ Q E q => q [] H ρ rfl (Keep.refl _ _) E g
theorem xm_cons {te : TE} {ta : TA} {j : Nat} {js : List Nat} {kk : List Ent → Prop} (h : XE K te ρ fun r ρ1 => (∀ i, r ≠ .v i) ∧ XM K ta js ρ1 fun ρ2 => ∃ ρ3, ρ2.set j r.ent = ρ3 ∧ kk ρ3) : XM K (tCons te ta) (j :: js) ρ kk := fun F H σ Q E q =>
  h F H σ _ E fun v H1 r ρ1 kp R ⟨n, h2⟩ => by
    cases r with
    | v i => exact absurd rfl (n i)
    | d x =>
      refine h2 F H1 σ _ R.1 fun vs H2 ρ2 hl kp2 E2 ⟨ρ3, e, g⟩ => ?_
      subst e
      refine q (v :: vs) H2 _ (by rw [List.length_cons, List.length_cons, hl]) ?_ (E2.setD (R.2.mono kp2)) g
      have k12 := (hotR.hot kp).trans kp2
      exact fun b o m e => ⟨fun z => (k12 b o m e).1 (hot_setD z), (k12 b o m e).2⟩
    | nw x =>
      obtain ⟨p, rfl, h0, nh, Ep, ho⟩ := R
      obtain ⟨o, hpo⟩ := Option.ne_none_iff_exists'.mp ho.there
      have hh : ∀ a, F.hd = some a → F.H0 a ≠ none := fun a e => (E.hand a e).2.1
      have nd : F.hd ≠ some p := fun z => (hh p z) h0
      refine h2 (F.pin p o) H1 σ _ (Ep.pin h0 hpo) fun vs H2 ρ2 hl kp2 E2 ⟨ρ3, e, g⟩ => ?_
      subst e
      have nM : ¬ F.M p := fun z => nh (.inl z)
      have np : ¬ hot F (sets σ js vs) ρ2 p := fun z => by
        rcases z with z | ⟨i, y, z1, z2⟩
        · exact nM z
        · exact (E2.new i y p z1 z2).2 (.inr rfl)
      have hp2 : H2 p = some o := E2.go p o nd upd_same
      have ho2 : OwnAt (hot (F.push p) (sets σ js vs) ρ2) K H2 p x := ho.mono kp2 fun u z => by rw [hpo] at z; cases z; exact hp2
      refine q (.ref p :: vs) H2 _ (by rw [List.length_cons, List.length_cons, hl]) ?_ ((E2.unpin h0 hh).setNew h0 np ho2) g
      intro b u m e
      obtain ⟨g1, g2⟩ := kp b u m e
      have g1' : ¬ hot (F.pin p o) σ ρ1 b := fun z => g1 (by
        rcases z with z | z
        · rcases z with z | z
          · exact .inl (.inl z)
          · rw [z]; exact .inr ⟨⟨x, rfl⟩, rfl⟩
        · exact .inl (.inr z))
      obtain ⟨g3, g4⟩ := kp2 b u g1' g2
      refine ⟨fun z => g3 ?_, g4⟩
      rcases z with z | ⟨i, y, z1, z2⟩
      · exact .inl (.inl z)
      · rcases set_get z1 with ⟨e1, _, e3⟩ | ⟨n', z3⟩
        · subst e1
          rw [show sets σ (i :: js) (V.ref p :: vs) = (sets σ js vs).set i (some (.ref p)) from rfl, List.getElem?_set_self (by rw [E2.len]; exact e3)] at z2
          cases z2
          exact .inl (.inr rfl)
        · rw [show sets σ (j :: js) (V.ref p :: vs) = (sets σ js vs).set j (some (.ref p)) from rfl, List.getElem?_set_ne (Ne.symm n')] at z2
          exact .inr ⟨i, y, z3, z2⟩
theorem ys_par {i j : Nat} {ta : TA} (hij : i ≠ j) (h : XM K ta [i, j] ρ Φ.nx) : XS K (tPar i j ta) ρ Φ := fun F H σ Dn E I =>
  h F H σ _ E fun vs H1 ρ1 hl kp E1 g => by
    match vs, hl with
    | [v, w], _ =>
      refine ⟨v, w, rfl, ?_⟩
      have e : sets σ [i, j] [v, w] = (σ.set i (some v)).set j (some w) := by
        show (σ.set j (some w)).set i (some v) = _
        rw [List.set_comm _ _ hij]
      rw [e] at kp E1
      exact I.nx H1 _ ρ1 kp E1 g
theorem sets3 {σ : L2.St} {i j l : Nat} {u v w : V} (hij : i ≠ j) (hil : i ≠ l) (hjl : j ≠ l) : sets σ [i, j, l] [u, v, w] = ((σ.set i (some u)).set j (some v)).set l (some w) := by
  show ((σ.set l (some w)).set j (some v)).set i (some u) = _
  rw [List.set_comm _ _ (Ne.symm hjl), List.set_comm _ _ (Ne.symm hil), List.set_comm _ _ (Ne.symm hij)]
theorem ys_par3 {i j l : Nat} {ta : TA} (hij : i ≠ j) (hil : i ≠ l) (hjl : j ≠ l) (h : XM K ta [i, j, l] ρ Φ.nx) : XS K (tPar3 i j l ta) ρ Φ := fun F H σ Dn E I =>
  h F H σ _ E fun vs H1 ρ1 hl kp E1 g => by
    match vs, hl with
    | [u, v, w], _ =>
      refine ⟨u, v, w, rfl, ?_⟩
      rw [sets3 hij hil hjl] at kp E1
      exact I.nx H1 _ ρ1 kp E1 g
/-- a, b = x, y by a tuple that is made and taken apart -/
theorem ys_unp2 {i j : Nat} {ta : TA} (hij : i ≠ j) (h : XM K ta [i, j] ρ Φ.nx) : XS K (tAsg (tTup ta) (gTup K 2 (gCons (gName i) (gCons (gName j) gNil)))) ρ Φ := fun F H σ Dn E I =>
  h F H σ _ E fun vs H1 ρ1 hl kp E1 g => by
    match vs, hl with
    | [v, w], _ =>
      refine ⟨by show 2 ≤ sizeLine; decide, fun p hp => ⟨p, [v, w], rfl, SqT.of upd_same, rfl, v, [w], rfl, w, [], rfl, rfl, ?_⟩⟩
      have e : sets σ [i, j] [v, w] = (σ.set i (some v)).set j (some w) := by
        show (σ.set j (some w)).set i (some v) = _
        rw [List.set_comm _ _ hij]
      rw [e] at kp E1
      have x : Ext H1 (upd H1 p (.tup [v, w])) := Ext.new hp
      exact I.nx _ _ ρ1 (kp.trans (Keep.ext x)) (E1.ex x) g
theorem ys_unp3 {i j l : Nat} {ta : TA} (hij : i ≠ j) (hil : i ≠ l) (hjl : j ≠ l) (h : XM K ta [i, j, l] ρ Φ.nx) : XS K (tAsg (tTup ta) (gTup K 3 (gCons (gName i) (gCons (gName j) (gCons (gName l) gNil))))) ρ Φ := fun F H σ Dn E I =>
  h F H σ _ E fun vs H1 ρ1 hl kp E1 g => by
    match vs, hl with
    | [u, v, w], _ =>
      refine ⟨by show 3 ≤ sizeLine; decide, fun p hp => ⟨p, [u, v, w], rfl, SqT.of upd_same, rfl, u, [v, w], rfl, v, [w], rfl, w, [], rfl, rfl, ?_⟩⟩
      rw [sets3 hij hil hjl] at kp E1
      have x : Ext H1 (upd H1 p (.tup [u, v, w])) := Ext.new hp
      exact I.nx _ _ ρ1 (kp.trans (Keep.ext x)) (E1.ex x) g
theorem ys_aug {i : Nat} {te : TE} {f : Int → Int → Int} {a : Int} (hi : ρ[i]? = some (.d (.int a))) (h : XE K te ρ fun r ρ1 => ∃ b, r = .d (.int b) ∧ ∃ ρ2, ρ1.set i (.d (.int (f a b))) = ρ2 ∧ Φ.nx ρ2) : XS K (tAug i te (ipI f)) ρ Φ := fun F H σ Dn E I => by
  obtain ⟨v, hs, hv⟩ := E.slot i _ hi
  have ev : v = .int a := hv
  refine ⟨v, hs, h F H σ _ E fun w H1 r ρ1 kp R ⟨b, er, ρ2, e, g⟩ => ?_⟩
  subst er e
  obtain ⟨E1, hw⟩ := R
  refine ⟨a, b, ev, hw, ?_⟩
  have k1 := hotR.hot kp
  exact I.nx H1 _ _ (fun c o m e => ⟨fun z => (k1 c o m e).1 (hot_setD z), (k1 c o m e).2⟩) (E1.setD (x := .int (f a b)) rfl) g
end

/-! ### what a comprehension's targets are -/
theorem own_name {j : Nat} : OwnSlots (gName j) [j] := fun σ v H Q h => by
  have e : wipe (σ.set j (some v)) [j] = wipe σ [j] := by
    show (σ.set j (some v)).set j none = σ.set j none
    rw [List.set_set]
  exact ⟨e, h e⟩
theorem wipe1 {j : Nat} (σ : L2.St) : wipe (wipe σ [j]) [j] = wipe σ [j] := by
  show (σ.set j none).set j none = σ.set j none
  rw [List.set_set]
theorem wipe2 {i j : Nat} (h : i ≠ j) (σ : L2.St) : wipe (wipe σ [i, j]) [i, j] = wipe σ [i, j] := by
  show ((((σ.set j none).set i none)).set j none).set i none = (σ.set j none).set i none
  have e : ∀ l : L2.St, (l.set i none).set j none = (l.set j none).set i none := fun l => List.set_comm _ _ h
  rw [e, List.set_set, List.set_set]
theorem own_pair {K : PySem.W.Frag} {i j : Nat} (hij : i ≠ j) : OwnSlots (gTup K 2 (gCons (gName i) (gCons (gName j) gNil))) [i, j] := fun σ v H Q h => by
  obtain ⟨a, xs, e, hq, hl, v1, r1, e1, v2, r2, e2, e3, q⟩ := h
  have ew : wipe ((σ.set i (some v1)).set j (some v2)) [i, j] = wipe σ [i, j] := by
    show (((σ.set i (some v1)).set j (some v2)).set j none).set i none = (σ.set j none).set i none
    rw [List.set_set, List.set_comm _ _ (Ne.symm hij), List.set_set]
    rw [List.set_comm _ _ hij]
  exact ⟨a, xs, e, hq, hl, v1, r1, e1, v2, r2, e2, e3, ew, q ew⟩
end PW
end
section
/-! PW: more that is walked: texts, enumerate of a list or a tuple, zip; list(range(..)); a tuple turned round. -/
namespace PySem
open Sem (wp)
set_option maxHeartbeats 1000000 in
theorem meets_enumerate_new1B {v : Value} {o : Obj} {H : Heap → Prop} (B : Begins v o H) :
    Meets (Builtin.«enumerate.__new__» ⟨[.type "enumerate", v], []⟩) (fun _ R s => H s.heap ∧
      R (.ok (.ret (.ref (s.heap.push o).objs.size))) { s with heap := (s.heap.push o).push { cls := .type "enumerate", data := .fields #[.none, .bool false, .ref s.heap.objs.size, rawInt 0, .none, .none] } }) :=
  .of_wp fun prog w A R s h => by
    obtain ⟨hp, g, d, tk, os⟩ := s; obtain ⟨h1, h⟩ := h
    have hsub := sub_enumerate
    have q1 : ∀ {A' : Around} {E : Value → Shared → Prop} {Q : Value → Shared → Prop}, Q (.ref hp.objs.size) ⟨hp.push o, g, d, tk, os⟩ → wpAny (model prog w) A' (pyIter v) Q E ⟨hp, g, d, tk, os⟩ :=
      fun q => B.iter prog w _ _ ⟨hp, g, d, tk, os⟩ _ h1 q
    wp_walk using q1
    refine wpAny_stack_any fun st => wpAny_pure ?_
    split
    · rename_i c _ _ _ _ _
      cases (c == Value.type "enumerate")
      · wp_walk using q1
        exact ⟨_, rfl, h⟩
      · wp_walk using q1
        exact ⟨_, rfl, h⟩
    · wp_walk using q1
      exact ⟨_, rfl, h⟩
section
variable {prog : Program} {w : World} {A : Around} {E : Value → Shared → Prop} {s : Shared}
theorem enum_begins1 {v : Value} {o : Obj} {H : Heap → Prop} {Q : Value → Shared → Prop} (B : Begins v o H) (h1 : H s.heap)
    (h : ∀ h', IsEnum h' (s.heap.objs.size + 1) s.heap.objs.size 0 .none → h'.get? s.heap.objs.size = some o → h'.objs.size = s.heap.objs.size + 2 →
      (∀ b o, s.heap.get? b = some o → h'.get? b = some o) → Q (.ref (s.heap.objs.size + 1)) { s with heap := h' }) :
    wpAny (model prog w) A (call (.type "enumerate") [v]) Q E s := by
  refine callType_new F.called_enumerate (by decide) (F.typeCall_enumerate_1 _) (F.newCall_enumerate_1 _) (fun obj => F.args_object_init_2 obj _) F.entry_enumerate_new
    (meets_enumerate_new1B B) ⟨h1, ?_⟩
  have hz : (s.heap.push o).objs.size = s.heap.objs.size + 1 := Heap.size_push ..
  show _ ∧ _
  rw [hz]
  have he : IsEnum ((s.heap.push o).push { cls := .type "enumerate", data := .fields #[.none, .bool false, .ref s.heap.objs.size, rawInt 0, .none, .none] }) (s.heap.objs.size + 1) s.heap.objs.size 0 .none := by
    have := Heap.get?_push_size (s.heap.push o) (o := { cls := .type "enumerate", data := .fields #[.none, .bool false, .ref s.heap.objs.size, rawInt 0, .none, .none] }) rfl
    rw [hz] at this; exact this
  refine ⟨⟨_, he, rfl⟩, h _ he (Heap.get?_push_of_some _ (Heap.get?_push_size _ B.free)) (by rw [Heap.size_push, hz]) fun b o x => Heap.get?_push_of_some _ (Heap.get?_push_of_some _ x)⟩
end
end PySem

namespace PW
open PySem PySem.Spec PyProof.Rows L2

/-! ### enumerate(tuple) -/
def Itet (K : PySem.W.Frag) (a : Addr) : It :=
  ⟨fun i H => ∃ (xs : List V) (x : V), SqT K H a xs ∧ xs[i]? = some x, fun i H v H' => ∃ T x, v = .ref T ∧ H T = none ∧ H' = upd H T (.tup [.int (i : Nat), x]) ∧ ∀ xs, SqT K H a xs → xs[i]? = some x, fun i H => ∃ xs : List V, SqT K H a xs ∧ xs.length ≤ i⟩
theorem turn_enumT {P : Program} {w : World} {K : PySem.W.Frag} {elts : List Expr} {kk : Nat} {tpos : Pos} (a e it : Addr) :
    Turn P w K (.Tuple elts kk tpos) (Itet K a) [e, it] e (fun i h => (∃ old, IsEnum h e it ((i : Nat) : Int) old) ∧ h.IsTupleIter it a i ∧ e ≠ it ∧ e ≠ a ∧ a ≠ it) where
  mem := by simp
  obj := fun i h st b hb => by
    obtain ⟨⟨old, he⟩, ⟨o, ho, hc, hd⟩, _⟩ := st
    have e' : b = e ∨ b = it := by simpa using hb
    rcases e' with z | z
    · rw [z]; exact ⟨_, he, fun v q => nomatch q⟩
    · rw [z]; exact ⟨o, ho, fun v q => by rw [hd] at q; cases q⟩
  keep := fun i h h' st k => let ⟨⟨old, he⟩, hi, hne⟩ := st; ⟨⟨old, k e (by simp) _ he⟩, hi.at fun o q => k it (by simp) o q, hne⟩
  item := by
    intro X hP hw hK hc i pins s σ H E I hf st hg
    subst hP hw hK
    obtain ⟨⟨old, he⟩, hit, hne, hea, hai⟩ := st
    obtain ⟨xs, x, hq, hx⟩ := hg
    obtain ⟨its, rv, p, hz⟩ := I.tuple hq
    obtain ⟨u, hu, ru⟩ := rv.get hx
    have hel : e < s.heap.objs.size := Heap.lt_size he
    have hil : it < s.heap.objs.size := by obtain ⟨_, q, _⟩ := hit; exact Heap.lt_size q
    have hlt : i < its.toArray.size := by
      have := (List.getElem?_eq_some_iff.mp hu).1
      rwa [List.size_toArray]
    refine wpAny_pyNext_enum_itemD (Draws.tuple (show X.A.in1.handled = none from I.ok.hd hc) it a hai its.toArray) he ⟨hit, p⟩ hlt hne (by simp [hne, hea]) fun u' h' tk hP ho hit' hT hsz hk => ?_
    have hu' : u' = u := by
      have q : its.toArray[i]? = some u := by simpa using hu
      exact Option.some.inj (hP.symm.trans q)
    subst hu'
    refine ⟨_, rfl, wpAny_letOwnedTupleGo_enum (s := { s with heap := h', toks := tk + 1 }) ho fun h'' he' sb => ?_⟩
    have hT2 : h''.get? s.heap.objs.size = some { cls := .type "tuple", data := .seq #[.int i tk, u'] } := (sb.2 _ (Nat.ne_of_gt hel)).trans hT
    have new : ObjOk X.prog X.w (upd H s.heap.objs.size (.tup [.int (i : Nat), x])) h'' s.heap.objs.size (.tup [.int (i : Nat), x]) :=
      ⟨by show 2 ≤ sizeLine; decide, [.int i tk, u'], .cons ⟨_, rfl⟩ (.cons ru .nil), ⟨_, hT2, rfl, _, rfl⟩⟩
    have I1 : Inv X pins σ (upd H s.heap.objs.size (.tup [.int (i : Nat), x])) { s with heap := h'', toks := tk + 1 } :=
      I.turnedNew (ch := [e, it]) (fun b ob hb q => (sb.2 b (fun z => hb (by simp [z]))).trans (hk b ob (fun z => hb (by simp [z])) (fun z => hb (by simp [z])) q)) hf (Nat.le_refl _) new
    refine ⟨.ref s.heap.objs.size, _, I1, rfl, ⟨_, x, rfl, I.hok.fresh (Nat.le_refl _), rfl, fun ys hy => by rw [I.tuple_inj hy hq]; exact hx⟩, ⟨⟨u', ?_⟩, hit'.1.at fun o q => (sb.2 it (Ne.symm hne)).trans q, hne, hea, hai⟩, fun b hb => ?_⟩
    · have e1 : ((i + 1 : Nat) : Int) = (i : Int) + 1 := by omega
      rw [e1]; exact he'
    · have hb' : b < s.heap.objs.size := by
        have e' : b = e ∨ b = it := by simpa using hb
        rcases e' with z | z
        · rw [z]; exact hel
        · rw [z]; exact hil
      rw [upd_ne (Nat.ne_of_lt hb')]
      exact (hf b hb).1
  done := by
    intro X hP hw hK hc i pins s σ H E I hf st hg
    subst hP hw hK
    obtain ⟨⟨old, he⟩, hit, hne, hea, hai⟩ := st
    obtain ⟨xs, hq, hx⟩ := hg
    obtain ⟨its, rv, p, hz⟩ := I.tuple hq
    obtain ⟨f0, f1, f2, f3, f4, f5⟩ := hf it (by simp)
    have hl := rv.length
    have hT : s.TypeIs (.ref e) "enumerate" := ⟨_, he, rfl⟩
    unfold pyNext
    refine wpAny_bind (wpAny_attempt (wpAny_callSpecial?_slot (name := Str.ofString "__next__") hT F.slot_enumerate_next
      (wpAny_call_entry F.slot_enumerate_next hT F.entry_enumerate_next ?_ (F.args_enumerate_next_1 _))))
    show wpAny _ _ (field (.ref e) 2 >>= _) _ _ _
    refine wpAny_bind (wpAny_field he rfl (x := .ref it) rfl ?_)
    refine wpAny_bind (wpAny_nextOf_tuple_end (show X.A.in1.handled = none from I.ok.hd hc) hit p (by simp; omega) fun h' x he' hx' => ?_)
    obtain ⟨o, ho, hc⟩ := hx'
    refine wpAny_bind (wpAny_isInstance (T := "StopIteration") (b := true) ⟨o, ho, hc⟩ isSubtype_stop ?_)
    exact wpAny_pure ⟨rfl, I.turned (t' := s.toks) (fun b o hb q => he' b o hb q) f0 f1 f3 f4 f5⟩
  self := fun A i s Q E st h => let ⟨⟨_, he⟩, _⟩ := st; wpAny_pyIter_enum he h
/-- enumerate of a list or of a tuple -/
def iEnuU (K : PySem.W.Frag) (ta : TA) : TI := fun σ H R => ta σ H fun vs H1 => ∃ a, vs = [.ref a] ∧ (((∃ xs, SqL K H1 a xs) ∧ R (Ite K a) H1) ∨ ((∃ xs, SqT K H1 a xs) ∧ R (Itet K a) H1))
theorem pi_enuU {X : Cx} {e : Expr} {ta : TA} {p pos tpos : Pos} {elts : List Expr} {kk : Nat} (hg : Gl X "enumerate") (hm : X.mg "enumerate" = none) (ha : PA X [e] ta) (hs : starEach [e] X.env = [(false, eval e X.env)] := by rfl) :
    PI X (.Tuple elts kk tpos) (.Call (.Name "enumerate" p) [e] [] pos) (iEnuU X.K ta) := by
  refine ⟨fun pins s σ H R I h => ?_⟩
  refine Call_ (ld_blt I hg hm boot_enumerate (PyProof.Rows.callWith_type1 (thn (ha.run pos pins s σ H _ I h) fun us s1 ⟨vs, H1, I1, r1, q1⟩ => ?_) hs rfl))
  obtain ⟨a, ex, q1⟩ := q1
  subst ex
  have free : ∀ b, b ∈ [s1.heap.objs.size + 1, s1.heap.objs.size] → FpOk X pins H1 b := fun b hb => by
    have e' : b = s1.heap.objs.size + 1 ∨ b = s1.heap.objs.size := by simpa using hb
    have hle : s1.heap.objs.size ≤ b := by
      rcases e' with z | z
      · rw [z]; exact Nat.le_add_right _ _
      · rw [z]; exact Nat.le_refl _
    exact I1.fpOk hle (I1.hok.fresh hle)
  cases r1 with
  | cons r rr =>
    cases rr
    cases r
    rcases q1 with ⟨⟨xs, hq⟩, q⟩ | ⟨⟨xs, hq⟩, q⟩
    · obtain ⟨its, rv, p', hz⟩ := I1.list hq
      refine call_enumerate_list p'.isList fun h' he hit hsz hk => wpAny_pyIter_enum he ?_
      have I2 : Inv X pins σ H1 { s1 with heap := h' } := I1.kept (t' := s1.toks) hk
      exact ⟨s1.heap.objs.size + 1, [s1.heap.objs.size + 1, s1.heap.objs.size], _, _, H1, rfl, I2, turn_enum a (s1.heap.objs.size + 1) s1.heap.objs.size, ⟨⟨.none, he⟩, hit, Nat.succ_ne_self _⟩, free, q⟩
    · obtain ⟨its, rv, p', hz⟩ := I1.tuple hq
      have al : a < s1.heap.objs.size := by obtain ⟨o, ho, _⟩ := id p'; exact Heap.lt_size ho
      refine enum_begins1 (begins_tuple a its.toArray) (show s1.heap.IsTuple a its.toArray from p') fun h' he ho hsz hk => wpAny_pyIter_enum he ?_
      have I2 : Inv X pins σ H1 { s1 with heap := h' } := I1.kept (t' := s1.toks) hk
      exact ⟨s1.heap.objs.size + 1, [s1.heap.objs.size + 1, s1.heap.objs.size], _, _, H1, rfl, I2, turn_enumT a (s1.heap.objs.size + 1) s1.heap.objs.size, ⟨⟨.none, he⟩, ⟨_, ho, rfl, rfl⟩, Nat.succ_ne_self _, Nat.ne_of_gt (Nat.lt_succ_of_lt al), Nat.ne_of_lt al⟩, free, q⟩

/-- a list, a tuple or a text -/
def iSeqU (K : PySem.W.Frag) (tl : TE) : TI := fun σ H R => tl σ H fun x H1 => (∃ a, x = .ref a ∧ (((∃ xs, SqL K H1 a xs) ∧ R (Itl K a) H1) ∨ ((∃ xs, SqT K H1 a xs) ∧ R (Itt K a) H1))) ∨ ∃ z, x = .str z ∧ R (Its z) H1
theorem pi_seqU {X : Cx} {tg l : Expr} {tl : TE} (hl : PE X l tl) : PI X tg l (iSeqU X.K tl) := by
  refine ⟨fun pins s σ H R I h => ?_⟩
  refine thn (hl.run pins s σ H _ I h) fun v s1 ⟨x, H1, I1, r1, q1⟩ => ?_
  rcases q1 with ⟨a, e, q⟩ | ⟨z, e, q⟩
  · subst e
    cases r1
    rcases q with ⟨⟨xs, hq⟩, q⟩ | ⟨⟨xs, hq⟩, q⟩
    · obtain ⟨its, rv, p, hz⟩ := I1.list hq
      refine wpAny_pyIter_list p.isList ?_
      refine ⟨s1.heap.objs.size, [s1.heap.objs.size], _, _, H1, rfl, I1.kept (t' := s1.toks) fun b o e => Heap.get?_push_of_some _ e, turn_list a _, ⟨_, Heap.get?_push_size _ rfl, rfl, rfl⟩, fun b hb => ?_, q⟩
      have e : b = s1.heap.objs.size := by simpa using hb
      subst e
      exact I1.fpOk (Nat.le_refl _) (I1.hok.fresh (Nat.le_refl _))
    · obtain ⟨its, rv, p, hz⟩ := I1.tuple hq
      refine wpAny_pyIter_tuple (show s1.heap.IsTuple a its.toArray from p) ?_
      refine ⟨s1.heap.objs.size, [s1.heap.objs.size], _, _, H1, rfl, I1.kept (t' := s1.toks) fun b o e => Heap.get?_push_of_some _ e, turn_tuple a _, ⟨_, Heap.get?_push_size _ rfl, rfl, rfl⟩, fun b hb => ?_, q⟩
      have e : b = s1.heap.objs.size := by simpa using hb
      subst e
      exact I1.fpOk (Nat.le_refl _) (I1.hok.fresh (Nat.le_refl _))
  · subst e
    obtain ⟨t, rfl⟩ := r1
    cases ha : z.cps.all (· < 128)
    · exact wpAny_pyIter_wide ha (pi_one (tk := s1.toks) I1 _ (turn_str _ z t "str_iterator" (.inr rfl)) ⟨_, Heap.get?_push_size _ rfl, rfl, rfl⟩ q)
    · exact wpAny_pyIter_ascii ha (pi_one (tk := s1.toks) I1 _ (turn_str _ z t "str_ascii_iterator" (.inl rfl)) ⟨_, Heap.get?_push_size _ rfl, rfl, rfl⟩ q)

/-! ### what they give -/
def enumD (ds : List D) : List D := (List.range ds.length).filterMap fun i => ds[i]?.map fun d => D.tup [.int (i : Nat), d]
/-- place by place -/
def enumFrom (n : Nat) : List D → List D
  | [] => []
  | d :: ds => .tup [.int (n : Nat), d] :: enumFrom (n + 1) ds
theorem enumFrom_len : ∀ (ds : List D) (n : Nat), (enumFrom n ds).length = ds.length
  | [], _ => rfl
  | d :: ds, n => by rw [enumFrom, List.length_cons, List.length_cons, enumFrom_len ds (n + 1)]
theorem enumFrom_at : ∀ {ds : List D} {n i : Nat} {x : D}, (enumFrom n ds)[i]? = some x → ∃ d, ds[i]? = some d ∧ x = .tup [.int ((n + i : Nat) : Int), d]
  | [], _, _, _, h => by cases h
  | d :: ds, n, 0, x, h => by
    cases h
    exact ⟨d, rfl, rfl⟩
  | d :: ds, n, i + 1, x, h => by
    obtain ⟨d', h1, h2⟩ := enumFrom_at (ds := ds) (n := n + 1) (i := i) h
    refine ⟨d', h1, ?_⟩
    rw [h2, show n + 1 + i = n + (i + 1) by omega]
theorem enumFrom_get {ds : List D} {n i : Nat} {d : D} (h : ds[i]? = some d) : (enumFrom n ds)[i]? = some (.tup [.int ((n + i : Nat) : Int), d]) := by
  have hl : i < ds.length := (List.getElem?_eq_some_iff.mp h).1
  have hl2 : i < (enumFrom n ds).length := by rw [enumFrom_len]; exact hl
  have e : (enumFrom n ds)[i]? = some (enumFrom n ds)[i] := List.getElem?_eq_getElem hl2
  obtain ⟨d', h1, h2⟩ := enumFrom_at e
  rw [h] at h1
  cases h1
  rw [e, h2]
/-- two lists side by side -/
def zipD : List D → List D → List D
  | x :: xs, y :: ys => .tup [x, y] :: zipD xs ys
  | _, _ => []
theorem zipD_len : ∀ (xs ys : List D), (zipD xs ys).length = min xs.length ys.length
  | [], ys => by rw [zipD]; simp; exact fun _ _ _ _ z => nomatch z
  | x :: xs, [] => by rw [zipD]; simp; exact fun _ _ _ _ _ z => nomatch z
  | x :: xs, y :: ys => by
    rw [zipD, List.length_cons, List.length_cons, List.length_cons, zipD_len xs ys]
    omega
theorem zipD_at : ∀ {xs ys : List D} {i : Nat} {d : D}, (zipD xs ys)[i]? = some d → ∃ x y, xs[i]? = some x ∧ ys[i]? = some y ∧ d = .tup [x, y]
  | [], ys, i, d, h => by
    have e : zipD [] ys = [] := by cases ys <;> rfl
    rw [e] at h
    cases h
  | x :: xs, [], i, d, h => by cases h
  | x :: xs, y :: ys, 0, d, h => by
    cases h
    exact ⟨x, y, rfl, rfl, rfl⟩
  | x :: xs, y :: ys, i + 1, d, h => zipD_at (xs := xs) (ys := ys) (i := i) h
def signsD (z : Str) : List D := z.cps.toList.map fun c => D.str ⟨#[c]⟩

section
variable {K : PySem.W.Frag} {ρ : List Ent} {te : TE} {ta : TA} {a b : Addr} {ds es : List D}
theorem pairDa {M : Addr → Prop} {H : Hp} {T : Addr} {v w : V} {x y : D} (t : Tr M H) (hT : H T = none) (h1 : Da M K H v x) (h2 : Da M K H w y) : Ext H (upd H T (.tup [v, w])) ∧ Da M K (upd H T (.tup [v, w])) (.ref T) (.tup [x, y]) :=
  ⟨Ext.new hT, Da.newT ⟨v, [w], rfl, h1, w, [], rfl, h2, rfl⟩ hT fun z => t T z hT⟩
theorem gives_enumL : Gives K (Ite K a) (enumFrom 0 ds) (fun M H => ∃ vs, ColdL M K H a vs ∧ DaAll M K H vs ds) where
  keep := fun M H M' H' ⟨vs, h1, h2⟩ g => ⟨vs, h1.mono g, h2.mono g⟩
  stop := fun M H i ⟨vs, h1, h2⟩ hi => ⟨vs, h1.sq, by rw [h2.length]; rw [enumFrom_len] at hi; exact hi⟩
  go := fun M H i ⟨vs, h1, h2⟩ hi => by
    have hl : i < vs.length := by rw [h2.length]; rw [enumFrom_len] at hi; exact hi
    exact ⟨vs, vs[i], h1.sq, by simp [hl]⟩
  yld := fun M H i x H' d t ⟨vs, h1, h2⟩ hd y => by
    obtain ⟨T, x', e, hT, eH, hx⟩ := y
    subst e eH
    obtain ⟨d', hd', e⟩ := enumFrom_at hd
    subst e
    obtain ⟨v, hv, q⟩ := h2.at hd'
    have := hx vs h1.sq
    rw [hv] at this
    cases this
    rw [Nat.zero_add]
    exact pairDa t hT rfl q
theorem gives_enumT : Gives K (Itet K a) (enumFrom 0 ds) (fun M H => ∃ vs, ColdT M K H a vs ∧ DaAll M K H vs ds) where
  keep := fun M H M' H' ⟨vs, h1, h2⟩ g => ⟨vs, h1.mono g, h2.mono g⟩
  stop := fun M H i ⟨vs, h1, h2⟩ hi => ⟨vs, h1.sq, by rw [h2.length]; rw [enumFrom_len] at hi; exact hi⟩
  go := fun M H i ⟨vs, h1, h2⟩ hi => by
    have hl : i < vs.length := by rw [h2.length]; rw [enumFrom_len] at hi; exact hi
    exact ⟨vs, vs[i], h1.sq, by simp [hl]⟩
  yld := fun M H i x H' d t ⟨vs, h1, h2⟩ hd y => by
    obtain ⟨T, x', e, hT, eH, hx⟩ := y
    subst e eH
    obtain ⟨d', hd', e⟩ := enumFrom_at hd
    subst e
    obtain ⟨v, hv, q⟩ := h2.at hd'
    have := hx vs h1.sq
    rw [hv] at this
    cases this
    rw [Nat.zero_add]
    exact pairDa t hT rfl q
theorem zip_stop {n m i : Nat} (h : min n m ≤ i) : n ≤ i ∨ m ≤ i := by omega
theorem gives_zipL : Gives K (Itz K a b) (zipD ds es) (fun M H => ∃ vs ws, ColdL M K H a vs ∧ DaAll M K H vs ds ∧ ColdL M K H b ws ∧ DaAll M K H ws es) where
  keep := fun M H M' H' ⟨vs, ws, h1, h2, h3, h4⟩ g => ⟨vs, ws, h1.mono g, h2.mono g, h3.mono g, h4.mono g⟩
  stop := fun M H i ⟨vs, ws, h1, h2, h3, h4⟩ hi => ⟨vs, ws, h1.sq, h3.sq, by rw [h2.length, h4.length]; rw [zipD_len] at hi; exact zip_stop hi⟩
  go := fun M H i ⟨vs, ws, h1, h2, h3, h4⟩ hi => by
    rw [zipD_len] at hi
    have l1 : i < vs.length := by rw [h2.length]; omega
    have l2 : i < ws.length := by rw [h4.length]; omega
    exact ⟨vs, ws, vs[i], ws[i], h1.sq, h3.sq, by simp [l1], by simp [l2]⟩
  yld := fun M H i x H' d t ⟨vs, ws, h1, h2, h3, h4⟩ hd y => by
    obtain ⟨T, x', y', e, hT, eH, hx, hy⟩ := y
    subst e eH
    obtain ⟨d1, d2, q1, q2, e⟩ := zipD_at hd
    subst e
    obtain ⟨v, hv, g1⟩ := h2.at q1
    obtain ⟨w, hw, g2⟩ := h4.at q2
    have e1 := hx vs h1.sq
    have e2 := hy ws h3.sq
    rw [hv] at e1
    rw [hw] at e2
    cases e1
    cases e2
    exact pairDa t hT g1 g2
theorem gives_zipT : Gives K (RZ.ItzT K a b) (zipD ds es) (fun M H => ∃ vs ws, ColdT M K H a vs ∧ DaAll M K H vs ds ∧ ColdT M K H b ws ∧ DaAll M K H ws es) where
  keep := fun M H M' H' ⟨vs, ws, h1, h2, h3, h4⟩ g => ⟨vs, ws, h1.mono g, h2.mono g, h3.mono g, h4.mono g⟩
  stop := fun M H i ⟨vs, ws, h1, h2, h3, h4⟩ hi => ⟨vs, ws, h1.sq, h3.sq, by rw [h2.length, h4.length]; rw [zipD_len] at hi; exact zip_stop hi⟩
  go := fun M H i ⟨vs, ws, h1, h2, h3, h4⟩ hi => by
    rw [zipD_len] at hi
    have l1 : i < vs.length := by rw [h2.length]; omega
    have l2 : i < ws.length := by rw [h4.length]; omega
    exact ⟨vs, ws, vs[i], ws[i], h1.sq, h3.sq, by simp [l1], by simp [l2]⟩
  yld := fun M H i x H' d t ⟨vs, ws, h1, h2, h3, h4⟩ hd y => by
    obtain ⟨T, x', y', e, hT, eH, hx, hy⟩ := y
    subst e eH
    obtain ⟨d1, d2, q1, q2, e⟩ := zipD_at hd
    subst e
    obtain ⟨v, hv, g1⟩ := h2.at q1
    obtain ⟨w, hw, g2⟩ := h4.at q2
    have e1 := hx vs h1.sq
    have e2 := hy ws h3.sq
    rw [hv] at e1
    rw [hw] at e2
    cases e1
    cases e2
    exact pairDa t hT g1 g2
theorem gives_str {z : Str} : Gives K (Its z) (signsD z) (fun _ _ => True) where
  keep := fun _ _ _ _ _ _ => trivial
  stop := fun M H i _ hi => by
    unfold signsD at hi
    rw [List.length_map, Array.length_toList] at hi
    exact hi
  go := fun M H i _ hi => by
    unfold signsD at hi
    rw [List.length_map, Array.length_toList] at hi
    exact hi
  yld := fun M H i x H' d _ _ hd y => by
    obtain ⟨e, c, hc, ex⟩ := y
    subst e ex
    unfold signsD at hd
    rw [List.getElem?_map, Array.getElem?_toList, hc] at hd
    cases hd
    exact ⟨Ext.refl _, rfl⟩
def itemsU : D → Option (List D)
  | .lst ds => some ds
  | .tup ds => some ds
  | .str z => some (signsD z)
  | _ => none
theorem yi_seqU {kk : List D → List Ent → Prop} (h : XE K te ρ fun r ρ1 => ∃ x ds, peek ρ1 r = some x ∧ itemsU x = some ds ∧ ∃ ρ2, frz ρ1 r = ρ2 ∧ kk ds ρ2) : XI K (iSeqU K te) ρ kk := fun F H σ R E q =>
  h F H σ _ E fun v H1 r ρ1 kp Rv ⟨x, ds, px, hi, ρ2, e2, g⟩ => by
    subst e2
    obtain ⟨E2, d2⟩ := Rv.frz px
    have k2 : Keep (hot F σ ρ) H (hot F σ (frz ρ1 r)) H1 := (hotR.hot kp).trans (keep_frz Rv.env)
    cases x with
    | lst es =>
      cases hi
      obtain ⟨a, vs, e, h1, h2⟩ := d2
      exact .inl ⟨a, e, .inl ⟨⟨vs, h1.sq⟩, q _ H1 _ ds _ k2 E2 gives_list ⟨vs, h1, h2⟩ g⟩⟩
    | tup es =>
      cases hi
      obtain ⟨a, vs, e, h1, h2⟩ := d2
      exact .inl ⟨a, e, .inr ⟨⟨vs, h1.sq⟩, q _ H1 _ ds _ k2 E2 gives_tup ⟨vs, h1, h2⟩ g⟩⟩
    | str z =>
      cases hi
      exact .inr ⟨z, d2, q _ H1 _ _ _ k2 E2 gives_str trivial g⟩
    | _ => cases hi
theorem yi_enum {kk : List D → List Ent → Prop} (h : XA K ta ρ fun rs ρ1 => ∃ x ds, peekAll ρ1 rs = some [x] ∧ itemsD x = some ds ∧ ∃ ρ2, frzAll ρ1 rs = ρ2 ∧ kk (enumFrom 0 ds) ρ2) : XI K (iEnuU K ta) ρ kk := fun F H σ R E q =>
  h F H σ _ E fun vs H1 rs ρ1 kp E1 hs ⟨x, ds, px, hi, ρ2, e2, g⟩ => by
    subst e2
    obtain ⟨E2, d2, k2⟩ := HeldAll.frz E1 hs px
    obtain ⟨v, ev, dv⟩ := da1 d2
    subst ev
    have k3 : Keep (hot F σ ρ) H (hot F σ (frzAll ρ1 rs)) H1 := kp.trans k2
    cases x with
    | lst es =>
      cases hi
      obtain ⟨a, vs, rfl, h1, h2⟩ := dv
      exact ⟨a, rfl, .inl ⟨⟨vs, h1.sq⟩, q _ H1 _ _ _ k3 E2 gives_enumL ⟨vs, h1, h2⟩ g⟩⟩
    | tup es =>
      cases hi
      obtain ⟨a, vs, rfl, h1, h2⟩ := dv
      exact ⟨a, rfl, .inr ⟨⟨vs, h1.sq⟩, q _ H1 _ _ _ k3 E2 gives_enumT ⟨vs, h1, h2⟩ g⟩⟩
    | _ => cases hi
/-- two of one kind -/
def sameKind : D → D → Option (List D × List D)
  | .lst ds, .lst es => some (ds, es)
  | .tup ds, .tup es => some (ds, es)
  | _, _ => none
theorem yi_zip {kk : List D → List Ent → Prop} (h : XA K ta ρ fun rs ρ1 => ∃ x y ds es, peekAll ρ1 rs = some [x, y] ∧ sameKind x y = some (ds, es) ∧ ∃ ρ2, frzAll ρ1 rs = ρ2 ∧ kk (zipD ds es) ρ2) : XI K (RZ.iZipA K ta) ρ kk := fun F H σ R E q =>
  h F H σ _ E fun vs H1 rs ρ1 kp E1 hs ⟨x, y, ds, es, px, hi, ρ2, e2, g⟩ => by
    subst e2
    obtain ⟨E2, d2, k2⟩ := HeldAll.frz E1 hs px
    obtain ⟨v, w, ev, dv, dw⟩ := da2 d2
    subst ev
    have k3 : Keep (hot F σ ρ) H (hot F σ (frzAll ρ1 rs)) H1 := kp.trans k2
    cases x with
    | lst es1 =>
      cases y with
      | lst es2 =>
        cases hi
        obtain ⟨a, vs, rfl, h1, h2⟩ := dv
        obtain ⟨b, ws, rfl, h3, h4⟩ := dw
        exact ⟨a, b, vs, ws, rfl, .inl ⟨h1.sq, h3.sq, q _ H1 _ _ _ k3 E2 gives_zipL ⟨vs, ws, h1, h2, h3, h4⟩ g⟩⟩
      | _ => cases hi
    | tup es1 =>
      cases y with
      | tup es2 =>
        cases hi
        obtain ⟨a, vs, rfl, h1, h2⟩ := dv
        obtain ⟨b, ws, rfl, h3, h4⟩ := dw
        exact ⟨a, b, vs, ws, rfl, .inr ⟨h1.sq, h3.sq, q _ H1 _ _ _ k3 E2 gives_zipT ⟨vs, ws, h1, h2, h3, h4⟩ g⟩⟩
      | _ => cases hi
    | _ => cases hi

/-! ### list(range(..)) -/
theorem da_rgV {M : Addr → Prop} {H : Hp} {lo hi : Int} : DaAll M K H (rgV lo hi) (rngD lo (hi - lo).toNat) := by
  unfold rgV rngD
  generalize List.range (hi - lo).toNat = l
  induction l with
  | nil => exact rfl
  | cons i l ih => exact ⟨_, _, rfl, rfl, ih⟩
theorem rgV_eq {M : Addr → Prop} {H : Hp} {p : Addr} {lo hi : Int} (hp : H p = none) : Ext H (upd H p (.lst (rgV lo hi))) ∧ ResV M K H (upd H p (.lst (rgV lo hi))) (.ref p) (.nw (.lst (rngD lo (hi - lo).toNat))) := ⟨Ext.new hp, newL da_rgV hp⟩
theorem ye_rg1 {k : KE} (h : XE K te ρ fun r ρ1 => ∃ n : Int, r = .d (.int n) ∧ RgOk 0 n ∧ k (.nw (.lst (rngD 0 n.toNat))) ρ1) : XE K (tLstRg (tRg1 te)) ρ k := fun F H σ Q E q =>
  h F H σ _ E fun v H1 r ρ1 kp R ⟨n, er, ok, g⟩ => by
    subst er
    obtain ⟨E1, hv⟩ := R
    refine ⟨n, hv, ok, fun p hp => ?_⟩
    obtain ⟨e, z⟩ := rgV_eq (M := hot F σ ρ1) (K := K) (lo := 0) (hi := n) hp
    rw [show n - 0 = n by omega] at z
    exact q _ _ (.nw (.lst (rngD 0 n.toNat))) ρ1 (hotR.res (hotR.hot kp) e z) (ResV.rv E1 e z) g
theorem ye_rg2 {k : KE} {tb : TE} (h : XE K te ρ fun r ρ1 => ∃ m : Int, r = .d (.int m) ∧ XE K tb ρ1 fun r2 ρ2 => ∃ n : Int, r2 = .d (.int n) ∧ RgOk m n ∧ k (.nw (.lst (rngD m (n - m).toNat))) ρ2) : XE K (tLstRg (tRg2 te tb)) ρ k := fun F H σ Q E q =>
  h F H σ _ E fun v H1 r ρ1 kp R ⟨m, er, h2⟩ => by
    subst er
    obtain ⟨E1, hv⟩ := R
    refine h2 F H1 σ _ E1 fun w H2 r2 ρ2 kp2 R2 ⟨n, er2, ok, g⟩ => ?_
    subst er2
    obtain ⟨E2, hw⟩ := R2
    refine ⟨m, n, hv, hw, ok, fun p hp => ?_⟩
    obtain ⟨e, z⟩ := rgV_eq (M := hot F σ ρ2) (K := K) (lo := m) (hi := n) hp
    exact q _ _ (.nw (.lst (rngD m (n - m).toNat))) ρ2 (hotR.res ((hotR.hot kp).trans (hotR.hot kp2)) e z) (ResV.rv E2 e z) g
end

theorem ex_zip {o : Option (List D)} {P : List D → List D → Prop} {x y : D} {ds es : List D} (e : o = some [x, y]) (e2 : sameKind x y = some (ds, es)) (g : P ds es) : ∃ x y ds es, o = some [x, y] ∧ sameKind x y = some (ds, es) ∧ P ds es := ⟨x, y, ds, es, e, e2, g⟩
/-! ### t[::-1] -/
section
variable {prog : Program} {w : World} {A : Around} {E : Value → Shared → Prop} {s : Shared}
theorem adjust_rev (n : Nat) : Builtin.Slice.sliceAdjust none none (-1) (n : Int) = ((n : Int) - 1, -1) := rfl
theorem places_rev (n : Nat) : Builtin.Slice.slicePlaces ((n : Int) - 1) (-1) (-1) = n := by
  unfold Builtin.Slice.slicePlaces
  rw [if_neg (by decide)]
  by_cases h : (n : Int) - 1 > -1
  · rw [if_pos h]
    have e : ((n : Int) - 1 - -1 - 1) / (- -1) + 1 = (n : Int) := by
      rw [show (- -1 : Int) = 1 by decide, Int.ediv_one]
      omega
    rw [e, Int.toNat_natCast]
  · rw [if_neg h]
    have : n = 0 := by omega
    subst this
    rfl
theorem pick_rev (xs : Array Value) : ((List.range xs.size).filterMap fun (k : Nat) => xs[(((xs.size : Int) - 1) + (k : Int) * (-1)).toNat]?).toArray = xs.toList.reverse.toArray := by
  congr 1
  rw [← PySem.W.krv_all xs, ← List.filterMap_reverse, ← PySem.W.krv_range, List.filterMap_map]
  have cg : ∀ (l : List Nat), (∀ k ∈ l, k < xs.size) → l.filterMap (fun (k : Nat) => xs[(((xs.size : Int) - 1) + (k : Int) * (-1)).toNat]?) = l.filterMap ((fun x => xs[x]?) ∘ fun k => xs.size - 1 - k) := by
    intro l
    induction l with
    | nil => intro _; rfl
    | cons k l ih =>
      intro h
      have e : (((xs.size : Int) - 1) + (k : Int) * (-1)).toNat = xs.size - 1 - k := by
        have := h k (List.mem_cons_self ..)
        omega
      rw [List.filterMap_cons, List.filterMap_cons, ih fun k hk => h k (List.mem_cons_of_mem _ hk), e]
      rfl
  exact cg _ fun k hk => List.mem_range.mp hk
theorem getItem_tuple_rev {t sl : Addr} {items : Array Value} {vl vu vs : Value} {Q : Value → Shared → Prop} (ht : IsTup s.heap t items) (hs : s.heap.IsSliceOf sl vl vu vs) (pl : IsPart vl none) (pu : IsPart vu none) (ps : IsPart vs (some (-1)))
    (h : Q (.ref s.heap.objs.size) { s with heap := s.heap.push { cls := .type "tuple", data := .seq items.toList.reverse.toArray } })
    (hsz : items.size ≤ sizeLine) : wpAny (model prog w) A (getItem (.ref t) (.ref sl)) Q E s := by
  have htake : sizeOk (.seq items.toList.reverse.toArray) := by
    show items.toList.reverse.toArray.size ≤ sizeLine
    rw [List.size_toArray, List.length_reverse, Array.length_toList]
    exact hsz
  obtain ⟨os, hos, hcs, hds⟩ := id hs
  have hTs : s.TypeIs (.ref sl) "slice" := ⟨os, hos, hcs⟩
  unfold getItem
  try with_reducible refine wpAny_holding ?_
  first | refine wpAny_bind (wpAny_pure ?_) | skip
  refine wpAny_bind (wpAny_sequenceKey ht.typeIs (by decide) ?_)
  refine wpAny_bind (wpAny_callSpecial?_slot (name := Str.ofString "__getitem__") ht.typeIs PyProof.Rows.slot_tuple_getitem
    (wpAny_call_entry PyProof.Rows.slot_tuple_getitem ht.typeIs entry_tuple_getitem ?_ (args_tuple_getitem _ _)))
  show wpAny _ _ (Builtin.Tuple.tupleItemsOf (.ref t) >>= _) _ _ s
  refine wpAny_bind (tupleItemsOf_ ht ?_)
  refine wpAny_bind (wpAny_typeOf hTs ?_)
  rw [if_pos (by decide)]
  refine wpAny_bind ?_
  unfold Builtin.Slice.sliceApplied Builtin.Slice.sliceFields
  refine wpAny_bind (wpAny_bind (wpAny_field hos hds (x := vl) rfl (wpAny_bind (wpAny_field hos hds (x := vu) rfl (wpAny_bind (wpAny_field hos hds (x := vs) rfl (wpAny_pure ?_)))))))
  refine wpAny_bind (HT.slicePart_ ps ?_)
  show wpAny _ _ (if ((-1 : Int) == 0) = true then _ else _) _ _ s
  rw [if_neg (by decide)]
  refine wpAny_bind (HT.slicePart_ pl (wpAny_bind (HT.slicePart_ pu (wpAny_bind (wpAny_pure ?_)))))
  show wpAny _ _ (match Builtin.Slice.sliceAdjust none none (-1) (items.size : Int) with | (lo, hi) => pure (lo, (-1 : Int), Builtin.Slice.slicePlaces lo hi (-1))) _ _ s
  rw [adjust_rev]
  show wpAny _ _ (pure (((items.size : Int) - 1), (-1 : Int), Builtin.Slice.slicePlaces ((items.size : Int) - 1) (-1) (-1))) _ _ s
  rw [places_rev]
  refine wpAny_pure ?_
  have hno : ¬ ((((items.size : Int) - 1) == 0 && (-1 : Int) == 1 && items.size == items.size) = true) := by
    intro q
    rw [Bool.and_eq_true, Bool.and_eq_true] at q
    exact absurd (eq_of_beq q.1.2) (by decide)
  show wpAny _ _ (if (((items.size : Int) - 1) == 0 && (-1 : Int) == 1 && items.size == items.size) = true then _ else _) _ _ s
  rw [if_neg hno, pick_rev]
  first
    | exact wpAny_bind (m := Builtin.Tuple.tupleExact _) (wpAny_newObj_type (wpAny_pure ⟨_, rfl, wpAny_pure h⟩) htake)
    | exact wpAny_bind (m := Builtin.Tuple.tupleExact _) (wpAny_newObj_type (wpAny_bind (wpAny_pure (wpAny_pure ⟨_, rfl, wpAny_pure h⟩))) htake)
    | exact wpAny_bind (wpAny_bind (m := Builtin.Tuple.tupleExact _) (wpAny_newObj_type (wpAny_pure (wpAny_pure ⟨_, rfl, wpAny_pure h⟩)) htake))
    | exact wpAny_bind (wpAny_bind (m := Builtin.Tuple.tupleExact _) (wpAny_newObj_type (wpAny_pure ⟨_, rfl, wpAny_pure h⟩) htake))
end
def tRevT (K : PySem.W.Frag) (te : TE) : TE := fun σ H Q => te σ H fun x H1 => ∃ a xs, x = .ref a ∧ SqT K H1 a xs ∧ ∀ p, H1 p = none → Q (.ref p) (upd H1 p (.tup xs.reverse))
theorem pe_revT {X : Cx} {e : Expr} {te : TE} {k : Nat} {p1 p2 p3 pos : Pos} (he : PE X e te) : PE X (.Subscript e (.Slice none none (some (.UnaryOp .USub (.Constant (.int 1) k p1) p2)) p3) pos) (tRevT X.K te) := by
  refine ⟨fun pins s σ H Q I h => ?_⟩
  refine Subscript_ (thn (he.run pins s σ H _ I h) fun v s1 ⟨x, H1, I1, r1, q1⟩ => ?_)
  obtain ⟨a, xs, ex, hx, q⟩ := q1
  subst ex
  cases r1
  have hst : PO X (some (.UnaryOp .USub (.Constant (.int 1) k p1) p2)) (tPart (tUn (rU fun i => .int (-i)) (tC (.int 1)))) := po_some (pe_un un_neg pe_int)
  refine wpAny_Slice (thn (po_none.run pins s1 σ H1 (fun o H2 => o = none ∧ H2 = H1) I1 ⟨rfl, rfl⟩) fun vl s2 ⟨l, H2, I2, pl, el, e2⟩ => ?_)
  subst el e2
  refine thn (po_none.run pins s2 σ H2 (fun o H3 => o = none ∧ H3 = H2) I2 ⟨rfl, rfl⟩) fun vu s3 ⟨u, H3, I3, pu, eu, e3⟩ => ?_
  subst eu e3
  refine thn (hst.run pins s3 σ H3 (fun o H4 => o = some (-1) ∧ H4 = H3) I3 ⟨1, rfl, -1, rfl, rfl, rfl⟩) fun vs s4 ⟨o, H4, I4, ps, eo, e4⟩ => ?_
  subst eo e4
  have I5 : Inv X pins σ H4 { s4 with heap := s4.heap.push { cls := .type "slice", data := .fields #[vl, vu, vs] } } := I4.kept (t' := s4.toks) fun b ob q => Heap.get?_push_of_some _ q
  obtain ⟨its, r, ht, hz⟩ := I5.tuple hx
  have hlen := r.length
  show wpAny (model X.prog X.w) X.A (subscriptTail e (.Slice none none (some (.UnaryOp .USub (.Constant (.int 1) k p1) p2)) p3) (.ref a) (.ref s4.heap.objs.size)) (EP X pins σ Q) X.xe { s4 with heap := s4.heap.push { cls := .type "slice", data := .fields #[vl, vu, vs] } }
  refine tail_any (ops := [.ref a, .ref s4.heap.objs.size]) ht.typeIs (PyProof.Rows.slot_tuple_getitem.lookup) ?_ (by with_unfolding_all rfl)
  refine getItem_tuple_rev ht (Heap.IsSliceOf.new _ vl vu vs) pl pu ps ?_ (by rw [List.size_toArray]; omega)
  refine ⟨.ref _, _, I5.laid (t' := s4.toks) (o := .tup xs.reverse) (fun b ob q => Heap.get?_push_of_some _ q) (Nat.le_refl _) ?_, rfl, q _ (I5.hok.fresh (Nat.le_refl _))⟩
  exact ⟨by rw [List.length_reverse]; exact hz, _, r.reverse, IsTup.new _ _⟩
theorem ye_revT {K : PySem.W.Frag} {ρ : List Ent} {te : TE} {k : KE} (h : XE K te ρ fun r ρ1 => ∃ ds, peek ρ1 r = some (.tup ds) ∧ ∃ ρ2, frz ρ1 r = ρ2 ∧ k (.d (.tup ds.reverse)) ρ2) : XE K (tRevT K te) ρ k := fun F H σ Q E q =>
  h F H σ _ E fun v H1 r ρ1 kp Rv ⟨ds, px, ρ2, e2, g⟩ => by
    subst e2
    obtain ⟨E2, d2⟩ := Rv.frz px
    have k2 : Keep (hot F σ ρ) H (hot F σ (frz ρ1 r)) H1 := (hotR.hot kp).trans (keep_frz Rv.env)
    obtain ⟨a, vs, e, h1, h2⟩ := d2
    refine ⟨a, vs, e, h1.sq, fun p hp => ?_⟩
    have e : Ext H1 (upd H1 p (.tup vs.reverse)) := Ext.new hp
    refine q _ _ (.d (.tup ds.reverse)) _ (hotR.d (k2.trans (Keep.ext e))) ⟨E2.ex e, ?_⟩ g
    exact Da.newT h2.reverse hp fun z => E2.hotTrk p z hp
end PW
end
section
/-! PWRev: tuple(reversed(t)), t a tuple. -/
namespace PW
open PySem PySem.Spec PyProof.Rows RT
theorem rt_nolen : typeLookup (.type "reversed") "__len__" = pure none := by rw [typeLookup_type, builtinLookup_eq_fast]; kernel_rfl
theorem rt_hint : Slot "reversed" "__length_hint__" "reversed.__length_hint__" :=
  .of (owner := "reversed") (n := "__length_hint__") (by rw [typeLookup_type, builtinLookup_eq_fast]; kernel_rfl) (by decide +kernel) (by decide +kernel) (by decide +kernel)
    (by first | exact .inl (by decide +kernel) | exact .inr (by decide +kernel)) (by rw [isSubtype_type]; kernel_rfl)
theorem rt_hint_entry : entryFor table "reversed.__length_hint__" = some Builtin.«reversed.__length_hint__» := entryFor_of_tree (by kernel_rfl)
theorem rt_hint_args (a : Value) : argsOk "reversed.__length_hint__" ⟨[a], []⟩ := by unfold argsOk; kernel_rfl
theorem rt_walks {prog : Program} {w : World} {A : Around} (hh : A.handled = none) (I t : Addr) (hne : t ≠ I) (items : Array Value) (hsz : items.size ≤ sizeLine) :
    Walks prog w A I [I, t] [I] items.size (fun i v => items[items.size - 1 - i]? = some v) (fun i h => i ≤ items.size ∧ IsRt h I t ((items.size : Int) - 1 - (i : Int)) ∧ IsTup h t items) where
  sub := fun b hb => by simp at hb; simp [hb]
  frame := fun _ _ _ x hk => ⟨x.1, x.2.1.at fun o e => hk I (by simp) o e, by obtain ⟨o, ho, r⟩ := x.2.2; exact ⟨o, hk t (by simp) o ho, r⟩⟩
  item := fun i s Q E hi x hQ => by
    have e : (items.size : Int) - 1 - (i : Int) = ((items.size - 1 - i : Nat) : Int) := by omega
    have hit := x.2.1
    rw [e] at hit
    have hx : items[items.size - 1 - i]? = some (items[items.size - 1 - i]'(by omega)) := Array.getElem?_eq_getElem (by omega)
    refine next_rt_item hit x.2.2 hx hsz fun h' hit' hs' => ?_
    have e2 : ((items.size - 1 - i : Nat) : Int) - 1 = (items.size : Int) - 1 - ((i + 1 : Nat) : Int) := by omega
    rw [e2] at hit'
    exact hQ _ h' (s.toks + 1) hx ⟨hi, hit', by obtain ⟨o, ho, r⟩ := x.2.2; exact ⟨o, (hs'.2 t hne).trans ho, r⟩⟩ fun b o hb eo => hs'.extBut b o (fun h => hb (by simp [h])) eo
  done := fun s Q E x hQ => by
    have e : (items.size : Int) - 1 - (items.size : Int) = -1 := by omega
    have hit := x.2.1
    rw [e] at hit
    exact next_rt_end hh hit fun h' he' => hQ h' s.toks fun b o hb eo => he' b o (fun h => hb (by simp [h])) eo
  self := fun _ _ _ _ x hQ => iter_rt x.2.1 hQ
section
variable {prog : Program} {w : World} {A : Around} {E : Value → Shared → Prop} {s : Shared}
theorem rt_hint_run {it t : Addr} {items : Array Value} {P : Fin → Shared → Prop} (hit : IsRt s.heap it t ((items.size : Int) - 1)) (ht : IsTup s.heap t items) (hsz : items.size ≤ sizeLine)
    (hP : ∀ tk u, P (.done (.ret (.int items.size u))) { s with toks := tk }) : wpAny (model prog w) A (Builtin.«reversed.__length_hint__» ⟨[.ref it], []⟩) P E s := by
  obtain ⟨o, ho, hc, hd⟩ := id hit
  rw [sizeLine_eq] at hsz
  unfold Builtin.«reversed.__length_hint__»
  refine wpAny_bind (wpAny_of_eq (a := Value.ref it) rfl ?_)
  try dsimp only
  refine wpAny_bind (wpAny_field ho hd (x := .ref t) rfl ?_)
  try dsimp only
  rw [if_neg (show ¬ ((Value.ref t == Value.none) = true) from by simp)]
  try dsimp only
  refine wpAny_bind (len_tuple ht (by omega) ?_)
  try dsimp only
  refine wpAny_bind (wpAny_of_eq (a := some ((items.size : Nat) : Int)) rfl ?_)
  try dsimp only
  refine wpAny_bind (wpAny_field (s := { s with toks := s.toks + 1 + 1 }) ho hd (x := rawInt ((items.size : Int) - 1)) rfl ?_)
  show wpAny _ _ (if ((items.size : Nat) : Int) < (items.size : Int) - 1 + 1 then _ else _) _ _ _
  rw [if_neg (by omega), show (items.size : Int) - 1 + 1 = items.size by omega]
  show wpAny _ _ (mkInt _ >>= fun v => ret v) _ _ _
  refine wpAny_bind (wpAny_mkInt ?_)
  exact wpAny_pure (hP _ _)
theorem rt_collect {it t : Addr} {items : Array Value} {Q : List Value → Shared → Prop} (hh : A.handled = none) (hit : IsRt s.heap it t ((items.size : Int) - 1)) (ht : IsTup s.heap t items) (hne : t ≠ it) (hn : items.size ≤ sizeLine)
    (hQ : ∀ (h' : Heap) (tk : Nat) (acc : Array Value), (∀ b o, b ≠ it → s.heap.get? b = some o → h'.get? b = some o) → ItemsOf (fun i v => items[items.size - 1 - i]? = some v) acc items.size → Q acc.toList { s with heap := h', toks := tk }) :
    wpAny (model prog w) A (collect (.ref it)) Q E s := by
  have W := (rt_walks (prog := prog) (w := w) (A := A.in1) hh it t hne items hn).toS
  obtain ⟨oi, hoi, _⟩ := id hit
  obtain ⟨ol, hol, _⟩ := id ht
  have hSi : s.heap.objs.size ≠ it := Nat.ne_of_gt (Heap.lt_size hoi)
  have hSt : s.heap.objs.size ≠ t := Nat.ne_of_gt (Heap.lt_size hol)
  have hSf : s.heap.objs.size ∉ [it, t] := by simp only [List.mem_cons, List.not_mem_nil, or_false, not_or]; exact ⟨hSi, hSt⟩
  unfold collect
  refine wpAny_bind (wpAny_runValue (codeAny_builtin F.entry_proto_collect ?_))
  rw [Around.under_plainId F.plain_proto_collect _]
  show wpAny _ A.in1 (newList [] >>= fun l' => again (.builtin "list.__iadd__" ⟨[l', .ref it], []⟩)) _ _ s
  refine wpAny_bind (wpAny_newObj_type ?_)
  refine wpAny_pure ⟨plainId_quiet F.plain_list_iadd _, codeAny_builtin F.entry_list_iadd ?_⟩
  rw [Around.under_plainId F.plain_list_iadd _]
  have k1 : ∀ b o, s.heap.get? b = some o → (s.heap.push { cls := .type "list", data := .seq ([] : List Value).toArray }).get? b = some o := fun b o e => Heap.get?_push_of_some _ e
  have hS₁ : (s.heap.push { cls := .type "list", data := .seq ([] : List Value).toArray }).get? s.heap.objs.size = some { cls := .type "list", data := .seq ([] : List Value).toArray } := Heap.get?_push_size _ rfl
  have hit1 : IsRt (s.heap.push { cls := .type "list", data := .seq ([] : List Value).toArray }) it t ((items.size : Int) - 1) := hit.at fun o e => k1 _ o e
  have ht1 : IsTup (s.heap.push { cls := .type "list", data := .seq ([] : List Value).toArray }) t items := ht.keeps k1
  have hT : ∀ tk, ({ s with heap := s.heap.push { cls := .type "list", data := .seq ([] : List Value).toArray }, toks := tk } : Shared).TypeIs (.ref it) "reversed" := fun tk => by
    obtain ⟨o, ho, hc, _⟩ := hit1
    exact ⟨o, ho, hc⟩
  have h1 : Builtin.List.listSameRef (.ref s.heap.objs.size) (.ref it) = false := by simp [Builtin.List.listSameRef, hSi]
  show wpAny _ A.in1 (Builtin.List.listExtendWith (.ref s.heap.objs.size) (.ref it) (.ref s.heap.objs.size)) _ _ _
  unfold Builtin.List.listExtendWith
  refine wpAny_bind (wpAny_typeOf (hT _) ?_)
  rw [if_neg (by rw [h1]; decide)]
  refine wpAny_bind (iter_rt (s := { s with heap := s.heap.push { cls := .type "list", data := .seq ([] : List Value).toArray } }) hit1 ?_)
  refine wpAny_bind (wpAny_holding ?_)
  unfold Builtin.List.listLengthHint
  refine wpAny_bind (wpAny_specialOf (hT _) rt_nolen ?_)
  show wpAny _ A.in1 (specialOf (Value.ref it) (Str.ofString "__length_hint__") >>= _) _ _ _
  refine wpAny_bind (wpAny_specialOf (hT _) rt_hint.lookup ?_)
  generalize hid : ("reversed.__length_hint__" : String) = id0
  wp_delta
  rw [show splitId id0 = some ("reversed", "__length_hint__") from by subst hid; decide +kernel]
  subst hid
  refine wpAny_bind (wpAny_isInstance (b := true) (hT _) (by rw [isSubtype_type]; kernel_rfl) ?_)
  rw [if_neg (show ¬ ((!true) = true) from by decide)]
  try dsimp only
  rw [if_neg (by decide)]
  refine wpAny_bind (wpAny_rule ?_)
  refine wpAny_bind (wpAny_of_eq (rt_hint.bind _) ?_)
  try dsimp only
  refine wpAny_bind (wpAny_attempt (wpAny_call_entry rt_hint (hT _) rt_hint_entry (rt_hint_run (s := { s with heap := s.heap.push { cls := .type "list", data := .seq ([] : List Value).toArray } }) hit1 ht1 hn fun tk u => ?_) (rt_hint_args _)))
  refine ⟨_, rfl, ?_⟩
  try dsimp only
  have ea : ∀ z : Int, asInt? (Value.int z u) = pure (some z) := fun z => rfl
  rw [ea]
  rw [pure_bind]
  try dsimp only
  have hn' := hn
  rw [sizeLine_eq] at hn'
  rw [if_neg (show ¬ ((!Builtin.List.listFitsIndex ((items.size : Nat) : Int)) = true) from by
      have e : Builtin.List.listFitsIndex ((items.size : Nat) : Int) = true := by
        unfold Builtin.List.listFitsIndex
        rw [decide_eq_true (by omega), decide_eq_true (by omega)]
        rfl
      rw [e]
      decide), if_neg (show ¬ (((items.size : Nat) : Int) < 0) from by omega), if_neg (show ¬ (Builtin.List.listTooLong (((items.size : Nat) : Int)).toNat = true) from by
      unfold Builtin.List.listTooLong
      rw [decide_eq_false (by rw [Int.toNat_natCast]; omega)]
      exact Bool.false_ne_true)]
  refine wpAny_pure ?_
  have e0 : ((items.size : Nat) : Int) - 1 - ((0 : Nat) : Int) = (items.size : Int) - 1 := by omega
  have oth1 : ∀ b o, s.heap.get? b = some o → b ≠ s.heap.objs.size := fun b o e => Nat.ne_of_lt (Heap.lt_size e)
  cases hz : (((items.size : Nat) : Int) != 0) with
  | false =>
    rw [if_neg (by decide)]
    refine wpAny_pure ⟨plainId_quiet F.plain_extend_loop _, codeAny_extend_loopS W hn _ hSf _ items.size 0 _ _ _ rfl (Nat.zero_le _) ⟨Nat.zero_le _, by rw [e0]; exact hit1, ht1⟩ hS₁ (ItemsOf.nil _) fun s' acc' c' hm hS' hacc => ?_⟩
    show wpAny _ A (load s.heap.objs.size >>= _) _ _ s'
    refine wpAny_bind (wpAny_load hS' (wpAny_pure ?_))
    rw [Moved.eq_with hm]
    refine hQ s'.heap s'.toks acc' (fun b o hb e => hm.heap b o (fun hmem => ?_) (k1 b o e)) hacc
    rcases List.mem_cons.mp hmem with e' | hmem
    · exact oth1 b o e e'
    · exact hb (List.mem_singleton.mp hmem)
  | true =>
    rw [if_pos (Bool.true_or _)]
    refine wpAny_bind (wpAny_rule ?_)
    refine wpAny_bind ?_
    show wpAny _ A.in1 (updateSeq s.heap.objs.size (·.push .none) >>= fun _ => updateSeq s.heap.objs.size (·.pop)) _ _ _
    refine wpAny_bind (wpAny_updateSeq hS₁ rfl ?_)
    have hS₂ := Heap.get?_update_self (Obj.mapSeq (·.push Value.none)) hS₁ rfl
    refine wpAny_updateSeq hS₂ rfl ?_
    have hS₃ := Heap.get?_update_self (Obj.mapSeq (·.pop)) hS₂ rfl
    have oth : ∀ b o, b ≠ s.heap.objs.size → (s.heap.push { cls := .type "list", data := .seq ([] : List Value).toArray }).get? b = some o →
        (((s.heap.push { cls := .type "list", data := .seq ([] : List Value).toArray }).update s.heap.objs.size (Obj.mapSeq (·.push Value.none))).update s.heap.objs.size (Obj.mapSeq (·.pop))).get? b = some o :=
      fun b o hb e => (Heap.get?_update_other _ _ (Ne.symm hb)).trans ((Heap.get?_update_other _ _ (Ne.symm hb)).trans e)
    refine wpAny_pure ⟨plainId_quiet F.plain_extend_loop _, codeAny_extend_loopS W hn _ hSf _ items.size 0 _ _ _ rfl (Nat.zero_le _) ⟨Nat.zero_le _, by rw [e0]; exact hit1.at fun o e => oth _ _ (Ne.symm hSi) e, by obtain ⟨o, ho, r⟩ := ht1; exact ⟨o, oth _ _ (Ne.symm hSt) ho, r⟩⟩ hS₃ (ItemsOf.nil _) fun s' acc' c' hm hS' hacc => ?_⟩
    show wpAny _ A (load s.heap.objs.size >>= _) _ _ s'
    refine wpAny_bind (wpAny_load hS' (wpAny_pure ?_))
    rw [Moved.eq_with hm]
    refine hQ s'.heap s'.toks acc' (fun b o hb e => hm.heap b o (fun hmem => ?_) (oth _ _ (oth1 b o e) (k1 b o e))) hacc
    rcases List.mem_cons.mp hmem with e' | hmem
    · exact oth1 b o e e'
    · exact hb (List.mem_singleton.mp hmem)
theorem rt_tuple_new {it t : Addr} {items : Array Value} {Q₁ : Value → Shared → Prop} (hh : A.handled = none) (hit : IsRt s.heap it t ((items.size : Int) - 1)) (ht : IsTup s.heap t items) (hne : t ≠ it) (hn : items.size ≤ sizeLine)
    (h : ∀ (h' : Heap) (tk : Nat) (acc : Array Value), (∀ b o, b ≠ it → s.heap.get? b = some o → h'.get? b = some o) → ItemsOf (fun i v => items[items.size - 1 - i]? = some v) acc items.size →
      Q₁ (.ref h'.objs.size) { s with heap := h'.push { cls := .type "tuple", data := .seq acc }, toks := tk }) :
    codeAny (model prog w) A (.call (.builtin "tuple.__new__") ⟨[.type "tuple", .ref it], []⟩) (wants Q₁ E) s := by
  refine codeAny_of_tree ?_
  show wpAny _ A.in1 (do checkBuiltinCall "tuple.__new__" ⟨[.type "tuple", .ref it], []⟩; again (.builtin "tuple.__new__" ⟨[.type "tuple", .ref it], []⟩)) _ _ s
  refine wpAny_bind (wpAny_of_eq (F.newCall_tuple_1 _) (wpAny_pure ⟨plainId_quiet F.plain_tuple_new _, codeAny_builtin F.entry_tuple_new ?_⟩))
  rw [Around.under_plainId F.plain_tuple_new _]
  have hsub := sub_tuple_self
  have hinit := init_tuple_lookup
  have hmh := madeHere_tuple
  have hTI : s.TypeIs (.ref it) "reversed" := hit.typeIs
  have hh1 : A.in1.handled = none := hh
  wp_walk using wpAny_typeOf hTI, rt_collect (A := A.in1) hh1 hit ht hne hn
  intro h' tk acc hk hacc
  show wpAny _ _ (Builtin.Tuple.tupleExact acc.toList.toArray >>= fun v => ret v) _ _ _
  unfold Builtin.Tuple.tupleExact
  refine wpAny_bind (wpAny_newObj_type ?_ (by show acc.toList.toArray.size ≤ sizeLine; simp only [Array.toArray_toList]; rw [hacc.1]; exact hn))
  refine wpAny_pure ?_
  have e : acc.toList.toArray = acc := by simp
  rw [e]
  exact h h' tk acc hk hacc
theorem rt_call_tuple {it t : Addr} {items : Array Value} {Q : Value → Shared → Prop} (hh : A.handled = none) (hit : IsRt s.heap it t ((items.size : Int) - 1)) (ht : IsTup s.heap t items) (hne : t ≠ it) (hn : items.size ≤ sizeLine)
    (hQ : ∀ (h' : Heap) (tk : Nat) (acc : Array Value), (∀ b o, b ≠ it → s.heap.get? b = some o → h'.get? b = some o) → ItemsOf (fun i v => items[items.size - 1 - i]? = some v) acc items.size →
      Q (.ref h'.objs.size) { s with heap := h'.push { cls := .type "tuple", data := .seq acc }, toks := tk }) :
    wpAny (model prog w) A (call (.type "tuple") [.ref it]) Q E s := by
  refine callType_codes (Q₁ := fun obj s₁ => s₁.TypeIs obj "tuple" ∧ Q obj s₁) F.called_tuple (F.typeCall_tuple_1 _) F.entry_object_init
    (rt_tuple_new (A := A.in1) hh hit ht hne hn fun h' tk acc hk hacc => ⟨⟨_, Heap.get?_push_size _ rfl, rfl⟩, hQ h' tk acc hk hacc⟩) fun obj s₁ h₁ => ?_
  exact ⟨h₁.1, F.args_object_init_2 obj _, object_init_meets F.called_tuple.init.lookup F.called_tuple.made (by decide) prog w A.in1 _ s₁ ⟨h₁.1, rfl, h₁.2⟩⟩
end
section
open L2
/-- tuple(reversed(x)), x a tuple -/
def tTupRevT (K : PySem.W.Frag) (te : TE) : TE := fun σ H Q => te σ H fun v H1 => ∃ (a : Addr) (xs : List V), v = .ref a ∧ SqT K H1 a xs ∧ ∀ q, H1 q = none → Q (.ref q) (upd H1 q (.tup xs.reverse))
variable {X : Cx}
theorem pe_tupRevT {e : Expr} {te : TE} {p p2 pos pos2 : Pos} (hc : X.calm = true) (hg : Gl X "tuple") (hm : X.mg "tuple" = none) (hg2 : Gl X "reversed") (hm2 : X.mg "reversed" = none) (he : PE X e te)
    (hs : starEach [e] X.env = (false, eval e X.env) :: starEach [] X.env := by rfl)
    (hs2 : starEach [.Call (.Name "reversed" p2) [e] [] pos2] X.env = (false, eval (.Call (.Name "reversed" p2) [e] [] pos2) X.env) :: starEach [] X.env := by rfl) :
    PE X (.Call (.Name "tuple" p) [.Call (.Name "reversed" p2) [e] [] pos2] [] pos) (tTupRevT X.K te) := by
  refine ⟨fun pins s σ H Q I h => ?_⟩
  refine Call_ (ld_blt I hg hm boot_tuple (PyProof.Rows.callWith_type1 (args_cons (Call_ (ld_blt I hg2 hm2 PyProof.Rows.boot_reversed (PyProof.Rows.callWith_type1 (args_cons (thn (he.run pins s σ H _ I h) fun u s1 ⟨v, H1, I1, r1, q1⟩ => args_nil ?_) hs) hs rfl))) hs2) hs2 rfl))
  obtain ⟨a, xs, ev, hq, q⟩ := q1
  subst ev
  obtain rfl : u = Value.ref a := r1
  obtain ⟨its, rv, p', hz⟩ := I1.tuple hq
  have hlv := rv.length
  have hsl := hz
  rw [sizeLine_eq] at hsl
  refine call_reversed_tup p' (fun A E Q k => len_tuple p' (by simp only [List.size_toArray] <;> omega) k) (args_nil ?_)
  have k0 : ∀ b o, s1.heap.get? b = some o → (s1.heap.push (rtObj a ((its.toArray.size : Int) - 1))).get? b = some o := fun b o e => Heap.get?_push_of_some _ e
  have I2 : Inv X pins σ H1 { s1 with heap := s1.heap.push (rtObj a ((its.toArray.size : Int) - 1)), toks := s1.toks + 1 + 1 } := I1.kept (t' := s1.toks + 1 + 1) k0
  obtain ⟨f0, f1, f2, f3, f4, f5⟩ := I1.fpOk (H' := H1) (b := s1.heap.objs.size) (Nat.le_refl _) (I1.hok.fresh (Nat.le_refl _))
  obtain ⟨ol, hol, _⟩ := id p'
  have hne : a ≠ s1.heap.objs.size := Nat.ne_of_lt (Heap.lt_size hol)
  have hn : its.toArray.size ≤ sizeLine := by rw [List.size_toArray, ← rv.length]; exact hz
  refine rt_call_tuple (s := { s1 with heap := s1.heap.push (rtObj a ((its.toArray.size : Int) - 1)), toks := s1.toks + 1 + 1 }) (I1.ok.hd hc) ⟨_, Heap.get?_push_size _ rfl, rfl, rfl⟩ (IsTup.keeps p' k0) hne hn fun h' tk acc hk hi => ?_
  have I3 : Inv X pins σ H1 { s1 with heap := h', toks := tk } := I2.turned (t' := tk) (fun b o hb e => hk b o hb e) f0 f1 f3 f4 f5
  refine ⟨.ref h'.objs.size, upd H1 h'.objs.size (.tup xs.reverse), I3.laid (t' := tk) (fun c o e => Heap.get?_push_of_some _ e) (Nat.le_refl _) (show ObjOk X.prog X.w _ _ _ (.tup xs.reverse) from ⟨by rw [List.length_reverse]; exact hz, acc.toList, vals_rev rv hi, ?_⟩), rfl, q _ (I3.hok.fresh (Nat.le_refl _))⟩
  rw [Array.toArray_toList]
  exact IsTup.new _ _
end
end PW
end
section
/-! PW: plain laws on data; comprehensions in plain forms. -/
namespace PW
open PySem PySem.Spec PyProof.Rows L2

/-! ### built-in data of small sizes -/
mutual
/-- no objects, no tables with keys; texts and sequences of at most 100000 -/
def D.jn : D → Bool
  | .str s => decide (s.length ≤ 100000)
  | .tup xs => decide (xs.length ≤ 100000) && D.jnL xs
  | .lst xs => decide (xs.length ≤ 100000) && D.jnL xs
  | .obj _ _ _ => false
  | .dct _ _ => false
  | _ => true
def D.jnL : List D → Bool
  | [] => true
  | d :: ds => D.jn d && D.jnL ds
end
theorem jn_bi {x : D} (h : x.jn = true) : x.isBuiltin = true := by
  cases x <;> first
    | rfl
    | cases h
theorem jnL_mem : ∀ {xs : List D} {x : D}, D.jnL xs = true → x ∈ xs → x.jn = true
  | y :: ys, x, h, hx => by
    obtain ⟨h1, h2⟩ := Bool.and_eq_true_iff.mp (show (D.jn y && D.jnL ys) = true from h)
    rcases List.mem_cons.mp hx with e | hx
    · rw [e]; exact h1
    · exact jnL_mem h2 hx
theorem jnL_of : ∀ {xs : List D}, (∀ x ∈ xs, x.jn = true) → D.jnL xs = true
  | [], _ => rfl
  | y :: ys, h => Bool.and_eq_true_iff.mpr ⟨h y (List.mem_cons_self ..), jnL_of fun x hx => h x (List.mem_cons_of_mem _ hx)⟩
theorem jn_tup {xs : List D} (h : (D.tup xs).jn = true) : xs.length ≤ 100000 ∧ ∀ x ∈ xs, x.jn = true := by
  obtain ⟨h1, h2⟩ := Bool.and_eq_true_iff.mp (show (decide (xs.length ≤ 100000) && D.jnL xs) = true from h)
  exact ⟨of_decide_eq_true h1, fun x hx => jnL_mem h2 hx⟩
theorem jn_lst {xs : List D} (h : (D.lst xs).jn = true) : xs.length ≤ 100000 ∧ ∀ x ∈ xs, x.jn = true := jn_tup (xs := xs) h
theorem tup_jn {xs : List D} (h1 : xs.length ≤ 100000) (h2 : ∀ x ∈ xs, x.jn = true) : (D.tup xs).jn = true :=
  Bool.and_eq_true_iff.mpr ⟨decide_eq_true h1, jnL_of h2⟩
theorem lst_jn {xs : List D} (h1 : xs.length ≤ 100000) (h2 : ∀ x ∈ xs, x.jn = true) : (D.lst xs).jn = true := tup_jn (xs := xs) h1 h2
theorem jn_str {s : Str} (h : (D.str s).jn = true) : s.length ≤ 100000 := of_decide_eq_true (show decide (s.length ≤ 100000) = true from h)
theorem sz5 : (100000 : Nat) ≤ sizeLine := by decide
theorem szl {n : Nat} (h : n ≤ 100000) : n ≤ sizeLine := Nat.le_trans h sz5

/-! ### == on scalars -/
theorem eqv_int (i j : Int) : PyData.eqv (D.int i).py (D.int j).py = decide (i = j) := by
  show PyData.eqv (.int i) (.int j) = _
  simp only [PyData.eqv]
  by_cases h : i = j <;> simp [h]
theorem eqv_str (i j : Str) : PyData.eqv (D.str i).py (D.str j).py = decide (i = j) := by
  show PyData.eqv (.str i) (.str j) = _
  simp only [PyData.eqv]
  by_cases h : i = j
  · simp [h]
  · rw [decide_eq_false h]
    exact beq_false_of_ne h
theorem eqv_bl (i j : Bool) : PyData.eqv (D.bl i).py (D.bl j).py = decide (i = j) := by
  show PyData.eqv (.bool i) (.bool j) = _
  simp only [PyData.eqv]
  by_cases h : i = j <;> simp [h]
section
variable {K : PySem.W.Frag} {k : Res → Prop} {i j : Int} {a b : Bool}
theorem o_eqI (g : k (.d (.bl (decide (i = j))))) : OpD K (rEqD K) (.int i) (.int j) k := o_eq rfl rfl (by rw [eqv_int]; exact g)
theorem o_neI (g : k (.d (.bl (!decide (i = j))))) : OpD K (rNeD K) (.int i) (.int j) k := o_ne rfl rfl (by rw [eqv_int]; exact g)
theorem o_eqB (g : k (.d (.bl (decide (a = b))))) : OpD K (rEqD K) (.bl a) (.bl b) k := o_eq rfl rfl (by rw [eqv_bl]; exact g)
theorem o_neB (g : k (.d (.bl (!decide (a = b))))) : OpD K (rNeD K) (.bl a) (.bl b) k := o_ne rfl rfl (by rw [eqv_bl]; exact g)
end

/-! ### comprehensions -/
def Rel2 (R : D → D → Prop) (ds acc : List D) : Prop := acc.length = ds.length ∧ ∀ (i : Nat) (d y : D), ds[i]? = some d → acc[i]? = some y → R d y
theorem rel2_map {f : D → D} {ds acc : List D} (h : Rel2 (fun d y => y = f d) ds acc) : acc = ds.map f := by
  apply List.ext_getElem
  · rw [List.length_map, h.1]
  · intro i h1 h2
    rw [List.getElem_map]
    have h3 : i < ds.length := by rw [← h.1]; exact h1
    exact h.2 i ds[i] acc[i] (List.getElem?_eq_getElem h3) (List.getElem?_eq_getElem h1)
section
variable {K : PySem.W.Frag} {ρ : List Ent} {te : TE} {tt : TT} {wi : TI} {g : TG} {vs : List Nat} {k : KE}
/-- each item gives something in R; the test is none -/
theorem ye_lcr (R : D → D → Prop) (hsl : OwnSlots g vs) (hww : ∀ σ : L2.St, wipe (wipe σ vs) vs = wipe σ vs)
    (h : XI K wi ρ fun ds ρ1 => ds.length ≤ sizeLine ∧ ∃ ρw, wipeE ρ1 vs = ρw ∧
      (∀ d, d ∈ ds → XG K g d ρw fun ρ2 => wipeE ρ2 vs = ρw ∧ XE K te ρ2 fun r ρ4 => ∃ y, peek ρ4 r = some y ∧ frz ρ4 r = ρ2 ∧ R d y) ∧
      ∀ acc, Rel2 R ds acc → k (.nw (.lst acc)) ρw) : XE K (tLc wi g tYes te vs) ρ k :=
  xe_lc hsl hww fun F H σ Q E q => h F H σ Q E fun J H' ρ1 ds W kp E1 Gv w0 ⟨hl, ρw, e, st, fin⟩ => by
    refine q J H' ρ1 ds W kp E1 Gv w0 ⟨hl, fun n acc => acc.length = n ∧ ∀ (i : Nat) (d y : D), ds[i]? = some d → acc[i]? = some y → R d y, ⟨rfl, fun i d y _ z => nomatch z⟩, ?_, ?_⟩
    · subst e
      intro i d acc hd _ ⟨hlen, hR⟩
      have hm : d ∈ ds := List.mem_of_getElem? hd
      refine fun F H σ v Q E dv q => st d hm F H σ v Q E dv fun σ' ρ' kp E' ⟨e, g⟩ => q σ' ρ' kp E' ⟨e, fun F H σ Q E q => q true H ρ' (Keep.refl _ _) E ⟨rfl, fun _ => ?_, fun z => nomatch z⟩⟩
      refine xe_mono g fun r ρ4 ⟨y, p, f, hr⟩ => ⟨y, p, f, by rw [List.length_append, hlen]; rfl, fun j d' y' h1 h2 => ?_⟩
      by_cases hj : j < acc.length
      · rw [List.getElem?_append_left hj] at h2
        exact hR j d' y' h1 h2
      · have hj2 : j = acc.length := by
          have := (List.getElem?_eq_some_iff.mp h2).1
          rw [List.length_append] at this
          simp only [List.length_cons, List.length_nil] at this
          omega
        subst hj2
        rw [List.getElem?_append_right (Nat.le_refl _), Nat.sub_self] at h2
        cases h2
        rw [hlen, hd] at h1
        cases h1
        exact hr
    · subst e
      exact fun acc _ ⟨h1, h2⟩ => fin acc ⟨h1, h2⟩
/-- each item gives f of it -/
theorem ye_lcm (f : D → D) (hsl : OwnSlots g vs) (hww : ∀ σ : L2.St, wipe (wipe σ vs) vs = wipe σ vs)
    (h : XI K wi ρ fun ds ρ1 => ds.length ≤ sizeLine ∧ ∃ ρw, wipeE ρ1 vs = ρw ∧
      (∀ d, d ∈ ds → XG K g d ρw fun ρ2 => wipeE ρ2 vs = ρw ∧ XE K te ρ2 fun r ρ4 => ∃ y, peek ρ4 r = some y ∧ frz ρ4 r = ρ2 ∧ y = f d) ∧
      k (.nw (.lst (ds.map f))) ρw) : XE K (tLc wi g tYes te vs) ρ k :=
  ye_lcr (fun d y => y = f d) hsl hww fun F H σ Q E q => h F H σ Q E fun J H' ρ1 ds W kp E1 Gv w0 ⟨hl, ρw, e, st, fin⟩ =>
    q J H' ρ1 ds W kp E1 Gv w0 ⟨hl, ρw, e, st, fun acc ha => by rw [rel2_map ha]; exact fin⟩
/-- .. under a test p -/
theorem ye_lcf (p : D → Bool) (f : D → D) (hsl : OwnSlots g vs) (hww : ∀ σ : L2.St, wipe (wipe σ vs) vs = wipe σ vs)
    (h : XI K wi ρ fun ds ρ1 => ds.length ≤ sizeLine ∧ ∃ ρw, wipeE ρ1 vs = ρw ∧
      (∀ d, d ∈ ds → XG K g d ρw fun ρ2 => wipeE ρ2 vs = ρw ∧ XT K tt ρ2 fun b ρ3 => ρ3 = ρ2 ∧ b = p d ∧ (p d = true → XE K te ρ2 fun r ρ4 => ∃ y, peek ρ4 r = some y ∧ frz ρ4 r = ρ2 ∧ y = f d)) ∧
      k (.nw (.lst ((ds.filter p).map f))) ρw) : XE K (tLc wi g tt te vs) ρ k :=
  xe_lc hsl hww fun F H σ Q E q => h F H σ Q E fun J H' ρ1 ds W kp E1 Gv w0 ⟨hl, ρw, e, st, fin⟩ => by
    refine q J H' ρ1 ds W kp E1 Gv w0 ⟨hl, fun n acc => acc = ((ds.take n).filter p).map f, rfl, ?_, ?_⟩
    · subst e
      intro i d acc hd _ ha0
      have ha : acc = ((ds.take i).filter p).map f := ha0
      have hm : d ∈ ds := List.mem_of_getElem? hd
      have hi : i < ds.length := (List.getElem?_eq_some_iff.mp hd).1
      have tk : ds.take (i + 1) = ds.take i ++ [d] := by
        rw [List.take_add_one, hd]
        rfl
      refine fun F H σ v Q E dv q => st d hm F H σ v Q E dv fun σ' ρ' kp E' ⟨e, g⟩ => q σ' ρ' kp E' ⟨e, fun F H σ Q E q => g F H σ Q E fun b H' ρ'' kp E' ⟨e2, eb, g⟩ => q b H' ρ'' kp E' ⟨e2, fun hb => ?_, fun hb => ?_⟩⟩
      · subst e2
        rw [hb] at eb
        refine xe_mono (g eb.symm) fun r ρ4 ⟨y, pk, fz, hy⟩ => ⟨y, pk, fz, ?_⟩
        show acc ++ [y] = ((ds.take (i + 1)).filter p).map f
        rw [tk, List.filter_append, List.map_append, ← ha, hy]
        congr 1
        simp [← eb]
      · rw [hb] at eb
        show acc = ((ds.take (i + 1)).filter p).map f
        rw [tk, List.filter_append, List.map_append, ← ha]
        simp [← eb]
    · subst e
      intro acc _ ha0
      have ha : acc = ((ds.take ds.length).filter p).map f := ha0
      rw [ha, List.take_length]
      exact fin
theorem c_allM {ds : List D} {p : D → Bool} {kk : Res → Prop} (g : kk (.d (.bl (ds.all p)))) : CaD K (rAll K) [.lst (ds.map fun d => .bl (p d))] kk := by
  have e : (ds.map fun d => D.bl (p d)) = (ds.map p).map D.bl := by
    rw [List.map_map]
    rfl
  rw [e]
  refine c_all ?_
  rw [List.all_map]
  exact g
theorem c_anyM {ds : List D} {p : D → Bool} {kk : Res → Prop} (g : kk (.d (.bl (ds.any p)))) : CaD K (rAny K) [.lst (ds.map fun d => .bl (p d))] kk := by
  have e : (ds.map fun d => D.bl (p d)) = (ds.map p).map D.bl := by
    rw [List.map_map]
    rfl
  rw [e]
  refine c_any ?_
  rw [List.any_map]
  exact g
theorem lc_split {ds : List D} {ρ1 ρw : List Ent} {P : D → List Ent → Prop} {Q : List Ent → Prop} (h1 : ds.length ≤ sizeLine) (e : wipeE ρ1 vs = ρw) (h2 : ∀ d, d ∈ ds → P d ρw) (h3 : Q ρw) :
    ds.length ≤ sizeLine ∧ ∃ ρw, wipeE ρ1 vs = ρw ∧ (∀ d, d ∈ ds → P d ρw) ∧ Q ρw := ⟨h1, ρw, e, h2, h3⟩
theorem lc_fin {ρ4 ρ2 : List Ent} {r : Res} {R : D → Prop} {y : D} (e1 : peek ρ4 r = some y) (e2 : frz ρ4 r = ρ2) (h : R y) : ∃ y, peek ρ4 r = some y ∧ frz ρ4 r = ρ2 ∧ R y := ⟨y, e1, e2, h⟩
theorem lcf_fin {ρ3 ρ2 : List Ent} {b c : Bool} {P : Prop} (e1 : ρ3 = ρ2) (e2 : b = c) (h : P) : ρ3 = ρ2 ∧ b = c ∧ P := ⟨e1, e2, h⟩
theorem lc_env {ρ2 ρw : List Ent} {P : Prop} (e : wipeE ρ2 vs = ρw) (h : P) : wipeE ρ2 vs = ρw ∧ P := ⟨e, h⟩
theorem fa_mem {ds : List D} {P : D → Prop} (h : ∀ d, d ∈ ds → P d) : ∀ d, d ∈ ds → P d := h
theorem br_t {b : Bool} {P : Prop} (h : b = true → P) : b = true → P := h
theorem br_f {b : Bool} {P : Prop} (h : b = false → P) : b = false → P := h
theorem ex_env {ρ : List Ent} {P : List Ent → Prop} {ρ2 : List Ent} (e : ρ = ρ2) (g : P ρ2) : ∃ ρ2, ρ = ρ2 ∧ P ρ2 := ⟨ρ2, e, g⟩
theorem ex_pk {o : Option D} {P : D → Prop} {x : D} (e : o = some x) (g : P x) : ∃ x, o = some x ∧ P x := ⟨x, e, g⟩
theorem ex_pks {o : Option (List D)} {P : List D → Prop} {x : List D} (e : o = some x) (g : P x) : ∃ x, o = some x ∧ P x := ⟨x, e, g⟩
theorem ex_op {ρ : List Ent} {r1 r2 : Res} {P : D → D → Prop} {x y : D} (e1 : peek ρ r1 = some x) (e2 : peek ρ r2 = some y) (g : P x y) : ∃ x1 x2, peek ρ r1 = some x1 ∧ peek ρ r2 = some x2 ∧ P x1 x2 := ⟨x, y, e1, e2, g⟩
theorem ex_pks2 {o : Option (List D)} {P Q : List D → Prop} {x : List D} (e : o = some x) (g1 : P x) (g : Q x) : ∃ x, o = some x ∧ P x ∧ Q x := ⟨x, e, g1, g⟩
theorem ex_pk2 {o : Option D} {P Q : D → Prop} {x : D} (e : o = some x) (g1 : P x) (g : Q x) : ∃ x, o = some x ∧ P x ∧ Q x := ⟨x, e, g1, g⟩
theorem ex_it {o : Option D} {f : D → Option (List D)} {P : D → List D → Prop} {x : D} {ds : List D} (e : o = some x) (e2 : f x = some ds) (g : P x ds) : ∃ x ds, o = some x ∧ f x = some ds ∧ P x ds := ⟨x, ds, e, e2, g⟩
theorem ex_its {o : Option (List D)} {f : D → Option (List D)} {P : D → List D → Prop} {x : D} {ds : List D} (e : o = some [x]) (e2 : f x = some ds) (g : P x ds) : ∃ x ds, o = some [x] ∧ f x = some ds ∧ P x ds := ⟨x, ds, e, e2, g⟩
theorem ex_bl {b : Bool} {P : Bool → Prop} (g : P b) : ∃ b', Res.d (.bl b) = .d (.bl b') ∧ P b' := ⟨b, rfl, g⟩
theorem ex_int {b : Int} {P : Int → Prop} (g : P b) : ∃ b', Res.d (.int b) = .d (.int b') ∧ P b' := ⟨b, rfl, g⟩
theorem ex_sc {x : D} {P : D → Prop} (s : x.scalar = true) (g : P x) : ∃ y, Res.d x = .d y ∧ y.scalar = true ∧ P y := ⟨x, rfl, s, g⟩
theorem and_br {b : Bool} {P Q : Prop} (h1 : b = true → P) (h2 : b = false → Q) : (b = true → P) ∧ (b = false → Q) := ⟨h1, h2⟩
theorem and_rb {b : Bool} {P Q : Prop} (h1 : b = false → P) (h2 : b = true → Q) : (b = false → P) ∧ (b = true → Q) := ⟨h1, h2⟩
theorem and_brT {P Q : Prop} (h : P) : (true = true → P) ∧ (true = false → Q) := ⟨fun _ => h, fun z => (by cases z)⟩
theorem and_brF {P Q : Prop} (h : Q) : (false = true → P) ∧ (false = false → Q) := ⟨fun z => (by cases z), fun _ => h⟩
theorem and_rbT {P Q : Prop} (h : P) : (false = false → P) ∧ (false = true → Q) := ⟨fun _ => h, fun z => (by cases z)⟩
theorem and_rbF {P Q : Prop} (h : Q) : (true = false → P) ∧ (true = true → Q) := ⟨fun z => (by cases z), fun _ => h⟩
theorem and_nT {P Q : Prop} (h : Q) : ((!true) = true → P) ∧ ((!true) = false → Q) := ⟨fun z => (by cases z), fun _ => h⟩
theorem and_nF {P Q : Prop} (h : P) : ((!false) = true → P) ∧ ((!false) = false → Q) := ⟨fun _ => h, fun z => (by cases z)⟩
theorem and_mT {P Q : Prop} (h : P) : ((!true) = false → P) ∧ ((!true) = true → Q) := ⟨fun _ => h, fun z => (by cases z)⟩
theorem and_mF {P Q : Prop} (h : Q) : ((!false) = false → P) ∧ ((!false) = true → Q) := ⟨fun z => (by cases z), fun _ => h⟩
theorem nv_d {x : D} : ∀ i, Res.d x ≠ .v i := fun i z => nomatch z
theorem nv_nw {x : D} : ∀ i, Res.nw x ≠ .v i := fun i z => nomatch z
end

/-! ### what a test tells -/
section
variable {x : D} {P : Prop}
theorem isTup_tup (h : x.isTup = true) : ∃ xs, x = .tup xs := by
  cases x <;> first
    | exact ⟨_, rfl⟩
    | cases h
theorem isLst_lst (h : x.isLst = true) : ∃ xs, x = .lst xs := by
  cases x <;> first
    | exact ⟨_, rfl⟩
    | cases h
theorem isStr_str (h : x.isStr = true) : ∃ xs, x = .str xs := by
  cases x <;> first
    | exact ⟨_, rfl⟩
    | cases h
theorem isNon_non (h : x.isNon = true) : x = .non := by
  cases x <;> first
    | rfl
    | cases h
theorem nbf {b : Bool} (h : (!b) = false) : b = true := by
  cases b <;> first | rfl | cases h
theorem br_tup (h : ∀ xs, x = .tup xs → P) : x.isTup = true → P := fun z => (isTup_tup z).elim h
theorem br_tupN (h : ∀ xs, x = .tup xs → P) : (!x.isTup) = false → P := fun z => (isTup_tup (nbf z)).elim h
theorem br_lst (h : ∀ xs, x = .lst xs → P) : x.isLst = true → P := fun z => (isLst_lst z).elim h
theorem br_lstN (h : ∀ xs, x = .lst xs → P) : (!x.isLst) = false → P := fun z => (isLst_lst (nbf z)).elim h
theorem br_str (h : ∀ xs, x = .str xs → P) : x.isStr = true → P := fun z => (isStr_str z).elim h
theorem br_strN (h : ∀ xs, x = .str xs → P) : (!x.isStr) = false → P := fun z => (isStr_str (nbf z)).elim h
theorem br_non (h : x = .non → P) : x.isNon = true → P := fun z => h (isNon_non z)
theorem br_nonN (h : x = .non → P) : (!x.isNon) = false → P := fun z => h (isNon_non (nbf z))
end
theorem fin_bl {kk : Res → Prop} {b b' : Bool} (g : kk (.d (.bl b'))) (e : b' = b) : kk (.d (.bl b)) := by rw [← e]; exact g
theorem fin_d {kk : Res → Prop} {b b' : D} (g : kk (.d b')) (e : b' = b) : kk (.d b) := by rw [← e]; exact g
theorem signs_one {z : Str} {P : D → Prop} (h : ∀ c, P (.str ⟨#[c]⟩)) : ∀ d, d ∈ signsD z → P d := fun d hd => by
  unfold signsD at hd
  obtain ⟨c, _, e⟩ := List.mem_map.mp hd
  rw [← e]
  exact h c
theorem signs_len {z : Str} : (signsD z).length = z.length := by
  unfold signsD
  rw [List.length_map, Array.length_toList]
  rfl
theorem cut_sub {ds : List D} {lo hi : Option Int} {d : D} (h : d ∈ PW.cutD ds lo hi) : d ∈ ds := by
  unfold PW.cutD at h
  exact List.mem_of_mem_drop (List.mem_of_mem_take h)
theorem cut_len {ds : List D} {lo hi : Option Int} : (PW.cutD ds lo hi).length ≤ ds.length := by
  unfold PW.cutD
  rw [List.length_take, List.length_drop]
  omega
theorem cutD_tail {y : D} {ys : List D} : PW.cutD (y :: ys) (some 1) none = ys := by
  have e : HT.sIx (y :: ys).length 0 (some 1) = 1 := by
    show (if (1 : Int) < 0 then ((1 : Int) + ((y :: ys).length : Int)).toNat else min (1 : Int).toNat (y :: ys).length) = 1
    rw [if_neg (by decide), List.length_cons]
    show min 1 (ys.length + 1) = 1
    omega
  unfold PW.cutD
  rw [e, HT.sIx_none, List.length_cons, List.drop_one, List.tail_cons, Nat.add_sub_cancel, List.take_length]
theorem szT {xs : List D} (h : (D.tup xs).jn = true) : xs.length ≤ sizeLine := szl (jn_tup h).1
theorem szL {xs : List D} (h : (D.lst xs).jn = true) : xs.length ≤ sizeLine := szl (jn_lst h).1
theorem szS {s : Str} (h : (D.str s).jn = true) : s.length ≤ sizeLine := szl (jn_str h)
theorem szG {s : Str} (h : (D.str s).jn = true) : (signsD s).length ≤ sizeLine := by rw [signs_len]; exact szS h
theorem szC {ds : List D} {lo hi : Option Int} (h : ds.length ≤ sizeLine) : (PW.cutD ds lo hi).length ≤ sizeLine := Nat.le_trans cut_len h
theorem jnT {xs : List D} {x : D} (h : (D.tup xs).jn = true) (hx : x ∈ xs) : x.jn = true := (jn_tup h).2 x hx
theorem jnL' {xs : List D} {x : D} (h : (D.lst xs).jn = true) (hx : x ∈ xs) : x.jn = true := (jn_lst h).2 x hx

theorem atI_0 {y : D} {ys : List D} : atI (y :: ys) 0 = some y := by
  unfold atI ixN
  rw [if_pos (Int.le_refl 0), if_pos (by rw [List.length_cons]; omega)]
  rfl
theorem atI_1 {x y : D} {ys : List D} : atI (x :: y :: ys) 1 = some y := by
  unfold atI ixN
  rw [if_pos (by decide), if_pos (by rw [List.length_cons, List.length_cons]; omega)]
  rfl
theorem atI_2 {x y z : D} {ys : List D} : atI (x :: y :: z :: ys) 2 = some z := by
  unfold atI ixN
  rw [if_pos (by decide), if_pos (by rw [List.length_cons, List.length_cons, List.length_cons]; omega)]
  rfl
theorem lenc {y : D} {ys : List D} : ((y :: ys).length : Int) = (ys.length : Int) + 1 := by rw [List.length_cons]; omega
section
variable {K : PySem.W.Frag} {x y z : D} {ys : List D} {k : Res → Prop}
theorem o_ix0 (g : k (.d y)) : OpD K (rIx K) (.tup (y :: ys)) (.int 0) k := o_ixT atI_0 g
theorem o_ix1 (g : k (.d y)) : OpD K (rIx K) (.tup (x :: y :: ys)) (.int 1) k := o_ixT atI_1 g
theorem o_ix2 (g : k (.d z)) : OpD K (rIx K) (.tup (x :: y :: z :: ys)) (.int 2) k := o_ixT atI_2 g
theorem sl_tail {kk : Res → Prop} (g : kk (.d (.tup ys))) : SlD K (rSlU K) (.tup (y :: ys)) (some 1) none kk := sl_T (by rw [cutD_tail]; exact g)
end
theorem szTl {y : D} {ys : List D} (h : (D.tup (y :: ys)).jn = true) : ys.length ≤ sizeLine := by
  have := (jn_tup h).1
  rw [List.length_cons] at this
  exact szl (by omega)
theorem ne_len {xs : List D} (h : 1 ≤ (xs.length : Int)) : xs ≠ [] := fun e => by
  rw [e] at h
  exact absurd h (by decide)
theorem o_ix0e {K : PySem.W.Frag} {xs : List D} {k : Res → Prop} (h : xs ≠ []) (g : ∀ y ys, xs = y :: ys → k (.d y)) : OpD K (rIx K) (.tup xs) (.int 0) k := by
  cases xs with
  | nil => exact absurd rfl h
  | cons y ys => exact o_ix0 (g y ys rfl)

/-! the first that fails -/
def firstBad (p : D → Bool) : Nat → List D → Option Nat
  | _, [] => none
  | n, d :: ds => if p d = true then firstBad p (n + 1) ds else some n
theorem firstBad_at {p : D → Bool} : ∀ {cs : List D} {n i : Nat} {x : D}, (∀ j y, j < i → cs[j]? = some y → p y = true) → cs[i]? = some x → p x = false → firstBad p n cs = some (n + i)
  | [], _, _, _, _, h, _ => by cases h
  | c :: cs, n, 0, x, _, h, hx => by
    cases h
    rw [firstBad, if_neg (by rw [hx]; exact Bool.false_ne_true)]
    rfl
  | c :: cs, n, i + 1, x, h0, h, hx => by
    rw [firstBad, if_pos (h0 0 c (Nat.succ_pos _) rfl), firstBad_at (i := i) (fun j y hj e => h0 (j + 1) y (Nat.succ_lt_succ hj) e) h hx]
    congr 1
    omega
theorem firstBad_none {p : D → Bool} : ∀ {cs : List D} {n : Nat}, (∀ j y, j < cs.length → cs[j]? = some y → p y = true) → firstBad p n cs = none
  | [], _, _ => rfl
  | c :: cs, n, h => by
    rw [firstBad, if_pos (h 0 c (Nat.succ_pos _) rfl)]
    exact firstBad_none fun j y hj e => h (j + 1) y (Nat.succ_lt_succ hj) e
theorem jnT2 {x : D} {xs ys : List D} (hx : x ∈ xs) (h : (D.tup ys).jn = true) (hm : D.tup xs ∈ ys) : x.jn = true := jnT (jnT h hm) hx
theorem jnTr {x : D} {xs : List D} (hx : x ∈ xs) (h : (D.tup xs).jn = true) : x.jn = true := jnT h hx
end PW
end
section
/-! PW: readings walked by values (for a def that writes into the hand), an item by a draw. -/
namespace PW
open PySem PySem.Spec PyProof.Rows L2
section
variable {K : PySem.W.Frag} {σ : L2.St} {H : Hp} {Q : VK} {ta tb tc te ti : TE} {D : Ends} {t u : TS} {i j : Int} {n m : Nat} {v w : V} {a c : Addr} {vs : List V}
theorem r_var {n : Nat} (h : σ[n]? = some (some v)) (q : Q v H) : tVar n σ H Q := ⟨v, h, q⟩
theorem r_c (q : Q v H) : tC v σ H Q := q
theorem r_op {r : R2} (h : ta σ H fun x H1 => tb σ H1 fun y H2 => r x y H2 Q) : tOp r ta tb σ H Q := h
theorem r_addI (q : Q (.int (i + j)) H) : rAddU K (.int i) (.int j) H Q := .inl (.inl (.inl ⟨i, j, rfl, rfl, q⟩))
theorem r_subI (q : Q (.int (i - j)) H) : rSubI (.int i) (.int j) H Q := ⟨i, j, rfl, rfl, q⟩
theorem r_mulI (h : CMul i j) (q : Q (.int (i * j)) H) : rMulU K (.int i) (.int j) H Q := .inl ⟨i, j, rfl, rfl, h, q⟩
theorem r_divI (h : 0 < j ∧ j < 1073741824) (q : Q (.int (i / j)) H) : rDivI (.int i) (.int j) H Q := ⟨i, j, rfl, rfl, h, q⟩
theorem r_modI (h : 0 < j) (q : Q (.int (i % j)) H) : rModI (.int i) (.int j) H Q := ⟨i, j, rfl, rfl, h, q⟩
theorem r_powI (h : CPow i j) (q : Q (.int (i ^ j.toNat)) H) : rPowI (.int i) (.int j) H Q := ⟨i, j, rfl, rfl, h, q⟩
theorem r_ltI (q : Q (.bl (decide (i < j))) H) : rLtI (.int i) (.int j) H Q := ⟨i, j, rfl, rfl, q⟩
theorem r_leI (q : Q (.bl (decide (i ≤ j))) H) : rLeI (.int i) (.int j) H Q := ⟨i, j, rfl, rfl, q⟩
theorem r_gtI (q : Q (.bl (decide (j < i))) H) : rGtI (.int i) (.int j) H Q := ⟨i, j, rfl, rfl, q⟩
theorem r_geI (q : Q (.bl (decide (j ≤ i))) H) : rGeI (.int i) (.int j) H Q := ⟨i, j, rfl, rfl, q⟩
theorem r_eqI (q : Q (.bl (decide (i = j))) H) : rEqD K (.int i) (.int j) H Q := ⟨.int i, .int j, .int i, .int j, rfl, rfl, by rw [show PyData.eqv (.int i) (.int j) = decide (i = j) from eqv_int i j]; exact q⟩
theorem r_ix (h : H a = some (.lst vs)) (e : atI vs i = some w) (q : Q w H) : rIx K (.ref a) (.int i) H Q := .inl ⟨a, vs, i, w, rfl, rfl, SqL.of h, e, q⟩
theorem r_len (h : H a = some (.lst vs)) (q : Q (.int vs.length) H) : rLenU K [.ref a] H Q := ⟨.ref a, vs.length, rfl, .inl ⟨vs, SqL.of h, rfl⟩, q⟩
theorem r_int (q : Q (.int i) H) : rIntU [.int i] H Q := .inl ⟨i, rfl, q⟩
theorem r_cb {r : List V → Hp → VK → Prop} {ta : TA} (h : ta σ H fun vs H1 => r vs H1 Q) : tCB r ta σ H Q := h
theorem r_nil {Q : List V → Hp → Prop} (q : Q [] H) : tNil σ H Q := q
theorem r_cons {Q : List V → Hp → Prop} {ts : TA} (h : te σ H fun x H1 => ts σ H1 fun xs H2 => Q (x :: xs) H2) : tCons te ts σ H Q := h
theorem r_test {Q : Bool → Hp → Prop} (h : te σ H fun x H1 => ∃ c, x = .bl c ∧ Q c H1) : tTest te σ H Q := h
theorem r_b {Q : Bool → Hp → Prop} (h : te σ H fun x H1 => ∃ c, x = .bl c ∧ Q c H1) : tB te σ H Q := h
theorem r_and {Q : Bool → Hp → Prop} {t u : TT} (h : t σ H fun c H1 => (c = true → u σ H1 Q) ∧ (c = false → Q false H1)) : tAnd t u σ H Q := by
  have e : (fun (c : Bool) (H1 : Hp) => (c = true → u σ H1 Q) ∧ (c = false → Q false H1)) = fun c H1 => if c = true then u σ H1 Q else Q false H1 := by
    funext c H1
    cases c <;> simp
  show t σ H fun c H1 => if c = true then u σ H1 Q else Q false H1
  rw [← e]
  exact h
theorem r_if {c : TT} (h : c σ H fun b H1 => (b = true → t D σ H1) ∧ (b = false → u D σ H1)) : tIfS c t u D σ H := by
  have e : (fun (b : Bool) (H1 : Hp) => (b = true → t D σ H1) ∧ (b = false → u D σ H1)) = fun b H1 => if b = true then t D σ H1 else u D σ H1 := by
    funext b H1
    cases b <;> simp
  show c σ H fun b H1 => if b = true then t D σ H1 else u D σ H1
  rw [← e]
  exact h
theorem r_bl {Q : Bool → Prop} {b : Bool} (q : Q b) : ∃ c, V.bl b = .bl c ∧ Q c := ⟨b, rfl, q⟩
theorem r_seq (h : t { D with nx := u D } σ H) : tSeq t u D σ H := h
theorem r_next (h : D.nx σ H) : tNext D σ H := h
theorem r_ret (h : te σ H D.rt) : tRet te D σ H := h
theorem r_asg {n : Nat} (h : te σ H fun x H1 => ∃ σ2, σ.set n (some x) = σ2 ∧ D.nx σ2 H1) : tAsg te (gName n) D σ H := by
  have e : (fun (x : V) (H1 : Hp) => ∃ σ2, σ.set n (some x) = σ2 ∧ D.nx σ2 H1) = fun x H1 => D.nx (σ.set n (some x)) H1 := by
    funext x H1
    exact propext ⟨fun ⟨_, e, q⟩ => by rw [e]; exact q, fun q => ⟨_, rfl, q⟩⟩
  show te σ H fun x H1 => D.nx (σ.set n (some x)) H1
  rw [← e]
  exact h
theorem r_sub {te to ti : TE} (h : te σ H fun v H1 => to σ H1 fun o H2 => ti σ H2 fun i H3 => rSetL o i v H3 fun H4 => D.nx σ H4) : tAsg te (gSub to ti rSetL) D σ H := h
theorem r_set {Q : Hp → Prop} {k : Nat} (h : H a = some (.lst vs)) (e : ixN vs.length i = some k) (q : ∀ H2, H2 a = some (.lst (vs.set k v)) → (∀ b, b ≠ a → H2 b = H b) → Q H2) : rSetL (.ref a) (.int i) v H Q :=
  ⟨a, vs, i, k, rfl, rfl, h, e, q _ upd_same fun b hb => upd_ne hb⟩
end

/-- the promise of _law_any: an item by a draw -/
def spAny (K : PySem.W.Frag) : Sp := fun vs H Q _ => ∃ (M : Addr → Prop) (a b : Addr) (xs : List V), vs = [.ref a, .ref b] ∧ Tr M H ∧ M a ∧ HandOk M K H a ∧ ((H b = some (.lst xs) ∧ b ≠ a) ∨ ColdT M K H b xs) ∧ xs ≠ [] ∧ xs.length < 1073741824 ∧
  ∀ v H', v ∈ xs → (∀ c o, c ≠ a → H c = some o → H' c = some o) → HandOk M K H' a → Q v H'
theorem da_mem {M : Addr → Prop} {K : PySem.W.Frag} {H : Hp} : ∀ {ds : List D} {vs : List V} {v : V}, DaAll M K H vs ds → v ∈ vs → ∃ d, d ∈ ds ∧ Da M K H v d
  | [], _, _, h, hv => by
    rw [show _ = [] from h] at hv
    cases hv
  | d :: ds, _, v, h, hv => by
    obtain ⟨w, r, e, h1, h2⟩ := h
    rw [e] at hv
    rcases List.mem_cons.mp hv with e2 | hv
    · rw [e2]
      exact ⟨d, List.mem_cons_self .., h1⟩
    · obtain ⟨d', q1, q2⟩ := da_mem h2 hv
      exact ⟨d', List.mem_cons_of_mem _ q1, q2⟩
section
variable {K : PySem.W.Frag} {ρ : List Ent} {k : KE} {te : TE} {i : Nat} {E : XK}
theorem da_seq {M : Addr → Prop} {H : Hp} {v : V} {x : D} {ds : List D} (h : Da M K H v x) (hi : itemsD x = some ds) : ∃ b vs, v = .ref b ∧ ((H b = some (.lst vs) ∧ ¬ M b) ∨ ColdT M K H b vs) ∧ DaAll M K H vs ds := by
  cases x with
  | lst es =>
    cases hi
    obtain ⟨b, vs, e, h1, h2⟩ := h
    exact ⟨b, vs, e, .inl ⟨h1.2, h1.1⟩, h2⟩
  | tup es =>
    cases hi
    obtain ⟨b, vs, e, h1, h2⟩ := h
    exact ⟨b, vs, e, .inr h1, h2⟩
  | _ => cases hi
/-- what is held, as a sequence of data: none of the items at a hot address -/
theorem Held.seq {F : Fr} {H : Hp} {σ : L2.St} {v : V} {r : Res} {x : D} {ds : List D} {a : Addr} (E : Env K F H σ ρ) (h : Held K F H σ ρ v r) (hp : peek ρ r = some x) (hi : itemsD x = some ds) (ha : F.hd = some a) :
    ∃ b vs, v = .ref b ∧ ((H b = some (.lst vs) ∧ b ≠ a) ∨ ColdT (hot F σ ρ) K H b vs) ∧ DaAll (hot F σ ρ) K H vs ds := by
  have hm : hot F σ ρ a := .inl (E.hand a ha).1
  have fin : Da (hot F σ ρ) K H v x → ∃ b vs, v = .ref b ∧ ((H b = some (.lst vs) ∧ b ≠ a) ∨ ColdT (hot F σ ρ) K H b vs) ∧ DaAll (hot F σ ρ) K H vs ds := fun d => by
    obtain ⟨b, vs, e, h1, h2⟩ := da_seq d hi
    refine ⟨b, vs, e, ?_, h2⟩
    rcases h1 with ⟨q1, q2⟩ | q
    · exact .inl ⟨q1, fun z => q2 (by rw [z]; exact hm)⟩
    · exact .inr q
  cases r with
  | d y => cases hp; exact fin h
  | nw y => cases hp; exact fin h
  | v j =>
    have h : σ[j]? = some (some v) := h
    have hp : peekE ρ[j]? = some x := hp
    cases e : ρ[j]? with
    | none => rw [e] at hp; cases hp
    | some en =>
      rw [e] at hp
      cases en with
      | own y =>
        cases hp
        obtain ⟨p, e2, hh, ho⟩ := E.slotOwn e
        rw [h] at e2
        cases e2
        have nM := (E.new j _ p e h).2
        cases x with
        | lst es =>
          cases hi
          obtain ⟨vs, h1, h2⟩ := ho
          exact ⟨p, vs, rfl, .inl ⟨h1, fun z => nM (by rw [z]; exact (E.hand a ha).1)⟩, h2⟩
        | dct _ _ => cases hi
        | obj _ _ _ => cases hi
        | _ => exact (show False from ho).elim
      | d y =>
        cases hp
        obtain ⟨w, e2, hd⟩ := E.slot j _ e
        rw [h] at e2
        cases e2
        exact fin hd
      | u => cases hp
      | hand => cases hp
def tAny (sp : Sp) (E : XK) (i : Nat) (te : TE) : TE := tCall sp [] E (tCons (tVar i) (tCons te tNil))
theorem xe_any (hi : ρ[i]? = some .hand) (h : XE K te ρ fun r ρ1 => ∃ x ds, peek ρ1 r = some x ∧ itemsD x = some ds ∧ ds ≠ [] ∧ ds.length < 1073741824 ∧ ∀ d, d ∈ ds → k (.d d) ρ1) : XE K (tAny (spAny K) E i te) ρ k := fun F H σ Q E0 q => by
  obtain ⟨a, ha, es⟩ := E0.slot i _ hi
  refine ⟨_, es, ?_⟩
  refine h F H σ _ E0 fun v H1 r ρ1 kp R ⟨x, ds, px, hx, n0, hl, g⟩ => ?_
  have E1 := R.env
  obtain ⟨b, vs, rfl, h1, h2⟩ := Held.seq E1 R.held px hx ha
  obtain ⟨m1, m2, m3⟩ := E1.hand a ha
  refine ⟨hot F σ ρ1, a, b, vs, rfl, hot_tr E1, .inl m1, m3, h1, fun e => n0 ?_, by rw [h2.length]; exact hl, fun w H' hw st hh => ?_⟩
  · have := h2.length
    rw [e] at this
    exact List.length_eq_zero_iff.mp this.symm
  · obtain ⟨d, hd, dw⟩ := da_mem h2 hw
    have st' : ∀ c o, F.hd ≠ some c → H1 c = some o → H' c = some o := fun c o n e => st c o (fun z => n (by rw [z]; exact ha)) e
    have E2 : Env K F H' σ ρ1 := E1.step st' fun c hc => by
      rw [ha] at hc
      cases hc
      exact hh
    have k3 : Keep (hot F σ ρ1) H1 (hot F σ ρ1) H' := fun c o n e => ⟨n, st c o (fun z => n (by rw [z]; exact .inl m1)) e⟩
    exact q w H' (.d d) ρ1 (hotR.d ((hotR.hot kp).trans k3)) ⟨E2, dw.mono k3⟩ (g d hd)
theorem ex_any {o : Option D} {f : D → Option (List D)} {P : List D → Prop} {x : D} {ds : List D} (e : o = some x) (e2 : f x = some ds) (h1 : ds ≠ []) (h2 : ds.length < 1073741824) (g : P ds) : ∃ x ds, o = some x ∧ f x = some ds ∧ ds ≠ [] ∧ ds.length < 1073741824 ∧ P ds := ⟨x, ds, e, e2, h1, h2, g⟩
end
/-- the box behind a draw -/
theorem hand_fin {M : Addr → Prop} {K : PySem.W.Frag} {H H' : Hp} {a c : Addr} {cs : List Int} {i r m n : Int} {g : Bool} (ma : M a) (hc : ColdL M K H c (cs.map V.int)) (st : ∀ b, b ≠ a → H' b = H b)
    (h : H' a = some (.dK (boxK c i r m g n))) (h1 : 0 ≤ i) : HandOk M K H' a :=
  ⟨c, cs, i, r, m, g, n, h, ⟨hc.1, by rw [st c fun z => hc.1 (by rw [z]; exact ma)]; exact hc.2⟩, h1⟩
section
variable {H : Hp} {a c : Addr} {i r m n j : Int} {g b : Bool}
theorem bx_val {k : Str} {kvs : List (Key × V)} {v : V} (h : H a = some (.dK kvs)) (e : valV kvs (.inr k) = some v) : DGet H a (.str k) (some v) := by
  have := DGet.k (k := .inr k) h
  rw [e] at this
  exact this
theorem bx_to {k : Str} {kvs kvs' : List (Key × V)} {v : V} (h : H a = some (.dK kvs)) (hl : kvs.length < sizeLine) (e : putK kvs (.inr k) v = kvs') {Q : Hp → Prop} (q : ∀ H2, H2 a = some (.dK kvs') → (∀ b, b ≠ a → H2 b = H b) → Q H2) : ∃ H2, DPut H a (.str k) v H2 ∧ Q H2 := by
  subst e
  exact ⟨_, .inl ⟨kvs, .inr k, h, rfl, hl, rfl⟩, q _ upd_same fun b hb => upd_ne hb⟩
theorem bv_cells : valV (boxK c i r m g n) (.inr "cells") = some (.ref c) := by kernel_rfl
theorem bv_at : valV (boxK c i r m g n) (.inr "at") = some (.int i) := by kernel_rfl
theorem bv_rest : valV (boxK c i r m g n) (.inr "rest") = some (.int r) := by kernel_rfl
theorem bv_many : valV (boxK c i r m g n) (.inr "many") = some (.int m) := by kernel_rfl
theorem bv_great : valV (boxK c i r m g n) (.inr "great") = some (.bl g) := by kernel_rfl
theorem bv_all : valV (boxK c i r m g n) (.inr "all") = some (.int n) := by kernel_rfl
theorem bp_at : putK (boxK c i r m g n) (.inr "at") (.int j) = boxK c j r m g n := by kernel_rfl
theorem bp_rest : putK (boxK c i r m g n) (.inr "rest") (.int j) = boxK c i j m g n := by kernel_rfl
theorem bp_many : putK (boxK c i r m g n) (.inr "many") (.int j) = boxK c i r j g n := by kernel_rfl
theorem bp_great : putK (boxK c i r m g n) (.inr "great") (.bl b) = boxK c i r m b n := by kernel_rfl
theorem bp_all : putK (boxK c i r m g n) (.inr "all") (.int j) = boxK c i r m g j := by kernel_rfl
theorem bx_len : (boxK c i r m g n).length < sizeLine := by show 6 < sizeLine; decide
end
end PW
end
section
/-! PW: set(list of texts); len of it. -/
namespace PW
open PySem PySem.Spec PyProof.Rows L2
open Sem (wp)

section
variable {α : Type} [DecidableEq α]
/-- the distinct ones, in the order in which they are met -/
def metStep (acc : List α) (v : α) : List α := if v ∈ acc then acc else acc ++ [v]
def metTo (val : Nat → α) : Nat → List α
  | 0 => []
  | i + 1 => metStep (metTo val i) (val i)
theorem metTo_len (val : Nat → α) : ∀ i, (metTo val i).length ≤ i
  | 0 => Nat.le_refl _
  | i + 1 => by
    have ih := metTo_len val i
    unfold metTo metStep
    split
    · omega
    · rw [List.length_append, List.length_singleton]; omega
theorem metStep_mem {acc : List α} {v k : α} : k ∈ metStep acc v ↔ k ∈ acc ∨ k = v := by
  unfold metStep
  split
  · constructor
    · exact .inl
    · intro h
      rcases h with h | h
      · exact h
      · rw [h]; assumption
  · rw [List.mem_append, List.mem_singleton]
theorem setOf_same {prog : Program} {w : World} {knd : KeyKind prog w α} {h : Heap} {a : Addr} {S S' : α → Bool} {n n' : Nat} (hS : h.SetOf knd a S n) (e : ∀ k, S k = S' k) (en : n = n') : h.SetOf knd a S' n' := by
  have q : S = S' := funext e
  subst q en
  exact hS
/-- what the set holds behind i items -/
def HasTo {prog : Program} {w : World} (knd : KeyKind prog w α) (val : Nat → α) (h : Heap) (S : Addr) (i : Nat) : Prop := h.SetOf knd S (fun k => decide (k ∈ metTo val i)) (metTo val i).length
variable {prog : Program} {w : World} {A : Around} {R : Result → Shared → Prop} {I : Addr} {fp wr : List Addr} {G : Array GenState → Array GenState → Prop} {n : Nat} {P : Nat → Value → Prop} {St : Nat → Shared → Prop} {knd : KeyKind prog w α}
theorem HasTo.move {val : Nat → α} {S : Addr} {i : Nat} {h h' : Heap} (x : HasTo knd val h S i) (k : ∀ o, h.get? S = some o → h'.get? S = some o) : HasTo knd val h' S i := by
  obtain ⟨o, es, ep, t, ho, rest⟩ := x
  exact ⟨o, es, ep, t, k o ho, rest⟩
theorem loop_has (W : WalksS prog w A.in1 I fp wr G n P St) (S : Addr) (hSf : S ∉ fp) (val : Nat → α) (hval : ∀ i v, P i v → knd.is (val i) v = true ∧ v.scannable = true) (hb : n + 1 < scanBound) :
    ∀ (k i : Nat) (s : Shared), n - i = k → i ≤ n → St i s → HasTo knd val s.heap S i → (∀ s', Moved (S :: wr) G s s' → HasTo knd val s'.heap S n → R (.ok (.ret .none)) s') →
      codeAny (model prog w) A (.builtin "set.update.loop" ⟨[.ref S, .ref I], []⟩) R s := by
  have hSw : S ∉ wr := fun h => hSf (W.sub _ h)
  have hsub : ∀ b ∈ wr, b ∈ S :: wr := fun b hb => List.mem_cons_of_mem _ hb
  intro k
  induction k with
  | zero =>
    intro i s hk hi hst hS hR
    obtain rfl : i = n := by omega
    refine codeAny_builtin F.entry_set_update_loop ?_
    rw [Around.under_plainId F.plain_set_update_loop _]
    refine wpAny_bind (W.done s _ _ hst fun s' hm => ?_)
    exact wpAny_pure (hR s' (hm.mono hsub) (hS.move fun o ho => hm.heap S o hSw ho))
  | succ k ih =>
    intro i s hk hi hst hS hR
    have hlt : i < n := by omega
    refine codeAny_builtin F.entry_set_update_loop ?_
    rw [Around.under_plainId F.plain_set_update_loop _]
    refine wpAny_bind (W.item i s _ _ hlt hst fun v s' hP hst' hm => ?_)
    obtain ⟨hk1, hk2⟩ := hval i v hP
    have hS' := hS.move fun o ho => hm.heap S o hSw ho
    show wpAny _ A.in1 (holding [v] (setAdd S v) >>= _) _ _ s'
    refine wpAny_bind (wpAny_holding ?_)
    unfold setAdd
    refine wpAny_holding ?_
    refine wpAny_bind (knd.pyHash (k := val i) hk1 ?_)
    have hroom : (metTo val i).length + 1 < scanBound := by have := metTo_len val i; omega
    refine wpAny_setAddHashed_of (knd := knd) (s := { s' with toks := s'.toks + 1 }) hk1 hk2 hS' hroom fun h' hsb hS2 => ?_
    have hSi : HasTo knd val h' S (i + 1) := setOf_same hS2 (fun k' => by
        have e : (k' ∈ metTo val (i + 1)) ↔ (k' ∈ metTo val i ∨ k' = val i) := metStep_mem
        rw [← Bool.decide_or]
        exact decide_eq_decide.mpr e.symm) (by
        show _ = (metStep (metTo val i) (val i)).length
        unfold metStep
        by_cases q : val i ∈ metTo val i
        · rw [if_pos q, if_pos (decide_eq_true q)]
        · rw [if_neg q, if_neg (by rw [decide_eq_false q]; exact Bool.false_ne_true), List.length_append, List.length_singleton])
    refine wpAny_pure ⟨plainId_quiet F.plain_set_update_loop _, ih (i + 1) _ (by omega) hlt (W.frame _ s' _ _ hst' (Nat.le_succ _) fun b hb o e => ?_) hSi fun s'' hm'' hS'' => ?_⟩
    · rw [hsb.2 b (fun h : b = S => hSf (by rw [← h]; exact hb))]; exact e
    · refine hR s'' (Moved.trans W.gtrans ((hm.mono hsub).then_heap (Nat.le_succ _) fun b o hb e => ?_) hm'') hS''
      rw [hsb.2 b (fun h : b = S => hb (by rw [h]; exact List.mem_cons_self))]; exact e
end

section
variable {α : Type} [DecidableEq α] {prog : Program} {w : World} {A : Around} {E : Value → Shared → Prop} {s : Shared} {knd : KeyKind prog w α}
set_option maxHeartbeats 3200000 in
theorem call_set_met {l : Addr} {items : Array Value} {Q : Value → Shared → Prop} (val : Nat → α) (hh : A.handled = none) (hl : s.heap.IsList l items) (hi : ∀ i v, items[i]? = some v → knd.is (val i) v = true ∧ v.scannable = true) (hb : items.size + 1 < scanBound)
    (h : ∀ (h' : Heap) (tk : Nat), HasTo knd val h' s.heap.objs.size items.size → (∀ b o, b < s.heap.objs.size → s.heap.get? b = some o → h'.get? b = some o) → Q (.ref s.heap.objs.size) { s with heap := h', toks := tk }) :
    wpAny (model prog w) A (call (.type "set") [.ref l]) Q E s := by
  obtain ⟨c, tl, hmro⟩ := PySem.F.called_set.mro
  have hmade := PySem.F.called_set.made
  have hsub := PySem.F.called_set.sub
  refine wpAny_call (codeAny_of_tree ?_)
  show wpAny _ _ (callAny (.type "set") _) _ _ _
  refine wpAny_pure ⟨Code.quiet_builtin _ (by decide +kernel), codeAny_builtin PySem.F.entry_type_call ?_⟩
  rw [Around.under_plain (weight_type_call_type "set" [.ref l] []) rfl]
  have h1 := PySem.F.called_set.notType
  have h2 := PySem.F.called_set.canCreate
  have hct := PySem.F.typeCall_set_1 (.ref l)
  repeat (any_goals (first | assumption | wp_step))

  refine codeAny_mono (code_set_new_1 (.ref l) (E := E) (Q₁ := fun obj s₁ => ∃ led : Bool, obj = .ref s.heap.objs.size ∧ s₁ = { s with heap := s.heap.push { cls := .type "set", dict := none, data := .set #[] 0 (.fresh 0 0 led) } }) fun led => ⟨led, rfl, rfl⟩) fun r s₁ hr => ?_
  cases r with
  | error e => exact hr
  | ok fl =>
    cases fl with
    | ret obj =>
      obtain ⟨led, rfl, rfl⟩ := hr
      have hS : (s.heap.push { cls := .type "set", dict := none, data := .set #[] 0 (.fresh 0 0 led) }).get? s.heap.objs.size = some { cls := .type "set", dict := none, data := .set #[] 0 (.fresh 0 0 led) } := Heap.get?_push_size _ rfl
      have hT : Shared.TypeIs { s with heap := s.heap.push { cls := .type "set", dict := none, data := .set #[] 0 (.fresh 0 0 led) } } (.ref s.heap.objs.size) "set" := ⟨_, hS, rfl⟩
      have hli := PySem.F.called_set.init.lookup
      have hbi := PySem.F.called_set.init.bind (.ref s.heap.objs.size)
      repeat (any_goals (first | assumption | wp_step))

      refine codeAny_mono (codeAny_call_builtin (R := wants (fun r s₂ => r = .none ∧ ∃ h' tk, s₂ = { s with heap := h', toks := tk } ∧
          HasTo knd val h' s.heap.objs.size items.size ∧
          (∀ b o, b < s.heap.objs.size → s.heap.get? b = some o → h'.get? b = some o)) E) PySem.F.called_set.init.plain PySem.F.entry_set_init (check_set_init_1 hT ?_)) fun r₂ s₂ hr₂ => ?_
      · obtain ⟨ol, hol, hcl, nl, hdl⟩ := hl
        obtain ⟨ocls, odict, odata, oslots⟩ := ol
        simp only at hcl hdl
        subst hcl; subst hdl
        have hol' : (s.heap.push { cls := .type "set", dict := none, data := .set #[] 0 (.fresh 0 0 led) }).get? l = some { cls := .type "list", dict := odict, data := .seq items nl, slots := oslots } := Heap.get?_push_of_some _ hol
        have hsls := PySem.F.sub_list_set
        have hslf := PySem.F.sub_list_frozenset
        have hne : (Value.type "list" == Value.type "dict") = false := by decide
        have hl1 : (s.heap.push { cls := .type "set", dict := none, data := .set #[] 0 (.fresh 0 0 led) }).IsList l items := ⟨_, hol', rfl, nl, rfl⟩
        unfold Builtin.«set.__init__» noKeywords Builtin.Frozenset.updateFrom
        generalize hPI : pyIter = PI
        wp_walk
        subst hPI

        refine wpAny_pyIter_list hl1 ?_
        refine wpAny_bind (wpAny_runValue ?_)
        have hlS : l < s.heap.objs.size := Heap.lt_size hol
        have hh3 : A.in1.in1.in1.handled = none := by simp [hh]
        have hneI : l ≠ (s.heap.push { cls := .type "set", dict := none, data := .set #[] 0 (.fresh 0 0 led) }).objs.size := by
          rw [Heap.size_push]; exact Nat.ne_of_lt (Nat.lt_succ_of_lt hlS)
        have hSf : s.heap.objs.size ∉ [(s.heap.push { cls := .type "set", dict := none, data := .set #[] 0 (.fresh 0 0 led) }).objs.size, l] := by
          rw [Heap.size_push]; simp only [List.mem_cons, List.mem_singleton, List.not_mem_nil, or_false, not_or]
          exact ⟨Nat.ne_of_lt (Nat.lt_succ_self _), Nat.ne_of_gt hlS⟩
        refine loop_has ((Walks.list hh3 _ l hneI items).toS) s.heap.objs.size
          hSf val hi hb (items.size - 0) 0 _ (by omega) (Nat.zero_le _)
          ⟨⟨_, Heap.get?_push_size _ rfl, rfl, rfl⟩, (hl1.push _)⟩ ?hS0 ?hR
        case hS0 =>
          have hget : ((s.heap.push { cls := .type "set", dict := none, data := .set #[] 0 (.fresh 0 0 led) }).push { cls := .type "list_iterator", data := .fields #[.ref l, .int 0 0] }).get? s.heap.objs.size
              = some { cls := .type "set", dict := none, data := .set #[] 0 (.fresh 0 0 led) } := Heap.get?_push_of_some _ hS
          exact setOf_same ((PyProof.Rows.setObjOf_fresh (knd := knd) led).setOf hget (by unfold scanBound; omega)) (fun _ => rfl) rfl
        case hR =>
          intro s' hm hS'
          obtain ⟨h', g', d', tk', os'⟩ := s'
          have eg : g' = s.gens := hm.gens
          have ed : d' = s.drawn := hm.drawn
          have eo : os' = s.os := hm.os
          subst eg; subst ed; subst eo
          show wpAny _ _ _ _ _ _
          refine wpAny_pure ?_
          show wpAny _ _ (ret Value.none) _ _ _
          refine wpAny_pure ⟨rfl, h', tk', rfl, hS', fun b o hb e => ?_⟩
          have hb1 : b ≠ s.heap.objs.size := Nat.ne_of_lt hb
          have hb2 : b ≠ (s.heap.push { cls := .type "set", dict := none, data := .set #[] 0 (.fresh 0 0 led) }).objs.size := by
            rw [Heap.size_push]; exact Nat.ne_of_lt (Nat.lt_succ_of_lt hb)
          exact hm.heap b o (by simp only [List.mem_cons, List.mem_singleton, List.not_mem_nil, or_false, not_or]; exact ⟨hb1, hb2⟩) (Heap.get?_push_of_some _ (Heap.get?_push_of_some _ e))

      · cases r₂ with
        | error e => exact hr₂
        | ok fl₂ =>
          cases fl₂ with
          | ret r =>
            obtain ⟨rfl, h', tk, rfl, hS', hk'⟩ := hr₂
            repeat (any_goals (first | assumption | wp_step))
            exact h _ _ hS' hk'
          | _ => exact hr₂.elim
    | _ => exact hr.elim
end
end PW
end
section
/-! PW: len(set(names)), shifts, comparisons of tuples of numbers, an item of a display by a draw. -/
namespace PW
open PySem PySem.Spec PyProof.Rows L2
/-- how many texts there are, each once -/
def distinct (xs : List Str) : Nat := (metTo (fun i => xs.getD i Str.empty) xs.length).length
theorem strs_get : ∀ {ys : List Str} {us : List Value} {i : Nat} {v : Value}, Vals (ys.map V.str) us → us[i]? = some v → ∃ t, v = .str (ys.getD i Str.empty) t
  | [], _, _, _, .nil, h => by cases h
  | y :: ys, _, 0, v, .cons r t, h => by
    cases h
    obtain ⟨k, rfl⟩ := r
    exact ⟨k, rfl⟩
  | y :: ys, _, i + 1, v, .cons r t, h => by
    obtain ⟨k, e⟩ := strs_get (i := i) t (by simpa using h)
    exact ⟨k, by rw [e]; rfl⟩
def tLenSetS (K : PySem.W.Frag) (ta : TE) : TE := fun σ H Q => ta σ H fun x H1 => ∃ (l : Addr) (xs : List Str), x = .ref l ∧ SqL K H1 l (xs.map V.str) ∧ xs.length ≤ 4000 ∧ Q (.int (distinct xs : Nat)) H1
theorem pe_lenSetS {X : Cx} {a : Expr} {ta : TE} {p p2 q pos : Pos} (hg : Gl X "len") (hm : X.mg "len" = none) (hg2 : Gl X "set") (hm2 : X.mg "set" = none) (ha : PE X a ta) (hc : X.calm = true := by rfl)
    (na : starEach [a] X.env = (false, eval a X.env) :: starEach [] X.env := by rfl) : PE X (.Call (.Name "len" p) [.Call (.Name "set" p2) [a] [] q] [] pos) (tLenSetS X.K ta) := by
  refine ⟨fun pins s σ H Q I h => ?_⟩
  refine Call_ (ld_blt I hg hm boot_len ?_)
  refine PyProof.Rows.callWith_builtin1 (PyProof.Rows.args_cons ?_ rfl) rfl rfl
  refine Call_ (ld_blt I hg2 hm2 boot_set ?_)
  refine PyProof.Rows.callWith_type1 (PyProof.Rows.args_cons (thn (ha.run pins s σ H _ I h) fun v s1 ⟨x, H1, I1, r1, q1⟩ => PyProof.Rows.args_nil ?_) na) na rfl
  obtain ⟨l, xs, rfl, hq, hl, q1⟩ := q1
  cases r1
  obtain ⟨its, r, pl, hz⟩ := I1.list hq
  have hlen : its.toArray.size = xs.length := by rw [List.size_toArray, ← r.length, List.length_map]
  refine call_set_met (knd := PySem.strKind X.prog X.w) (fun i => xs.getD i Str.empty) (I1.ok.hd hc) pl.isList (fun i v hv => ?_) (by rw [hlen]; unfold scanBound; omega) fun h' tk hS hk => ?_
  · obtain ⟨t, rfl⟩ := strs_get r (by simpa using hv)
    exact ⟨strKind_is _ _ _ _, rfl⟩
  · refine PyProof.Rows.args_nil ?_
    rw [hlen] at hS
    have hm := metTo_len (fun i => xs.getD i Str.empty) xs.length
    obtain ⟨o, es, ep, t, ho, hex, hd, _, _, _, hf, hn⟩ := hS
    have I2 : Inv X pins σ H1 { s1 with heap := h', toks := tk } := I1.kept fun b o e => hk b o (Heap.lt_size e) e
    exact call_len_set ho hex hd hf (by rw [hn] <;> omega) ⟨.int (distinct xs : Nat), H1, I2.tok _, ⟨_, by rw [hn]; rfl⟩, q1⟩
theorem met_nodup {xs : List Str} : ∀ i, i ≤ xs.length → ((metTo (fun i => xs.getD i Str.empty) i).length = i ↔ (xs.take i).Nodup) ∧ ∀ x, x ∈ metTo (fun i => xs.getD i Str.empty) i ↔ x ∈ xs.take i
  | 0, _ => ⟨⟨fun _ => by simp, fun _ => rfl⟩, fun x => by simp [metTo]⟩
  | i + 1, hi => by
    have hlt : i < xs.length := hi
    obtain ⟨ih1, ih2⟩ := met_nodup i (Nat.le_of_lt hlt)
    have e1 : xs.getD i Str.empty = xs[i] := by rw [List.getD_eq_getElem?_getD, List.getElem?_eq_getElem hlt]; rfl
    have e2 : xs.take (i + 1) = xs.take i ++ [xs[i]] := by
      rw [List.take_add_one, List.getElem?_eq_getElem hlt]
      rfl
    have hle := metTo_len (fun i => xs.getD i Str.empty) i
    refine ⟨?_, fun x => ?_⟩
    · show (metStep (metTo (fun i => xs.getD i Str.empty) i) (xs.getD i Str.empty)).length = i + 1 ↔ _
      rw [e1, e2]
      unfold metStep
      by_cases h : xs[i] ∈ metTo (fun i => xs.getD i Str.empty) i
      · rw [if_pos h]
        constructor
        · intro z; omega
        · intro z
          have := (List.nodup_append.mp z).2.2 xs[i] ((ih2 _).mp h) xs[i] (List.mem_singleton.mpr rfl)
          exact absurd rfl this
      · rw [if_neg h, List.length_append, List.length_singleton]
        constructor
        · intro z
          refine List.nodup_append.mpr ⟨ih1.mp (by omega), by simp, fun a ha b hb => ?_⟩
          rw [List.mem_singleton.mp hb]
          intro e
          exact h ((ih2 _).mpr (by rw [← e]; exact ha))
        · intro z
          have := ih1.mpr (List.nodup_append.mp z).1
          omega
    · show x ∈ metStep (metTo (fun i => xs.getD i Str.empty) i) (xs.getD i Str.empty) ↔ _
      rw [e1, e2, metStep_mem, ih2, List.mem_append, List.mem_singleton]
theorem distinct_nodup {xs : List Str} : decide ((distinct xs : Int) = (xs.length : Int)) = decide xs.Nodup := by
  have := (met_nodup (xs := xs) xs.length (Nat.le_refl _)).1
  rw [List.take_length] at this
  refine decide_eq_decide.mpr ⟨fun h => this.mp (by unfold distinct at h; omega), fun h => by unfold distinct; rw [this.mpr h]⟩
section
variable {K : PySem.W.Frag} {ρ : List Ent} {k : KE} {te : TE} {kk : Res → Prop} {i j : Int}
theorem ye_lenSet (h : XE K te ρ fun r ρ1 => ∃ xs : List Str, peek ρ1 r = some (.lst (xs.map D.str)) ∧ xs.length ≤ 4000 ∧ k (.d (.int (distinct xs : Nat))) ρ1) : XE K (tLenSetS K te) ρ k := fun F H σ Q E q =>
  h F H σ _ E fun v H1 r ρ1 kp R ⟨xs, px, hl, g⟩ => by
    obtain ⟨a, vs, e, c1, d1⟩ := (R.held.pk R.env px).lst
    have ev : vs = xs.map V.str := by
      clear hl g px c1 e
      revert vs
      induction xs with
      | nil => intro vs d; exact d
      | cons x xs ih =>
        intro vs d
        obtain ⟨w, r, e, h1, h2⟩ := d
        rw [e, show w = V.str x from h1, ih r h2]
        rfl
    subst ev
    exact ⟨a, xs, e, SqL.of c1, hl, q _ H1 (.d (.int (distinct xs : Nat))) ρ1 (hotR.d (hotR.hot kp)) ⟨R.env, rfl⟩ g⟩
theorem hu0 {k : Nat} {A : Around} (r : Room k A) : A.units < cLine := by have := r.units; omega
theorem cpow1 {j : Int} (h0 : 0 ≤ j) (h1 : j ≤ 1000) : CPow 1 j := ⟨h0, by omega, by decide⟩
theorem cmulL {i j : Int} (h0 : -(2 ^ 64) < i) (h1 : i < 2 ^ 64) : CMul i j := .inl ⟨h0, h1⟩
theorem cmulR {i j : Int} (h0 : -(2 ^ 64) < j) (h1 : j < 2 ^ 64) : CMul i j := .inr ⟨h0, h1⟩
theorem pow_cast (a : Nat) : (2 : Int) ^ a = ((2 ^ a : Nat) : Int) := by
  rw [Int.natCast_pow]
  rfl
theorem pow_le8 {a : Nat} (h : a ≤ 8) : 1 ≤ (2 : Int) ^ a ∧ (2 : Int) ^ a ≤ 256 := by
  rw [pow_cast]
  have h1 : 2 ^ a ≤ 2 ^ 8 := Nat.pow_le_pow_right (by decide) h
  have h2 : 1 ≤ 2 ^ a := Nat.one_le_two_pow
  omega
theorem hu1 {k : Nat} {A : Around} (r : Room k A) : A.units + 1 < cLine := by have := r.units; omega
def rDivW : R2 := rI CDivW fun i j => .int (i / j)
theorem op_divW {X : Cx} : OpR X (binaryOp .FloorDiv) rDivW := op_fdivW
/-! shifts -/
def rShlI : R2 := rI CPow fun i j => .int (i * 2 ^ j.toNat)
def rShrI : R2 := rI (fun _ j => 0 ≤ j) fun i j => .int (i / 2 ^ j.toNat)
theorem op_shlU {X : Cx} : OpR X (binaryOp .LShift) rShlI := op_shl
theorem op_shrU {X : Cx} : OpR X (binaryOp .RShift) rShrI := op_shr
theorem o_shlI (hc : CPow i j) (g : kk (.d (.int (i * 2 ^ j.toNat)))) : OpD K rShlI (.int i) (.int j) kk := opd_val (z := .int (i * 2 ^ j.toNat)) (fun M H u v Q h1 h2 q => ⟨i, j, h1.int, h2.int, hc, q _ rfl⟩) g
theorem o_shrI (hc : 0 ≤ j) (g : kk (.d (.int (i / 2 ^ j.toNat)))) : OpD K rShrI (.int i) (.int j) kk := opd_val (z := .int (i / 2 ^ j.toNat)) (fun M H u v Q h1 h2 q => ⟨i, j, h1.int, h2.int, hc, q _ rfl⟩) g
/-! items by any place -/
theorem o_ixAnyL {ds : List D} (h0 : 0 ≤ i) (h1 : i < (ds.length : Int)) (g : ∀ d, ds[i.toNat]? = some d → kk (.d d)) : OpD K (rIx K) (.lst ds) (.int i) kk := by
  have hl : i.toNat < ds.length := by omega
  refine o_ixL (d := ds[i.toNat]) ?_ (g _ (List.getElem?_eq_getElem hl))
  unfold atI ixN
  rw [if_pos h0, if_pos h1]
  exact List.getElem?_eq_getElem hl
theorem o_ixAnyT {ds : List D} (h0 : 0 ≤ i) (h1 : i < (ds.length : Int)) (g : ∀ d, ds[i.toNat]? = some d → kk (.d d)) : OpD K (rIx K) (.tup ds) (.int i) kk := by
  have hl : i.toNat < ds.length := by omega
  refine o_ixT (d := ds[i.toNat]) ?_ (g _ (List.getElem?_eq_getElem hl))
  unfold atI ixN
  rw [if_pos h0, if_pos h1]
  exact List.getElem?_eq_getElem hl
/-! pairs of numbers by <= -/
def rLeU (K : PySem.W.Frag) : R2 := fun x y H Q => rLeI x y H Q ∨ rLeT K x y H Q
theorem op_leV {X : Cx} (hu : X.A.units < cLine) : OpR X (compareOp .LtE) (rLeU X.K) := op_le.or (op_leT hu)
def pairLe (a b c d : Int) : Bool := if a = c then decide (b ≤ d) else decide (a ≤ c)
theorem o_leUI (g : kk (.d (.bl (decide (i ≤ j))))) : OpD K (rLeU K) (.int i) (.int j) kk := opd_val (z := .bl (decide (i ≤ j))) (fun M H u v Q h1 h2 q => .inl ⟨i, j, h1.int, h2.int, q _ rfl⟩) g
theorem o_leP {a b c d : Int} (g : kk (.d (.bl (pairLe a b c d)))) : OpD K (rLeU K) (.tup [.int a, .int b]) (.tup [.int c, .int d]) kk := opd_val (z := .bl (pairLe a b c d)) (fun M H u v Q h1 h2 q => by
  obtain ⟨p, vs, rfl, c1, d1⟩ := h1.tup
  obtain ⟨p2, ws, rfl, c2, d2⟩ := h2.tup
  have e1 : vs = [a, b].map V.int := ints_inv (ns := [a, b]) d1
  have e2 : ws = [c, d].map V.int := ints_inv (ns := [c, d]) d2
  subst e1 e2
  refine .inr ⟨p, p2, [a, b], [c, d], rfl, rfl, c1, c2, ?_⟩
  have e : Ob.lexAt (fun j => decide (([a, b] : List Int).getD j 0 = ([c, d] : List Int).getD j 0)) (fun j => decide (([a, b] : List Int).getD j 0 ≤ ([c, d] : List Int).getD j 0)) (decide (([a, b] : List Int).length ≤ ([c, d] : List Int).length)) 0 (min ([a, b] : List Int).length ([c, d] : List Int).length) = pairLe a b c d := by
    unfold pairLe
    by_cases h1 : a = c
    · by_cases h2 : b = d
      · simp [Ob.lexAt, h1, h2]
      · simp [Ob.lexAt, h1, h2]
    · simp [Ob.lexAt, h1]
  rw [e]
  exact q _ rfl) g
end
/-! sep.join(list of texts) -/
def rJoinU (K : PySem.W.Frag) : V → List V → Hp → VK → Prop := fun x xs H Q => ∃ a p, ∃ ys : List Str, x = .str a ∧ xs = [.ref p] ∧ (SqL K H p (ys.map V.str) ∨ SqT K H p (ys.map V.str)) ∧
  (ys.map (·.length)).sum + ys.length * a.length ≤ 16777216 ∧ Q (.str (Txt.join a ys)) H
theorem pe_joinU {X : Cx} {o e : Expr} {to te : TE} {apos pos : Pos} (ho : PE X o to) (he : PE X e te) (hs : starEach [e] X.env = [(false, eval e X.env)] := by rfl) (hbase : attributeBase o "join" X.env (eval o X.env) = eval o X.env := by rfl) (hline : (apos.endLine == pos.line) = true := by rfl) :
    PE X (.Call (.Attribute o "join" apos) [e] [] pos) (tM1 (rJoinU X.K) to te) := pe_join ho he hs hbase hline
theorem strs_inv {M : Addr → Prop} {K : PySem.W.Frag} {H : Hp} : ∀ {xs : List Str} {vs : List V}, DaAll M K H vs (xs.map D.str) → vs = xs.map V.str
  | [], _, h => h
  | x :: xs, _, h => by
    obtain ⟨w, r, e, h1, h2⟩ := h
    rw [e, show w = V.str x from h1, strs_inv h2]
    rfl
theorem ye_join {K : PySem.W.Frag} {ρ : List Ent} {k : KE} {te : TE} {sep : Str} (h : XE K te ρ fun r ρ1 => ∃ xs : List Str, peek ρ1 r = some (.lst (xs.map D.str)) ∧ (xs.map (·.length)).sum + xs.length * sep.length ≤ 16777216 ∧ k (.d (.str (Txt.join sep xs))) ρ1) : XE K (tM1 (rJoinU K) (tC (.str sep)) te) ρ k := fun F H σ Q E q =>
  ⟨⟨sep, rfl⟩, h F H σ _ E fun v H1 r ρ1 kp R ⟨xs, px, hl, g⟩ => by
    obtain ⟨a, vs, e, c1, d1⟩ := (R.held.pk R.env px).lst
    rw [strs_inv d1] at c1
    exact ⟨sep, a, xs, rfl, by rw [e], .inl (SqL.of c1), hl, q _ H1 (.d (.str (Txt.join sep xs))) ρ1 (hotR.d (hotR.hot kp)) ⟨R.env, rfl⟩ g⟩⟩
/-- signs, joined by nothing -/
theorem join_signs (cs : List Nat) : Txt.join (Str.ofString "") (cs.map fun c => (⟨#[c]⟩ : Str)) = ⟨cs.toArray⟩ := by
  have e : ∀ cs : List Nat, TL.joinL (TL.tl (Str.ofString "")) ((cs.map fun c => (⟨#[c]⟩ : Str)).map TL.tl) = cs := by
    intro cs
    induction cs with
    | nil => rfl
    | cons c cs ih =>
      cases cs with
      | nil => rfl
      | cons d cs =>
        show [c] ++ (TL.tl (Str.ofString "") ++ TL.joinL (TL.tl (Str.ofString "")) (((d :: cs).map fun c => (⟨#[c]⟩ : Str)).map TL.tl)) = _
        rw [ih]
        rfl
  rw [TL.join_eq]
  have h := TL.tl_join (Str.ofString "") (cs.map fun c => (⟨#[c]⟩ : Str))
  rw [e] at h
  have h2 : (Str.join (Str.ofString "") (cs.map fun c => (⟨#[c]⟩ : Str))).cps.toList = cs := h
  cases q : Str.join (Str.ofString "") (cs.map fun c => (⟨#[c]⟩ : Str)) with
  | mk a =>
    rw [q] at h2
    rw [← h2]
end PW
end
section
/-! PWExc: an own error over own bases over ValueError, whose __init__ says super().__init__(x); self.x = x. -/
namespace PySem
namespace SupX
open PySem.W PySem.Calls PyProof.Rows PySem.HandSPX
/-- the text of __init__(self, f) -/
def sArg (f : Str) (p1 p2 : Pos) : Arguments := ⟨[], [⟨"self", none, p1⟩, ⟨f, none, p2⟩], none, [], [], none, []⟩
def sExp (f : Str) (a1 a2 a3 a4 a5 a6 : Pos) : Stmt := .Expr (.Call (.Attribute (.Call (.Name "super" a1) [] [] a2) "__init__" a3) [.Name f a4] [] a5) a6
def sAsg (f : Str) (b1 b2 b3 b4 : Pos) : Stmt := .Assign [.Attribute (.Name "self" b1) f b2] (.Name f b3) b4
def sSc (f : Str) : Scope := ⟨.function, [("self", .local), (f, .local), ("__class__", .free), ("super", .globalImplicit)], false, false, []⟩
structure SupC (prog : Program) (K : Frag) (C fI : Addr) (f q : Str) : Prop where
  cls : ∃ nm qn N bs bm sn sub ab col dd k0 k1 k2 k3 k5, K.lookup C = some (excClassObj nm qn C N bs bm true sn sub ab col dd k0 k1 k2 k3 k5 "ValueError.__new__") ∧ refsVE bm = true ∧ alongIn K "__init__" bm = some (some (.builtin "ValueError.__init__"))
  sa : findIn K (.ref C) "__setattr__" = some (some (.builtin "object.__setattr__"))
  ga : findIn K (.ref C) "__getattribute__" = some (some (.builtin "BaseException.__getattribute__"))
  gg : findIn K (.ref C) "__getattr__" = some none
  noN : findIn K (.ref C) f = some none
  iC : findIn K (.ref C) "__init__" = some (some (.ref fI))
  tC : typeIn K (.ref fI) = some (.type "function")
  kC : keepIn K (.ref C) = true
  exC : subIn K (.ref C) (.type "BaseException") = some true
  veC : subIn K (.ref C) (.type "ValueError") = some true
  sub : mroIn K C (.ref C) = some true
  tyC : typeIn K (.ref C) = some (.type "type")
  hdC : hasDictIn K C = true
  te : exmOne K (.ref C) (.ref C) = some true
  sup : nsIn K mainGlobals "super" = some none
  opq : nsIn K cStatics "thirdparty.any" = some none
  top : (prog.main.scope.names.lookup ("super" : Str)).isSome = false
  lk1 : (sSc f).names.lookup ("super" : Str) = some .globalImplicit
  lk2 : (sSc f).names.lookup ("__class__" : Str) = some .free
  lk3 : (sSc f).names.lookup ("self" : Str) = some .local
  lk4 : (sSc f).names.lookup f = some .local
  nf : f ≠ "self" ∧ (f == ("__debug__" : Str)) = false
  fn : ∃ (oc : Value) (od : Option Addr) (doc pm : Value) (an : Option Addr) (cda : Addr) (ct : Value) (cc : Addr) (osl : Array (Option Value)) (p1 p2 a1 a2 a3 a4 a5 a6 b1 b2 b3 b4 : Pos)
      (ccl : Value) (cdd : Option Addr) (vs : Array Value) (ccs : Array (Option Value)) (file : Str) (tf : Tok) (cl : Value) (cld : Option Addr) (csl : Array (Option Value)),
    K.lookup fI = some ⟨oc, od, .func (ksFn "__init__" q (sArg f p1 p2) [sExp f a1 a2 a3 a4 a5 a6, sAsg f b1 b2 b3 b4] (sSc f) .none .none doc pm an (.ref cda) ct cc), osl⟩ ∧ codeIn K (.ref cda) q = true ∧
    K.lookup cda = some ⟨ccl, cdd, .fields vs, ccs⟩ ∧ vs[2]? = some (.str file tf) ∧ ((prog.main.file : Str) == file) = true ∧ K.lookup cc = some ⟨cl, cld, .cell (some (.ref C)), csl⟩ ∧
    ∃ pl : Sem Bool, ∀ env : Env, eval (.Call (.Attribute (.Call (.Name "super" a1) [] [] a2) "__init__" a3) [.Name f a4] [] a5) env = (do
      let ov ← attributeBase (.Call (.Name "super" a1) [] [] a2) "__init__" env (eval (.Call (.Name "super" a1) [] [] a2) env)
      standAt a3.atName
      let (f', first) ← holding [ov] (getMethod ov "__init__" pl)
      callWith a5 f' first (backTo a5 (starEach [.Name f a4] env)) [])
  bnd : ∀ (p1 p2 : Pos) (bd : List Stmt) (doc pm : Value) (an : Option Addr) (cdv ct : Value) (cc : Addr) (u v : Value), bindArgs (ksFn "__init__" q (sArg f p1 p2) bd (sSc f) .none .none doc pm an cdv ct cc) ⟨[u, v], []⟩ = pure [(("self" : Str), u), (f, v)]
theorem one_fits (v : Value) : [v].length ≤ sizeLine := by
  rw [sizeLine_eq]
  exact (by decide : 1 ≤ 16777216)
section
variable {prog : Program} {w : World} {A : Around} {E : Value → Shared → Prop} {h : Heap} {g : Array GenState} {d : Drawn} {t : Nat} {os : OsState}
variable {nm q : Str} {C N : Addr} {bs bm : List Value} {hdct : Bool} {sn : List Str} {sub : List Value} {ab : Bool} {col : Option Bool} {dd : Option Addr} {k0 k1 k2 k3 k5 : Option Value}
/-- the bound ValueError.__init__ is called -/
theorem sup_call {u e t0 : Addr} {rest : List Value} {Q : Value → Shared → Prop}
    (hC : h.get? C = some (excClassObj nm q C N bs bm hdct sn sub ab col dd k0 k1 k2 k3 k5 "ValueError.__new__")) (he : h.get? e = some (excO C t0)) (hu : h.get? u = some (kxs_mw "ValueError.__init__" e)) (hrest : rest.length ≤ sizeLine)
    (hq : ∀ h' t1, (∀ b o, b ≠ e → h.get? b = some o → h'.get? b = some o) → h'.get? e = some (excO C t1) → Q .none ⟨h', g, d, t, os⟩) :
    wpAny (model prog w) A (call (.ref u) rest) Q E ⟨h, g, d, t, os⟩ := by
  have FB := F.excBase_ValueError
  refine wpAny_call (codeAny_of_tree ?_)
  show wpAny _ (A.in1) (callAny (.ref u) ⟨rest, []⟩) _ _ _
  simp only [callAny]
  refine wpAny_bind (wpAny_load hu ?_)
  simp only [kxs_mw, show ((Value.type "method-wrapper" == Value.type "method") || (Value.type "method-wrapper" == Value.type "builtin_function_or_method") || (Value.type "method-wrapper" == Value.type "method-wrapper")) = true by decide, if_true]
  refine KFB.if_so (by decide) (wpAny_bind (check_bound_init FB.toExcCallFacts hC he rfl ?_))
  refine wpAny_bind (wpAny_pure (wpAny_pure ⟨plainId_quiet FB.init.plain _, codeAny_builtin FB.initEntry ?_⟩))
  exact exc_init_tree (cls := .ref C) (t0 := t0) (dv := none) (c2 := .none) (c3 := .none) (b4 := .bool false) he hrest fun h' k e' t' => hq h' _ k e'
end
/-- what __init__ leaves of a fresh error at x -/
structure SupEnd (h h' : Heap) (x C dx : Addr) (f : Str) (v : Value) : Prop where
  keep : ∀ b o, b ≠ x → h.get? b = some o → h'.get? b = some o
  obj : ∃ t1 : Addr, h'.get? x = some { cls := .ref C, dict := some dx, data := .fields #[.ref t1, .none, .none, .none, .bool false, .none] }
  dbig : h.objs.size ≤ dx
  dne : dx ≠ x
  ns : h'.Ns1 dx (fun y => if y = f then some v else none)
/-- an error that was made -/
structure SupMade (h h' : Heap) (e C d : Addr) (f : Str) (v : Value) : Prop where
  keep : ∀ b o, h.get? b = some o → h'.get? b = some o
  new : h.objs.size ≤ e
  obj : ∃ oe vs, h'.get? e = some oe ∧ oe.cls = .ref C ∧ oe.dict = some d ∧ oe.data = .fields vs ∧ vs[1]? = some .none
  dbig : h.objs.size ≤ d
  dne : d ≠ e
  ns : h'.Ns1 d (fun y => if y = f then some v else none)
section
variable {prog : Program} {w : World} {A : Around} {R : Result → Shared → Prop} {s : Shared} {K : Frag} {mg : Str → Option Value} {C fI : Addr} {f q : Str} {base : Heap}
theorem sup_init (T : SupC prog K C fI f q) (M : L2.Mod K mg base) (kb : ∀ b o, base.get? b = some o → s.heap.get? b = some o) {x t0 : Addr} {v : Value} (X : K.In s.heap) (hx : s.heap.get? x = some (excO C t0)) (hnx : base.get? x = none) (hroom : A.depth < recursionLimit)
    (hq : ∀ h' tk dx, SupEnd s.heap h' x C dx f v → R (.ok (.ret .none)) { s with heap := h', toks := tk }) :
    codeAny (model prog w) A (.call (.ref fI) ⟨[.ref x, v], []⟩) R s := by
  obtain ⟨oc, od, doc, pm, an, cda, ct, cc, osl, p1, p2, a1, a2, a3, a4, a5, a6, b1, b2, b3, b4, ccl, cdd, vs, ccs, file, tf, cl, cld, csl, ho, hcd, hcode, hvs, hfile, hcell, pl, hev⟩ := T.fn
  obtain ⟨nm, qn, N, bs, bm, sn, sub, ab, col, dd, k0, k1, k2, k3, k5, hC, hbm, hal⟩ := T.cls
  have hcl : clsIn K C = some { name := nm, bases := bs, mro := .ref C :: bm, ns := N, qualname := qn, hasDict := true, slotNames := sn, subclasses := sub, abstract := ab, collection := col, hasDel := false } := by unfold clsIn; rw [hC] <;> rfl
  have hcells : ∀ y ∈ (sSc f).names, y.2 ≠ .cell := fun y hy => by
    rcases List.mem_cons.mp hy with e | hy
    · rw [e]; exact fun z => nomatch z
    rcases List.mem_cons.mp hy with e | hy
    · rw [e]; exact fun z => nomatch z
    rcases List.mem_cons.mp hy with e | hy
    · rw [e]; exact fun z => nomatch z
    rcases List.mem_cons.mp hy with e | hy
    · rw [e]; exact fun z => nomatch z
    cases hy
  refine ks_codeAny_call_defAt (fd := ksFn "__init__" q (sArg f p1 p2) [sExp f a1 a2 a3 a4 a5 a6, sAsg f b1 b2 b3 b4] (sSc f) .none .none doc pm an (.ref cda) ct cc) (body := [sExp f a1 a2 a3 a4 a5 a6, sAsg f b1 b2 b3 b4]) (binds := [("self", .ref x), (f, v)])
    hroom (X _ _ ho) rfl (M.nolimit.keeps kb) (codeRec_of X hcd) rfl (BindsTo.of_eq (T.bnd ..)) hcells (fun y hy => ?_) (fun h₁ hns hk₁ => ?_) rfl rfl rfl
  · rcases List.mem_cons.mp hy with e | hy
    · rw [e]; exact T.lk3
    · rw [List.mem_singleton.mp hy]; exact T.lk4
  have hsz : s.heap.objs.size ≠ x := Nat.ne_of_gt (Heap.lt_size hx)
  have X₁ : K.In h₁ := X.keeps hk₁
  have hx₁ := hk₁ _ _ hx
  obtain ⟨mb, hb1, hb2⟩ := M.blt
  have kb₁ : ∀ b o, base.get? b = some o → h₁.get? b = some o := fun b o e => hk₁ b o (kb b o e)
  obtain ⟨oD, hD1, hD2⟩ : ∃ oD, h₁.get? C = some oD ∧ oD.data = .cls { name := nm, bases := bs, mro := .ref C :: bm, ns := N, qualname := qn, hasDict := true, slotNames := sn, subclasses := sub, abstract := ab, collection := col, hasDel := false } := ⟨_, X₁ _ _ hC, rfl⟩
  have hxC : x ≠ C := fun z => by
    have e := M.kin _ _ hC
    rw [← z, hnx] at e
    cases e
  have lkS : ([("self", Value.ref x), (f, v)] : List (Str × Value)).reverse.lookup ("self" : Str) = some (.ref x) := by
    have e : (("self" : Str) == f) = false := by simpa using Ne.symm T.nf.1
    show List.lookup ("self" : Str) [(f, v), ("self", Value.ref x)] = _
    simp [List.lookup, e]
  have lkF : ([("self", Value.ref x), (f, v)] : List (Str × Value)).reverse.lookup f = some v := by
    show List.lookup f [(f, v), ("self", Value.ref x)] = _
    simp [List.lookup]
  have LM : ∀ {h : Heap}, K.In h → Looks (model prog w) h (mroOf (.ref C)) (.ref C :: bm) := fun {h} Y => (looks_clsIn Y hcl).andThen .now
  refine ks_wpAt_execs_cons ?_
  show _root_.PySem.wpAt _ _ _ (exec (.Expr (.Call (.Attribute (.Call (.Name "super" a1) [] [] a2) "__init__" a3) [.Name f a4] [] a5) a6) _) _ _ _
  refine ks_wpAt_Expr_any ?_
  refine ks_wpAt_MethodCall (pl := pl) ?_ (hev _)
  refine ks_wpAt_super_base T.lk1 T.lk2 (by decide) rfl (hk₁ _ _ (X _ _ ho)) rfl rfl rfl (X₁ _ _ hcode) rfl hvs hfile T.top ?_
  refine ks_loadName_global rfl T.lk1 (loadGlobal_builtin (M.glob.keeps kb₁) (mg_none_of M.kin M.glob T.sup) (hb1.keeps kb₁) ((hb2 _ (by decide)).trans (by kernel_rfl)) ⟨rfl, ?_⟩)
  refine wpAny_loadName_free rfl T.lk2 rfl ⟨_, X₁ _ _ hcell, rfl⟩ ?_
  refine wpAny_loadName_local rfl T.lk3 hns lkS ?_
  refine ks_wpAny_isType_cls hD1 hD2 ⟨rfl, ?_⟩
  refine ks_wpAny_call_super hD1 hD2 hx₁ rfl (fun c e => nomatch e) (looks_mroIn X₁ T.sub) (fun h2 e2 k2 => ?_)
  have X₂ : K.In h2 := X₁.keeps k2
  have hx₂ := k2 _ _ hx₁
  have LI : Looks (model prog w) h2 (isInstance (.ref x) (.type "ValueError")) true := (show InstAt h2 x (excO C t0) C none from ⟨hx₂, rfl, rfl, trivial⟩).type.andThen (looks_subIn X₂ T.veC)
  refine kxs_getMethod kxs_ValueError e2 (looks_opaque X₂ T.opq) (LM X₂) (ESX.drop_own C bm) X₂ hal LI hxC rfl ?_
  have k3 : ∀ b o, h₁.get? b = some o → (h2.push (kxs_mw "ValueError.__init__" x)).get? b = some o := fun b o e => Heap.get?_push_of_some _ (k2 b o e)
  have hns3 := hns.keeps k3
  refine kxs_callWith (i := "ValueError.__init__") (x := x) rfl (evalArgs_plain ?_)
  refine spliced_cons (wpAny_Name (wpAny_loadName_local rfl T.lk4 hns3 lkF ?_) T.nf.2)
  refine spliced_nil ⟨Heap.get?_push_at rfl rfl, ?_⟩
  refine sup_call (k3 _ _ (X₁ _ _ hC)) (k3 _ _ hx₁) (Heap.get?_push_at rfl rfl) (one_fits v) fun h4 t4 k4 hx4 => ?_
  have kx : ∀ b o, b ≠ x → h₁.get? b = some o → h4.get? b = some o := fun b o hb e => k4 b o hb (k3 b o e)
  have X₄ : K.In h4 := fun b o e => kx b o (fun z => by have y := M.kin _ _ e; rw [z, hnx] at y; cases y) (X₁ b o e)
  have hns4 : h4.Ns s.heap.objs.size (fun y => ([("self", Value.ref x), (f, v)] : List (Str × Value)).reverse.lookup y) := hns.at fun o e => kx _ o hsz e
  show _root_.PySem.wpAt _ _ _ (execs [.Assign [.Attribute (.Name "self" b1) f b2] (.Name f b3) b4] _) _ _ _
  refine wpAt_of_wpAny ?_
  refine wpAny_execs_cons (plainObj_wpAny_Assign_Attribute ?_)
  refine wpAny_Name (wpAny_loadName_local rfl T.lk4 hns4 lkF ?_) T.nf.2
  refine wpAny_Name (wpAny_loadName_local rfl T.lk3 hns4 lkS ?_) rfl
  refine set_plain X₄ (ox := excO C t4) (od := none) ⟨hx4, rfl, rfl, trivial⟩ T.sa ?_
  refine exc_osa X₄ hx4 hcl (show refsVE (.ref C :: bm) = true from hbm) rfl T.noN (fun h5 tk5 dx k5 dn dne hx5 hn5 => ?_)
  refine wpAny_execs_nil (hq h5 tk5 dx ⟨fun b o hb e => k5 b o hb (kx b o hb (hk₁ b o e)), ⟨t4, hx5⟩, ?_, dne, hn5⟩)
  have z1 : s.heap.objs.size < h4.objs.size := hns4.lt
  exact Nat.le_of_lt (Nat.lt_of_lt_of_le z1 dn)
theorem sup_made (T : SupC prog K C fI f q) (M : L2.Mod K mg base) (kb : ∀ b o, base.get? b = some o → s.heap.get? b = some o) {v : Value} (X : K.In s.heap) (hroom : A.depth + 1 < recursionLimit)
    (hq : ∀ h' tk e d, SupMade s.heap h' e C d f v → R (.ok (.ret (.ref e))) { s with heap := h', toks := tk }) :
    codeAny (model prog w) A (.call (.ref C) ⟨[v], []⟩) R s := by
  obtain ⟨nm, qn, N, bs, bm, sn, sub, ab, col, dd, k0, k1, k2, k3, k5, hC, hbm, hal⟩ := T.cls
  obtain ⟨hp, g, dr, tk, os⟩ := s
  have k : ∀ b o, hp.get? b = some o → ((hp.push (kdv_tup [v])).push (excO C hp.objs.size)).get? b = some o := fun b o e => Heap.get?_push_of_some _ (Heap.get?_push_of_some _ e)
  have hget : ((hp.push (kdv_tup [v])).push (excO C hp.objs.size)).get? (hp.objs.size + 1) = some (excO C hp.objs.size) := by heap_get
  have hnx : base.get? (hp.objs.size + 1) = none := by
    cases e : base.get? (hp.objs.size + 1) with
    | none => rfl
    | some o => exact absurd (Nat.lt_of_succ_lt (Heap.lt_size (kb _ _ e))) (Nat.lt_irrefl _)
  refine call_own F.excBase_ValueError (fun Y => refsVE_contains Y bm hbm) (X _ _ hC) (looks_findIn X T.iC) (fun self => bind_fn X self T.tC) (one_fits v) ?_
  refine sup_init (s := ⟨(hp.push (kdv_tup [v])).push (excO C hp.objs.size), g, dr, tk, os⟩) T M (fun b o e => k b o (kb b o e)) (X.keeps k) hget hnx hroom fun h' tk' dx ⟨k', ⟨t1, hx⟩, dn, dne, hns⟩ => ?_
  have old : ∀ b o, hp.get? b = some o → h'.get? b = some o := fun b o e => k' b o (Nat.ne_of_lt (Nat.lt_succ_of_lt (Heap.lt_size e))) (k b o e)
  have z : hp.objs.size + 1 + 1 ≤ dx := by
    have y := dn
    rw [Heap.size_push, Heap.size_push] at y
    exact y
  exact ⟨rfl, hq h' tk' (hp.objs.size + 1) dx ⟨old, Nat.le_succ _, ⟨_, _, hx, rfl, rfl, rfl, rfl⟩, Nat.le_trans (Nat.le_trans (Nat.le_succ _) (Nat.le_succ _)) z, dne, hns⟩⟩
end
end SupX
end PySem
namespace PW
open PySem PySem.Spec PyProof.Rows L2
theorem relO_one {f : Str} {v : V} {v' : Value} (r : RelV v v') (y : Str) : RelO (List.lookup y [(f, v)]) (if y = f then some v' else none) := by
  by_cases hw : y = f
  · subst hw
    rw [if_pos rfl, show List.lookup y [(y, v)] = some v by simp [List.lookup]]
    exact r
  · have qw : (y == f) = false := by simpa using hw
    rw [if_neg hw, show List.lookup y [(f, v)] = none by simp [List.lookup, qw]]
    trivial
section
variable {X : Cx} {C fI : Addr} {f q : Str}
/-- C(e), C an own error with the field f -/
def tMkSup (C : Addr) (f : Str) (ta : TA) : L2.St → Hp → XK → Prop := fun σ H Q => ta σ H fun vs H1 => ∃ v, vs = [v] ∧ ∀ d, H1 d = none → Q (.ref C) (some d) (upd H1 d (.xd [(f, v)]))
theorem pmk_sup {x : Str} {a : Expr} {ta : TA} {p pos : Pos} {k : Nat} (T : PySem.SupX.SupC X.prog X.K C fI f q) (gC : X.mg x = some (.ref C)) (hr : Room k X.A) (hg : Gl X x) (ha : PA X [a] ta) (hdb : (x == ("__debug__" : Str)) = false := by decide)
    (he : starEach (a :: []) X.env = (false, eval a X.env) :: starEach [] X.env := by rfl) (hpl : (backTo pos (starEach [] X.env)).any (·.1) = false := by rfl) :
    PMk X (.Call (.Name x p) [a] [] pos) (tMkSup C f ta) := by
  intro pins s σ H Q I h
  refine wpAny_Call_Name_kw (ld_glob I hg gC ?_ hdb)
  refine PySem.W.callWith_K (h₀ := X.base) I.ok.mod.kin T.kC (thn (ha.run pos pins s σ H _ I h) fun us s1 hh => ?_) he hpl
  obtain ⟨vs, H1, I1, r1, v, ev, q1⟩ := hh
  subst ev
  refine ⟨I1.kIn, ?_⟩
  cases r1 with
  | cons rv rn =>
    rename_i v' us'
    cases rn
    show wpAny _ _ (call (.ref C) [v']) _ _ _
    have kb := I1.bk
    obtain ⟨hp, g, dr, tk, os⟩ := s1
    refine wpAny_call (PySem.SupX.sup_made T I1.ok.mod kb I1.kIn (by have := hr.dp; omega) fun h' tk' e d M => ?_)
    show MkP X pins σ Q (.ref e) ⟨h', g, dr, tk', os⟩
    obtain ⟨oe, fv, hoe, hc, hd, hdat, h1⟩ := M.obj
    have hns := M.ns
    obtain ⟨G', g1, g2⟩ := restrict h' fun b => decide (b ≠ e)
    have gk : ∀ b, b ≠ e → G'.get? b = h'.get? b := fun b hb => g1 b (decide_eq_true hb)
    have ge : G'.get? e = none := g2 e (by simp)
    have old : ∀ b o, hp.get? b = some o → G'.get? b = some o := fun b o z => (gk b (Nat.ne_of_lt (Nat.lt_of_lt_of_le (Heap.lt_size z) M.new))).trans (M.keep b o z)
    have ob : ObjOk X.prog X.w (upd H1 d (.xd [(f, v)])) G' d (.xd [(f, v)]) := ⟨_, hns.at (fun o z => (gk d M.dne).trans z), fun y => relO_one rv y⟩
    have J : Inv X pins σ (upd H1 d (.xd [(f, v)])) ⟨G', g, dr, tk', os⟩ := I1.laid (t' := tk') old M.dbig ob
    refine ⟨e, oe, fv, ⟨G', g, dr, tk', os⟩, _, .ref C, some d, rfl, J, fun b o z => ?_, ge, hoe, ⟨hc, hd⟩, hdat, h1, ?_, rfl, I1.bare, raises_own T.exC T.tyC, q1 d (I1.hok.fresh M.dbig)⟩
    · by_cases hb : b = e
      · have z' : G'.get? b = some o := z
        rw [hb, ge] at z'
        cases z'
      · exact (gk b hb).symm.trans z
    · rw [upd_ne (Ne.symm M.dne)]
      exact I1.hok.fresh M.new
/-- raise C(e) -/
def tRaiseSup (C : Addr) (f : Str) (W : WX) (ta : TA) : TS := fun _ σ H => tMkSup C f ta σ H fun cls d H' => W cls d σ H'
theorem ps_raiseSup {x : Str} {a : Expr} {ta : TA} {W : WX} {p pos pos2 : Pos} {k : Nat} (hc : X.calm = true) (T : PySem.SupX.SupC X.prog X.K C fI f q) (gC : X.mg x = some (.ref C)) (hr : Room k X.A) (tk : Takes X W) (hg : Gl X x) (ha : PA X [a] ta)
    (hdb : (x == ("__debug__" : Str)) = false := by decide) (he : starEach (a :: []) X.env = (false, eval a X.env) :: starEach [] X.env := by rfl) (hpl : (backTo pos (starEach [] X.env)).any (·.1) = false := by rfl) :
    PS X (.Raise (some (.Call (.Name x p) [a] [] pos)) none pos2) (tRaiseSup C f W ta) := ps_raise hc tk (pmk_sup T gC hr hg ha hdb he hpl)
/-- isinstance(e, c), e the error that the suite holds, of the class D, its dict at dd -/
def rIsX (K : PySem.W.Frag) (D a : Addr) (cls : Value) (d : Option Addr) : List V → Hp → VK → Prop := fun xs H Q => ∃ (c : V) (cv : Value) (b : Bool) (dd : Addr) (fs : List (Str × V)), xs = [.ref a, c] ∧ cls = .ref D ∧ (∀ u, RelV c u → u = cv) ∧ PySem.W.kitOne K (.ref D) cv = some b ∧ d = some dd ∧ H dd = some (.xd fs) ∧ Q (.bl b) H
theorem call_isX {a D : Addr} {oe : Obj} {cls : Value} {d : Option Addr} {pn : List (Addr × Obj)} (C : ExcC X.K D) (hz : Zc cls d oe) (hf : ∃ vs, oe.data = .fields vs) : CallR (X.suite a ((a, oe) :: pn)) (.builtin "isinstance") (rIsX X.K D a cls d) := by
  intro pins s σ H xs us Q I r h
  obtain ⟨c, cv, b, dd, fs, rfl, ecl, hcv, e, ed, ha, q⟩ := h
  subst ecl
  cases r with
  | cons rx rr =>
    cases rr with
    | cons rt rr =>
      cases rr
      cases rx
      have ec := hcv _ rt
      subst ec ed
      obtain ⟨hget, _⟩ := I.pin (a, oe) (List.mem_append.mpr (.inl List.mem_cons_self))
      obtain ⟨vs, hv⟩ := hf
      have hx : ObjOk X.prog X.w H s.heap dd (.xd fs) := I.hok dd _ ha
      obtain ⟨mA, hns, hr⟩ := hx
      obtain ⟨od, ho, _⟩ := lookIn_ns hns
      have J : PySem.W.InstAt s.heap a oe D (some od) := ⟨hget, hz.1, by unfold PySem.W.notCls; rw [hv] <;> rfl, by rw [hz.2]; exact ho⟩
      have hcl : (PySem.W.clsIn X.K D).isSome = true := by
        obtain ⟨cd, hc, _⟩ := PySem.W.any_some C.hd
        rw [hc]
        rfl
      exact PySem.W.kia_one (PySem.W.kitx_exc (od := some od) hcl C.hg C.hk C.hs C.ha C.hn C.ht C.hm) I.kIn J e (fun z => nomatch z) fun tk => ⟨.bl b, H, I.kept (t' := tk) fun _ _ z => z, rfl, q⟩
end
/-! ### C(e, ..) whose __init__ may raise, within a try -/
section
variable {X : Cx} {CX : CXT} {k : Nat} {f C : Addr} {fd : FuncData} {ps : List Str} {sp : Sp} {dvs : List V} {ds : List Value} {E : L2.St → XK} {x : Str} {p pos : Pos} {e : Expr} {es : List Expr} {ta : TA}
def tMakeS (C : Addr) (sp : Sp) (E : L2.St → XK) (t : TA) : TE := fun σ H Q => t σ H fun vs H1 => ∀ x dx, H1 x = none → H1 dx = none → dx ≠ x →
  sp (.ref x :: (vs ++ [])) (upd (upd H1 dx (.own x)) x (.ins C dx [])) (fun v H2 => v = .non ∧ Q (.ref x) H2) (E σ)
theorem run_makeS {pins : List (Addr × Obj)} {σ : L2.St} {H : Hp} {s : Shared} {Q : VK} {us : List Value} {vs : List V} (M : Mk X.K C f) (F : FnOk X.prog X.w X.K X.mg X.base CX k f fd ps sp) (hr : Room (k + 1) X.A) (hb : Binds X.K fd ps ds) (hd : Vals dvs ds)
    (hx : PassesAt CX X σ (E σ)) (I : Inv X pins σ H s) (r : Vals vs us)
    (h : ∀ x dx, H x = none → H dx = none → dx ≠ x → sp (.ref x :: (vs ++ dvs)) (upd (upd H dx (.own x)) x (.ins C dx [])) (fun v H2 => v = .non ∧ Q (.ref x) H2) (E σ)) :
    wpAny (model X.prog X.w) X.A (call (.ref C) us) (EP X pins σ Q) X.xe s := by
  have r1 : Vals (vs ++ dvs) (us ++ ds) := r.append hd
  have hq := h (s.heap.objs.size + 1) s.heap.objs.size (I.hok.fresh (Nat.le_succ _)) (I.hok.fresh (Nat.le_refl _)) (Nat.ne_of_lt (Nat.lt_succ_self _))
  have I2 := Inv.made (C := C) I
  have r2 : Vals (V.ref (s.heap.objs.size + 1) :: (vs ++ dvs)) (Value.ref (s.heap.objs.size + 1) :: (us ++ ds)) := .cons rfl r1
  have hl : (Value.ref (s.heap.objs.size + 1) :: us ++ ds).length = ps.length := by
    have z := r2.length
    rw [F.len _ _ _ _ hq] at z
    exact z.symm
  refine wpAny_call (make_map (f := f) I.kIn M.makes M.init (beq_iff_eq.mp M.fn) (codeAny_mono (F.run _ X.stack _ _ ⟨Value.ref (s.heap.objs.size + 1) :: us, []⟩ (Value.ref (s.heap.objs.size + 1) :: (us ++ ds)) _ _ (E σ) (hr.make C us [])
    (I2.env0.make C us []) (hb _ (Value.ref (s.heap.objs.size + 1) :: us) I2.kIn hl) r2 hq) fun rr s' hq' => ?_))
  cases rr with
  | error er => exact hx pins _ _ er s' I2 hq'
  | ok fl =>
    cases fl with
    | ret u =>
      obtain ⟨v, H', I3, rv, ev, q3⟩ := I2.after hq'
      subst ev
      exact ⟨rv, ⟨V.ref (s.heap.objs.size + 1), H', I3, rfl, q3⟩⟩
    | next => exact False.elim hq'
    | brk => exact False.elim hq'
    | cont => exact False.elim hq'
theorem pe_makeS (M : Mk X.K C f) (F : FnOk X.prog X.w X.K X.mg X.base CX k f fd ps sp) (hr : Room (k + 1) X.A) (hg : Gl X x) (hm : X.mg x = some (.ref C)) (hb : Binds X.K fd ps []) (hx : ∀ σ, PassesAt CX X σ (E σ))
    (ha : PA X (e :: es) ta) (hdb : (x == ("__debug__" : Str)) = false := by decide) (he : starEach (e :: es) X.env = (false, eval e X.env) :: starEach es X.env := by rfl) (hpl : (backTo pos (starEach es X.env)).any (·.1) = false := by rfl) :
    PE X (.Call (.Name x p) (e :: es) [] pos) (tMakeS C sp E ta) := by
  refine ⟨fun pins s σ H Q I h => ?_⟩
  refine wpAny_Call_Name_kw (ld_glob I hg hm ?_ hdb)
  refine PySem.W.callWith_K (h₀ := X.base) I.ok.mod.kin M.kp (thn (ha.run pos pins s σ H _ I h) fun us s1 ⟨vs, H1, I1, r, z⟩ => ⟨I1.kIn, ?_⟩) he hpl
  exact run_makeS (dvs := []) (ds := []) M F hr hb .nil (hx σ) I1 r z
end
end PW
end
section
/-! PWTry: try .. except C as n: .., further clauses, where all that is raised is of the first clause. -/
namespace PW
open PySem PySem.Spec PyProof.Rows L2
/-- how the suite of a named clause ends: the name is gone -/
def Ends.less (D : Ends) (i : Nat) : Ends := ⟨fun σ H => D.nx (σ.set i none) H, D.rt, fun σ H => D.bk (σ.set i none) H, fun σ H => D.ct (σ.set i none) H⟩
def wFirst (K : PySem.W.Frag) (c : Value) (i : Nat) (ts : Addr → Value → Option Addr → TS) (D : Ends) : WX := fun cls d σ H => PySem.W.exmOne K cls c = some true ∧ ∀ a, H a = none → ts a cls d (Ends.less D i) (σ.set i (some (.ref a))) H
section
variable {X : Cx} {x n : Str} {c : Value} {i : Nat} {body suite : List Stmt} {b1 : Stmt} {hds : List ExceptHandler} {np pos pos' : Pos} {tb : WX → TS} {ts : Addr → Value → Option Addr → TS}
theorem ps_try_first (hs : X.stack = X.env :: X.outer) (hf : X.env.frame = some X.env.locals) (hN : X.N.Nodup) (hi : X.N[i]? = some n) (hln : X.env.kindOf n = some .local) (hc : Names X x c)
    (hb : ∀ (W : WX) (pn : List (Addr × Obj)) (xe : Value → Shared → Prop), Takes (X.tr pn xe) W → PassesOwn (model X.prog X.w) X.A X.env xe → PSs (X.tr pn xe) body (tb W))
    (hsu : ∀ (a : Addr) (oe : Obj) (cls : Value) (d : Option Addr) (pn : List (Addr × Obj)), Zc cls d oe → (∃ vs, oe.data = .fields vs) → PSs (X.suite a ((a, oe) :: pn)) (b1 :: suite) (ts a cls d)) :
    PS X (.Try body (.ExceptHandler (some (.Name x np)) (some n) (b1 :: suite) pos' :: hds) [] [] pos) (fun D σ H => tb (wFirst X.K c i ts D) D σ H) := by
  refine ⟨fun pins s σ H D I0 h => ?_⟩
  have k0 := I0.ok
  have fr0 : X.A.frames = some (X.env :: X.outer) := k0.frames.trans (congrArg some hs)
  have hbody := (hb (wFirst X.K c i ts D) (X.pn ++ pins) (fun e s1 => wpAny (model X.prog X.w) X.A (noteFrame e X.env) (fun _ s2 => wpAny (model X.prog X.w) X.A (setFlight e none) (fun _ s3 =>
    wpAny (model X.prog X.w) X.A (handleBy e X.env (.ExceptHandler (some (.Name x np)) (some n) (b1 :: suite) pos' :: hds)) (SP X pins D) X.xe s3) X.xe s2) X.xe s1) (fun u s' caught => ?_) PassesOwn.looking).run [] s σ H D (I0.toTry _) h
  · refine wpAny_Try_except (wpAny_mono hbody (fun fl s1 e1 => ?_) fun _ _ z => z)
    cases fl with
    | next => obtain ⟨σ1, H1, J1, q1⟩ := e1; exact wpAny_execs_nil ⟨σ1, H1, J1.ofTry k0, q1⟩
    | brk => obtain ⟨σ1, H1, J1, q1⟩ := e1; exact ⟨σ1, H1, J1.ofTry k0, q1⟩
    | cont => obtain ⟨σ1, H1, J1, q1⟩ := e1; exact ⟨σ1, H1, J1.ofTry k0, q1⟩
    | ret u => obtain ⟨v1, σ1, H1, J1, r1, q1⟩ := e1; exact ⟨v1, σ1, H1, J1.ofTry k0, r1, q1⟩
  · obtain ⟨a, B, sI, pins1, σ1, H1, cls, d, rfl, J0, nb, up, sky, na, os, ag, isC, go⟩ := caught
    have J1 : Inv X pins σ1 H1 sI := J0.ofTry k0
    rw [hs] at sky
    show wpAny (model X.prog X.w) X.A (noteFrame (.ref a) X.env) _ _ s'
    refine Sky.land Zc.steady fr0 hf sky fun h3 fl3 up3 => ?_
    have J3 := (J1.landed (s' := { s' with heap := h3 }) nb fl3.1 (up.trans up3) os ag : Inv X pins σ1 H1 { s' with heap := h3 })
    obtain ⟨oe3, vs3, e3, z3, d3⟩ := fl3.there
    have far : a ∉ frs (X.env :: X.outer) := fun hm => by
      obtain ⟨_, o', e', hnf⟩ := fl3.2.2.1.mem hm
      rw [e3] at e'
      cases e'
      exact hnf _ d3
    have far1 : a ≠ X.env.locals := fun z => far (List.mem_filterMap.mpr ⟨X.env, List.mem_cons_self, by rw [hf, z]⟩)
    have far2 : a ∉ X.fs := fun hm => by
      obtain ⟨w1, w2, w3⟩ := List.mem_filterMap.mp hm
      exact far (List.mem_filterMap.mpr ⟨w1, List.mem_cons_of_mem _ w2, w3⟩)
    have S3 := J3.suite e3 d3 na far1 far2
    refine wpAny_handleBy_cons (codeAny_handlers_test ?_) (fun q => nomatch q)
    have lt : PySem.W.Looks (model X.prog X.w) h3 (typeOf (.ref a)) cls := fun _ _ _ _ k q => wpAny_typeOf_ref (k _ _ e3) (by rw [z3.1]; exact q)
    have named : ∀ {Q : Value → Shared → Prop} {E : Value → Shared → Prop}, Q c { s' with heap := h3 } → wpAny (model X.prog X.w) (X.A.mark (some (.ref a))) (eval (.Name x np) X.env) Q E { s' with heap := h3 } := fun {Q E} q => by
      rcases hc with ⟨hg, hdbg, hm | ⟨hm, hv, hnn⟩⟩
      · exact ld_glob (X := X.suite a ((a, oe3) :: (X.pn ++ pins))) S3 hg hm q hdbg
      · exact ld_blt (X := X.suite a ((a, oe3) :: (X.pn ++ pins))) S3 hg hm hv q hnn hdbg
    refine named ((PySem.W.exm_one (M := model X.prog X.w) J3.kIn lt isC).here ?_)
    refine codeAny_handlers_suite_as (HandSPX.lands_againZ fl3 fun h4 fl4 up4 => ?_)
    have J4 := (J1.landed (s' := { s' with heap := h4 }) nb fl4.1 ((up.trans up3).trans up4) os ag : Inv X pins σ1 H1 { s' with heap := h4 })
    obtain ⟨oe4, vs4, e4, z4, d4⟩ := fl4.there
    have S4 := J4.suite e4 d4 na far1 far2
    refine store_ok (X := X.suite a ((a, oe4) :: (X.pn ++ pins))) (v := .ref a) S4 hN hi (.inl hln) rfl (fun s5 S5 => ?_) (.inr hln)
    refine wpAny_mono ((hsu a oe4 cls d (X.pn ++ pins) z4 ⟨_, d4⟩).run [] s5 _ H1 _ S5 (go a na)) (fun fl s6 e6 => ?_) (fun _ _ z => z.elim)
    have leave : ∀ {σ6 : L2.St} {H6 : Hp} {Q : Shared → Prop}, Inv (X.suite a ((a, oe4) :: (X.pn ++ pins))) [] σ6 H6 s6 → (∀ s7, Inv X pins (σ6.set i none) H6 s7 → Q s7) →
        wpAny (model X.prog X.w) X.A (do bindName X.env n .none; unbindBehindTheSuite X.env n pos') (fun _ s7 => Q s7) X.xe s6 := fun S6 hq => gone_ok (S6.unsuite k0) hN hi hln hq
    cases fl with
    | next => obtain ⟨σ6, H6, S6, q6⟩ := e6; exact leave S6 fun s7 J7 => ⟨_, _, J7, q6⟩
    | brk => obtain ⟨σ6, H6, S6, q6⟩ := e6; exact leave S6 fun s7 J7 => ⟨_, _, J7, q6⟩
    | cont => obtain ⟨σ6, H6, S6, q6⟩ := e6; exact leave S6 fun s7 J7 => ⟨_, _, J7, q6⟩
    | ret u => obtain ⟨v6, σ6, H6, S6, r6, q6⟩ := e6; exact leave S6 fun s7 J7 => ⟨_, _, _, J7, r6, q6⟩
end
/-! ### == of an own class -/
section
variable {X : Cx} {k : Nat} {C f : Addr} {fd : FuncData} {ps : List Str} {sp : Sp}
/-- a == b by a's own __eq__, b an instance of the class or a tuple -/
def rEqOwn (K : PySem.W.Frag) (C : Addr) (sp : Sp) : R2 := fun x y H Q => ∃ a dx fs b, x = .ref a ∧ H a = some (.ins C dx fs) ∧ y = .ref b ∧ ((∃ dy gs, H b = some (.ins C dy gs)) ∨ ∃ ys, SqT K H b ys) ∧
  sp [x, y] H (fun v H' => ∃ c, v = .bl c ∧ Q v H') (fun _ _ _ => False)
theorem op_eqOwn (F : FnOk X.prog X.w X.K X.mg X.base CX0 k f fd ps sp) (hr : Room k X.A) (hs : PySem.W.findIn X.K (.ref C) "__eq__" = some (some (.ref f))) (hf : PySem.W.isFn X.K (.ref f) = true) (hb : Binds X.K fd ps [])
    (nt : PySem.W.notFirst X.K C (.type "tuple") = true) : OpR X (compareOp .Eq) (rEqOwn X.K C sp) := by
  intro pins s σ H x y u v Q I rx ry hq
  obtain ⟨a, dx, fs, b, rfl, ha, rfl, hy, hsp⟩ := hq
  cases rx
  cases ry
  obtain ⟨mA, J, _⟩ := ins_get I.hok ha
  obtain ⟨od, J, _⟩ := J.look
  obtain ⟨m, hF⟩ := I.fr
  have two : Vals [V.ref a, V.ref b] [Value.ref a, Value.ref b] := .cons rfl (.cons rfl .nil)
  have fin : wpAny (model X.prog X.w) X.A (call (.ref f) [.ref a, .ref b]) (PySem.W.CmpBack (EP X pins σ Q)) X.xe s := by
    refine wpAny_mono (run_fn (ds := []) (dvs := []) (E := fun _ _ _ => False) F hr hb .nil (fun _ _ _ _ _ _ _ z => z.elim) I two hsp) (fun w s' hw => ?_) fun _ _ z => z
    obtain ⟨z, H', I', rz, c, ez, q⟩ := hw
    subst ez
    cases rz
    exact ⟨.bl c, H', I', rfl, q⟩
  show wpAny (model X.prog X.w) X.A (richCompare .Eq (.ref a) (.ref b)) (EP X pins σ Q) X.xe s
  rcases hy with ⟨dy, gs, hb2⟩ | ⟨ys, hq2⟩
  · obtain ⟨mB, J2, _⟩ := ins_get I.hok hb2
    obtain ⟨od2, J2, _⟩ := J2.look
    exact PySem.W.cmp_K (op := .Eq) (tb := .ref C) hr.units0 hF I.ok.mod.kin J J2.type (by simp [PySem.W.notFirst]) hs hf fin
  · obtain ⟨its, rv, ⟨o, ho, hc, _⟩, hz⟩ := I.tuple hq2
    exact PySem.W.cmp_K (op := .Eq) (tb := .type "tuple") hr.units0 hF I.ok.mod.kin J (fun _ _ _ _ k q => wpAny_typeOf_ref (k _ _ ho) (by rw [hc]; exact q)) nt hs hf fin
end
end PW
end
section
/-! PWEnd: the law's def is run by the claim's caller alone: no repr is under way there. -/
namespace PW
open PySem PySem.Spec PyProof.Rows L2
/-- the law's def, called by the claim's caller -/
def RunC (P : Program) (w : World) (K : PySem.W.Frag) (mg : Str → Option Value) (base : Heap) (f : Addr) (fd : FuncData) (x : Str) (sp : Sp) : Prop :=
  ∀ (s : Shared) (H : Hp) (u : Value) (v : V) (Q : VK), Env0 P w K mg base callerA [] s H → BindsTo s fd ⟨[u], []⟩ [(x, u)] → RelV v u → sp [v] H Q (fun _ _ _ => False) →
    codeAny (model P w) callerA (.call (.ref f) ⟨[u], []⟩) (CR CX0 [] P w H s Q (fun _ _ _ => False)) s
section
variable {P : Program} {w : World} {K : PySem.W.Frag} {mg mb : Str → Option Value} {base : Heap} {a fa : Addr} {fd : FuncData} {x : Str} {sp : Sp} {s1 : Shared} {vs : List Value} {ns : List Int}
theorem runC_of {k : Nat} {name qual : Str} {params : Arguments} {body : List Stmt} {scope : Scope} {N : List Str} (F : FunD K name qual params body scope [] [] fa fd) (S : FnScope N [x] scope) (hr : Room (k + 1) callerA)
    (hbody : ∀ (cdv : Value) (s : Shared) (H : Hp) (v : V) (Q : VK), Room k (callerA.deeper (envOfC qual scope s.heap.objs.size fa cdv)) → sp [v] H Q (fun _ _ _ => False) →
      ∃ t, PSs (cxOf CX0 P w K mg base N qual scope fa cdv callerA [] s H (fun _ _ _ => False)) body t ∧ t { nx := fun _ H' => Q .non H', rt := Q } (start N [v]) H) : RunC P w K mg base fa fd x sp := by
  intro s H u v Q e0 hb rv hsp
  obtain ⟨oc, od, dV, kV, doc, pm, an, cdv, ct, osl, rfl, lk, hcd, _, _⟩ := F.ex
  have stay : ∀ b o, base.get? b = some o → s.heap.get? b = some o := fun b o e => (e0.bs b o e).1
  have KX : K.In s.heap := e0.mod.kin.keeps stay
  have kinds : ∀ y ∈ [x].zip [u], scope.names.lookup y.1 = some .local ∨ (scope.names.lookup y.1 = some .cell ∧ ((cellsFrom (s.heap.objs.size + 1) scope.names []).lookup y.1).isSome = true) := fun y hy => by
    rcases S.par y.1 (List.of_mem_zip hy).1 with q | q
    · exact .inl q
    · exact .inr ⟨q, PySem.W.cellsFrom_some _ _ _ (.inl q)⟩
  refine codeAny_call_function hr.depth (KX _ _ lk) rfl S.co S.gen rfl (PySem.W.codeRec_of KX hcd) (hb _ _ _ _ ?_)
  refine wpAny_newFunctionEnv_cells S.kind kinds fun env he s2 y => ?_
  subst he
  obtain ⟨t, ht, hq⟩ := hbody cdv s H v Q (hr.deeper _) hsp
  have rs : Vals [v] [u] := .cons rv .nil
  have I := inv_start (CX := CX0) (E := fun _ _ _ => False) S hr.hd e0 rfl rs y
  refine ⟨(e0.mod.nolimit.keeps stay).keeps y.toInCall.keep, codeAny_func (wpAny_mono (ht.run [] s2 (start N [v]) H _ I hq) (fun fl s' hs => ?_) fun e s' hs => hs)⟩
  cases fl with
  | ret u2 => obtain ⟨v2, σ2, H2, J, r2, q2⟩ := hs; exact ⟨v2, H2, J.os, J.bare, J.base, J.hok, r2, q2⟩
  | next => obtain ⟨σ2, H2, J, q2⟩ := hs; exact ⟨V.non, H2, J.os, J.bare, J.base, J.hok, rfl, q2⟩
  | brk => exact hs.elim fun _ z => z.elim fun _ z => z.2.elim
  | cont => exact hs.elim fun _ z => z.elim fun _ z => z.2.elim
theorem law_env {H : Hp} (KX : K.In s1.heap) (hns : s1.heap.Ns mainGlobals mg) (hb : s1.heap.Ns builtinsNs mb) (hbb : ∀ x : Str, x ≠ "__name__" → mb x = bootBuiltins x) (hlim : s1.heap.NoLimit) (hg : s1.gens = #[])
    (ha : s1.heap.get? a = some { cls := .type "list", data := .seq vs.toArray }) (hok : HOk P w H s1.heap) (hA : ∀ b, H b ≠ none → b = a) (hK : H a ≠ none → K.lookup a = none) :
    K.In (hidT s1.heap H) ∧ (hidT s1.heap H).Ns mainGlobals mg ∧ Env0 P w K mg (hidT s1.heap H) callerA [] s1 H := by
  have off : ∀ {b : Addr}, (H b ≠ none → False) → H b = none := fun {b} z => by
    cases q : H b with
    | none => rfl
    | some u => exact (z (by rw [q]; exact fun e => nomatch e)).elim
  have ns1 : ∀ {b : Addr} {m : Str → Option Value}, s1.heap.Ns b m → (hidT s1.heap H).Ns b m := fun {b m} z => by
    obtain ⟨o, es, ep, e, d, r⟩ := z
    refine ⟨o, es, ep, hidT_get e (off fun q => ?_), d, r⟩
    have eb := hA b q
    rw [eb, ha] at e
    rw [← Option.some.inj e] at d
    cases d
  have kin : K.In (hidT s1.heap H) := fun b o e => hidT_get (KX b o e) (off fun q => by
    have eb := hA b q
    rw [eb] at e q
    rw [hK q] at e
    cases e)
  refine ⟨kin, ns1 hns, rfl, ⟨kin, ns1 hns, ⟨mb, ns1 hb, hbb⟩, ?_⟩, fun b o e => of_hidT e, Nat.le_of_eq (hidT_size _ _), trivial, fun b hb => (List.not_mem_nil (show b ∈ ([] : List Addr) from hb)).elim, hok, .of_eq hg⟩
  obtain ⟨mc, h1, h2⟩ := hlim
  exact ⟨mc, ns1 h1, h2⟩
theorem law_heap (KX : K.In s1.heap) (ha : s1.heap.get? a = some { cls := .type "list", data := .seq vs.toArray }) (hi : IntsAre vs ns) (hl : ns.length ≤ sizeLine) :
    ∃ H : Hp, Only H ∧ SqL K H a (ns.map V.int) ∧ HOk P w H s1.heap ∧ (∀ b, H b ≠ none → b = a) ∧ (H a ≠ none → K.lookup a = none) := by
  have rv := vals_ints hi
  cases hk : K.lookup a with
  | some o =>
    have e := (KX a o hk).symm.trans ha
    cases e
    exact ⟨fun _ => none, fun _ => .inl rfl, .inr ⟨_, vs.toArray, _, hk, rfl, rfl, rfl, by rw [List.size_toArray, hi.length]; exact hl, by simpa using rv⟩, (show HOk P w (fun _ => none) s1.heap from fun b u z => nomatch (show (none : Option HO) = some u from z)), (show ∀ b : Addr, (none : Option HO) ≠ none → b = a from fun b z => (z rfl).elim), (show (none : Option HO) ≠ none → _ from fun z => (z rfl).elim)⟩
  | none =>
    refine ⟨fun b => if b = a then some (.frz { cls := .type "list", data := .seq vs.toArray } (.lst (ns.map V.int))) else none, fun b => ?_, .inl (.inr ⟨_, if_pos rfl⟩), fun b u z => ?_, fun b z => ?_, fun _ => rfl⟩
    · rcases Decidable.em (b = a) with hb | hb
      · exact .inr ⟨_, _, if_pos hb⟩
      · exact .inl (if_neg hb)
    · rcases Decidable.em (b = a) with hb | hb
      · cases (if_pos hb).symm.trans z
        rw [hb]
        exact ⟨ha, by rw [List.length_map]; exact hl, vs, _, rv, ha⟩
      · cases (if_neg hb).symm.trans z
    · rcases Decidable.em (b = a) with hb | hb
      · exact hb
      · exact (z (if_neg hb)).elim
theorem law_callG (KX : K.In s1.heap) (hns : s1.heap.Ns mainGlobals mg) (hb : s1.heap.Ns builtinsNs mb) (hbb : ∀ x : Str, x ≠ "__name__" → mb x = bootBuiltins x) (hlim : s1.heap.NoLimit) (hg : s1.gens = #[])
    (ha : s1.heap.get? a = some { cls := .type "list", data := .seq vs.toArray }) (hi : IntsAre vs ns) (hl : ns.length ≤ sizeLine)
    (F : ∀ base : Heap, K.In base → base.Ns mainGlobals mg → RunC P w K mg base fa fd x sp) (hbind : ∀ (s : Shared) (u : Value), BindsTo s fd ⟨[u], []⟩ [(x, u)])
    (hsp : ∀ H : Hp, Only H → SqL K H a (ns.map V.int) → sp [.ref a] H (fun v _ => v = .bl true) fun _ _ _ => False) :
    codeAny (model P w) callerA (.call (.ref fa) ⟨[.ref a], []⟩) (fun r s' => r = .ok (.ret (.bool true)) ∧ OldK s1.heap s'.heap ∧ s'.os = s1.os ∧ AllBare s'.gens) s1 := by
  obtain ⟨H, hO, hS, hok, hA, hK⟩ := law_heap (P := P) (w := w) KX ha hi hl
  obtain ⟨k1, k2, e0⟩ := law_env KX hns hb hbb hlim hg ha hok hA hK
  refine codeAny_mono (F _ k1 k2 s1 H (.ref a) (.ref a) _ e0 (hbind s1 (.ref a)) rfl (hsp H hO hS)) fun r s' h => ?_
  match r, h with
  | .error e, h => exact (show False from h).elim
  | .ok .next, h => exact (show False from h).elim
  | .ok .brk, h => exact (show False from h).elim
  | .ok .cont, h => exact (show False from h).elim
  | .ok (.ret u), h =>
    obtain ⟨v, H2, os, bare, un, ok2, rv, q⟩ := h
    have ev : v = .bl true := q
    subst ev
    obtain rfl : u = Value.bool true := rv
    refine ⟨rfl, OldK.of_keep fun b o e => ?_, os, bare⟩
    cases q2 : H b with
    | none => exact un.keep b o e q2 (fun z => (List.not_mem_nil (show b ∈ ([] : List Addr) from z)).elim) (by simp)
    | some u2 =>
      rcases hO b with z | ⟨ob, xs, z⟩
      · rw [q2] at z; cases z
      · have e1 := (hok b _ z).1
        have e2 := (ok2 b _ (un.frzs b ob _ z)).1
        rw [e] at e1
        cases e1
        exact e2
end
/-- the end of a law whose def is run so -/
theorem walk_ofG {l : PySem.W.OpenLaw} {n : Nat} {q : Program} {loose : List Str} {XP : (Str → Option Value) → Heap → Prop} {YP : World → Heap → Prop} {d : DefRec} {x : Str} (hn : l.most = some n) (hn2 : n ≤ sizeLine) (hdf : d.params.defaults = [])
    (F : ∀ (w : World) (mg : Str → Option Value) (fa : Addr) (h : Heap), YP w h → h.Ns mainGlobals mg → mg d.name = some (.ref fa) →
      ∃ (K : PySem.W.Frag) (fd : FuncData) (sp : Sp), K.In h ∧ (∀ (s : Shared) (u : Value), BindsTo s fd ⟨[u], []⟩ [(x, u)]) ∧
        (∀ (H : Hp) (a : Addr) (ns : List Int), ns.length ≤ n → Only H → SqL K H a (ns.map V.int) → sp [.ref a] H (fun v _ => v = .bl true) fun _ _ _ => False) ∧
        ∀ base : Heap, K.In base → base.Ns mainGlobals mg → RunC l.prog w K mg base fa fd x sp) : PySem.W.WalkO q loose XP YP l.row.toRowW d [] (fun f vs => PySem.call f vs) := by
  refine Att.attach_call hn hdf fun w s0 s1 mg mb fa o pm cd doc a vs ns G Y ho hd hcd hmg hobj hints hlen hg => ?_
  obtain ⟨K, fd, sp, KX, hb, hsp, hF⟩ := F w mg fa _ Y G.T.g hmg
  exact law_callG KX G.T.g G.T.b G.T.builtins G.T.nolimit hg hobj hints (Nat.le_trans hlen hn2) hF hb fun H hO hS => hsp H a ns hlen hO hS
end PW
end
section
/-! PWHead: the head's facts with an own test beside them, and the facts of an error class with super().__init__ read off a part of the heap. -/
namespace PySem
namespace SupX
open PySem.W PySem.Calls PyProof.Rows PySem.HandSPX
def eqV (a b : Option (Option Value)) : Bool := decide (a = b)
def clsB (K : Frag) (C : Addr) : Bool := match K.lookup C with
  | some ⟨.type "type", _, .cls cd, sl⟩ => (match cd.mro, sl.toList with
    | .ref C' :: bm, [_, _, _, _, some (.builtin n), _] => ((C' == C && n == "ValueError.__new__") && (!cd.hasDel && cd.hasDict)) && (refsVE bm && eqV (alongIn K "__init__" bm) (some (some (.builtin "ValueError.__init__"))))
    | _, _ => false)
  | _ => false
theorem clsB_ok {K : Frag} {C : Addr} (q : clsB K C = true) : ∃ nm qn N bs bm sn sub ab col dd k0 k1 k2 k3 k5, K.lookup C = some (excClassObj nm qn C N bs bm true sn sub ab col dd k0 k1 k2 k3 k5 "ValueError.__new__") ∧ refsVE bm = true ∧ alongIn K "__init__" bm = some (some (.builtin "ValueError.__init__")) := by
  unfold clsB at q
  split at q
  · rename_i dd cd sl ho
    split at q
    · rename_i C' bm k0 k1 k2 k3 n k5 hm hs
      simp only [Bool.and_eq_true, beq_iff_eq, Bool.not_eq_true'] at q
      obtain ⟨⟨⟨rfl, rfl⟩, hdel, hdi⟩, hr, ha⟩ := q
      obtain ⟨nm, bs, mro, ns, qn, hd, sn, sub, ab, col, del⟩ := cd
      dsimp only at hm hdel hdi
      subst hm hdel hdi
      have hsl : sl = #[k0, k1, k2, k3, some (.builtin "ValueError.__new__"), k5] := by
        obtain ⟨l⟩ := sl
        simp only at hs
        rw [hs]
      subst hsl
      exact ⟨nm, qn, ns, bs, bm, sn, sub, ab, col, dd, k0, k1, k2, k3, k5, ho, hr, of_decide_eq_true ha⟩
    · cases q
  · cases q
/-- what a function object says, its cells by their names -/
abbrev FnY : Type := Option (Str × Str × Arguments × FuncBody × Scope × Addr × List Str × Addr)
def fnY (K : Frag) (f : Addr) : FnY := match K.lookup f with
  | some ⟨_, _, .func fd, _⟩ => some (fd.name, fd.qualname, fd.params, fd.body, fd.scope, fd.globals, fd.closure.map (·.1), fd.builtins)
  | _ => none
def fnB (K : Frag) (f C : Addr) (q file : Str) : Bool := match K.lookup f with
  | some ⟨_, _, .func fd, _⟩ => (match fd.defaults, fd.kwdefaults, fd.code, fd.closure with
    | .none, .none, .ref cda, [(_, cc)] => (codeIn K (.ref cda) q && (match K.lookup cda with
        | some ⟨_, _, .fields vs, _⟩ => (match (vs[2]? : Option Value) with
          | some (.str fl _) => decide (fl = file)
          | _ => false)
        | _ => false)) && (match K.lookup cc with
        | some ⟨_, _, .cell (some (.ref C')), _⟩ => decide (C' = C)
        | _ => false)
    | _, _, _, _ => false)
  | _ => false
theorem fnB_ok {K : Frag} {f C : Addr} {n q file : Str} {ps : Arguments} {body : List Stmt} {sc : Scope} (e : fnY K f = some (n, q, ps, FuncBody.stmts body, sc, mainGlobals, [("__class__" : Str)], builtinsNs)) (b : fnB K f C q file = true) :
    ∃ (oc : Value) (od : Option Addr) (doc pm : Value) (an : Option Addr) (cda : Addr) (ct : Value) (cc : Addr) (osl : Array (Option Value)) (ccl : Value) (cdd : Option Addr) (vs : Array Value) (ccs : Array (Option Value)) (tf : Tok) (cl : Value) (cld : Option Addr) (csl : Array (Option Value)),
      K.lookup f = some ⟨oc, od, .func (ksFn n q ps body sc .none .none doc pm an (.ref cda) ct cc), osl⟩ ∧ codeIn K (.ref cda) q = true ∧ K.lookup cda = some ⟨ccl, cdd, .fields vs, ccs⟩ ∧ vs[2]? = some (.str file tf) ∧ K.lookup cc = some ⟨cl, cld, .cell (some (.ref C)), csl⟩ := by
  unfold fnB at b
  unfold fnY at e
  split at b
  · rename_i oc od fd osl ho
    rw [ho] at e
    obtain ⟨n1, n2, n3, n4, n5, n6, n7, n8, n9, n10, n11, n12, n13, n14, n15⟩ := fd
    have e2 : (some (n1, n2, n3, n4, n5, n6, n7.map (·.1), n15) : FnY) = some (n, q, ps, FuncBody.stmts body, sc, mainGlobals, [("__class__" : Str)], builtinsNs) := e
    simp only [Option.some.injEq, Prod.mk.injEq] at e2
    obtain ⟨h1, h2, h3, h4, h5, h6, h7, h8⟩ := e2
    subst h1 h2 h3 h4 h5 h6 h8
    dsimp only at b
    split at b
    · rename_i cda x cc
      obtain ⟨b1, b2⟩ := Bool.and_eq_true_iff.mp b
      obtain ⟨b3, b4⟩ := Bool.and_eq_true_iff.mp b1
      have ex : x = ("__class__" : Str) := (List.cons.inj (show [x] = [("__class__" : Str)] from h7)).1
      subst ex
      split at b4
      · rename_i ccl cdd vs ccs hc
        split at b4
        · rename_i fl tf hv
          have ef : fl = file := of_decide_eq_true b4
          subst ef
          split at b2
          · rename_i cl cld C' csl hcc
            have eC : C' = C := of_decide_eq_true b2
            subst eC
            exact ⟨oc, od, _, _, _, _, _, _, osl, _, _, _, _, _, _, _, _, ho, b3, hc, hv, hcc⟩
          · cases b2
        · cases b4
      · cases b4
    · cases b
  · cases b
end SupX
end PySem
namespace HeX
open PySem PySem.Spec PyProof.Rows L2
abbrev AlX : Type := He.AlD × Bool × PySem.SupX.FnY
def asX (g : Addr → Option Obj) (n : Nat) : List Addr := He.asD g n ++ [cStatics]
section
variable (n : Nat) (fa : List He.Fa) (fn : List He.DefD) (xb : PySem.W.Frag → Bool) (xf : PySem.W.Frag → PySem.SupX.FnY) (xv : PySem.SupX.FnY)
def obsX (K : PySem.W.Frag) : AlX := (He.obsD fa fn K, xb K, xf K)
def obsXG (g : Addr → Option Obj) : AlX := obsX fa fn xb xf (He.frG g (asX g n))
def hookX : PySem.W.Hook where
  α := AlX
  obs := fun s => obsXG n fa fn xb xf s.heap.get?
  val := fun _ => (He.valD fn, true, xv)
  says := fun _ h => ∃ K : PySem.W.Frag, K.In h ∧ obsX fa fn xb xf K = (He.valD fn, true, xv)
  of := fun _ _ e => ⟨_, He.frG_in, e⟩
  keeps := fun _ _ _ ⟨K, hK, c⟩ k => ⟨K, PySem.W.Frag.In.keeps hK k, c⟩
end
theorem obsX_eq {n : Nat} {fa : List He.Fa} {fn : List He.DefD} {xb : PySem.W.Frag → Bool} {xf : PySem.W.Frag → PySem.SupX.FnY} {xv : PySem.SupX.FnY} {g : Addr → Option Obj} {s : Shared} (h : ∀ a, g a = s.heap.get? a) : obsXG n fa fn xb xf g = (hookX n fa fn xb xf xv).obs s := by
  have e : g = s.heap.get? := funext h
  rw [e] <;> rfl
end HeX
end
section
namespace LawK08
open PySem PySem.Spec PyProof.Rows L2 PW
def isInteger (x : D) : Bool := x.isInt && !x.isBool
def isWithin (x : D) (a b : Int) : Bool := match x with
  | .int i => decide (a ≤ i) && decide (i ≤ b)
  | _ => false
def isTupleOf (x : D) (n : Int) : Bool := match x with
  | .tup ds => decide ((ds.length : Int) = n)
  | _ => false
def letters : Str := "abcdefghijklmnopqrstuvwxyz"
def letterD (d : D) : Bool := match d with
  | .str s => match s.cps.toList with
    | [c] => decide (c ∈ letters.cps.toList)
    | _ => false
  | _ => false
def isName (x : D) : Bool := match x with
  | .str s => (decide (1 ≤ (s.length : Int)) && decide ((s.length : Int) ≤ 12)) && (signsD s).all letterD
  | _ => false
def isLock (x : D) : Bool := match x with
  | .int i => decide (0 ≤ i)
  | _ => false
def isMember (x : D) : Bool := match x with
  | .tup [a, b] => isName a && isLock b
  | _ => false
def strOf (x : D) : Str := match x with
  | .str s => s
  | _ => Str.empty
def nameOf (x : D) : Str := match x with
  | .tup (a :: _) => strOf a
  | _ => Str.empty
/-- the names of the leaves that are filled -/
def namesOf (ls : List D) : List Str := (ls.filter fun l => !l.isNon).map nameOf
def areLeaves (x : D) (h : Nat) : Bool := match x with
  | .tup ls => decide (ls.length = 2 ^ h) && (ls.all fun l => l.isNon || isMember l) && decide (namesOf ls).Nodup
  | _ => false
def isNode (x : D) (h : Int) (least : Int) : Bool := match x with
  | .tup [.int a, .int b] => (decide (least ≤ a) && decide (a ≤ h)) && (decide (0 ≤ b) && decide (b ≤ 2 ^ (h - a).toNat - 1))
  | _ => false
def filled (ls : List D) (i : Int) : Bool := match ls[i.toNat]? with
  | some l => !l.isNon
  | none => false
def asInt (x : D) : Int := match x with
  | .int i => i
  | _ => 0
def ascending : List D → Bool
  | x :: y :: r => decide (asInt x < asInt y) && ascending (y :: r)
  | _ => true
def isAside (x : D) (a b : Int) (ls : List D) : Bool := match x with
  | .tup xs => xs.all isInteger && ascending xs && xs.all fun l => (decide (b * 2 ^ a.toNat ≤ asInt l) && decide (asInt l < (b + 1) * 2 ^ a.toNat)) && filled ls (asInt l)
  | _ => false
def above (x : D) (p : Int × Int) : Bool := match x with
  | .tup [.int a, .int b] => !pairLe a b p.1 p.2
  | _ => false
def pairOf (x : D) : Int × Int := match x with
  | .tup [.int a, .int b] => (a, b)
  | _ => (0, 0)
def nodesFrom (h : Int) (ls : List D) : Int × Int → List D → Bool
  | _, [] => true
  | p, x :: r => match x with
    | .tup [n, l, s] => isNode n h 1 && above n p && isLock l && isAside s (pairOf n).1 (pairOf n).2 ls && nodesFrom h ls (pairOf n) r
    | _ => false
def areNodes (x : D) (h : Int) (ls : List D) : Bool := match x with
  | .tup ns => nodesFrom h ls (0, 0) ns
  | _ => false
section
def w_is_integer : WF := fun ds k => ∃ x, ds = [x] ∧ x.isBuiltin = true ∧ k (.d (.bl (isInteger x)))
def w_is_within : WF := fun ds k => ∃ x a b, ds = [x, .int a, .int b] ∧ x.isBuiltin = true ∧ k (.d (.bl (isWithin x a b)))
def w_is_tuple_of : WF := fun ds k => ∃ x n, ds = [x, .int n] ∧ x.isBuiltin = true ∧ k (.d (.bl (isTupleOf x n)))
def w_is_name : WF := fun ds k => ∃ x, ds = [x] ∧ x.jn = true ∧ k (.d (.bl (isName x)))
def w_is_lock : WF := fun ds k => ∃ x, ds = [x] ∧ x.isBuiltin = true ∧ k (.d (.bl (isLock x)))
def w_is_member : WF := fun ds k => ∃ x, ds = [x] ∧ x.jn = true ∧ k (.d (.bl (isMember x)))
def w_are_leaves : WF := fun ds k => ∃ (x : D) (h : Nat), ds = [x, .int h] ∧ x.jn = true ∧ h ≤ 8 ∧ k (.d (.bl (areLeaves x h)))
def w_is_node : WF := fun ds k => ∃ (x : D) (h : Nat) (l : Int), ds = [x, .int h, .int l] ∧ x.jn = true ∧ h ≤ 8 ∧ 0 ≤ l ∧ k (.d (.bl (isNode x h l)))
def w_leaves_beneath : WF := fun ds k => ∃ (a : Nat) (b : Int), ds = [.tup [.int a, .int b]] ∧ a ≤ 8 ∧ 0 ≤ b ∧ b ≤ 256 ∧ k (.nw (.lst (rngD (b * 2 ^ a) (2 ^ a))))
def w_is_aside : WF := fun ds k => ∃ (x : D) (a : Nat) (b : Int) (h : Nat) (ls : List D), ds = [x, .tup [.int a, .int b], .tup ls] ∧ x.jn = true ∧ h ≤ 8 ∧ a ≤ h ∧ 0 ≤ b ∧ b ≤ 2 ^ (h - a) - 1 ∧ ls.length = 2 ^ h ∧ k (.d (.bl (isAside x a b ls)))
def w_are_nodes : WF := fun ds k => ∃ (x : D) (h : Nat) (ls : List D), ds = [x, .int h, .tup ls] ∧ x.jn = true ∧ h ≤ 8 ∧ ls.length = 2 ^ h ∧ k (.d (.bl (areNodes x h ls)))
variable {x : D} {a b n : Int} {h : Nat} {ls : List D} {k : Res → Prop}
theorem i_is_integer (h : x.isBuiltin = true) (q : k (.d (.bl (isInteger x)))) : w_is_integer [x] k := ⟨x, rfl, h, q⟩
theorem i_is_within (h : x.isBuiltin = true) (q : k (.d (.bl (isWithin x a b)))) : w_is_within [x, .int a, .int b] k := ⟨x, a, b, rfl, h, q⟩
theorem i_is_tuple_of (h : x.isBuiltin = true) (q : k (.d (.bl (isTupleOf x n)))) : w_is_tuple_of [x, .int n] k := ⟨x, n, rfl, h, q⟩
theorem i_is_name (h : x.jn = true) (q : k (.d (.bl (isName x)))) : w_is_name [x] k := ⟨x, rfl, h, q⟩
theorem i_is_lock (h : x.isBuiltin = true) (q : k (.d (.bl (isLock x)))) : w_is_lock [x] k := ⟨x, rfl, h, q⟩
theorem i_is_member (h : x.jn = true) (q : k (.d (.bl (isMember x)))) : w_is_member [x] k := ⟨x, rfl, h, q⟩
theorem i_are_leaves (h1 : x.jn = true) (h2 : h ≤ 8) (q : k (.d (.bl (areLeaves x h)))) : w_are_leaves [x, .int h] k := ⟨x, h, rfl, h1, h2, q⟩
theorem i_is_node (h1 : x.jn = true) (h2 : h ≤ 8) (h3 : 0 ≤ n) (q : k (.d (.bl (isNode x h n)))) : w_is_node [x, .int h, .int n] k := ⟨x, h, n, rfl, h1, h2, h3, q⟩
end
theorem len_is_integer : ∀ ds k, w_is_integer ds k → ds.length = 1 := fun _ _ ⟨_, e, _⟩ => by rw [e]; rfl
theorem len_is_within : ∀ ds k, w_is_within ds k → ds.length = 3 := fun _ _ ⟨_, _, _, e, _⟩ => by rw [e]; rfl
theorem len_is_tuple_of : ∀ ds k, w_is_tuple_of ds k → ds.length = 2 := fun _ _ ⟨_, _, e, _⟩ => by rw [e]; rfl
theorem len_is_name : ∀ ds k, w_is_name ds k → ds.length = 1 := fun _ _ ⟨_, e, _⟩ => by rw [e]; rfl
theorem len_is_lock : ∀ ds k, w_is_lock ds k → ds.length = 1 := fun _ _ ⟨_, e, _⟩ => by rw [e]; rfl
theorem len_is_member : ∀ ds k, w_is_member ds k → ds.length = 1 := fun _ _ ⟨_, e, _⟩ => by rw [e]; rfl
theorem len_are_leaves : ∀ ds k, w_are_leaves ds k → ds.length = 2 := fun _ _ ⟨_, _, e, _⟩ => by rw [e]; rfl
theorem len_is_node : ∀ ds k, w_is_node ds k → ds.length = 3 := fun _ _ ⟨_, _, _, e, _⟩ => by rw [e]; rfl
theorem len_leaves_beneath : ∀ ds k, w_leaves_beneath ds k → ds.length = 1 := fun _ _ ⟨_, _, e, _⟩ => by rw [e]; rfl
theorem len_is_aside : ∀ ds k, w_is_aside ds k → ds.length = 3 := fun _ _ ⟨_, _, _, _, _, e, _⟩ => by rw [e]; rfl
theorem len_are_nodes : ∀ ds k, w_are_nodes ds k → ds.length = 3 := fun _ _ ⟨_, _, _, e, _⟩ => by rw [e]; rfl

def w_law_mixed : WF := fun ds k => ∃ a b : Int, ds = [.int a, .int b] ∧ ∀ r, 0 ≤ r → r < 2147483399 → k (.d (.int r))
def w_law_refill : WF := fun ds k => ds = [] ∧ k (.d .non)
def w_law_draw : WF := fun ds k => ∃ menu : Int, ds = [.int menu] ∧ 0 < menu ∧ menu ≤ 10 ^ 30 ∧ ∀ r, 0 ≤ r → r < menu → k (.d (.int r))
theorem len_law_mixed : ∀ ds k, w_law_mixed ds k → ds.length = 2 := fun _ _ ⟨_, _, e, _⟩ => by rw [e]; rfl
theorem len_law_refill : ∀ ds k, w_law_refill ds k → ds.length + 1 = 1 := fun _ _ ⟨e, _⟩ => by rw [e]; rfl
theorem len_law_draw : ∀ ds k, w_law_draw ds k → ds.length + 1 = 2 := fun _ _ ⟨_, e, _⟩ => by rw [e]; rfl

def w_law_name : WF := fun ds k => ds = [] ∧ ∀ s, isName (.str s) = true → k (.d (.str s))
def w_law_lock : WF := fun ds k => ds = [] ∧ ∀ i : Int, 0 ≤ i → i < 10 ^ 30 → k (.d (.int i))
def w_law_beneath : WF := fun ds k => ∃ (a : Nat) (b : Int), ds = [.tup [.int a, .int b]] ∧ a ≤ 8 ∧ 0 ≤ b ∧ b ≤ 256 ∧ k (.nw (.lst (rngD (b * 2 ^ a) (2 ^ a))))
def w_law_int : WF := w_is_within
def w_law_named : WF := w_is_name
theorem i_law_draw {n : Int} {k : Res → Prop} (h : 0 < n) (h2 : n ≤ 10 ^ 30) (q : ∀ r, 0 ≤ r → r < n → k (.d (.int r))) : w_law_draw [.int n] k := ⟨n, rfl, h, h2, q⟩
theorem len_law_name : ∀ ds k, w_law_name ds k → ds.length + 1 = 1 := fun _ _ ⟨e, _⟩ => by rw [e]; rfl
theorem len_law_lock : ∀ ds k, w_law_lock ds k → ds.length + 1 = 1 := fun _ _ ⟨e, _⟩ => by rw [e]; rfl
theorem len_law_beneath : ∀ ds k, w_law_beneath ds k → ds.length = 1 := fun _ _ ⟨_, _, e, _⟩ => by rw [e]; rfl
theorem len_law_int : ∀ ds k, w_law_int ds k → ds.length = 3 := len_is_within
theorem len_law_named : ∀ ds k, w_law_named ds k → ds.length = 1 := len_is_name

mutual
/-- every number at most 10 ^ 60 -/
def dIm : D → Bool
  | .int i => decide (i ≤ 10 ^ 60)
  | .tup xs => dImL xs
  | .lst xs => dImL xs
  | _ => true
def dImL : List D → Bool
  | [] => true
  | d :: ds => dIm d && dImL ds
end
theorem imL_mem : ∀ {xs : List D} {x : D}, dImL xs = true → x ∈ xs → dIm x = true
  | y :: ys, x, h, hx => by
    obtain ⟨h1, h2⟩ := Bool.and_eq_true_iff.mp (show (dIm y && dImL ys) = true from h)
    rcases List.mem_cons.mp hx with e | hx
    · rw [e]; exact h1
    · exact imL_mem h2 hx
def w_law_members : WF := fun ds k => ∃ (h : Nat) (x : D), ds = [.int h, x] ∧ x.jn = true ∧ dIm x = true ∧ h ≤ 8 ∧ k (.d (.bl (areLeaves x h)))
def w_law_node : WF := fun ds k => ∃ (x : D) (h : Nat), ds = [x, .int h] ∧ x.jn = true ∧ h ≤ 8 ∧ k (.d (.bl (isNode x h 1)))
def w_law_aside : WF := w_is_aside
def w_law_nodes : WF := fun ds k => ∃ (h : Nat) (ls : List D) (x : D), ds = [.int h, .tup ls, x] ∧ x.jn = true ∧ dIm x = true ∧ h ≤ 8 ∧ ls.length = 2 ^ h ∧ k (.d (.bl (areNodes x h ls)))
theorem len_law_members : ∀ ds k, w_law_members ds k → ds.length = 2 := fun _ _ ⟨_, _, e, _⟩ => by rw [e]; rfl
theorem len_law_node : ∀ ds k, w_law_node ds k → ds.length = 2 := fun _ _ ⟨_, _, e, _⟩ => by rw [e]; rfl
theorem len_law_aside : ∀ ds k, w_law_aside ds k → ds.length = 3 := len_is_aside
theorem len_law_nodes : ∀ ds k, w_law_nodes ds k → ds.length = 3 := fun _ _ ⟨_, _, _, e, _⟩ => by rw [e]; rfl
section
variable {x : D} {a b n : Int} {h : Nat} {ls : List D} {k : Res → Prop}
theorem i_law_int (hb : x.isBuiltin = true) (q : k (.d (.bl (isWithin x a b)))) : w_law_int [x, .int a, .int b] k := ⟨x, a, b, rfl, hb, q⟩
theorem i_law_named (hb : x.jn = true) (q : k (.d (.bl (isName x)))) : w_law_named [x] k := ⟨x, rfl, hb, q⟩
theorem i_law_node (h1 : x.jn = true) (h2 : h ≤ 8) (q : k (.d (.bl (isNode x h 1)))) : w_law_node [x, .int h] k := ⟨x, h, rfl, h1, h2, q⟩
end

/-- what is bad of three parts -/
def badOf (x y z : D) : D := match x with
  | .int i => if 0 ≤ i ∧ i ≤ 8 then match y with
    | .tup ls => if areLeaves (.tup ls) i.toNat = true then (if areNodes z i.toNat ls = true then .non else .str "nodes") else .str "leaves"
    | _ => .str "leaves"
    else .str "height"
  | _ => .str "height"
def w_law_bad : WF := fun ds k => ∃ x y z : D, ds = [.lst [x, y, z]] ∧ x.jn = true ∧ y.jn = true ∧ z.jn = true ∧ dIm y = true ∧ dIm z = true ∧ k (.d (badOf x y z))
def w_law_set : WF := fun ds k => ∃ (xs : List D) (i : Nat) (y : D), ds = [.tup xs, .int i, y] ∧ i < xs.length ∧ xs.length ≤ 5000 ∧ k (.d (.tup (xs.take i ++ [y] ++ xs.drop (i + 1))))
theorem len_law_bad : ∀ ds k, w_law_bad ds k → ds.length = 1 := fun _ _ ⟨_, _, _, e, _⟩ => by rw [e]; rfl
theorem len_law_set : ∀ ds k, w_law_set ds k → ds.length = 3 := fun _ _ ⟨_, _, _, e, _⟩ => by rw [e]; rfl
theorem i_law_members {x : D} {h : Nat} {k : Res → Prop} (h1 : x.jn = true) (h2 : dIm x = true) (h3 : h ≤ 8) (q : k (.d (.bl (areLeaves x h)))) : w_law_members [.int h, x] k := ⟨h, x, rfl, h1, h2, h3, q⟩
theorem i_law_nodes {x : D} {ls : List D} {h : Nat} {k : Res → Prop} (h1 : x.jn = true) (h2 : dIm x = true) (h3 : h ≤ 8) (h4 : ls.length = 2 ^ h) (q : k (.d (.bl (areNodes x h ls)))) : w_law_nodes [.int h, .tup ls, x] k := ⟨h, ls, x, rfl, h1, h2, h3, h4, q⟩

def oddL : List D := [.non, .bl true, .str "a", .tup [], .lst [], .int 0, .int (-1), .int 9, .tup [.str "a"], .tup [.str "a", .int 1], .tup [.int 1, .int 0], .tup [.tup [.int 1, .int 0], .int 1, .tup []], .str "A", .str "abcdefghijklm", .str ""]
def w_law_odd : WF := fun ds k => ds = [] ∧ ∀ x, x ∈ oddL → k (.d x)
theorem len_law_odd : ∀ ds k, w_law_odd ds k → ds.length + 1 = 1 := fun _ _ ⟨e, _⟩ => by rw [e]; rfl

/-- small plain data with small numbers -/
def Ok (x : D) : Prop := x.jn = true ∧ dIm x = true
mutual
/-- numbers and signs whose text is short -/
def dSm : D → Bool
  | .int i => decide (i.natAbs < 10 ^ 61)
  | .str s => PyData.canLay0 (.str s) && s.cps.toList.all fun c => decide (c < 16 ^ 8)
  | .tup xs => dSmL xs
  | .lst xs => dSmL xs
  | .non => true
  | .bl _ => true
  | _ => false
def dSmL : List D → Bool
  | [] => true
  | d :: ds => dSm d && dSmL ds
end
mutual
/-- at least the length of the text by repr -/
def wt : D → Nat
  | .int _ => 66
  | .str s => 10 * s.length + 4
  | .tup xs => 4 + wtL xs
  | .lst xs => 4 + wtL xs
  | _ => 6
def wtL : List D → Nat
  | [] => 0
  | d :: ds => wt d + 2 + wtL ds
end
mutual
/-- how deep -/
def dpt : D → Nat
  | .tup xs => 1 + dptL xs
  | .lst xs => 1 + dptL xs
  | _ => 0
def dptL : List D → Nat
  | [] => 0
  | d :: ds => max (dpt d) (dptL ds)
end
/-- small plain data whose text has at most b signs, of depth k at most -/
def OkB (b k : Nat) (x : D) : Prop := Ok x ∧ dSm x = true ∧ wt x ≤ b ∧ dpt x ≤ k
def w_law_leaf_spoilt : WF := fun ds k => ∃ (ls : List D) (h : Nat), ds = [.tup ls] ∧ h ≤ 8 ∧ areLeaves (.tup ls) h = true ∧ (∀ x ∈ ls, OkB 400 3 x) ∧ (∀ x, OkB 200000 4 x → k (.d x)) ∧ k (.nw (.lst ls))
theorem len_law_leaf_spoilt : ∀ ds k, w_law_leaf_spoilt ds k → ds.length + 1 = 2 := fun _ _ ⟨_, _, e, _⟩ => by rw [e]; rfl
theorem i_law_drawN {m : Int} {k : Res → Prop} (h : 0 < m) (h2 : m ≤ 10 ^ 30) (q : ∀ n : Nat, (n : Int) < m → k (.d (.int n))) : w_law_draw [.int m] k := i_law_draw h h2 fun r h0 h1 => by
  obtain ⟨n, rfl⟩ := Int.eq_ofNat_of_zero_le h0
  exact q n h1
theorem i_law_set {xs : List D} {i : Nat} {y : D} {k : Res → Prop} (h1 : i < xs.length) (h2 : xs.length ≤ 5000) (q : k (.d (.tup (xs.take i ++ [y] ++ xs.drop (i + 1))))) : w_law_set [.tup xs, .int i, y] k := ⟨xs, i, y, rfl, h1, h2, q⟩
theorem i_law_odd {k : Res → Prop} (q : ∀ x, x ∈ oddL → k (.d x)) : w_law_odd [] k := ⟨rfl, q⟩

def dueOf (x y z : D) : D := if (badOf x y z).isNon = true then .tup [.str "made", x, y, z] else .tup [.str "bad", badOf x y z, .bl false, .bl true]
def w_law_due : WF := fun ds k => ∃ x y z : D, ds = [.lst [x, y, z]] ∧ x.jn = true ∧ y.jn = true ∧ z.jn = true ∧ dIm y = true ∧ dIm z = true ∧ k (.d (dueOf x y z))
theorem len_law_due : ∀ ds k, w_law_due ds k → ds.length = 1 := fun _ _ ⟨_, _, _, e, _⟩ => by rw [e]; rfl
theorem i_law_bad {x y z : D} {k : Res → Prop} (h1 : x.jn = true) (h2 : y.jn = true) (h3 : z.jn = true) (h4 : dIm y = true) (h5 : dIm z = true) (q : k (.d (badOf x y z))) : w_law_bad [.lst [x, y, z]] k := ⟨x, y, z, rfl, h1, h2, h3, h4, h5, q⟩

/-- a tree's parts as they should be -/
structure Good (h : Nat) (ls ns : List D) : Prop where
  small : h ≤ 8
  leaves : areLeaves (.tup ls) h = true
  nodes : areNodes (.tup ns) h ls = true
  okL : ∀ x ∈ ls, OkB 400 3 x
  okN : ∀ x ∈ ns, OkB 24000 3 x
  few : ns.length ≤ 256
def w_law_tree : WF := fun ds k => ∃ most : Int, ds = [.int most] ∧ 0 ≤ most ∧ most ≤ 8 ∧ ∀ (h : Nat) (ls ns : List D), Good h ls ns → k (.nw (.lst [.int h, .tup ls, .tup ns]))
theorem len_law_tree : ∀ ds k, w_law_tree ds k → ds.length + 1 = 2 := fun _ _ ⟨_, e, _⟩ => by rw [e]; rfl
theorem i_law_name {k : Res → Prop} (q : ∀ s, isName (.str s) = true → k (.d (.str s))) : w_law_name [] k := ⟨rfl, q⟩
theorem i_law_lock {k : Res → Prop} (q : ∀ i : Int, 0 ≤ i → i < 10 ^ 30 → k (.d (.int i))) : w_law_lock [] k := ⟨rfl, q⟩
theorem i_law_beneathN {a b : Nat} {k : Res → Prop} (h1 : a ≤ 8) (h3 : b ≤ 256) (q : k (.nw (.lst (rngD ((b : Int) * 2 ^ a) (2 ^ a))))) : w_law_beneath [.tup [.int a, .int b]] k := ⟨a, b, rfl, h1, by omega, by omega, q⟩
def w_law_node_spoilt : WF := fun ds k => ∃ (h : Nat) (ls ns : List D), ds = [.int h, .tup ls, .tup ns] ∧ Good h ls ns ∧ ∀ x, OkB 7000000 4 x → k (.d x)
theorem len_law_node_spoilt : ∀ ds k, w_law_node_spoilt ds k → ds.length + 1 = 4 := fun _ _ ⟨_, _, _, e, _⟩ => by rw [e]; rfl
def w_law_spoilt : WF := fun ds k => ∃ (h : Nat) (ls ns : List D), ds = [.lst [.int h, .tup ls, .tup ns]] ∧ Good h ls ns ∧ ∀ x y z, OkB 300 2 x → OkB 200000 4 y → OkB 7000000 4 z → k (.nw (.lst [x, y, z]))
theorem len_law_spoilt : ∀ ds k, w_law_spoilt ds k → ds.length + 1 = 2 := fun _ _ ⟨_, _, _, e, _⟩ => by rw [e]; rfl
theorem i_law_leaf_spoilt {h : Nat} {ls ns : List D} {k : Res → Prop} (g : Good h ls ns) (q1 : ∀ x, OkB 200000 4 x → k (.d x)) (q2 : k (.nw (.lst ls))) : w_law_leaf_spoilt [.tup ls] k := ⟨ls, h, rfl, g.small, g.leaves, g.okL, q1, q2⟩
theorem i_law_node_spoilt {h : Nat} {ls ns : List D} {k : Res → Prop} (g : Good h ls ns) (q1 : ∀ x, OkB 7000000 4 x → k (.d x)) : w_law_node_spoilt [.int h, .tup ls, .tup ns] k := ⟨h, ls, ns, rfl, g, q1⟩

end LawK08
end
section
namespace LawK08
open PySem PySem.Spec PyProof.Rows L2 C8 PW
def top (i : Nat) : Stmt := PySem.Challenge.pw_strangerspost_k08_whole_trees_judged.main.body.getD i (.Pass ⟨0, 0, 0, 0⟩)
abbrev s_is_integer : Stmt := top 1
theorem sc_is_integer : FnScope ["thing"] ["thing"] (defScope s_is_integer) := ⟨rfl, rfl, rfl, by decide +kernel, rfl, by decide +kernel, by decide +kernel⟩
abbrev s_is_within : Stmt := top 2
theorem sc_is_within : FnScope ["thing", "least", "most"] ["thing", "least", "most"] (defScope s_is_within) := ⟨rfl, rfl, rfl, by decide +kernel, rfl, by decide +kernel, by decide +kernel⟩
abbrev s_is_tuple_of : Stmt := top 3
theorem sc_is_tuple_of : FnScope ["thing", "size"] ["thing", "size"] (defScope s_is_tuple_of) := ⟨rfl, rfl, rfl, by decide +kernel, rfl, by decide +kernel, by decide +kernel⟩
abbrev s_is_name : Stmt := top 13
theorem sc_is_name : FnScope ["thing", "sign"] ["thing"] (defScope s_is_name) := ⟨rfl, rfl, rfl, by decide +kernel, rfl, by decide +kernel, by decide +kernel⟩
abbrev s_is_lock : Stmt := top 14
theorem sc_is_lock : FnScope ["thing"] ["thing"] (defScope s_is_lock) := ⟨rfl, rfl, rfl, by decide +kernel, rfl, by decide +kernel, by decide +kernel⟩
abbrev s_is_member : Stmt := top 15
theorem sc_is_member : FnScope ["thing"] ["thing"] (defScope s_is_member) := ⟨rfl, rfl, rfl, by decide +kernel, rfl, by decide +kernel, by decide +kernel⟩
abbrev s_are_leaves : Stmt := top 16
theorem sc_are_leaves : FnScope ["thing", "height", "names", "leaf"] ["thing", "height"] (defScope s_are_leaves) := ⟨rfl, rfl, rfl, by decide +kernel, rfl, by decide +kernel, by decide +kernel⟩
abbrev s_is_node : Stmt := top 17
theorem sc_is_node : FnScope ["thing", "height", "least"] ["thing", "height", "least"] (defScope s_is_node) := ⟨rfl, rfl, rfl, by decide +kernel, rfl, by decide +kernel, by decide +kernel⟩
abbrev s_leaves_beneath : Stmt := top 18
theorem sc_leaves_beneath : FnScope ["node", "wide"] ["node"] (defScope s_leaves_beneath) := ⟨rfl, rfl, rfl, by decide +kernel, rfl, by decide +kernel, by decide +kernel⟩
abbrev s_is_aside : Stmt := top 19
theorem sc_is_aside : FnScope ["thing", "node", "leaves", "leaf", "one", "other"] ["thing", "node", "leaves"] (defScope s_is_aside) := ⟨rfl, rfl, rfl, by decide +kernel, rfl, by decide +kernel, by decide +kernel⟩
abbrev s_are_nodes : Stmt := top 20
theorem sc_are_nodes : FnScope ["thing", "height", "leaves", "last", "one"] ["thing", "height", "leaves"] (defScope s_are_nodes) := ⟨rfl, rfl, rfl, by decide +kernel, rfl, by decide +kernel, by decide +kernel⟩
abbrev s_law_mixed : Stmt := top 23
theorem sc_law_mixed : FnScope ["number", "place"] ["number", "place"] (defScope s_law_mixed) := ⟨rfl, rfl, rfl, by decide +kernel, rfl, by decide +kernel, by decide +kernel⟩
abbrev s_law_refill : Stmt := top 25
theorem sc_law_refill : FnScope ["box", "cell"] ["box"] (defScope s_law_refill) := ⟨rfl, rfl, rfl, by decide +kernel, rfl, by decide +kernel, by decide +kernel⟩
abbrev s_law_draw : Stmt := top 26
theorem sc_law_draw : FnScope ["box", "menu", "rest"] ["box", "menu"] (defScope s_law_draw) := ⟨rfl, rfl, rfl, by decide +kernel, rfl, by decide +kernel, by decide +kernel⟩
abbrev s_law_name : Stmt := top 27
theorem sc_law_name : FnScope ["box", "many", "k"] ["box"] (defScope s_law_name) := ⟨rfl, rfl, rfl, by decide +kernel, rfl, by decide +kernel, by decide +kernel⟩
abbrev s_law_lock : Stmt := top 28
theorem sc_law_lock : FnScope ["box"] ["box"] (defScope s_law_lock) := ⟨rfl, rfl, rfl, by decide +kernel, rfl, by decide +kernel, by decide +kernel⟩
abbrev s_law_beneath : Stmt := top 29
theorem sc_law_beneath : FnScope ["node", "level", "index", "first", "many", "k"] ["node"] (defScope s_law_beneath) := ⟨rfl, rfl, rfl, by decide +kernel, rfl, by decide +kernel, by decide +kernel⟩
abbrev s_law_int : Stmt := top 31
theorem sc_law_int : FnScope ["thing", "least", "most"] ["thing", "least", "most"] (defScope s_law_int) := ⟨rfl, rfl, rfl, by decide +kernel, rfl, by decide +kernel, by decide +kernel⟩
abbrev s_law_named : Stmt := top 32
theorem sc_law_named : FnScope ["thing", "sign"] ["thing"] (defScope s_law_named) := ⟨rfl, rfl, rfl, by decide +kernel, rfl, by decide +kernel, by decide +kernel⟩
abbrev s_law_members : Stmt := top 33
theorem sc_law_members : FnScope ["height", "leaves", "names", "leaf"] ["height", "leaves"] (defScope s_law_members) := ⟨rfl, rfl, rfl, by decide +kernel, rfl, by decide +kernel, by decide +kernel⟩
abbrev s_law_node : Stmt := top 34
theorem sc_law_node : FnScope ["thing", "height"] ["thing", "height"] (defScope s_law_node) := ⟨rfl, rfl, rfl, by decide +kernel, rfl, by decide +kernel, by decide +kernel⟩
abbrev s_law_aside : Stmt := top 35
theorem sc_law_aside : FnScope ["thing", "node", "leaves", "ahead", "beneath", "leaf"] ["thing", "node", "leaves"] (defScope s_law_aside) := ⟨rfl, rfl, rfl, by decide +kernel, rfl, by decide +kernel, by decide +kernel⟩
abbrev s_law_nodes : Stmt := top 36
theorem sc_law_nodes : FnScope ["height", "leaves", "nodes", "ahead", "node"] ["height", "leaves", "nodes"] (defScope s_law_nodes) := ⟨rfl, rfl, rfl, by decide +kernel, rfl, by decide +kernel, by decide +kernel⟩
abbrev s_law_bad : Stmt := top 37
theorem sc_law_bad : FnScope ["parts"] ["parts"] (defScope s_law_bad) := ⟨rfl, rfl, rfl, by decide +kernel, rfl, by decide +kernel, by decide +kernel⟩
abbrev s_law_set : Stmt := top 39
theorem sc_law_set : FnScope ["things", "at", "thing"] ["things", "at", "thing"] (defScope s_law_set) := ⟨rfl, rfl, rfl, by decide +kernel, rfl, by decide +kernel, by decide +kernel⟩
abbrev s_law_odd : Stmt := top 38
theorem sc_law_odd : FnScope ["box"] ["box"] (defScope s_law_odd) := ⟨rfl, rfl, rfl, by decide +kernel, rfl, by decide +kernel, by decide +kernel⟩
abbrev s_law_leaf_spoilt : Stmt := top 40
theorem sc_law_leaf_spoilt : FnScope ["box", "leaves", "at", "kind", "other"] ["box", "leaves"] (defScope s_law_leaf_spoilt) := ⟨rfl, rfl, rfl, by decide +kernel, rfl, by decide +kernel, by decide +kernel⟩
abbrev s_law_due : Stmt := top 44
theorem sc_law_due : FnScope ["parts", "bad"] ["parts"] (defScope s_law_due) := ⟨rfl, rfl, rfl, by decide +kernel, rfl, by decide +kernel, by decide +kernel⟩
abbrev s_law_tree : Stmt := top 30
theorem sc_law_tree : FnScope ["box", "most", "height", "leaves", "names", "leaf", "name", "nodes", "many", "level", "index", "beneath", "aside"] ["box", "most"] (defScope s_law_tree) := ⟨rfl, rfl, rfl, by decide +kernel, rfl, by decide +kernel, by decide +kernel⟩
abbrev s_law_node_spoilt : Stmt := top 41
theorem sc_law_node_spoilt : FnScope ["box", "height", "leaves", "nodes", "kind", "node", "at", "lock", "aside"] ["box", "height", "leaves", "nodes"] (defScope s_law_node_spoilt) := ⟨rfl, rfl, rfl, by decide +kernel, rfl, by decide +kernel, by decide +kernel⟩
abbrev s_law_spoilt : Stmt := top 42
theorem sc_law_spoilt : FnScope ["box", "parts", "found", "kind"] ["box", "parts"] (defScope s_law_spoilt) := ⟨rfl, rfl, rfl, by decide +kernel, rfl, by decide +kernel, by decide +kernel⟩
abbrev s_Tree_init : Stmt := inClass (top 21) 0
theorem sc_Tree_init : FnScope ["self", "height", "leaves", "nodes"] ["self", "height", "leaves", "nodes"] (defScope s_Tree_init) := ⟨rfl, rfl, rfl, by decide +kernel, rfl, by decide +kernel, by decide +kernel⟩
abbrev s_Tree_eq : Stmt := inClass (top 21) 1
theorem sc_Tree_eq : FnScope ["self", "other"] ["self", "other"] (defScope s_Tree_eq) := ⟨rfl, rfl, rfl, by decide +kernel, rfl, by decide +kernel, by decide +kernel⟩
abbrev s_law_told : Stmt := top 43
theorem sc_law_told : FnScope ["parts", "found", "one", "error"] ["parts"] (defScope s_law_told) := ⟨rfl, rfl, rfl, by decide +kernel, rfl, by decide +kernel, by decide +kernel⟩
abbrev s_law_equal : Stmt := top 45
theorem sc_law_equal : FnScope ["box", "parts", "one", "other"] ["box", "parts"] (defScope s_law_equal) := ⟨rfl, rfl, rfl, by decide +kernel, rfl, by decide +kernel, by decide +kernel⟩
abbrev s_law_main : Stmt := top 46
theorem sc_law_main : FnScope ["script", "box", "turn", "parts", "k", "other"] ["script"] (defScope s_law_main) := ⟨rfl, rfl, rfl, by decide +kernel, rfl, by decide +kernel, by decide +kernel⟩
abbrev s_law_box : Stmt := top 24
theorem sc_law_box : FnScope ["script"] ["script"] (defScope s_law_box) := ⟨rfl, rfl, rfl, by decide +kernel, rfl, by decide +kernel, by decide +kernel⟩
structure Gx (K : PySem.W.Frag) (mg : Str → Option Value) : Prop where
  b_all : mg "all" = none
  b_bool : mg "bool" = none
  b_int : mg "int" = none
  b_isinstance : mg "isinstance" = none
  b_len : mg "len" = none
  b_list : mg "list" = none
  b_range : mg "range" = none
  b_reversed : mg "reversed" = none
  b_set : mg "set" = none
  b_str : mg "str" = none
  b_tuple : mg "tuple" = none
  b_zip : mg "zip" = none
  k_MOST_SIGNS : ∃ u, mg "MOST_SIGNS" = some u ∧ RelV (.int 12) u
  k_SIGNS : ∃ u, mg "SIGNS" = some u ∧ RelV (.str "abcdefghijklmnopqrstuvwxyz") u
  f_is_integer : ∃ f fd, FunD K "is_integer" "is_integer" (defArgs s_is_integer) (defBody s_is_integer) (defScope s_is_integer) [] [] f fd ∧ mg "is_integer" = some (.ref f)
  f_is_within : ∃ f fd, FunD K "is_within" "is_within" (defArgs s_is_within) (defBody s_is_within) (defScope s_is_within) [] [] f fd ∧ mg "is_within" = some (.ref f)
  f_is_tuple_of : ∃ f fd, FunD K "is_tuple_of" "is_tuple_of" (defArgs s_is_tuple_of) (defBody s_is_tuple_of) (defScope s_is_tuple_of) [] [] f fd ∧ mg "is_tuple_of" = some (.ref f)
  f_is_name : ∃ f fd, FunD K "is_name" "is_name" (defArgs s_is_name) (defBody s_is_name) (defScope s_is_name) [] [] f fd ∧ mg "is_name" = some (.ref f)
  f_is_lock : ∃ f fd, FunD K "is_lock" "is_lock" (defArgs s_is_lock) (defBody s_is_lock) (defScope s_is_lock) [] [] f fd ∧ mg "is_lock" = some (.ref f)
  f_is_member : ∃ f fd, FunD K "is_member" "is_member" (defArgs s_is_member) (defBody s_is_member) (defScope s_is_member) [] [] f fd ∧ mg "is_member" = some (.ref f)
  f_are_leaves : ∃ f fd, FunD K "are_leaves" "are_leaves" (defArgs s_are_leaves) (defBody s_are_leaves) (defScope s_are_leaves) [] [] f fd ∧ mg "are_leaves" = some (.ref f)
  f_is_node : ∃ f fd, FunD K "is_node" "is_node" (defArgs s_is_node) (defBody s_is_node) (defScope s_is_node) [] [] f fd ∧ mg "is_node" = some (.ref f)
  f_leaves_beneath : ∃ f fd, FunD K "leaves_beneath" "leaves_beneath" (defArgs s_leaves_beneath) (defBody s_leaves_beneath) (defScope s_leaves_beneath) [] [] f fd ∧ mg "leaves_beneath" = some (.ref f)
  f_is_aside : ∃ f fd, FunD K "is_aside" "is_aside" (defArgs s_is_aside) (defBody s_is_aside) (defScope s_is_aside) [] [] f fd ∧ mg "is_aside" = some (.ref f)
  f_are_nodes : ∃ f fd, FunD K "are_nodes" "are_nodes" (defArgs s_are_nodes) (defBody s_are_nodes) (defScope s_are_nodes) [] [] f fd ∧ mg "are_nodes" = some (.ref f)
  f_law_mixed : ∃ f fd, FunD K "_law_mixed" "_law_mixed" (defArgs s_law_mixed) (defBody s_law_mixed) (defScope s_law_mixed) [] [] f fd ∧ mg "_law_mixed" = some (.ref f)
  f_law_refill : ∃ f fd, FunD K "_law_refill" "_law_refill" (defArgs s_law_refill) (defBody s_law_refill) (defScope s_law_refill) [] [] f fd ∧ mg "_law_refill" = some (.ref f)
  f_law_draw : ∃ f fd, FunD K "_law_draw" "_law_draw" (defArgs s_law_draw) (defBody s_law_draw) (defScope s_law_draw) [] [] f fd ∧ mg "_law_draw" = some (.ref f)
  f_law_name : ∃ f fd, FunD K "_law_name" "_law_name" (defArgs s_law_name) (defBody s_law_name) (defScope s_law_name) [] [] f fd ∧ mg "_law_name" = some (.ref f)
  f_law_lock : ∃ f fd, FunD K "_law_lock" "_law_lock" (defArgs s_law_lock) (defBody s_law_lock) (defScope s_law_lock) [] [] f fd ∧ mg "_law_lock" = some (.ref f)
  f_law_beneath : ∃ f fd, FunD K "_law_beneath" "_law_beneath" (defArgs s_law_beneath) (defBody s_law_beneath) (defScope s_law_beneath) [] [] f fd ∧ mg "_law_beneath" = some (.ref f)
  f_law_int : ∃ f fd, FunD K "_law_int" "_law_int" (defArgs s_law_int) (defBody s_law_int) (defScope s_law_int) [] [] f fd ∧ mg "_law_int" = some (.ref f)
  f_law_named : ∃ f fd, FunD K "_law_named" "_law_named" (defArgs s_law_named) (defBody s_law_named) (defScope s_law_named) [] [] f fd ∧ mg "_law_named" = some (.ref f)
  f_law_members : ∃ f fd, FunD K "_law_members" "_law_members" (defArgs s_law_members) (defBody s_law_members) (defScope s_law_members) [] [] f fd ∧ mg "_law_members" = some (.ref f)
  f_law_node : ∃ f fd, FunD K "_law_node" "_law_node" (defArgs s_law_node) (defBody s_law_node) (defScope s_law_node) [] [] f fd ∧ mg "_law_node" = some (.ref f)
  f_law_aside : ∃ f fd, FunD K "_law_aside" "_law_aside" (defArgs s_law_aside) (defBody s_law_aside) (defScope s_law_aside) [] [] f fd ∧ mg "_law_aside" = some (.ref f)
  f_law_nodes : ∃ f fd, FunD K "_law_nodes" "_law_nodes" (defArgs s_law_nodes) (defBody s_law_nodes) (defScope s_law_nodes) [] [] f fd ∧ mg "_law_nodes" = some (.ref f)
  f_law_bad : ∃ f fd, FunD K "_law_bad" "_law_bad" (defArgs s_law_bad) (defBody s_law_bad) (defScope s_law_bad) [] [] f fd ∧ mg "_law_bad" = some (.ref f)
  f_law_set : ∃ f fd, FunD K "_law_set" "_law_set" (defArgs s_law_set) (defBody s_law_set) (defScope s_law_set) [] [] f fd ∧ mg "_law_set" = some (.ref f)
  f_law_odd : ∃ f fd, FunD K "_law_odd" "_law_odd" (defArgs s_law_odd) (defBody s_law_odd) (defScope s_law_odd) [] [] f fd ∧ mg "_law_odd" = some (.ref f)
  f_law_leaf_spoilt : ∃ f fd, FunD K "_law_leaf_spoilt" "_law_leaf_spoilt" (defArgs s_law_leaf_spoilt) (defBody s_law_leaf_spoilt) (defScope s_law_leaf_spoilt) [] [] f fd ∧ mg "_law_leaf_spoilt" = some (.ref f)
  f_law_due : ∃ f fd, FunD K "_law_due" "_law_due" (defArgs s_law_due) (defBody s_law_due) (defScope s_law_due) [] [] f fd ∧ mg "_law_due" = some (.ref f)
  f_law_tree : ∃ f fd, FunD K "_law_tree" "_law_tree" (defArgs s_law_tree) (defBody s_law_tree) (defScope s_law_tree) [] [] f fd ∧ mg "_law_tree" = some (.ref f)
  f_law_node_spoilt : ∃ f fd, FunD K "_law_node_spoilt" "_law_node_spoilt" (defArgs s_law_node_spoilt) (defBody s_law_node_spoilt) (defScope s_law_node_spoilt) [] [] f fd ∧ mg "_law_node_spoilt" = some (.ref f)
  f_law_spoilt : ∃ f fd, FunD K "_law_spoilt" "_law_spoilt" (defArgs s_law_spoilt) (defBody s_law_spoilt) (defScope s_law_spoilt) [] [] f fd ∧ mg "_law_spoilt" = some (.ref f)
  f_law_told : ∃ f fd, FunD K "_law_told" "_law_told" (defArgs s_law_told) (defBody s_law_told) (defScope s_law_told) [] [] f fd ∧ mg "_law_told" = some (.ref f)
  f_law_equal : ∃ f fd, FunD K "_law_equal" "_law_equal" (defArgs s_law_equal) (defBody s_law_equal) (defScope s_law_equal) [] [] f fd ∧ mg "_law_equal" = some (.ref f)
  f_law_main : ∃ f fd, FunD K "law" "law" (defArgs s_law_main) (defBody s_law_main) (defScope s_law_main) [] [] f fd ∧ mg "law" = some (.ref f)
  f_law_box : ∃ f fd, FunD K "_law_box" "_law_box" (defArgs s_law_box) (defBody s_law_box) (defScope s_law_box) [] [] f fd ∧ mg "_law_box" = some (.ref f)
  k_MOST_HIGH : ∃ u, mg "MOST_HIGH" = some u ∧ RelV (.int 8) u
  b_repr : mg "repr" = none
  b_super : mg "super" = none
  c_Tree : mg "Tree" = some (.ref (He.ga K "Tree"))
  c_BadTree : mg "BadTree" = some (.ref (He.ga K "BadTree"))
  c_NoLeaf : mg "NoLeaf" = some (.ref (He.ga K "NoLeaf"))
  c_NoNode : mg "NoNode" = some (.ref (He.ga K "NoNode"))
  c_PostError : mg "PostError" = some (.ref (He.ga K "PostError"))
end LawK08
end
section
namespace LawK08
open PySem PySem.Spec PyProof.Rows L2 C8 PW
def t_is_integer (K : PySem.W.Frag) : TS :=
  (tRet (tAndV (tCB (rIsi K) (tCons (tVar 0) (tCons (tC (.ty "int")) tNil))) (tNotV (tCB (rIsi K) (tCons (tVar 0) (tCons (tC (.ty "bool")) tNil))))))
def t_is_within (K : PySem.W.Frag) : TS :=
  (tRet (tAndV (PW.tCallS (spW K w_is_integer) L2.E0 (tCons (tVar 0) tNil)) (tChain (rLeU K) (rLeU K) (tVar 1) (tVar 0) (tVar 2))))
def t_is_tuple_of (K : PySem.W.Frag) : TS :=
  (tRet (tAndV (tCB (rIsi K) (tCons (tVar 0) (tCons (tC (.ty "tuple")) tNil))) (tOp (rEqD K) (tCB (rLenU K) (tCons (tVar 0) tNil)) (tVar 1))))
def t_is_name (K : PySem.W.Frag) : TS :=
  (tRet (tAndV (tCB (rIsi K) (tCons (tVar 0) (tCons (tC (.ty "str")) tNil))) (tAndV (tChain (rLeU K) (rLeU K) (tC (.int 1)) (tCB (rLenU K) (tCons (tVar 0) tNil)) (tC (.int 12))) (tCB (rAll K) (tCons (tLc (iSeqU K (tVar 0)) (gName 1) tYes (tOp (rInU K) (tVar 1) (tC (.str "abcdefghijklmnopqrstuvwxyz"))) [1]) tNil)))))
def t_is_lock (K : PySem.W.Frag) : TS :=
  (tRet (tAndV (PW.tCallS (spW K w_is_integer) L2.E0 (tCons (tVar 0) tNil)) (tOp rGeI (tVar 0) (tC (.int 0)))))
def t_is_member (K : PySem.W.Frag) : TS :=
  (tRet (tAndV (PW.tCallS (spW K w_is_tuple_of) L2.E0 (tCons (tVar 0) (tCons (tC (.int 2)) tNil))) (tAndV (PW.tCallS (spW K w_is_name) L2.E0 (tCons (tOp (rIx K) (tVar 0) (tC (.int 0))) tNil)) (PW.tCallS (spW K w_is_lock) L2.E0 (tCons (tOp (rIx K) (tVar 0) (tC (.int 1))) tNil)))))
def t_are_leaves (K : PySem.W.Frag) : TS :=
  (tSeq (tIfS (tOr (tNot (tB (PW.tCallS (spW K w_is_tuple_of) L2.E0 (tCons (tVar 0) (tCons (tOp rShlI (tC (.int 1)) (tVar 1)) tNil))))) (tNot (tB (tCB (rAll K) (tCons (tLc (iSeqU K (tVar 0)) (gName 3) tYes (tOrV (tOp rIsNo (tVar 3) (tC .non)) (PW.tCallS (spW K w_is_member) L2.E0 (tCons (tVar 3) tNil))) [3]) tNil)))))
  (tRet (tC (.bl false)))
  tNext)
  (tSeq (tAsg (tLc (iSeqU K (tVar 0)) (gName 3) (tTest (tOp rIsNotNo (tVar 3) (tC .non))) (tOp (rIx K) (tVar 3) (tC (.int 0))) [3]) (gName 2))
  (tRet (tOp (rEqD K) (tLenSetS K (tVar 2)) (tCB (rLenU K) (tCons (tVar 2) tNil))))))
def t_is_node (K : PySem.W.Frag) : TS :=
  (tSeq (tIfS (tOr (tNot (tB (PW.tCallS (spW K w_is_tuple_of) L2.E0 (tCons (tVar 0) (tCons (tC (.int 2)) tNil))))) (tNot (tB (PW.tCallS (spW K w_is_within) L2.E0 (tCons (tOp (rIx K) (tVar 0) (tC (.int 0))) (tCons (tVar 2) (tCons (tVar 1) tNil)))))))
  (tRet (tC (.bl false)))
  tNext)
  (tRet (PW.tCallS (spW K w_is_within) L2.E0 (tCons (tOp (rIx K) (tVar 0) (tC (.int 1))) (tCons (tC (.int 0)) (tCons (tOp rSubI (tOp rShlI (tC (.int 1)) (tOp rSubI (tVar 1) (tOp (rIx K) (tVar 0) (tC (.int 0))))) (tC (.int 1))) tNil))))))
def t_leaves_beneath (K : PySem.W.Frag) : TS :=
  (tSeq (tAsg (tOp rShlI (tC (.int 1)) (tOp (rIx K) (tVar 0) (tC (.int 0)))) (gName 1))
  (tRet (tLstRg (tRg2 (tOp (rMulU K) (tOp (rIx K) (tVar 0) (tC (.int 1))) (tVar 1)) (tOp (rMulU K) (tOp (rAddU K) (tOp (rIx K) (tVar 0) (tC (.int 1))) (tC (.int 1))) (tVar 1))))))
def t_is_aside (K : PySem.W.Frag) : TS :=
  (tSeq (tIfS (tOr (tNot (tB (tCB (rIsi K) (tCons (tVar 0) (tCons (tC (.ty "tuple")) tNil))))) (tNot (tB (tCB (rAll K) (tCons (tLc (iSeqU K (tVar 0)) (gName 3) tYes (PW.tCallS (spW K w_is_integer) L2.E0 (tCons (tVar 3) tNil)) [3]) tNil)))))
  (tRet (tC (.bl false)))
  tNext)
  (tSeq (tIfS (tNot (tB (tCB (rAll K) (tCons (tLc (RZ.iZipA K (tCons (tVar 0) (tCons (tSl (rSlU K) (tVar 0) (tPart (tC (.int 1))) tNoPart) tNil))) (gTup K 2 (gCons (gName 4) (gCons (gName 5) gNil))) tYes (tOp rLtI (tVar 4) (tVar 5)) [4, 5]) tNil))))
  (tRet (tC (.bl false)))
  tNext)
  (tRet (tCB (rAll K) (tCons (tLc (iSeqU K (tVar 0)) (gName 3) tYes (tAndV (tOp (rInU K) (tVar 3) (tCall (spW K w_leaves_beneath) [] L2.E0 (tCons (tVar 1) tNil))) (tOp rIsNotNo (tOp (rIx K) (tVar 2) (tVar 3)) (tC .non))) [3]) tNil)))))
def t_are_nodes (K : PySem.W.Frag) : TS :=
  (tSeq (tIfS (tNot (tB (tCB (rIsi K) (tCons (tVar 0) (tCons (tC (.ty "tuple")) tNil)))))
  (tRet (tC (.bl false)))
  tNext)
  (tSeq (tAsg (tTup (tCons (tC (.int 0)) (tCons (tC (.int 0)) tNil))) (gName 3))
  (tSeq (tFor (iSeqU K (tVar 0)) (gName 4)
  (tSeq (tIfS (tOr (tNot (tB (PW.tCallS (spW K w_is_tuple_of) L2.E0 (tCons (tVar 4) (tCons (tC (.int 3)) tNil))))) (tOr (tNot (tB (PW.tCallS (spW K w_is_node) L2.E0 (tCons (tOp (rIx K) (tVar 4) (tC (.int 0))) (tCons (tVar 1) (tCons (tC (.int 1)) tNil)))))) (tTest (tOp (rLeU K) (tOp (rIx K) (tVar 4) (tC (.int 0))) (tVar 3)))))
  (tRet (tC (.bl false)))
  tNext)
  (tSeq (tIfS (tOr (tNot (tB (PW.tCallS (spW K w_is_lock) L2.E0 (tCons (tOp (rIx K) (tVar 4) (tC (.int 1))) tNil)))) (tNot (tB (PW.tCallS (spW K w_is_aside) L2.E0 (tCons (tOp (rIx K) (tVar 4) (tC (.int 2))) (tCons (tOp (rIx K) (tVar 4) (tC (.int 0))) (tCons (tVar 2) tNil)))))))
  (tRet (tC (.bl false)))
  tNext)
  (tAsg (tOp (rIx K) (tVar 4) (tC (.int 0))) (gName 3)))))
  (tRet (tC (.bl true))))))
def t_law_mixed (K : PySem.W.Frag) : TS :=
  (tSeq (tAsg (tOp rModI (tCB rIntU (tCons (tOp (rMulU K) (tOp (rAddU K) (tOp (rAddU K) (tVar 0) (tOp (rMulU K) (tC (.int 7919)) (tVar 1))) (tC (.int 1))) (tC (.int 48271))) tNil)) (tC (.int 2147483647))) (gName 0))
  (tSeq (tAsg (tOp rModI (tCB rIntU (tCons (tOp (rMulU K) (tVar 0) (tOp (rAddU K) (tOp rDivI (tVar 0) (tC (.int 1009))) (tC (.int 69621)))) tNil)) (tC (.int 2147483647))) (gName 0))
  (tRet (tOp rModI (tCB rIntU (tCons (tOp (rMulU K) (tVar 0) (tOp (rAddU K) (tOp rDivI (tVar 0) (tC (.int 2003))) (tC (.int 40692)))) tNil)) (tC (.int 2147483399))))))
def t_law_refill (K : PySem.W.Frag) : TS :=
  (tSeq (tAsg (tDGet (tVar 0) (tC (.str "all"))) (gName 1))
  (tSeq (tIfS (tTest (tOp rLtI (tDGet (tVar 0) (tC (.str "at"))) (tCB (rLenU K) (tCons (tDGet (tVar 0) (tC (.str "cells"))) tNil))))
  (tAsg (tCB rIntU (tCons (tOp (rIx K) (tDGet (tVar 0) (tC (.str "cells"))) (tDGet (tVar 0) (tC (.str "at")))) tNil)) (gName 1))
  tNext)
  (tSeq (sDAug (tVar 0) (tC (.str "at")) (tC (.int 1)) (ipI fun i j => i + j))
  (tSeq (sDPut (tVar 0) (tC (.str "great")) (tOp rGeI (tVar 1) (tOp rPowI (tC (.int 10)) (tC (.int 18)))))
  (tSeq (sDPut (tVar 0) (tC (.str "rest")) (tIf (tB (tDGet (tVar 0) (tC (.str "great")))) (tVar 1) (PW.tCallS (spW K w_law_mixed) L2.E0 (tCons (tOp rModI (tCB rIntU (tCons (tVar 1) tNil)) (tC (.int 2147483647))) (tCons (tDGet (tVar 0) (tC (.str "at"))) tNil)))))
  (sDPut (tVar 0) (tC (.str "many")) (tIf (tB (tDGet (tVar 0) (tC (.str "great")))) (tC (.int 60)) (tC (.int 9)))))))))
def t_law_draw (K : PySem.W.Frag) : TS :=
  (tSeq (tIfS (tOr (tTest (tOp (rEqD K) (tDGet (tVar 0) (tC (.str "many"))) (tC (.int 0)))) (tAnd (tB (tDGet (tVar 0) (tC (.str "great")))) (tTest (tOp (rEqD K) (tDGet (tVar 0) (tC (.str "rest"))) (tC (.int 0))))))
  (tDrop (PW.tCallH (spH K w_law_refill) L2.E0 0 tNil))
  tNext)
  (tSeq (sDAug (tVar 0) (tC (.str "many")) (tC (.int 1)) (ipI fun i j => i - j))
  (tSeq (sDAug (tVar 0) (tC (.str "all")) (tC (.int 1)) (ipI fun i j => i + j))
  (tSeq (tAsg (tCB rIntU (tCons (tDGet (tVar 0) (tC (.str "rest"))) tNil)) (gName 2))
  (tSeq (tIfS (tB (tDGet (tVar 0) (tC (.str "great"))))
  (tSeq (sDPut (tVar 0) (tC (.str "rest")) (tOp rDivW (tVar 2) (tVar 1)))
  (tRet (tOp rModI (tCB rIntU (tCons (tVar 2) tNil)) (tVar 1))))
  tNext)
  (tSeq (sDPut (tVar 0) (tC (.str "rest")) (PW.tCallS (spW K w_law_mixed) L2.E0 (tCons (tVar 2) (tCons (tDGet (tVar 0) (tC (.str "all"))) tNil))))
  (tRet (tOp rModI (tCB rIntU (tCons (tOp rDivI (tVar 2) (tC (.int 64))) tNil)) (tVar 1)))))))))
def t_law_name (K : PySem.W.Frag) : TS :=
  (tSeq (tAsg (tIf (tTest (tOp (rEqD K) (PW.tCallH (spH K w_law_draw) L2.E0 0 (tCons (tC (.int 3)) tNil)) (tC (.int 0)))) (tOp (rAddU K) (tC (.int 1)) (PW.tCallH (spH K w_law_draw) L2.E0 0 (tCons (tC (.int 12)) tNil))) (tC (.int 1))) (gName 1))
  (tRet (tM1 (rJoinU K) (tC (.str "")) (tLc (iRng1 (tCons (tVar 1) tNil)) (gName 2) tYes (tOp (rIx K) (tC (.str "abcdefghijklmnopqrstuvwxyz")) (PW.tCallH (spH K w_law_draw) L2.E0 0 (tCons (tC (.int 26)) tNil))) [2]))))
def t_law_lock (K : PySem.W.Frag) : TS :=
  (tRet (tIf (tTest (tOp (rEqD K) (PW.tCallH (spH K w_law_draw) L2.E0 0 (tCons (tC (.int 9)) tNil)) (tC (.int 0)))) (PW.tCallH (spH K w_law_draw) L2.E0 0 (tCons (tOp rPowI (tC (.int 10)) (tC (.int 30))) tNil)) (PW.tCallH (spH K w_law_draw) L2.E0 0 (tCons (tC (.int 60)) tNil))))
def t_law_beneath (K : PySem.W.Frag) : TS :=
  (tSeq (tAsg (tVar 0) (gTup K 2 (gCons (gName 1) (gCons (gName 2) gNil))))
  (tSeq (tAsg (tTup (tCons (tVar 2) (tCons (tC (.int 1)) tNil))) (gTup K 2 (gCons (gName 3) (gCons (gName 4) gNil))))
  (tSeq (tFor (iRng1 (tCons (tVar 1) tNil)) (gName 5)
  (tAsg (tTup (tCons (tOp (rMulU K) (tC (.int 2)) (tVar 3)) (tCons (tOp (rMulU K) (tC (.int 2)) (tVar 4)) tNil))) (gTup K 2 (gCons (gName 3) (gCons (gName 4) gNil)))))
  (tRet (tLc (iRng1 (tCons (tVar 4) tNil)) (gName 5) tYes (tOp (rAddU K) (tVar 3) (tVar 5)) [5])))))
def t_law_int (K : PySem.W.Frag) : TS :=
  (tRet (tAndV (tCB (rIsi K) (tCons (tVar 0) (tCons (tC (.ty "int")) tNil))) (tAndV (tNotV (tCB (rIsi K) (tCons (tVar 0) (tCons (tC (.ty "bool")) tNil)))) (tChain (rLeU K) (rLeU K) (tVar 1) (tVar 0) (tVar 2)))))
def t_law_named (K : PySem.W.Frag) : TS :=
  (tSeq (tIfS (tOr (tNot (tB (tCB (rIsi K) (tCons (tVar 0) (tCons (tC (.ty "str")) tNil))))) (tNot (tTest (tChain (rLeU K) (rLeU K) (tC (.int 1)) (tCB (rLenU K) (tCons (tVar 0) tNil)) (tC (.int 12))))))
  (tRet (tC (.bl false)))
  tNext)
  (tRet (tCB (rAll K) (tCons (tLc (iSeqU K (tVar 0)) (gName 1) tYes (tOp (rInU K) (tVar 1) (tC (.str "abcdefghijklmnopqrstuvwxyz"))) [1]) tNil))))
def t_law_members (K : PySem.W.Frag) : TS :=
  (tSeq (tIfS (tOr (tNot (tB (tCB (rIsi K) (tCons (tVar 1) (tCons (tC (.ty "tuple")) tNil))))) (tTest (tOp (rNeD K) (tCB (rLenU K) (tCons (tVar 1) tNil)) (tCB (rLenU K) (tCons (tCall (spW K w_law_beneath) [] L2.E0 (tCons (tTup (tCons (tVar 0) (tCons (tC (.int 0)) tNil))) tNil)) tNil)))))
  (tRet (tC (.bl false)))
  tNext)
  (tSeq (tAsg (tLst tNil) (gName 2))
  (tSeq (tFor (iSeqU K (tVar 1)) (gName 3)
  (tIfS (tTest (tOp rIsNotNo (tVar 3) (tC .non)))
  (tSeq (tIfS (tOr (tNot (tB (tCB (rIsi K) (tCons (tVar 3) (tCons (tC (.ty "tuple")) tNil))))) (tOr (tTest (tOp (rNeD K) (tCB (rLenU K) (tCons (tVar 3) tNil)) (tC (.int 2)))) (tNot (tB (PW.tCallS (spW K w_law_named) L2.E0 (tCons (tOp (rIx K) (tVar 3) (tC (.int 0))) tNil))))))
  (tRet (tC (.bl false)))
  tNext)
  (tSeq (tIfS (tOr (tNot (tB (PW.tCallS (spW K w_law_int) L2.E0 (tCons (tOp (rIx K) (tVar 3) (tC (.int 1))) (tCons (tC (.int 0)) (tCons (tOp rPowI (tC (.int 10)) (tC (.int 60))) tNil)))))) (tTest (tOp (rInU K) (tOp (rIx K) (tVar 3) (tC (.int 0))) (tVar 2))))
  (tRet (tC (.bl false)))
  tNext)
  (tDrop (tBM K "list" rAppend (tVar 2) (tCons (tOp (rIx K) (tVar 3) (tC (.int 0))) tNil)))))
  tNext))
  (tRet (tC (.bl true))))))
def t_law_node (K : PySem.W.Frag) : TS :=
  (tSeq (tIfS (tOr (tNot (tB (tCB (rIsi K) (tCons (tVar 0) (tCons (tC (.ty "tuple")) tNil))))) (tOr (tTest (tOp (rNeD K) (tCB (rLenU K) (tCons (tVar 0) tNil)) (tC (.int 2)))) (tNot (tB (PW.tCallS (spW K w_law_int) L2.E0 (tCons (tOp (rIx K) (tVar 0) (tC (.int 0))) (tCons (tC (.int 1)) (tCons (tVar 1) tNil))))))))
  (tRet (tC (.bl false)))
  tNext)
  (tRet (PW.tCallS (spW K w_law_int) L2.E0 (tCons (tOp (rIx K) (tVar 0) (tC (.int 1))) (tCons (tC (.int 0)) (tCons (tOp rSubI (tCB (rLenU K) (tCons (tCall (spW K w_law_beneath) [] L2.E0 (tCons (tTup (tCons (tOp rSubI (tVar 1) (tOp (rIx K) (tVar 0) (tC (.int 0)))) (tCons (tC (.int 0)) tNil))) tNil)) tNil)) (tC (.int 1))) tNil))))))
def t_law_aside (K : PySem.W.Frag) : TS :=
  (tSeq (tIfS (tNot (tB (tCB (rIsi K) (tCons (tVar 0) (tCons (tC (.ty "tuple")) tNil)))))
  (tRet (tC (.bl false)))
  tNext)
  (tSeq (tAsg (tUn rNegI (tC (.int 1))) (gName 3))
  (tSeq (tAsg (tCall (spW K w_law_beneath) [] L2.E0 (tCons (tVar 1) tNil)) (gName 4))
  (tSeq (tFor (iSeqU K (tVar 0)) (gName 5)
  (tSeq (tIfS (tOr (tNot (tB (PW.tCallS (spW K w_law_int) L2.E0 (tCons (tVar 5) (tCons (tOp (rAddU K) (tVar 3) (tC (.int 1))) (tCons (tCB (rLenU K) (tCons (tVar 2) tNil)) tNil)))))) (tOr (tTest (tOp (rNotInU K) (tVar 5) (tVar 4))) (tTest (tOp rIsNo (tOp (rIx K) (tVar 2) (tVar 5)) (tC .non)))))
  (tRet (tC (.bl false)))
  tNext)
  (tAsg (tVar 5) (gName 3))))
  (tRet (tC (.bl true)))))))
def t_law_nodes (K : PySem.W.Frag) : TS :=
  (tSeq (tIfS (tNot (tB (tCB (rIsi K) (tCons (tVar 2) (tCons (tC (.ty "tuple")) tNil)))))
  (tRet (tC (.bl false)))
  tNext)
  (tSeq (tAsg (tTup (tCons (tC (.int 0)) (tCons (tC (.int 0)) tNil))) (gName 3))
  (tSeq (tFor (iSeqU K (tVar 2)) (gName 4)
  (tSeq (tIfS (tOr (tNot (tB (tCB (rIsi K) (tCons (tVar 4) (tCons (tC (.ty "tuple")) tNil))))) (tOr (tTest (tOp (rNeD K) (tCB (rLenU K) (tCons (tVar 4) tNil)) (tC (.int 3)))) (tOr (tNot (tB (PW.tCallS (spW K w_law_node) L2.E0 (tCons (tOp (rIx K) (tVar 4) (tC (.int 0))) (tCons (tVar 0) tNil))))) (tTest (tOp (rLeU K) (tOp (rIx K) (tVar 4) (tC (.int 0))) (tVar 3))))))
  (tRet (tC (.bl false)))
  tNext)
  (tSeq (tIfS (tOr (tNot (tB (PW.tCallS (spW K w_law_int) L2.E0 (tCons (tOp (rIx K) (tVar 4) (tC (.int 1))) (tCons (tC (.int 0)) (tCons (tOp rPowI (tC (.int 10)) (tC (.int 60))) tNil)))))) (tNot (tB (PW.tCallS (spW K w_law_aside) L2.E0 (tCons (tOp (rIx K) (tVar 4) (tC (.int 2))) (tCons (tOp (rIx K) (tVar 4) (tC (.int 0))) (tCons (tVar 1) tNil)))))))
  (tRet (tC (.bl false)))
  tNext)
  (tAsg (tOp (rIx K) (tVar 4) (tC (.int 0))) (gName 3)))))
  (tRet (tC (.bl true))))))
def t_law_bad (K : PySem.W.Frag) : TS :=
  (tSeq (tIfS (tNot (tB (PW.tCallS (spW K w_law_int) L2.E0 (tCons (tOp (rIx K) (tVar 0) (tC (.int 0))) (tCons (tC (.int 0)) (tCons (tC (.int 8)) tNil))))))
  (tRet (tC (.str "height")))
  tNext)
  (tSeq (tIfS (tNot (tB (PW.tCallS (spW K w_law_members) L2.E0 (tCons (tOp (rIx K) (tVar 0) (tC (.int 0))) (tCons (tOp (rIx K) (tVar 0) (tC (.int 1))) tNil)))))
  (tRet (tC (.str "leaves")))
  tNext)
  (tRet (tIf (tB (PW.tCallS (spW K w_law_nodes) L2.E0 (tCons (tOp (rIx K) (tVar 0) (tC (.int 0))) (tCons (tOp (rIx K) (tVar 0) (tC (.int 1))) (tCons (tOp (rIx K) (tVar 0) (tC (.int 2))) tNil))))) (tC .non) (tC (.str "nodes"))))))
def t_law_set (K : PySem.W.Frag) : TS :=
  (tRet (tOp (rAddU K) (tOp (rAddU K) (tSl (rSlU K) (tVar 0) tNoPart (tPart (tVar 1))) (tTup (tCons (tVar 2) tNil))) (tSl (rSlU K) (tVar 0) (tPart (tOp (rAddU K) (tVar 1) (tC (.int 1)))) tNoPart)))
def t_law_odd (K : PySem.W.Frag) : TS :=
  (tRet (tOp (rIx K) (tLst (tCons (tC .non) (tCons (tC (.bl true)) (tCons (tC (.str "a")) (tCons (tTup tNil) (tCons (tLst tNil) (tCons (tC (.int 0)) (tCons (tUn rNegI (tC (.int 1))) (tCons (tC (.int 9)) (tCons (tTup (tCons (tC (.str "a")) tNil)) (tCons (tTup (tCons (tC (.str "a")) (tCons (tC (.int 1)) tNil))) (tCons (tTup (tCons (tC (.int 1)) (tCons (tC (.int 0)) tNil))) (tCons (tTup (tCons (tTup (tCons (tC (.int 1)) (tCons (tC (.int 0)) tNil))) (tCons (tC (.int 1)) (tCons (tTup tNil) tNil)))) (tCons (tC (.str "A")) (tCons (tC (.str "abcdefghijklm")) (tCons (tC (.str "")) tNil)))))))))))))))) (PW.tCallH (spH K w_law_draw) L2.E0 0 (tCons (tC (.int 15)) tNil))))
def t_law_leaf_spoilt (K : PySem.W.Frag) : TS :=
  (tSeq (tAsg (PW.tCallH (spH K w_law_draw) L2.E0 0 (tCons (tCB (rLenU K) (tCons (tVar 1) tNil)) tNil)) (gName 2))
  (tSeq (tAsg (PW.tCallH (spH K w_law_draw) L2.E0 0 (tCons (tC (.int 8)) tNil)) (gName 3))
  (tSeq (tAsg (tOp (rIx K) (tVar 1) (PW.tCallH (spH K w_law_draw) L2.E0 0 (tCons (tCB (rLenU K) (tCons (tVar 1) tNil)) tNil))) (gName 4))
  (tSeq (tIfS (tTest (tOp (rEqD K) (tVar 3) (tC (.int 0))))
  (tRet (tOp (rAddU K) (tVar 1) (tTup (tCons (tC .non) tNil))))
  tNext)
  (tSeq (tIfS (tTest (tOp (rEqD K) (tVar 3) (tC (.int 1))))
  (tRet (tSl (rSlU K) (tVar 1) (tPart (tC (.int 1))) tNoPart))
  tNext)
  (tSeq (tIfS (tTest (tOp (rEqD K) (tVar 3) (tC (.int 2))))
  (tRet (tCall (spW K w_law_set) [] L2.E0 (tCons (tVar 1) (tCons (tVar 2) (tCons (tC .non) tNil)))))
  tNext)
  (tSeq (tIfS (tTest (tOp (rEqD K) (tVar 3) (tC (.int 3))))
  (tRet (tCall (spW K w_law_set) [] L2.E0 (tCons (tVar 1) (tCons (tVar 2) (tCons (tIf (tTest (tOp rIsNotNo (tVar 4) (tC .non))) (tTup (tCons (tOp (rIx K) (tVar 4) (tC (.int 0))) (tCons (tC (.int 5)) tNil))) (tTup (tCons (tC (.str "z")) (tCons (tC (.int 0)) tNil)))) tNil)))))
  tNext)
  (tSeq (tIfS (tTest (tOp (rEqD K) (tVar 3) (tC (.int 4))))
  (tRet (tCall (spW K w_law_set) [] L2.E0 (tCons (tVar 1) (tCons (tVar 2) (tCons (tTup (tCons (PW.tCallH (spH K w_law_odd) L2.E0 0 tNil) (tCons (tC (.int 5)) tNil))) tNil)))))
  tNext)
  (tSeq (tIfS (tTest (tOp (rEqD K) (tVar 3) (tC (.int 5))))
  (tRet (tCall (spW K w_law_set) [] L2.E0 (tCons (tVar 1) (tCons (tVar 2) (tCons (tTup (tCons (tC (.str "q")) (tCons (PW.tCallH (spH K w_law_odd) L2.E0 0 tNil) tNil))) tNil)))))
  tNext)
  (tRet (tIf (tTest (tOp (rEqD K) (tVar 3) (tC (.int 6)))) (tCall (spW K w_law_set) [] L2.E0 (tCons (tVar 1) (tCons (tVar 2) (tCons (PW.tCallH (spH K w_law_odd) L2.E0 0 tNil) tNil)))) (tCB (rLstU K) (tCons (tVar 1) tNil)))))))))))))
def t_law_due (K : PySem.W.Frag) : TS :=
  (tSeq (tAsg (tCall (spW K w_law_bad) [] L2.E0 (tCons (tVar 0) tNil)) (gName 1))
  (tRet (tIf (tTest (tOp rIsNo (tVar 1) (tC .non))) (tTup (tCons (tC (.str "made")) (tCons (tOp (rIx K) (tVar 0) (tC (.int 0))) (tCons (tOp (rIx K) (tVar 0) (tC (.int 1))) (tCons (tOp (rIx K) (tVar 0) (tC (.int 2))) tNil))))) (tTup (tCons (tC (.str "bad")) (tCons (tVar 1) (tCons (tC (.bl false)) (tCons (tC (.bl true)) tNil))))))))
def t_law_tree (K : PySem.W.Frag) : TS :=
  (tSeq (tAsg (PW.tCallH (spH K w_law_draw) L2.E0 0 (tCons (tOp (rAddU K) (tVar 1) (tC (.int 1))) tNil)) (gName 2))
  (tSeq (tAsg (tLst tNil) (gName 3))
  (tSeq (tAsg (tLst tNil) (gName 4))
  (tSeq (tFor (iSeqU K (tCall (spW K w_law_beneath) [] L2.E0 (tCons (tTup (tCons (tVar 2) (tCons (tC (.int 0)) tNil))) tNil))) (gName 5)
  (tSeq (tAsg (PW.tCallH (spH K w_law_name) L2.E0 0 tNil) (gName 6))
  (tIfS (tAnd (tTest (tOp rGtI (PW.tCallH (spH K w_law_draw) L2.E0 0 (tCons (tC (.int 3)) tNil)) (tC (.int 0)))) (tTest (tOp (rNotInU K) (tVar 6) (tVar 4))))
  (tSeq (tDrop (tBM K "list" rAppend (tVar 4) (tCons (tVar 6) tNil)))
  (tDrop (tBM K "list" rAppend (tVar 3) (tCons (tTup (tCons (tVar 6) (tCons (PW.tCallH (spH K w_law_lock) L2.E0 0 tNil) tNil))) tNil))))
  (tDrop (tBM K "list" rAppend (tVar 3) (tCons (tC .non) tNil))))))
  (tSeq (tAsg (tLst tNil) (gName 7))
  (tSeq (tAsg (tCB (rLenU K) (tCons (tVar 3) tNil)) (gName 8))
  (tSeq (tFor (iRng2 (tCons (tC (.int 1)) (tCons (tOp (rAddU K) (tVar 2) (tC (.int 1))) tNil))) (gName 9)
  (tSeq (tAsg (tOp rDivI (tVar 8) (tC (.int 2))) (gName 8))
  (tFor (iRng1 (tCons (tVar 8) tNil)) (gName 10)
  (tIfS (tTest (tOp (rEqD K) (PW.tCallH (spH K w_law_draw) L2.E0 0 (tCons (tC (.int 2)) tNil)) (tC (.int 1))))
  (tSeq (tAsg (tLc (iSeqU K (tCall (spW K w_law_beneath) [] L2.E0 (tCons (tTup (tCons (tVar 9) (tCons (tVar 10) tNil))) tNil))) (gName 5) (tTest (tOp rIsNotNo (tOp (rIx K) (tVar 3) (tVar 5)) (tC .non))) (tVar 5) [5]) (gName 11))
  (tSeq (tAsg (tCB (rTupU K) (tCons (tLc (iSeqU K (tVar 11)) (gName 5) (tTest (tOp (rEqD K) (PW.tCallH (spH K w_law_draw) L2.E0 0 (tCons (tC (.int 4)) tNil)) (tC (.int 0)))) (tVar 5) [5]) tNil)) (gName 12))
  (tDrop (tBM K "list" rAppend (tVar 7) (tCons (tTup (tCons (tTup (tCons (tVar 9) (tCons (tVar 10) tNil))) (tCons (PW.tCallH (spH K w_law_lock) L2.E0 0 tNil) (tCons (tVar 12) tNil)))) tNil)))))
  tNext))))
  (tRet (tLst (tCons (tVar 2) (tCons (tCB (rTupU K) (tCons (tVar 3) tNil)) (tCons (tCB (rTupU K) (tCons (tVar 7) tNil)) tNil))))))))))))
def t_law_node_spoilt (K : PySem.W.Frag) : TS :=
  (tSeq (tAsg (PW.tCallH (spH K w_law_draw) L2.E0 0 (tCons (tC (.int 9)) tNil)) (gName 4))
  (tSeq (tIfS (tOr (tTest (tOp (rEqD K) (tCB (rLenU K) (tCons (tVar 3) tNil)) (tC (.int 0)))) (tTest (tOp (rEqD K) (tVar 4) (tC (.int 0)))))
  (tSeq (tAsg (tTup (tCons (PW.tCallH (spH K w_law_draw) L2.E0 0 (tCons (tOp (rAddU K) (tVar 1) (tC (.int 2))) tNil)) (tCons (PW.tCallH (spH K w_law_draw) L2.E0 0 (tCons (tCB (rLenU K) (tCons (tVar 2) tNil)) tNil)) tNil))) (gName 5))
  (tRet (tOp (rAddU K) (tVar 3) (tTup (tCons (tTup (tCons (tVar 5) (tCons (tC (.int 3)) (tCons (tTup tNil) tNil)))) tNil)))))
  tNext)
  (tSeq (tAsg (PW.tCallH (spH K w_law_draw) L2.E0 0 (tCons (tCB (rLenU K) (tCons (tVar 3) tNil)) tNil)) (gName 6))
  (tSeq (tAsg (tOp (rIx K) (tVar 3) (tVar 6)) (gTup K 3 (gCons (gName 5) (gCons (gName 7) (gCons (gName 8) gNil)))))
  (tSeq (tIfS (tTest (tOp (rEqD K) (tVar 4) (tC (.int 1))))
  (tRet (tOp (rAddU K) (tVar 3) (tTup (tCons (tOp (rIx K) (tVar 3) (tVar 6)) tNil))))
  tNext)
  (tSeq (tIfS (tTest (tOp (rEqD K) (tVar 4) (tC (.int 2))))
  (tRet (tTupRevT K (tVar 3)))
  tNext)
  (tSeq (tIfS (tTest (tOp (rEqD K) (tVar 4) (tC (.int 3))))
  (tRet (tCall (spW K w_law_set) [] L2.E0 (tCons (tVar 3) (tCons (tVar 6) (tCons (tTup (tCons (tVar 5) (tCons (PW.tCallH (spH K w_law_odd) L2.E0 0 tNil) (tCons (tVar 8) tNil)))) tNil)))))
  tNext)
  (tSeq (tIfS (tTest (tOp (rEqD K) (tVar 4) (tC (.int 4))))
  (tRet (tCall (spW K w_law_set) [] L2.E0 (tCons (tVar 3) (tCons (tVar 6) (tCons (tTup (tCons (PW.tCallH (spH K w_law_odd) L2.E0 0 tNil) (tCons (tVar 7) (tCons (tVar 8) tNil)))) tNil)))))
  tNext)
  (tSeq (tIfS (tTest (tOp (rEqD K) (tVar 4) (tC (.int 5))))
  (tRet (tCall (spW K w_law_set) [] L2.E0 (tCons (tVar 3) (tCons (tVar 6) (tCons (tTup (tCons (tVar 5) (tCons (tVar 7) (tCons (tOp (rAddU K) (tVar 8) (tTup (tCons (PW.tCallH (spH K w_law_draw) L2.E0 0 (tCons (tCB (rLenU K) (tCons (tVar 2) tNil)) tNil)) tNil))) tNil)))) tNil)))))
  tNext)
  (tSeq (tIfS (tTest (tOp (rEqD K) (tVar 4) (tC (.int 6))))
  (tRet (tCall (spW K w_law_set) [] L2.E0 (tCons (tVar 3) (tCons (tVar 6) (tCons (tTup (tCons (tVar 5) (tCons (tVar 7) (tCons (tOp (rIx K) (tLst (tCons (PW.tCallH (spH K w_law_odd) L2.E0 0 tNil) (tCons (tTupRevT K (tVar 8)) (tCons (tCB (rLstU K) (tCons (tVar 8) tNil)) (tCons (tOp (rAddU K) (tVar 8) (tTup (tCons (tC (.bl true)) tNil))) tNil))))) (PW.tCallH (spH K w_law_draw) L2.E0 0 (tCons (tC (.int 4)) tNil))) tNil)))) tNil)))))
  tNext)
  (tSeq (tIfS (tTest (tOp (rEqD K) (tVar 4) (tC (.int 7))))
  (tRet (tCall (spW K w_law_set) [] L2.E0 (tCons (tVar 3) (tCons (tVar 6) (tCons (PW.tCallH (spH K w_law_odd) L2.E0 0 tNil) tNil)))))
  tNext)
  (tRet (tOp (rIx K) (tLst (tCons (tCB (rLstU K) (tCons (tVar 3) tNil)) (tCons (tSl (rSlU K) (tVar 3) tNoPart (tPart (tVar 6))) (tCons (tC .non) tNil)))) (PW.tCallH (spH K w_law_draw) L2.E0 0 (tCons (tC (.int 3)) tNil)))))))))))))))
def t_law_spoilt (K : PySem.W.Frag) : TS :=
  (tSeq (tAsg (tCB (rLstU K) (tCons (tVar 1) tNil)) (gName 2))
  (tSeq (tAsg (PW.tCallH (spH K w_law_draw) L2.E0 0 (tCons (tC (.int 8)) tNil)) (gName 3))
  (tSeq (tIfS (tTest (tOp (rEqD K) (tVar 3) (tC (.int 0))))
  (tAsg (tOp (rIx K) (tLst (tCons (tOp (rAddU K) (tOp (rIx K) (tVar 2) (tC (.int 0))) (tC (.int 1))) (tCons (tOp rSubI (tOp (rIx K) (tVar 2) (tC (.int 0))) (tC (.int 1))) (tCons (PW.tCallH (spH K w_law_odd) L2.E0 0 tNil) tNil)))) (PW.tCallH (spH K w_law_draw) L2.E0 0 (tCons (tC (.int 3)) tNil))) (gSub (tVar 2) (tC (.int 0)) rSetL))
  (tIfS (tTest (tOp rLtI (tVar 3) (tC (.int 4))))
  (tAsg (PW.tCallH (spH K w_law_leaf_spoilt) L2.E0 0 (tCons (tOp (rIx K) (tVar 2) (tC (.int 1))) tNil)) (gSub (tVar 2) (tC (.int 1)) rSetL))
  (tAsg (PW.tCallH (spH K w_law_node_spoilt) L2.E0 0 (tCons (tOp (rIx K) (tVar 2) (tC (.int 0))) (tCons (tOp (rIx K) (tVar 2) (tC (.int 1))) (tCons (tOp (rIx K) (tVar 2) (tC (.int 2))) tNil)))) (gSub (tVar 2) (tC (.int 2)) rSetL))))
  (tSeq (tIfS (tTest (tOp (rEqD K) (tVar 3) (tC (.int 7))))
  (tAsg (PW.tCallH (spH K w_law_odd) L2.E0 0 tNil) (gSub (tVar 2) (PW.tCallH (spH K w_law_draw) L2.E0 0 (tCons (tC (.int 2)) tNil)) rSetL))
  tNext)
  (tRet (tVar 2))))))
end LawK08
end
section
namespace LawK08
open PySem PySem.Spec PyProof.Rows L2 PW
local macro_rules | `(tactic| walk_at "env") => `(tactic| (first | (dsimp only [sto, stoE, frz, frzE, frzAll, wipeE, Res.ent, List.set, List.getElem?_cons_zero, List.getElem?_cons_succ]; done) | (dsimp only [sto, stoE, frz, frzE, frzAll, wipeE, Res.ent, List.set, List.getElem?_cons_zero, List.getElem?_cons_succ]; rfl) | rfl))
local macro_rules | `(tactic| walk_at "mem") => `(tactic| first | assumption | exact cut_sub (by assumption) | exact List.mem_cons_of_mem _ (by assumption) | (simp only [List.mem_cons, true_or, or_true]; done))
local macro_rules | `(tactic| walk_at "jn") => `(tactic| first | assumption | with_unfolding_all exact rfl | exact jnTr (by assumption) (by assumption) | exact jnTr (cut_sub (by assumption)) (by assumption) | exact jnTr (List.mem_cons_of_mem _ (by assumption)) (by assumption) | exact jnT (by assumption) (by walk_at "mem") | exact jnL' (by assumption) (by walk_at "mem") | exact jnT2 (by assumption) (by assumption) (by walk_at "mem"))
local macro_rules | `(tactic| walk_at "sz") => `(tactic| first | with_unfolding_all exact Nat.le_of_ble_eq_true rfl | assumption | exact szl (by assumption) | exact szS (by walk_at "jn") | exact szT (by walk_at "jn") | exact szTl (by assumption) | exact szL (by walk_at "jn") | exact szG (by walk_at "jn") | ((with_reducible show (PW.cutD _ _ _).length ≤ _); refine szC ?_; walk_at "sz") | with_unfolding_all exact szl (Nat.le_of_ble_eq_true rfl))
local macro_rules | `(tactic| walk_at "bi") => `(tactic| first | with_unfolding_all exact rfl | assumption | exact jn_bi (by walk_at "jn"))
local macro_rules | `(tactic| walk_at "pw") => `(tactic| first
  | ((with_reducible show PW.XE _ _ _ _); first | with_reducible refine xe_var_d (by with_unfolding_all exact rfl) ?_ | with_reducible refine xe_var_o (by with_unfolding_all exact rfl) ?_ | with_reducible refine xe_int ?_ | with_reducible refine xe_str ?_ | with_reducible refine xe_bl ?_ | with_reducible refine xe_non ?_ | with_reducible refine ye_emp ?_ | with_reducible refine xe_op ?_ | with_reducible refine xe_un ?_ | with_reducible refine xe_if ?_ | with_reducible refine xe_andV ?_ | with_reducible refine xe_orV ?_ | with_reducible refine xe_notV ?_ | with_reducible refine xe_chain ?_ | with_reducible refine xe_isi D.isTup isi_tuple ?_ | with_reducible refine xe_isi D.isLst isi_list ?_ | with_reducible refine xe_isi D.isStr isi_str ?_ | with_reducible refine xe_isi D.isInt isi_int ?_ | with_reducible refine xe_isi D.isBool isi_bool ?_ | with_reducible refine xe_isi D.isDct isi_dict ?_ | with_reducible refine xe_isi2 D.isTup D.isLst isi_tuple isi_list ?_ | with_reducible refine ye_lenSet ?_ | with_reducible refine ye_join ?_ | with_reducible refine xe_cb ?_ | with_reducible refine xe_callS ?_ | with_reducible refine ye_callH (by with_unfolding_all exact rfl) ?_ | with_reducible refine ye_call ?_ | with_reducible refine ye_tup ?_ | with_reducible refine ye_lst ?_ | with_reducible refine xe_sl ?_ | with_reducible refine ye_revT ?_ | with_reducible refine ye_rg1 ?_ | with_reducible refine ye_rg2 ?_ | with_reducible refine ye_meth (by with_unfolding_all exact rfl) (fun _ _ _ h => ty_list h) ?_ | with_reducible refine ye_meth0 (by with_unfolding_all exact rfl) (fun _ _ _ h => ty_list h) ?_)
  | ((with_reducible show PW.XA _ _ _ _); first | with_reducible refine xa_nil ?_ | with_reducible refine xa_cons ?_)
  | ((with_reducible show PW.XT _ _ _ _); first | with_reducible refine xt_yes ?_ | with_reducible refine xt_test ?_ | with_reducible refine xt_B ?_ | with_reducible refine xt_not ?_ | with_reducible refine xt_and ?_ | with_reducible refine xt_or ?_)
  | ((with_reducible show PW.XS _ _ _ _); first | with_reducible refine xs_seq ?_ | with_reducible refine xs_next ?_ | with_reducible refine ys_asg ?_ | with_reducible refine xs_if ?_ | with_reducible refine ys_ret ?_ | with_reducible refine xs_retN ?_ | with_reducible refine xs_drop ?_ | with_reducible refine xs_break ?_ | with_reducible refine xs_cont ?_ | with_reducible refine ys_par (by with_unfolding_all decide) ?_ | with_reducible refine ys_par3 (by with_unfolding_all decide) (by with_unfolding_all decide) (by with_unfolding_all decide) ?_ | with_reducible refine ys_unp2 (by with_unfolding_all decide) ?_ | with_reducible refine ys_unp3 (by with_unfolding_all decide) (by with_unfolding_all decide) (by with_unfolding_all decide) ?_ | with_reducible refine ys_setix ?_ | with_reducible refine ys_asgG ?_ | with_reducible refine xs_for ?_)
  | ((with_reducible show PW.OpD _ _ _ _ _); first | with_reducible refine o_addI ?_ | with_reducible refine o_subI ?_ | with_reducible refine o_mulI (by first | with_unfolding_all exact .inl ⟨by decide, by decide⟩ | with_unfolding_all exact .inr ⟨by decide, by decide⟩) ?_ | with_reducible refine o_mulI (cmulL (by omega) (by omega)) ?_ | with_reducible refine o_mulI (cmulR (by omega) (by omega)) ?_ | with_reducible refine o_divI (by with_unfolding_all exact ⟨by decide, by decide⟩) ?_ | with_reducible refine o_modI (by with_unfolding_all decide) ?_ | with_reducible refine o_powI (by with_unfolding_all exact ⟨by decide, by decide, by decide⟩) ?_ | with_reducible refine o_ltI ?_ | with_reducible refine o_leI ?_ | with_reducible refine o_leUI ?_ | with_reducible refine o_leP ?_ | with_reducible refine o_shlI (cpow1 (by omega) (by omega)) ?_ | with_reducible refine o_gtI ?_ | with_reducible refine o_geI ?_ | with_reducible refine o_eqI ?_ | with_reducible refine o_neI ?_ | with_reducible refine o_eqB ?_ | with_reducible refine o_neB ?_ | with_reducible refine o_isNo ?_ | with_reducible refine o_isNotNo ?_ | with_reducible refine o_isBo ?_ | with_reducible refine o_isNotBo ?_ | with_reducible refine o_inC ?_ | with_reducible refine o_notInC ?_ | with_reducible refine o_ix0 ?_ | with_reducible refine o_ix1 ?_ | with_reducible refine o_ix2 ?_ | ((with_reducible show PW.OpD _ (rIx _) (.tup _) (.int 0) _); refine o_ix0e (ne_len (by omega)) ?_; intro y ys e; subst e) | with_reducible refine o_ixT (by with_unfolding_all exact rfl) ?_ | with_reducible refine o_ixL (by with_unfolding_all exact rfl) ?_)
  | ((with_reducible show PW.CaD _ _ _ _); first | with_reducible refine c_lenT ?_ | with_reducible refine c_lenL ?_ | with_reducible refine c_intI ?_ | with_reducible refine c_intB ?_ | with_reducible refine c_absI ?_ | with_reducible refine c_allM ?_ | with_reducible refine c_anyM ?_ | with_reducible refine c_tupL ?_ | with_reducible refine c_tupT ?_ | with_reducible refine c_lstL ?_ | with_reducible refine c_lstT ?_ | ((with_reducible show CaD _ (rLenU _) [.str _] _); with_reducible refine c_lenS (by walk_at "sz") ?_))
  | ((with_reducible show PW.XI _ _ _ _); first | with_reducible refine yi_seqU ?_ | with_reducible refine yi_enum ?_ | with_reducible refine yi_zip ?_ | with_reducible refine xi_range1 ?_ | with_reducible refine xi_range2 ?_)
  | ((with_reducible show PW.XG _ _ _ _ _); first | with_reducible refine yg_name ?_ | with_reducible refine xg_tup (by with_unfolding_all exact rfl) ?_)
  | ((with_reducible show PW.XGs _ _ _ _ _); first | with_reducible refine xgs_nil ?_ | with_reducible refine xgs_cons ?_)
  | ((with_reducible show PW.XM _ _ _ _ _); first | with_reducible refine xm_nil ?_ | with_reducible refine xm_cons ?_)
  | ((with_reducible show PW.XO _ _ _ _); first | with_reducible refine xo_none ?_ | with_reducible refine xo_some ?_)
  | ((with_reducible show PW.SlD _ _ _ _ _ _); first | with_reducible refine sl_tail ?_ | with_reducible refine sl_T ?_ | with_reducible refine sl_L ?_)
  | ((with_reducible show PW.UnD _ _ _ _); first | with_reducible refine u_neg ?_)
  | ((with_reducible show PW.back _ _ _); first | with_reducible refine back_d ?_ | with_reducible refine back_nw ?_ | with_reducible refine back_v (by with_unfolding_all exact rfl) ?_)
  | walk_at "cnt"
  | walk_at "br")
local macro_rules | `(tactic| walk_at "cnt") => `(tactic| first
  | with_reducible refine ex_env (by walk_at "env") ?_
  | ((with_reducible show ∃ x : List D, _ = some x ∧ x.length ≤ _ ∧ _); with_reducible refine ex_pks2 (by with_unfolding_all exact rfl) (by walk_at "sz") ?_)
  | with_reducible refine ex_pks (by with_unfolding_all exact rfl) ?_
  | ((with_reducible show ∃ x : D, _ = some x ∧ x.isBuiltin = true ∧ _); with_reducible refine ex_pk2 (by with_unfolding_all exact rfl) (by walk_at "bi") ?_)
  | with_reducible refine lc_fin (by with_unfolding_all exact rfl) (by with_unfolding_all exact rfl) ?_
  | with_reducible refine lcf_fin (by with_unfolding_all exact rfl) (by with_unfolding_all exact rfl) ?_
  | with_reducible refine ex_pk (by with_unfolding_all exact rfl) ?_
  | with_reducible refine ex_op (by with_unfolding_all exact rfl) (by with_unfolding_all exact rfl) ?_
  | with_reducible refine ex_it (by with_unfolding_all exact rfl) (by with_unfolding_all exact rfl) ?_
  | with_reducible refine ex_its (by with_unfolding_all exact rfl) (by with_unfolding_all exact rfl) ?_
  | with_reducible refine ex_zip (by with_unfolding_all exact rfl) (by with_unfolding_all exact rfl) ?_
  | with_reducible refine ex_bl ?_
  | with_reducible refine ex_int ?_
  | with_reducible refine ex_sc (by with_unfolding_all exact rfl) ?_
  | with_reducible refine and_brT ?_
  | with_reducible refine and_brF ?_
  | with_reducible refine and_rbT ?_
  | with_reducible refine and_rbF ?_
  | with_reducible refine and_nT ?_
  | with_reducible refine and_nF ?_
  | with_reducible refine and_mT ?_
  | with_reducible refine and_mF ?_
  | with_reducible refine and_br ?_ ?_
  | with_reducible refine and_rb ?_ ?_
  | with_reducible refine ⟨nv_d, ?_⟩
  | with_reducible refine ⟨nv_nw, ?_⟩)
local macro_rules | `(tactic| walk_at "br") => `(tactic| first
  | (with_reducible refine br_tup ?_; intro xs e; subst e)
  | (with_reducible refine br_tupN ?_; intro xs e; subst e)
  | (with_reducible refine br_lst ?_; intro xs e; subst e)
  | (with_reducible refine br_lstN ?_; intro xs e; subst e)
  | (with_reducible refine br_str ?_; intro xs e; subst e)
  | (with_reducible refine br_strN ?_; intro xs e; subst e)
  | (with_reducible refine br_non ?_; intro e; subst e)
  | (with_reducible refine br_nonN ?_; intro e; subst e)
  | (with_reducible refine br_t ?_; intro h; first | (cases h; done) | (simp only [lenc, List.length_nil, decide_eq_true_eq, decide_eq_false_iff_not] at h; omega) | exact absurd (show true = false from h) (by decide) | exact absurd (show false = true from h) (by decide) | (simp only [lenc, List.length_nil, Bool.not_eq_true', Bool.not_eq_false', decide_eq_true_eq, decide_eq_false_iff_not] at h) | skip)
  | (with_reducible refine br_f ?_; intro h; first | (cases h; done) | (simp only [lenc, List.length_nil, decide_eq_true_eq, decide_eq_false_iff_not] at h; omega) | exact absurd (show true = false from h) (by decide) | exact absurd (show false = true from h) (by decide) | (simp only [lenc, List.length_nil, Bool.not_eq_true', Bool.not_eq_false', decide_eq_true_eq, decide_eq_false_iff_not] at h) | skip)
  | (with_reducible refine signs_one ?_; intro c)
  | (with_reducible refine fa_mem ?_; intro d hd)
  | ((with_reducible show _ ≤ sizeLine ∧ _); with_reducible refine lc_split (by walk_at "sz") (by walk_at "env") ?_ ?_)
  | ((with_reducible show wipeE _ _ = _ ∧ _); with_reducible refine lc_env (by walk_at "env") ?_)
  | ((with_reducible show (_ : D) = _); exact rfl))
local macro_rules | `(tactic| walk_at "pws") => `(tactic| repeat' walk_at "pw")
abbrev Fin (kk : Res → Prop) : Post := { nx := fun _ => kk (.d .non), rt := fun r _ => kk r }
theorem isInteger_int {x : D} (h : isInteger x = true) : ∃ i, x = .int i := by
  cases x <;> first
    | exact ⟨_, rfl⟩
    | exact absurd h (by decide)
    | cases h
theorem isInteger_not {x : D} (h : isInteger x = false) : ∀ a b, isWithin x a b = false := by
  cases x <;> first
    | exact fun _ _ => rfl
    | exact absurd h (by decide)
    | cases h
theorem not_tup {x : D} (h : x.isTup = false) : ∀ n, isTupleOf x n = false := by
  cases x <;> first
    | exact fun _ => rfl
    | cases h
theorem isTupleOf_2 {x : D} (h : isTupleOf x 2 = true) : ∃ a b, x = .tup [a, b] := by
  cases x with
  | tup xs =>
    have h2 : (xs.length : Int) = 2 := of_decide_eq_true h
    match xs, h2 with
    | [a, b], _ => exact ⟨a, b, rfl⟩
    | [], h => cases h
    | [_], h => cases h
    | _ :: _ :: _ :: _, h => simp only [List.length_cons] at h; omega
  | _ => cases h
theorem isTupleOf_3 {x : D} (h : isTupleOf x 3 = true) : ∃ a b c, x = .tup [a, b, c] := by
  cases x with
  | tup xs =>
    have h2 : (xs.length : Int) = 3 := of_decide_eq_true h
    match xs, h2 with
    | [a, b, c], _ => exact ⟨a, b, c, rfl⟩
    | [], h => cases h
    | [_], h => cases h
    | [_, _], h => cases h
    | _ :: _ :: _ :: _ :: _, h => simp only [List.length_cons] at h; omega
  | _ => cases h
theorem br_two {x : D} {P : Prop} (h : ∀ a b, x = .tup [a, b] → P) : isTupleOf x 2 = true → P := fun z => by
  obtain ⟨a, b, e⟩ := isTupleOf_2 z
  exact h a b e
theorem br_twoN {x : D} {P : Prop} (h : ∀ a b, x = .tup [a, b] → P) : (!isTupleOf x 2) = false → P := fun z => br_two h (nbf z)
theorem br_thr {x : D} {P : Prop} (h : ∀ a b c, x = .tup [a, b, c] → P) : isTupleOf x 3 = true → P := fun z => by
  obtain ⟨a, b, c, e⟩ := isTupleOf_3 z
  exact h a b c e
theorem br_thrN {x : D} {P : Prop} (h : ∀ a b c, x = .tup [a, b, c] → P) : (!isTupleOf x 3) = false → P := fun z => br_thr h (nbf z)
theorem br_int {x : D} {P : Prop} (h : ∀ i, x = .int i → P) : isInteger x = true → P := fun z => by
  obtain ⟨a, e⟩ := isInteger_int z
  exact h a e
theorem isWithin_int {x : D} {a b : Int} (h : isWithin x a b = true) : ∃ i, x = .int i ∧ a ≤ i ∧ i ≤ b := by
  cases x with
  | int i =>
    obtain ⟨h1, h2⟩ := Bool.and_eq_true_iff.mp (show (decide (a ≤ i) && decide (i ≤ b)) = true from h)
    exact ⟨i, rfl, of_decide_eq_true h1, of_decide_eq_true h2⟩
  | _ => cases h
theorem br_win {x : D} {a b : Int} {P : Prop} (h : ∀ i, x = .int i → a ≤ i → i ≤ b → P) : isWithin x a b = true → P := fun z => by
  obtain ⟨i, e, h1, h2⟩ := isWithin_int z
  exact h i e h1 h2
theorem br_winN {x : D} {a b : Int} {P : Prop} (h : ∀ i, x = .int i → a ≤ i → i ≤ b → P) : (!isWithin x a b) = false → P := fun z => br_win h (nbf z)
theorem isName_notStr {x : D} (h : x.isStr = false) : isName x = false := by
  cases x <;> first
    | rfl
    | cases h
theorem isMember_not2 {x : D} (h : isTupleOf x 2 = false) : isMember x = false := by
  unfold isMember
  split
  · cases h
  · rfl
theorem isNode_not2 {x : D} {h l : Int} (z : isTupleOf x 2 = false) : isNode x h l = false := by
  unfold isNode
  split
  · cases z
  · rfl
theorem isNode_bad1 {x y : D} {h l : Int} (z : isWithin x l h = false) : isNode (.tup [x, y]) h l = false := by
  cases x with
  | int i =>
    cases y with
    | int j =>
      have z : (decide (l ≤ i) && decide (i ≤ h)) = false := z
      simp only [isNode, z, Bool.false_and]
    | _ => rfl
  | _ => rfl
theorem isNode_eq {i : Int} {y : D} {h l : Int} (h1 : l ≤ i) (h2 : i ≤ h) : isNode (.tup [.int i, y]) h l = isWithin y 0 (2 ^ (h - i).toNat - 1) := by
  cases y with
  | int j => simp only [isNode, isWithin, decide_eq_true h1, decide_eq_true h2, Bool.true_and]
  | _ => rfl
local macro_rules | `(tactic| walk_at "pw") => `(tactic| first
  | ((with_reducible show w_is_integer _ _); with_reducible refine i_is_integer (by walk_at "bi") ?_) | ((with_reducible show w_is_within _ _); with_reducible refine i_is_within (by walk_at "bi") ?_) | ((with_reducible show w_is_tuple_of _ _); with_reducible refine i_is_tuple_of (by walk_at "bi") ?_)
  | ((with_reducible show w_is_name _ _); with_reducible refine i_is_name (by walk_at "jn") ?_) | ((with_reducible show w_is_lock _ _); with_reducible refine i_is_lock (by walk_at "bi") ?_) | ((with_reducible show w_is_member _ _); with_reducible refine i_is_member (by walk_at "jn") ?_)
  | (with_reducible refine br_two ?_; intro a b e; subst e) | (with_reducible refine br_twoN ?_; intro a b e; subst e) | (with_reducible refine br_thr ?_; intro a b c e; subst e) | (with_reducible refine br_thrN ?_; intro a b c e; subst e)
  | (with_reducible refine br_int ?_; intro i e; subst e) | (with_reducible refine br_win ?_; intro i e h1 h2; subst e) | (with_reducible refine br_winN ?_; intro i e h1 h2; subst e))
section
local macro_rules | `(tactic| walk_at "pw") => `(tactic| with_reducible refine ye_lcm (vs := [1]) (fun d => .bl (letterD d)) own_name wipe1 ?_)
theorem pure_is_integer {K : PySem.W.Frag} : ∀ ds kk, w_is_integer ds kk → XS K (t_is_integer K) (ini 1 ds) { nx := fun _ => kk (.d .non), rt := fun r _ => kk r } := by
  rintro _ kk ⟨x, rfl, hx, g⟩
  show XS K (t_is_integer K) [.d x] (Fin kk)
  unfold t_is_integer
  walk_at "pws"
  all_goals (refine fin_bl g ?_; simp [isInteger, *]; done)
theorem pure_is_within {K : PySem.W.Frag} : ∀ ds kk, w_is_within ds kk → XS K (t_is_within K) (ini 3 ds) { nx := fun _ => kk (.d .non), rt := fun r _ => kk r } := by
  rintro _ kk ⟨x, a, b, rfl, hx, g⟩
  show XS K (t_is_within K) [.d x, .d (.int a), .d (.int b)] (Fin kk)
  unfold t_is_within
  walk_at "pws"
  all_goals first
    | (refine fin_bl g ?_; exact isInteger_not (by assumption) _ _)
    | (refine fin_bl g ?_; simp [isWithin, *]; done)
    | (refine fin_bl g ?_; simp [isWithin]; omega)
theorem pure_is_tuple_of {K : PySem.W.Frag} : ∀ ds kk, w_is_tuple_of ds kk → XS K (t_is_tuple_of K) (ini 2 ds) { nx := fun _ => kk (.d .non), rt := fun r _ => kk r } := by
  rintro _ kk ⟨x, n, rfl, hx, g⟩
  show XS K (t_is_tuple_of K) [.d x, .d (.int n)] (Fin kk)
  unfold t_is_tuple_of
  walk_at "pws"
  · exact g
  · exact fin_bl g (not_tup (by assumption) _)
theorem pure_is_name {K : PySem.W.Frag} : ∀ ds kk, w_is_name ds kk → XS K (t_is_name K) (ini 2 ds) { nx := fun _ => kk (.d .non), rt := fun r _ => kk r } := by
  rintro _ kk ⟨x, rfl, hx, g⟩
  show XS K (t_is_name K) [.d x, .u] (Fin kk)
  unfold t_is_name
  walk_at "pws"
  all_goals first
    | exact fin_bl g (isName_notStr (by assumption))
    | (refine fin_bl g ?_; simp [isName, *]; done)
    | (dsimp only; trace_state)
theorem pure_is_lock {K : PySem.W.Frag} : ∀ ds kk, w_is_lock ds kk → XS K (t_is_lock K) (ini 1 ds) { nx := fun _ => kk (.d .non), rt := fun r _ => kk r } := by
  rintro _ kk ⟨x, rfl, hx, g⟩
  show XS K (t_is_lock K) [.d x] (Fin kk)
  unfold t_is_lock
  walk_at "pws"
  · exact g
  · refine fin_bl g ?_
    cases x <;> first
      | rfl
      | (rename_i h; exact absurd (show true = false from h) (by decide))
theorem pure_is_member {K : PySem.W.Frag} : ∀ ds kk, w_is_member ds kk → XS K (t_is_member K) (ini 1 ds) { nx := fun _ => kk (.d .non), rt := fun r _ => kk r } := by
  rintro _ kk ⟨x, rfl, hx, g⟩
  show XS K (t_is_member K) [.d x] (Fin kk)
  unfold t_is_member
  walk_at "pws"
  all_goals first
    | exact fin_bl g (isMember_not2 (by assumption))
    | (refine fin_bl g ?_; simp [isMember, *]; done)
    | (dsimp only; trace_state)
theorem pure_is_node {K : PySem.W.Frag} : ∀ ds kk, w_is_node ds kk → XS K (t_is_node K) (ini 3 ds) { nx := fun _ => kk (.d .non), rt := fun r _ => kk r } := by
  rintro _ kk ⟨x, h, l, rfl, hx, h8, hl, g⟩
  show XS K (t_is_node K) [.d x, .d (.int h), .d (.int l)] (Fin kk)
  unfold t_is_node
  walk_at "pws"
  all_goals first
    | exact fin_bl g (isNode_not2 (by assumption))
    | exact fin_bl g (isNode_bad1 (by assumption))
    | (dsimp only; rw [Int.one_mul]; exact fin_bl g (isNode_eq (by assumption) (by assumption)))
theorem pure_leaves_beneath {K : PySem.W.Frag} : ∀ ds kk, w_leaves_beneath ds kk → XS K (t_leaves_beneath K) (ini 2 ds) { nx := fun _ => kk (.d .non), rt := fun r _ => kk r } := by
  rintro _ kk ⟨a, b, rfl, h8, h0, h1, g⟩
  show XS K (t_leaves_beneath K) [.d (.tup [.int a, .int b]), .u] (Fin kk)
  unfold t_leaves_beneath
  obtain ⟨p1, p2⟩ := pow_le8 h8
  walk_at "pws"
  rw [Int.one_mul, Int.toNat_natCast]
  have q1 : 0 ≤ b * 2 ^ a := Int.mul_nonneg h0 (by omega)
  have q2 : b * 2 ^ a ≤ 256 * 256 := Int.mul_le_mul h1 p2 (by omega) (by omega)
  have q3 : (b + 1) * 2 ^ a = b * 2 ^ a + 2 ^ a := by rw [Int.add_mul, Int.one_mul]
  refine ⟨RgOk.of_le q1 (by omega) (by omega) (by omega), ?_⟩
  rw [q3, show b * 2 ^ a + 2 ^ a - b * 2 ^ a = (2 : Int) ^ a by omega, pow_cast a, Int.toNat_natCast, ← pow_cast a]
  walk_at "pws"
  exact g
end

end LawK08
end
section
namespace LawK08
open PySem PySem.Spec PyProof.Rows L2 PW
local macro_rules | `(tactic| walk_at "env") => `(tactic| (first | (dsimp only [sto, stoE, frz, frzE, frzAll, wipeE, Res.ent, List.set, List.getElem?_cons_zero, List.getElem?_cons_succ]; done) | (dsimp only [sto, stoE, frz, frzE, frzAll, wipeE, Res.ent, List.set, List.getElem?_cons_zero, List.getElem?_cons_succ]; rfl) | rfl))
local macro_rules | `(tactic| walk_at "mem") => `(tactic| first | assumption | exact cut_sub (by assumption) | exact List.mem_cons_of_mem _ (by assumption) | (simp only [List.mem_cons, true_or, or_true]; done))
local macro_rules | `(tactic| walk_at "jn") => `(tactic| first | assumption | with_unfolding_all exact rfl | exact jnTr (by assumption) (by assumption) | exact jnTr (cut_sub (by assumption)) (by assumption) | exact jnTr (List.mem_cons_of_mem _ (by assumption)) (by assumption) | exact jnT (by assumption) (by walk_at "mem") | exact jnL' (by assumption) (by walk_at "mem") | exact jnT2 (by assumption) (by assumption) (by walk_at "mem"))
local macro_rules | `(tactic| walk_at "sz") => `(tactic| first | with_unfolding_all exact Nat.le_of_ble_eq_true rfl | assumption | exact szl (by assumption) | exact szS (by walk_at "jn") | exact szT (by walk_at "jn") | exact szTl (by assumption) | exact szL (by walk_at "jn") | exact szG (by walk_at "jn") | ((with_reducible show (PW.cutD _ _ _).length ≤ _); refine szC ?_; walk_at "sz") | with_unfolding_all exact szl (Nat.le_of_ble_eq_true rfl))
local macro_rules | `(tactic| walk_at "bi") => `(tactic| first | with_unfolding_all exact rfl | assumption | exact jn_bi (by walk_at "jn"))
local macro_rules | `(tactic| walk_at "pw") => `(tactic| first
  | ((with_reducible show PW.XE _ _ _ _); first | with_reducible refine xe_var_d (by with_unfolding_all exact rfl) ?_ | with_reducible refine xe_var_o (by with_unfolding_all exact rfl) ?_ | with_reducible refine xe_int ?_ | with_reducible refine xe_str ?_ | with_reducible refine xe_bl ?_ | with_reducible refine xe_non ?_ | with_reducible refine ye_emp ?_ | with_reducible refine xe_op ?_ | with_reducible refine xe_un ?_ | with_reducible refine xe_if ?_ | with_reducible refine xe_andV ?_ | with_reducible refine xe_orV ?_ | with_reducible refine xe_notV ?_ | with_reducible refine xe_chain ?_ | with_reducible refine xe_isi D.isTup isi_tuple ?_ | with_reducible refine xe_isi D.isLst isi_list ?_ | with_reducible refine xe_isi D.isStr isi_str ?_ | with_reducible refine xe_isi D.isInt isi_int ?_ | with_reducible refine xe_isi D.isBool isi_bool ?_ | with_reducible refine xe_isi D.isDct isi_dict ?_ | with_reducible refine xe_isi2 D.isTup D.isLst isi_tuple isi_list ?_ | with_reducible refine ye_lenSet ?_ | with_reducible refine ye_join ?_ | with_reducible refine xe_cb ?_ | with_reducible refine xe_callS ?_ | with_reducible refine ye_callH (by with_unfolding_all exact rfl) ?_ | with_reducible refine ye_call ?_ | with_reducible refine ye_tup ?_ | with_reducible refine ye_lst ?_ | with_reducible refine xe_sl ?_ | with_reducible refine ye_revT ?_ | with_reducible refine ye_rg1 ?_ | with_reducible refine ye_rg2 ?_ | with_reducible refine ye_meth (by with_unfolding_all exact rfl) (fun _ _ _ h => ty_list h) ?_ | with_reducible refine ye_meth0 (by with_unfolding_all exact rfl) (fun _ _ _ h => ty_list h) ?_)
  | ((with_reducible show PW.XA _ _ _ _); first | with_reducible refine xa_nil ?_ | with_reducible refine xa_cons ?_)
  | ((with_reducible show PW.XT _ _ _ _); first | with_reducible refine xt_yes ?_ | with_reducible refine xt_test ?_ | with_reducible refine xt_B ?_ | with_reducible refine xt_not ?_ | with_reducible refine xt_and ?_ | with_reducible refine xt_or ?_)
  | ((with_reducible show PW.XS _ _ _ _); first | with_reducible refine xs_seq ?_ | with_reducible refine xs_next ?_ | with_reducible refine ys_asg ?_ | with_reducible refine xs_if ?_ | with_reducible refine ys_ret ?_ | with_reducible refine xs_retN ?_ | with_reducible refine xs_drop ?_ | with_reducible refine xs_break ?_ | with_reducible refine xs_cont ?_ | with_reducible refine ys_par (by with_unfolding_all decide) ?_ | with_reducible refine ys_par3 (by with_unfolding_all decide) (by with_unfolding_all decide) (by with_unfolding_all decide) ?_ | with_reducible refine ys_unp2 (by with_unfolding_all decide) ?_ | with_reducible refine ys_unp3 (by with_unfolding_all decide) (by with_unfolding_all decide) (by with_unfolding_all decide) ?_ | with_reducible refine ys_setix ?_ | with_reducible refine ys_asgG ?_ | with_reducible refine xs_for ?_)
  | ((with_reducible show PW.OpD _ _ _ _ _); first | with_reducible refine o_addI ?_ | with_reducible refine o_subI ?_ | with_reducible refine o_mulI (by first | with_unfolding_all exact .inl ⟨by decide, by decide⟩ | with_unfolding_all exact .inr ⟨by decide, by decide⟩) ?_ | with_reducible refine o_mulI (cmulL (by omega) (by omega)) ?_ | with_reducible refine o_mulI (cmulR (by omega) (by omega)) ?_ | with_reducible refine o_divI (by with_unfolding_all exact ⟨by decide, by decide⟩) ?_ | with_reducible refine o_modI (by with_unfolding_all decide) ?_ | with_reducible refine o_powI (by with_unfolding_all exact ⟨by decide, by decide, by decide⟩) ?_ | with_reducible refine o_ltI ?_ | with_reducible refine o_leI ?_ | with_reducible refine o_leUI ?_ | with_reducible refine o_leP ?_ | with_reducible refine o_shlI (cpow1 (by omega) (by omega)) ?_ | with_reducible refine o_gtI ?_ | with_reducible refine o_geI ?_ | with_reducible refine o_eqI ?_ | with_reducible refine o_neI ?_ | with_reducible refine o_eqB ?_ | with_reducible refine o_neB ?_ | with_reducible refine o_isNo ?_ | with_reducible refine o_isNotNo ?_ | with_reducible refine o_isBo ?_ | with_reducible refine o_isNotBo ?_ | with_reducible refine o_inC ?_ | with_reducible refine o_notInC ?_ | with_reducible refine o_ix0 ?_ | with_reducible refine o_ix1 ?_ | with_reducible refine o_ix2 ?_ | ((with_reducible show PW.OpD _ (rIx _) (.tup _) (.int 0) _); refine o_ix0e (ne_len (by omega)) ?_; intro y ys e; subst e) | with_reducible refine o_ixT (by with_unfolding_all exact rfl) ?_ | with_reducible refine o_ixL (by with_unfolding_all exact rfl) ?_)
  | ((with_reducible show PW.CaD _ _ _ _); first | with_reducible refine c_lenT ?_ | with_reducible refine c_lenL ?_ | with_reducible refine c_intI ?_ | with_reducible refine c_intB ?_ | with_reducible refine c_absI ?_ | with_reducible refine c_allM ?_ | with_reducible refine c_anyM ?_ | with_reducible refine c_tupL ?_ | with_reducible refine c_tupT ?_ | with_reducible refine c_lstL ?_ | with_reducible refine c_lstT ?_ | ((with_reducible show CaD _ (rLenU _) [.str _] _); with_reducible refine c_lenS (by walk_at "sz") ?_))
  | ((with_reducible show PW.XI _ _ _ _); first | with_reducible refine yi_seqU ?_ | with_reducible refine yi_enum ?_ | with_reducible refine yi_zip ?_ | with_reducible refine xi_range1 ?_ | with_reducible refine xi_range2 ?_)
  | ((with_reducible show PW.XG _ _ _ _ _); first | with_reducible refine yg_name ?_ | with_reducible refine xg_tup (by with_unfolding_all exact rfl) ?_)
  | ((with_reducible show PW.XGs _ _ _ _ _); first | with_reducible refine xgs_nil ?_ | with_reducible refine xgs_cons ?_)
  | ((with_reducible show PW.XM _ _ _ _ _); first | with_reducible refine xm_nil ?_ | with_reducible refine xm_cons ?_)
  | ((with_reducible show PW.XO _ _ _ _); first | with_reducible refine xo_none ?_ | with_reducible refine xo_some ?_)
  | ((with_reducible show PW.SlD _ _ _ _ _ _); first | with_reducible refine sl_tail ?_ | with_reducible refine sl_T ?_ | with_reducible refine sl_L ?_)
  | ((with_reducible show PW.UnD _ _ _ _); first | with_reducible refine u_neg ?_)
  | ((with_reducible show PW.back _ _ _); first | with_reducible refine back_d ?_ | with_reducible refine back_nw ?_ | with_reducible refine back_v (by with_unfolding_all exact rfl) ?_)
  | walk_at "cnt"
  | walk_at "br")
local macro_rules | `(tactic| walk_at "cnt") => `(tactic| first
  | with_reducible refine ex_env (by walk_at "env") ?_
  | ((with_reducible show ∃ x : List D, _ = some x ∧ x.length ≤ _ ∧ _); with_reducible refine ex_pks2 (by with_unfolding_all exact rfl) (by walk_at "sz") ?_)
  | with_reducible refine ex_pks (by with_unfolding_all exact rfl) ?_
  | ((with_reducible show ∃ x : D, _ = some x ∧ x.isBuiltin = true ∧ _); with_reducible refine ex_pk2 (by with_unfolding_all exact rfl) (by walk_at "bi") ?_)
  | with_reducible refine lc_fin (by with_unfolding_all exact rfl) (by with_unfolding_all exact rfl) ?_
  | with_reducible refine lcf_fin (by with_unfolding_all exact rfl) (by with_unfolding_all exact rfl) ?_
  | with_reducible refine ex_pk (by with_unfolding_all exact rfl) ?_
  | with_reducible refine ex_op (by with_unfolding_all exact rfl) (by with_unfolding_all exact rfl) ?_
  | with_reducible refine ex_it (by with_unfolding_all exact rfl) (by with_unfolding_all exact rfl) ?_
  | with_reducible refine ex_its (by with_unfolding_all exact rfl) (by with_unfolding_all exact rfl) ?_
  | with_reducible refine ex_zip (by with_unfolding_all exact rfl) (by with_unfolding_all exact rfl) ?_
  | with_reducible refine ex_bl ?_
  | with_reducible refine ex_int ?_
  | with_reducible refine ex_sc (by with_unfolding_all exact rfl) ?_
  | with_reducible refine and_brT ?_
  | with_reducible refine and_brF ?_
  | with_reducible refine and_rbT ?_
  | with_reducible refine and_rbF ?_
  | with_reducible refine and_nT ?_
  | with_reducible refine and_nF ?_
  | with_reducible refine and_mT ?_
  | with_reducible refine and_mF ?_
  | with_reducible refine and_br ?_ ?_
  | with_reducible refine and_rb ?_ ?_
  | with_reducible refine ⟨nv_d, ?_⟩
  | with_reducible refine ⟨nv_nw, ?_⟩)
local macro_rules | `(tactic| walk_at "br") => `(tactic| first
  | (with_reducible refine br_tup ?_; intro xs e; subst e)
  | (with_reducible refine br_tupN ?_; intro xs e; subst e)
  | (with_reducible refine br_lst ?_; intro xs e; subst e)
  | (with_reducible refine br_lstN ?_; intro xs e; subst e)
  | (with_reducible refine br_str ?_; intro xs e; subst e)
  | (with_reducible refine br_strN ?_; intro xs e; subst e)
  | (with_reducible refine br_non ?_; intro e; subst e)
  | (with_reducible refine br_nonN ?_; intro e; subst e)
  | (with_reducible refine br_t ?_; intro h; first | (cases h; done) | (simp only [lenc, List.length_nil, decide_eq_true_eq, decide_eq_false_iff_not] at h; omega) | exact absurd (show true = false from h) (by decide) | exact absurd (show false = true from h) (by decide) | (simp only [lenc, List.length_nil, Bool.not_eq_true', Bool.not_eq_false', decide_eq_true_eq, decide_eq_false_iff_not] at h) | skip)
  | (with_reducible refine br_f ?_; intro h; first | (cases h; done) | (simp only [lenc, List.length_nil, decide_eq_true_eq, decide_eq_false_iff_not] at h; omega) | exact absurd (show true = false from h) (by decide) | exact absurd (show false = true from h) (by decide) | (simp only [lenc, List.length_nil, Bool.not_eq_true', Bool.not_eq_false', decide_eq_true_eq, decide_eq_false_iff_not] at h) | skip)
  | (with_reducible refine signs_one ?_; intro c)
  | (with_reducible refine fa_mem ?_; intro d hd)
  | ((with_reducible show _ ≤ sizeLine ∧ _); with_reducible refine lc_split (by walk_at "sz") (by walk_at "env") ?_ ?_)
  | ((with_reducible show wipeE _ _ = _ ∧ _); with_reducible refine lc_env (by walk_at "env") ?_)
  | ((with_reducible show (_ : D) = _); exact rfl))
local macro_rules | `(tactic| walk_at "pws") => `(tactic| repeat' walk_at "pw")
local macro_rules | `(tactic| walk_at "pw") => `(tactic| first
  | ((with_reducible show w_is_integer _ _); with_reducible refine i_is_integer (by walk_at "bi") ?_) | ((with_reducible show w_is_within _ _); with_reducible refine i_is_within (by walk_at "bi") ?_) | ((with_reducible show w_is_tuple_of _ _); with_reducible refine i_is_tuple_of (by walk_at "bi") ?_)
  | ((with_reducible show w_is_name _ _); with_reducible refine i_is_name (by walk_at "jn") ?_) | ((with_reducible show w_is_lock _ _); with_reducible refine i_is_lock (by walk_at "bi") ?_) | ((with_reducible show w_is_member _ _); with_reducible refine i_is_member (by walk_at "jn") ?_)
  | (with_reducible refine br_two ?_; intro a b e; subst e) | (with_reducible refine br_twoN ?_; intro a b e; subst e) | (with_reducible refine br_thr ?_; intro a b c e; subst e) | (with_reducible refine br_thrN ?_; intro a b c e; subst e)
  | (with_reducible refine br_int ?_; intro i e; subst e) | (with_reducible refine br_win ?_; intro i e h1 h2; subst e) | (with_reducible refine br_winN ?_; intro i e h1 h2; subst e))
theorem isTupleOf_n {x : D} {n : Int} (h : isTupleOf x n = true) : ∃ ls, x = .tup ls ∧ (ls.length : Int) = n := by
  cases x with
  | tup xs => exact ⟨xs, rfl, of_decide_eq_true h⟩
  | _ => cases h
theorem br_lenN {x : D} {n : Int} {P : Prop} (h : ∀ ls, x = .tup ls → (ls.length : Int) = n → P) : (!isTupleOf x n) = false → P := fun z => by
  obtain ⟨ls, e, hl⟩ := isTupleOf_n (nbf z)
  exact h ls e hl
theorem isMember_of {d : D} (h : isMember d = true) : ∃ s i, d = .tup [.str s, .int i] ∧ isName (.str s) = true ∧ 0 ≤ i := by
  unfold isMember at h
  split at h
  · rename_i a b
    obtain ⟨h1, h2⟩ := Bool.and_eq_true_iff.mp h
    cases a with
    | str s =>
      cases b with
      | int i => exact ⟨s, i, rfl, h1, of_decide_eq_true h2⟩
      | _ => cases h2
    | _ => cases h1
  · cases h
theorem names_map {ls : List D} : (ls.filter fun l => !l.isNon).map (fun l => D.str (nameOf l)) = (namesOf ls).map D.str := by
  unfold namesOf
  rw [List.map_map]
  rfl
theorem names_le {ls : List D} : (namesOf ls).length ≤ ls.length := by
  unfold namesOf
  rw [List.length_map]
  exact List.length_filter_le _ _
theorem areLeaves_n {x : D} {h : Nat} (z : isTupleOf x (2 ^ h) = false) : areLeaves x h = false := by
  cases x with
  | tup ls =>
    have z : decide ((ls.length : Int) = 2 ^ h) = false := z
    have e : decide (ls.length = 2 ^ h) = false := by
      rw [← z]
      refine decide_eq_decide.mpr ?_
      rw [pow_cast]
      omega
    simp only [areLeaves, e, Bool.false_and]
  | _ => rfl
section
local macro_rules | `(tactic| walk_at "pw") => `(tactic| first
  | with_reducible refine ye_lcf (vs := [3]) (fun l => !l.isNon) (fun l => .str (nameOf l)) own_name wipe1 ?_
  | (with_reducible refine br_lenN ?_; intro ls e hl; subst e))
local macro_rules | `(tactic| walk_at "pw") => `(tactic| first
  | with_reducible refine ye_lcm (vs := [3]) (fun l => .bl (l.isNon || isMember l)) own_name wipe1 ?_)
theorem pure_are_leaves {K : PySem.W.Frag} : ∀ ds kk, w_are_leaves ds kk → XS K (t_are_leaves K) (ini 4 ds) { nx := fun _ => kk (.d .non), rt := fun r _ => kk r } := by
  rintro _ kk ⟨x, h, rfl, hx, h8, g⟩
  show XS K (t_are_leaves K) [.d x, .d (.int h), .u, .u] (Fin kk)
  unfold t_are_leaves
  have e2 : (1 * 2 ^ ((h : Int)).toNat : Int) = 2 ^ h := by rw [Int.one_mul, Int.toNat_natCast]
  walk_at "pws"
  · rename_i d hd hn
    rw [hn, Bool.false_or]
  · rename_i ls hl ha
    refine fin_bl g ?_
    simp only [areLeaves, ha, Bool.and_false, Bool.false_and]
  · rename_i ls hl ha d hd hn
    have hm := List.all_eq_true.mp ha d hd
    rw [hn, Bool.false_or] at hm
    obtain ⟨s, i, rfl, _, _⟩ := isMember_of hm
    walk_at "pws"
  · rename_i ls hl ha
    rw [e2] at hl
    have hl2 : ls.length = 2 ^ h := by rw [pow_cast] at hl; omega
    have h3 : 2 ^ h ≤ 2 ^ 8 := Nat.pow_le_pow_right (by decide) h8
    have h4 := names_le (ls := ls)
    refine ⟨namesOf ls, by rw [← names_map]; rfl, by omega, ?_⟩
    walk_at "pws"
    rw [names_map, List.length_map, distinct_nodup]
    refine fin_bl g ?_
    simp only [areLeaves, ha, Bool.and_true, decide_eq_true hl2, Bool.true_and]
  · rename_i z
    rw [e2] at z
    exact fin_bl g (areLeaves_n z)
end

end LawK08
end
section
namespace LawK08
open PySem PySem.Spec PyProof.Rows L2 PW
local macro_rules | `(tactic| walk_at "env") => `(tactic| (first | (dsimp only [sto, stoE, frz, frzE, frzAll, wipeE, Res.ent, List.set, List.getElem?_cons_zero, List.getElem?_cons_succ]; done) | (dsimp only [sto, stoE, frz, frzE, frzAll, wipeE, Res.ent, List.set, List.getElem?_cons_zero, List.getElem?_cons_succ]; rfl) | rfl))
local macro_rules | `(tactic| walk_at "mem") => `(tactic| first | assumption | exact cut_sub (by assumption) | exact List.mem_cons_of_mem _ (by assumption) | (simp only [List.mem_cons, true_or, or_true]; done))
local macro_rules | `(tactic| walk_at "jn") => `(tactic| first | assumption | with_unfolding_all exact rfl | exact jnTr (by assumption) (by assumption) | exact jnTr (cut_sub (by assumption)) (by assumption) | exact jnTr (List.mem_cons_of_mem _ (by assumption)) (by assumption) | exact jnT (by assumption) (by walk_at "mem") | exact jnL' (by assumption) (by walk_at "mem") | exact jnT2 (by assumption) (by assumption) (by walk_at "mem"))
local macro_rules | `(tactic| walk_at "sz") => `(tactic| first | with_unfolding_all exact Nat.le_of_ble_eq_true rfl | assumption | exact szl (by assumption) | exact szS (by walk_at "jn") | exact szT (by walk_at "jn") | exact szTl (by assumption) | exact szL (by walk_at "jn") | exact szG (by walk_at "jn") | ((with_reducible show (PW.cutD _ _ _).length ≤ _); refine szC ?_; walk_at "sz") | with_unfolding_all exact szl (Nat.le_of_ble_eq_true rfl))
local macro_rules | `(tactic| walk_at "bi") => `(tactic| first | with_unfolding_all exact rfl | assumption | exact jn_bi (by walk_at "jn"))
local macro_rules | `(tactic| walk_at "pw") => `(tactic| first
  | ((with_reducible show PW.XE _ _ _ _); first | with_reducible refine xe_var_d (by with_unfolding_all exact rfl) ?_ | with_reducible refine xe_var_o (by with_unfolding_all exact rfl) ?_ | with_reducible refine xe_int ?_ | with_reducible refine xe_str ?_ | with_reducible refine xe_bl ?_ | with_reducible refine xe_non ?_ | with_reducible refine ye_emp ?_ | with_reducible refine xe_op ?_ | with_reducible refine xe_un ?_ | with_reducible refine xe_if ?_ | with_reducible refine xe_andV ?_ | with_reducible refine xe_orV ?_ | with_reducible refine xe_notV ?_ | with_reducible refine xe_chain ?_ | with_reducible refine xe_isi D.isTup isi_tuple ?_ | with_reducible refine xe_isi D.isLst isi_list ?_ | with_reducible refine xe_isi D.isStr isi_str ?_ | with_reducible refine xe_isi D.isInt isi_int ?_ | with_reducible refine xe_isi D.isBool isi_bool ?_ | with_reducible refine xe_isi D.isDct isi_dict ?_ | with_reducible refine xe_isi2 D.isTup D.isLst isi_tuple isi_list ?_ | with_reducible refine ye_lenSet ?_ | with_reducible refine ye_join ?_ | with_reducible refine xe_cb ?_ | with_reducible refine xe_callS ?_ | with_reducible refine ye_callH (by with_unfolding_all exact rfl) ?_ | with_reducible refine ye_call ?_ | with_reducible refine ye_tup ?_ | with_reducible refine ye_lst ?_ | with_reducible refine xe_sl ?_ | with_reducible refine ye_revT ?_ | with_reducible refine ye_rg1 ?_ | with_reducible refine ye_rg2 ?_ | with_reducible refine ye_meth (by with_unfolding_all exact rfl) (fun _ _ _ h => ty_list h) ?_ | with_reducible refine ye_meth0 (by with_unfolding_all exact rfl) (fun _ _ _ h => ty_list h) ?_)
  | ((with_reducible show PW.XA _ _ _ _); first | with_reducible refine xa_nil ?_ | with_reducible refine xa_cons ?_)
  | ((with_reducible show PW.XT _ _ _ _); first | with_reducible refine xt_yes ?_ | with_reducible refine xt_test ?_ | with_reducible refine xt_B ?_ | with_reducible refine xt_not ?_ | with_reducible refine xt_and ?_ | with_reducible refine xt_or ?_)
  | ((with_reducible show PW.XS _ _ _ _); first | with_reducible refine xs_seq ?_ | with_reducible refine xs_next ?_ | with_reducible refine ys_asg ?_ | with_reducible refine xs_if ?_ | with_reducible refine ys_ret ?_ | with_reducible refine xs_retN ?_ | with_reducible refine xs_drop ?_ | with_reducible refine xs_break ?_ | with_reducible refine xs_cont ?_ | with_reducible refine ys_par (by with_unfolding_all decide) ?_ | with_reducible refine ys_par3 (by with_unfolding_all decide) (by with_unfolding_all decide) (by with_unfolding_all decide) ?_ | with_reducible refine ys_unp2 (by with_unfolding_all decide) ?_ | with_reducible refine ys_unp3 (by with_unfolding_all decide) (by with_unfolding_all decide) (by with_unfolding_all decide) ?_ | with_reducible refine ys_setix ?_ | with_reducible refine ys_asgG ?_ | with_reducible refine xs_for ?_)
  | ((with_reducible show PW.OpD _ _ _ _ _); first | with_reducible refine o_addI ?_ | with_reducible refine o_subI ?_ | with_reducible refine o_mulI (by first | with_unfolding_all exact .inl ⟨by decide, by decide⟩ | with_unfolding_all exact .inr ⟨by decide, by decide⟩) ?_ | with_reducible refine o_mulI (cmulL (by omega) (by omega)) ?_ | with_reducible refine o_mulI (cmulR (by omega) (by omega)) ?_ | with_reducible refine o_divI (by with_unfolding_all exact ⟨by decide, by decide⟩) ?_ | with_reducible refine o_modI (by with_unfolding_all decide) ?_ | with_reducible refine o_powI (by with_unfolding_all exact ⟨by decide, by decide, by decide⟩) ?_ | with_reducible refine o_ltI ?_ | with_reducible refine o_leI ?_ | with_reducible refine o_leUI ?_ | with_reducible refine o_leP ?_ | with_reducible refine o_shlI (cpow1 (by omega) (by omega)) ?_ | with_reducible refine o_gtI ?_ | with_reducible refine o_geI ?_ | with_reducible refine o_eqI ?_ | with_reducible refine o_neI ?_ | with_reducible refine o_eqB ?_ | with_reducible refine o_neB ?_ | with_reducible refine o_isNo ?_ | with_reducible refine o_isNotNo ?_ | with_reducible refine o_isBo ?_ | with_reducible refine o_isNotBo ?_ | with_reducible refine o_inC ?_ | with_reducible refine o_notInC ?_ | with_reducible refine o_ix0 ?_ | with_reducible refine o_ix1 ?_ | with_reducible refine o_ix2 ?_ | ((with_reducible show PW.OpD _ (rIx _) (.tup _) (.int 0) _); refine o_ix0e (ne_len (by omega)) ?_; intro y ys e; subst e) | with_reducible refine o_ixT (by with_unfolding_all exact rfl) ?_ | with_reducible refine o_ixL (by with_unfolding_all exact rfl) ?_)
  | ((with_reducible show PW.CaD _ _ _ _); first | with_reducible refine c_lenT ?_ | with_reducible refine c_lenL ?_ | with_reducible refine c_intI ?_ | with_reducible refine c_intB ?_ | with_reducible refine c_absI ?_ | with_reducible refine c_allM ?_ | with_reducible refine c_anyM ?_ | with_reducible refine c_tupL ?_ | with_reducible refine c_tupT ?_ | with_reducible refine c_lstL ?_ | with_reducible refine c_lstT ?_ | ((with_reducible show CaD _ (rLenU _) [.str _] _); with_reducible refine c_lenS (by walk_at "sz") ?_))
  | ((with_reducible show PW.XI _ _ _ _); first | with_reducible refine yi_seqU ?_ | with_reducible refine yi_enum ?_ | with_reducible refine yi_zip ?_ | with_reducible refine xi_range1 ?_ | with_reducible refine xi_range2 ?_)
  | ((with_reducible show PW.XG _ _ _ _ _); first | with_reducible refine yg_name ?_ | with_reducible refine xg_tup (by with_unfolding_all exact rfl) ?_)
  | ((with_reducible show PW.XGs _ _ _ _ _); first | with_reducible refine xgs_nil ?_ | with_reducible refine xgs_cons ?_)
  | ((with_reducible show PW.XM _ _ _ _ _); first | with_reducible refine xm_nil ?_ | with_reducible refine xm_cons ?_)
  | ((with_reducible show PW.XO _ _ _ _); first | with_reducible refine xo_none ?_ | with_reducible refine xo_some ?_)
  | ((with_reducible show PW.SlD _ _ _ _ _ _); first | with_reducible refine sl_tail ?_ | with_reducible refine sl_T ?_ | with_reducible refine sl_L ?_)
  | ((with_reducible show PW.UnD _ _ _ _); first | with_reducible refine u_neg ?_)
  | ((with_reducible show PW.back _ _ _); first | with_reducible refine back_d ?_ | with_reducible refine back_nw ?_ | with_reducible refine back_v (by with_unfolding_all exact rfl) ?_)
  | walk_at "cnt"
  | walk_at "br")
local macro_rules | `(tactic| walk_at "cnt") => `(tactic| first
  | with_reducible refine ex_env (by walk_at "env") ?_
  | ((with_reducible show ∃ x : List D, _ = some x ∧ x.length ≤ _ ∧ _); with_reducible refine ex_pks2 (by with_unfolding_all exact rfl) (by walk_at "sz") ?_)
  | with_reducible refine ex_pks (by with_unfolding_all exact rfl) ?_
  | ((with_reducible show ∃ x : D, _ = some x ∧ x.isBuiltin = true ∧ _); with_reducible refine ex_pk2 (by with_unfolding_all exact rfl) (by walk_at "bi") ?_)
  | with_reducible refine lc_fin (by with_unfolding_all exact rfl) (by with_unfolding_all exact rfl) ?_
  | with_reducible refine lcf_fin (by with_unfolding_all exact rfl) (by with_unfolding_all exact rfl) ?_
  | with_reducible refine ex_pk (by with_unfolding_all exact rfl) ?_
  | with_reducible refine ex_op (by with_unfolding_all exact rfl) (by with_unfolding_all exact rfl) ?_
  | with_reducible refine ex_it (by with_unfolding_all exact rfl) (by with_unfolding_all exact rfl) ?_
  | with_reducible refine ex_its (by with_unfolding_all exact rfl) (by with_unfolding_all exact rfl) ?_
  | with_reducible refine ex_zip (by with_unfolding_all exact rfl) (by with_unfolding_all exact rfl) ?_
  | with_reducible refine ex_bl ?_
  | with_reducible refine ex_int ?_
  | with_reducible refine ex_sc (by with_unfolding_all exact rfl) ?_
  | with_reducible refine and_brT ?_
  | with_reducible refine and_brF ?_
  | with_reducible refine and_rbT ?_
  | with_reducible refine and_rbF ?_
  | with_reducible refine and_nT ?_
  | with_reducible refine and_nF ?_
  | with_reducible refine and_mT ?_
  | with_reducible refine and_mF ?_
  | with_reducible refine and_br ?_ ?_
  | with_reducible refine and_rb ?_ ?_
  | with_reducible refine ⟨nv_d, ?_⟩
  | with_reducible refine ⟨nv_nw, ?_⟩)
local macro_rules | `(tactic| walk_at "br") => `(tactic| first
  | (with_reducible refine br_tup ?_; intro xs e; subst e)
  | (with_reducible refine br_tupN ?_; intro xs e; subst e)
  | (with_reducible refine br_lst ?_; intro xs e; subst e)
  | (with_reducible refine br_lstN ?_; intro xs e; subst e)
  | (with_reducible refine br_str ?_; intro xs e; subst e)
  | (with_reducible refine br_strN ?_; intro xs e; subst e)
  | (with_reducible refine br_non ?_; intro e; subst e)
  | (with_reducible refine br_nonN ?_; intro e; subst e)
  | (with_reducible refine br_t ?_; intro h; first | (cases h; done) | (simp only [lenc, List.length_nil, decide_eq_true_eq, decide_eq_false_iff_not] at h; omega) | exact absurd (show true = false from h) (by decide) | exact absurd (show false = true from h) (by decide) | (simp only [lenc, List.length_nil, Bool.not_eq_true', Bool.not_eq_false', decide_eq_true_eq, decide_eq_false_iff_not] at h) | skip)
  | (with_reducible refine br_f ?_; intro h; first | (cases h; done) | (simp only [lenc, List.length_nil, decide_eq_true_eq, decide_eq_false_iff_not] at h; omega) | exact absurd (show true = false from h) (by decide) | exact absurd (show false = true from h) (by decide) | (simp only [lenc, List.length_nil, Bool.not_eq_true', Bool.not_eq_false', decide_eq_true_eq, decide_eq_false_iff_not] at h) | skip)
  | (with_reducible refine signs_one ?_; intro c)
  | (with_reducible refine fa_mem ?_; intro d hd)
  | ((with_reducible show _ ≤ sizeLine ∧ _); with_reducible refine lc_split (by walk_at "sz") (by walk_at "env") ?_ ?_)
  | ((with_reducible show wipeE _ _ = _ ∧ _); with_reducible refine lc_env (by walk_at "env") ?_)
  | ((with_reducible show (_ : D) = _); exact rfl))
local macro_rules | `(tactic| walk_at "pws") => `(tactic| repeat' walk_at "pw")
local macro_rules | `(tactic| walk_at "pw") => `(tactic| first
  | ((with_reducible show w_is_integer _ _); with_reducible refine i_is_integer (by walk_at "bi") ?_) | ((with_reducible show w_is_within _ _); with_reducible refine i_is_within (by walk_at "bi") ?_) | ((with_reducible show w_is_tuple_of _ _); with_reducible refine i_is_tuple_of (by walk_at "bi") ?_)
  | ((with_reducible show w_is_name _ _); with_reducible refine i_is_name (by walk_at "jn") ?_) | ((with_reducible show w_is_lock _ _); with_reducible refine i_is_lock (by walk_at "bi") ?_) | ((with_reducible show w_is_member _ _); with_reducible refine i_is_member (by walk_at "jn") ?_)
  | (with_reducible refine br_two ?_; intro a b e; subst e) | (with_reducible refine br_twoN ?_; intro a b e; subst e) | (with_reducible refine br_thr ?_; intro a b c e; subst e) | (with_reducible refine br_thrN ?_; intro a b c e; subst e)
  | (with_reducible refine br_int ?_; intro i e; subst e) | (with_reducible refine br_win ?_; intro i e h1 h2; subst e) | (with_reducible refine br_winN ?_; intro i e h1 h2; subst e))
local macro_rules | `(tactic| walk_at "pw") => `(tactic| first
  | ((with_reducible show w_law_int _ _); with_reducible refine i_law_int (by walk_at "bi") ?_) | ((with_reducible show w_law_named _ _); with_reducible refine i_law_named (by walk_at "jn") ?_) | ((with_reducible show w_law_node _ _); with_reducible refine i_law_node (by walk_at "jn") (by assumption) ?_))
theorem i_law_beneath {a : Nat} {b : Int} {k : Res → Prop} (h1 : a ≤ 8) (h2 : 0 ≤ b) (h3 : b ≤ 256) (q : k (.nw (.lst (rngD (b * 2 ^ a) (2 ^ a))))) : w_law_beneath [.tup [.int a, .int b]] k := ⟨a, b, rfl, h1, h2, h3, q⟩
theorem len2_of {xs : List D} (h : (xs.length : Int) = 2) : ∃ a b, xs = [a, b] := by
  match xs, h with
  | [a, b], _ => exact ⟨a, b, rfl⟩
  | [], h => cases h
  | [_], h => cases h
  | _ :: _ :: _ :: _, h => simp only [List.length_cons] at h; omega
theorem len3_of {xs : List D} (h : (xs.length : Int) = 3) : ∃ a b c, xs = [a, b, c] := by
  match xs, h with
  | [a, b, c], _ => exact ⟨a, b, c, rfl⟩
  | [], h => cases h
  | [_], h => cases h
  | [_, _], h => cases h
  | _ :: _ :: _ :: _ :: _, h => simp only [List.length_cons] at h; omega
theorem br_l2 {xs : List D} {P : Prop} (h : ∀ a b, xs = [a, b] → P) : (!decide ((xs.length : Int) = 2)) = false → P := fun z => by
  obtain ⟨a, b, e⟩ := len2_of (of_decide_eq_true (nbf z))
  exact h a b e
theorem br_l3 {xs : List D} {P : Prop} (h : ∀ a b c, xs = [a, b, c] → P) : (!decide ((xs.length : Int) = 3)) = false → P := fun z => by
  obtain ⟨a, b, c, e⟩ := len3_of (of_decide_eq_true (nbf z))
  exact h a b c e
local macro_rules | `(tactic| walk_at "pw") => `(tactic| first
  | (with_reducible refine br_l2 ?_; intro a b e; subst e) | (with_reducible refine br_l3 ?_; intro a b c e; subst e))
theorem tup_not2 {xs : List D} {h l : Int} (z : ¬ (xs.length : Int) = 2) : isNode (.tup xs) h l = false := isNode_not2 (decide_eq_false z)
theorem notTup_node {x : D} {h l : Int} (z : x.isTup = false) : isNode x h l = false := by
  cases x <;> first
    | rfl
    | cases z
theorem pure_law_node {K : PySem.W.Frag} : ∀ ds kk, w_law_node ds kk → XS K (t_law_node K) (ini 2 ds) { nx := fun _ => kk (.d .non), rt := fun r _ => kk r } := by
  rintro _ kk ⟨x, h, rfl, hx, h8, g⟩
  show XS K (t_law_node K) [.d x, .d (.int h)] (Fin kk)
  unfold t_law_node
  walk_at "pws"
  all_goals first
    | exact fin_bl g (notTup_node (by assumption))
    | exact fin_bl g (tup_not2 (by assumption))
    | exact fin_bl g (isNode_bad1 (by assumption))
    | (try dsimp only)
  rename_i b i h1 h2
  obtain ⟨m, hm⟩ := Int.eq_ofNat_of_zero_le (show 0 ≤ (h : Int) - i by omega)
  rw [hm]
  refine i_law_beneath (by omega) (by decide) (by decide) ?_
  walk_at "pws"
  rw [rngD_len, ← pow_cast]
  refine fin_bl g ((isNode_eq h1 h2).trans ?_)
  rw [hm, Int.toNat_natCast]
theorem isLock_im {x : D} (h : dIm x = true) : isWithin x 0 (10 ^ Int.toNat 60) = isLock x := by
  cases x with
  | int i =>
    have h : i ≤ 10 ^ 60 := of_decide_eq_true h
    show (decide (0 ≤ i) && decide (i ≤ 10 ^ 60)) = decide (0 ≤ i)
    rw [decide_eq_true h, Bool.and_true]
  | _ => rfl
theorem imT {xs : List D} {x : D} (h : dIm (.tup xs) = true) (hx : x ∈ xs) : dIm x = true := imL_mem (xs := xs) h hx
theorem isNode_of {x : D} {h : Nat} {l : Int} (h0 : 0 ≤ l) (z : isNode x h l = true) : ∃ (a : Nat) (b : Int), x = .tup [.int a, .int b] ∧ l ≤ a ∧ a ≤ h ∧ 0 ≤ b ∧ b ≤ 2 ^ (h - a) - 1 := by
  unfold isNode at z
  split at z
  · rename_i a b
    obtain ⟨z1, z2⟩ := Bool.and_eq_true_iff.mp z
    obtain ⟨z3, z4⟩ := Bool.and_eq_true_iff.mp z1
    obtain ⟨z5, z6⟩ := Bool.and_eq_true_iff.mp z2
    have z3 := of_decide_eq_true z3
    have z4 := of_decide_eq_true z4
    have z6 := of_decide_eq_true z6
    obtain ⟨n, rfl⟩ := Int.eq_ofNat_of_zero_le (show 0 ≤ a by omega)
    have e : ((h : Int) - (n : Int)).toNat = h - n := by omega
    rw [e] at z6
    exact ⟨n, b, rfl, z3, by omega, of_decide_eq_true z5, z6⟩
  · cases z
theorem br_node {x : D} {h : Nat} {P : Prop} (g : ∀ (a : Nat) (b : Int), x = .tup [.int a, .int b] → 1 ≤ (a : Int) → a ≤ h → 0 ≤ b → b ≤ 2 ^ (h - a) - 1 → isNode x h 1 = true → P) : (!isNode x h 1) = false → P := fun z => by
  obtain ⟨a, b, e, h1, h2, h3, h4⟩ := isNode_of (by decide) (nbf z)
  exact g a b e h1 h2 h3 h4 (nbf z)
theorem i_law_aside {x : D} {a h : Nat} {b : Int} {ls : List D} {k : Res → Prop} (h0 : x.jn = true) (h1 : h ≤ 8) (h2 : a ≤ h) (h3 : 0 ≤ b) (h4 : b ≤ 2 ^ (h - a) - 1) (h5 : ls.length = 2 ^ h) (q : k (.d (.bl (isAside x a b ls)))) : w_law_aside [x, .tup [.int a, .int b], .tup ls] k :=
  ⟨x, a, b, h, ls, rfl, h0, h1, h2, h3, h4, h5, q⟩
theorem nodes_notT {h : Int} {ls r : List D} {p : Int × Int} {x : D} (z : x.isTup = false) : nodesFrom h ls p (x :: r) = false := by
  unfold nodesFrom
  split
  · cases z
  · rfl
theorem nodes_notL {h : Int} {ls r : List D} {p : Int × Int} {xs : List D} (z : ¬ (xs.length : Int) = 3) : nodesFrom h ls p (.tup xs :: r) = false := by
  unfold nodesFrom
  split
  · rename_i q
    cases q
    exact absurd rfl z
  · rfl
theorem nodes_cons {h : Int} {ls r : List D} {p : Int × Int} {n l s : D} : nodesFrom h ls p (.tup [n, l, s] :: r) = (isNode n h 1 && above n p && isLock l && isAside s (pairOf n).1 (pairOf n).2 ls && nodesFrom h ls (pairOf n) r) := rfl
theorem nodes_bad {h : Int} {ls r : List D} {p : Int × Int} {n l s : D} (e : isNode n h 1 = false) : nodesFrom h ls p (.tup [n, l, s] :: r) = false := by
  rw [nodes_cons, e, Bool.false_and, Bool.false_and, Bool.false_and, Bool.false_and]
theorem nodes_eq {h : Int} {ls r : List D} {a b u v : Int} {l s : D} (e : isNode (.tup [.int a, .int b]) h 1 = true) : nodesFrom h ls (u, v) (.tup [.tup [.int a, .int b], l, s] :: r) = (!pairLe a b u v && isLock l && isAside s a b ls && nodesFrom h ls (a, b) r) := by
  rw [nodes_cons, e, Bool.true_and]
  rfl
theorem drop_at {xs : List D} {i : Nat} {x : D} (h : xs[i]? = some x) : xs.drop i = x :: xs.drop (i + 1) := by
  obtain ⟨hl, e⟩ := List.getElem?_eq_some_iff.mp h
  rw [← e]
  exact List.drop_eq_getElem_cons hl
section
local macro_rules | `(tactic| walk_at "pw") => `(tactic| first
  | ((with_reducible show w_law_aside _ _); with_reducible refine i_law_aside (by walk_at "jn") (by assumption) (by assumption) (by assumption) (by assumption) (by assumption) ?_)
  | (with_reducible refine br_node ?_; intro a b e h1 h2 h3 h4 h5; subst e))
theorem pure_law_nodes {K : PySem.W.Frag} : ∀ ds kk, w_law_nodes ds kk → XS K (t_law_nodes K) (ini 5 ds) { nx := fun _ => kk (.d .non), rt := fun r _ => kk r } := by
  rintro _ kk ⟨h, ls, x, rfl, hx, him, h8, hl, g⟩
  show XS K (t_law_nodes K) [.d (.int h), .d (.tup ls), .d x, .u, .u] (Fin kk)
  unfold t_law_nodes
  walk_at "pws"
  · refine fin_bl g ?_
    rename_i z
    cases x <;> first
      | rfl
      | cases z
  · rename_i ns
    refine ⟨fun i ρ => ∃ (u v : Int) (e4 : Ent), ρ = [.d (.int h), .d (.tup ls), .d (.tup ns), .d (.tup [.int u, .int v]), e4] ∧ areNodes (.tup ns) h ls = nodesFrom h ls (u, v) (ns.drop i), ⟨0, 0, _, rfl, rfl⟩, ?_, ?_⟩
    · rintro i d ρ' hd ⟨u, v, e4, rfl, hi⟩
      rw [drop_at hd] at hi
      have hm := List.mem_of_getElem? hd
      have hj := jnT hx hm
      have hi2 := imT him hm
      walk_at "pws"
      all_goals first
        | exact fin_bl g (hi.trans (nodes_notT (by assumption)))
        | exact fin_bl g (hi.trans (nodes_notL (by assumption)))
        | exact fin_bl g (hi.trans (nodes_bad (by assumption)))
        | (refine fin_bl g (hi.trans ?_); rw [nodes_eq (by assumption)]; simp [*]; done)
        | (refine fin_bl g (hi.trans ?_); rename_i q; rw [isLock_im (imT hi2 (by simp))] at q; rw [nodes_eq (by assumption)]; simp [*]; done)
        | (refine fin_bl g (hi.trans ?_); rename_i q q2; rw [isLock_im (imT hi2 (by simp))] at q; rw [nodes_eq (by assumption)]; simp [*]; done)
        | (refine ⟨_, _, _, rfl, hi.trans ?_⟩; rename_i q q2; rw [isLock_im (imT hi2 (by simp))] at q; rw [nodes_eq (by assumption)]; simp [*]; done)
        | (refine ⟨_, _, _, rfl, hi.trans ?_⟩; rw [nodes_eq (by assumption)]; simp [isLock, *]; done)
    · rintro ρ' ⟨u, v, e4, rfl, hi⟩
      rw [List.drop_length] at hi
      walk_at "pws"
      exact fin_bl g hi
end

end LawK08
end
section
namespace LawK08
open PySem PySem.Spec PyProof.Rows L2 PW
local macro_rules | `(tactic| walk_at "env") => `(tactic| (first | (dsimp only [sto, stoE, frz, frzE, frzAll, wipeE, Res.ent, List.set, List.getElem?_cons_zero, List.getElem?_cons_succ]; done) | (dsimp only [sto, stoE, frz, frzE, frzAll, wipeE, Res.ent, List.set, List.getElem?_cons_zero, List.getElem?_cons_succ]; rfl) | rfl))
local macro_rules | `(tactic| walk_at "mem") => `(tactic| first | assumption | exact cut_sub (by assumption) | exact List.mem_cons_of_mem _ (by assumption) | (simp only [List.mem_cons, true_or, or_true]; done))
local macro_rules | `(tactic| walk_at "jn") => `(tactic| first | assumption | with_unfolding_all exact rfl | exact jnTr (by assumption) (by assumption) | exact jnTr (cut_sub (by assumption)) (by assumption) | exact jnTr (List.mem_cons_of_mem _ (by assumption)) (by assumption) | exact jnT (by assumption) (by walk_at "mem") | exact jnL' (by assumption) (by walk_at "mem") | exact jnT2 (by assumption) (by assumption) (by walk_at "mem"))
local macro_rules | `(tactic| walk_at "sz") => `(tactic| first | with_unfolding_all exact Nat.le_of_ble_eq_true rfl | assumption | exact szl (by assumption) | exact szS (by walk_at "jn") | exact szT (by walk_at "jn") | exact szTl (by assumption) | exact szL (by walk_at "jn") | exact szG (by walk_at "jn") | ((with_reducible show (PW.cutD _ _ _).length ≤ _); refine szC ?_; walk_at "sz") | with_unfolding_all exact szl (Nat.le_of_ble_eq_true rfl))
local macro_rules | `(tactic| walk_at "bi") => `(tactic| first | with_unfolding_all exact rfl | assumption | exact jn_bi (by walk_at "jn"))
local macro_rules | `(tactic| walk_at "pw") => `(tactic| first
  | ((with_reducible show PW.XE _ _ _ _); first | with_reducible refine xe_var_d (by with_unfolding_all exact rfl) ?_ | with_reducible refine xe_var_o (by with_unfolding_all exact rfl) ?_ | with_reducible refine xe_int ?_ | with_reducible refine xe_str ?_ | with_reducible refine xe_bl ?_ | with_reducible refine xe_non ?_ | with_reducible refine ye_emp ?_ | with_reducible refine xe_op ?_ | with_reducible refine xe_un ?_ | with_reducible refine xe_if ?_ | with_reducible refine xe_andV ?_ | with_reducible refine xe_orV ?_ | with_reducible refine xe_notV ?_ | with_reducible refine xe_chain ?_ | with_reducible refine xe_isi D.isTup isi_tuple ?_ | with_reducible refine xe_isi D.isLst isi_list ?_ | with_reducible refine xe_isi D.isStr isi_str ?_ | with_reducible refine xe_isi D.isInt isi_int ?_ | with_reducible refine xe_isi D.isBool isi_bool ?_ | with_reducible refine xe_isi D.isDct isi_dict ?_ | with_reducible refine xe_isi2 D.isTup D.isLst isi_tuple isi_list ?_ | with_reducible refine ye_lenSet ?_ | with_reducible refine ye_join ?_ | with_reducible refine xe_cb ?_ | with_reducible refine xe_callS ?_ | with_reducible refine ye_callH (by with_unfolding_all exact rfl) ?_ | with_reducible refine ye_call ?_ | with_reducible refine ye_tup ?_ | with_reducible refine ye_lst ?_ | with_reducible refine xe_sl ?_ | with_reducible refine ye_revT ?_ | with_reducible refine ye_rg1 ?_ | with_reducible refine ye_rg2 ?_ | with_reducible refine ye_meth (by with_unfolding_all exact rfl) (fun _ _ _ h => ty_list h) ?_ | with_reducible refine ye_meth0 (by with_unfolding_all exact rfl) (fun _ _ _ h => ty_list h) ?_)
  | ((with_reducible show PW.XA _ _ _ _); first | with_reducible refine xa_nil ?_ | with_reducible refine xa_cons ?_)
  | ((with_reducible show PW.XT _ _ _ _); first | with_reducible refine xt_yes ?_ | with_reducible refine xt_test ?_ | with_reducible refine xt_B ?_ | with_reducible refine xt_not ?_ | with_reducible refine xt_and ?_ | with_reducible refine xt_or ?_)
  | ((with_reducible show PW.XS _ _ _ _); first | with_reducible refine xs_seq ?_ | with_reducible refine xs_next ?_ | with_reducible refine ys_asg ?_ | with_reducible refine xs_if ?_ | with_reducible refine ys_ret ?_ | with_reducible refine xs_retN ?_ | with_reducible refine xs_drop ?_ | with_reducible refine xs_break ?_ | with_reducible refine xs_cont ?_ | with_reducible refine ys_par (by with_unfolding_all decide) ?_ | with_reducible refine ys_par3 (by with_unfolding_all decide) (by with_unfolding_all decide) (by with_unfolding_all decide) ?_ | with_reducible refine ys_unp2 (by with_unfolding_all decide) ?_ | with_reducible refine ys_unp3 (by with_unfolding_all decide) (by with_unfolding_all decide) (by with_unfolding_all decide) ?_ | with_reducible refine ys_setix ?_ | with_reducible refine ys_asgG ?_ | with_reducible refine xs_for ?_)
  | ((with_reducible show PW.OpD _ _ _ _ _); first | with_reducible refine o_addI ?_ | with_reducible refine o_subI ?_ | with_reducible refine o_mulI (by first | with_unfolding_all exact .inl ⟨by decide, by decide⟩ | with_unfolding_all exact .inr ⟨by decide, by decide⟩) ?_ | with_reducible refine o_mulI (cmulL (by omega) (by omega)) ?_ | with_reducible refine o_mulI (cmulR (by omega) (by omega)) ?_ | with_reducible refine o_divI (by with_unfolding_all exact ⟨by decide, by decide⟩) ?_ | with_reducible refine o_modI (by with_unfolding_all decide) ?_ | with_reducible refine o_powI (by with_unfolding_all exact ⟨by decide, by decide, by decide⟩) ?_ | with_reducible refine o_ltI ?_ | with_reducible refine o_leI ?_ | with_reducible refine o_leUI ?_ | with_reducible refine o_leP ?_ | with_reducible refine o_shlI (cpow1 (by omega) (by omega)) ?_ | with_reducible refine o_gtI ?_ | with_reducible refine o_geI ?_ | with_reducible refine o_eqI ?_ | with_reducible refine o_neI ?_ | with_reducible refine o_eqB ?_ | with_reducible refine o_neB ?_ | with_reducible refine o_isNo ?_ | with_reducible refine o_isNotNo ?_ | with_reducible refine o_isBo ?_ | with_reducible refine o_isNotBo ?_ | with_reducible refine o_inC ?_ | with_reducible refine o_notInC ?_ | with_reducible refine o_ix0 ?_ | with_reducible refine o_ix1 ?_ | with_reducible refine o_ix2 ?_ | ((with_reducible show PW.OpD _ (rIx _) (.tup _) (.int 0) _); refine o_ix0e (ne_len (by omega)) ?_; intro y ys e; subst e) | with_reducible refine o_ixT (by with_unfolding_all exact rfl) ?_ | with_reducible refine o_ixL (by with_unfolding_all exact rfl) ?_)
  | ((with_reducible show PW.CaD _ _ _ _); first | with_reducible refine c_lenT ?_ | with_reducible refine c_lenL ?_ | with_reducible refine c_intI ?_ | with_reducible refine c_intB ?_ | with_reducible refine c_absI ?_ | with_reducible refine c_allM ?_ | with_reducible refine c_anyM ?_ | with_reducible refine c_tupL ?_ | with_reducible refine c_tupT ?_ | with_reducible refine c_lstL ?_ | with_reducible refine c_lstT ?_ | ((with_reducible show CaD _ (rLenU _) [.str _] _); with_reducible refine c_lenS (by walk_at "sz") ?_))
  | ((with_reducible show PW.XI _ _ _ _); first | with_reducible refine yi_seqU ?_ | with_reducible refine yi_enum ?_ | with_reducible refine yi_zip ?_ | with_reducible refine xi_range1 ?_ | with_reducible refine xi_range2 ?_)
  | ((with_reducible show PW.XG _ _ _ _ _); first | with_reducible refine yg_name ?_ | with_reducible refine xg_tup (by with_unfolding_all exact rfl) ?_)
  | ((with_reducible show PW.XGs _ _ _ _ _); first | with_reducible refine xgs_nil ?_ | with_reducible refine xgs_cons ?_)
  | ((with_reducible show PW.XM _ _ _ _ _); first | with_reducible refine xm_nil ?_ | with_reducible refine xm_cons ?_)
  | ((with_reducible show PW.XO _ _ _ _); first | with_reducible refine xo_none ?_ | with_reducible refine xo_some ?_)
  | ((with_reducible show PW.SlD _ _ _ _ _ _); first | with_reducible refine sl_tail ?_ | with_reducible refine sl_T ?_ | with_reducible refine sl_L ?_)
  | ((with_reducible show PW.UnD _ _ _ _); first | with_reducible refine u_neg ?_)
  | ((with_reducible show PW.back _ _ _); first | with_reducible refine back_d ?_ | with_reducible refine back_nw ?_ | with_reducible refine back_v (by with_unfolding_all exact rfl) ?_)
  | walk_at "cnt"
  | walk_at "br")
local macro_rules | `(tactic| walk_at "cnt") => `(tactic| first
  | with_reducible refine ex_env (by walk_at "env") ?_
  | ((with_reducible show ∃ x : List D, _ = some x ∧ x.length ≤ _ ∧ _); with_reducible refine ex_pks2 (by with_unfolding_all exact rfl) (by walk_at "sz") ?_)
  | with_reducible refine ex_pks (by with_unfolding_all exact rfl) ?_
  | ((with_reducible show ∃ x : D, _ = some x ∧ x.isBuiltin = true ∧ _); with_reducible refine ex_pk2 (by with_unfolding_all exact rfl) (by walk_at "bi") ?_)
  | with_reducible refine lc_fin (by with_unfolding_all exact rfl) (by with_unfolding_all exact rfl) ?_
  | with_reducible refine lcf_fin (by with_unfolding_all exact rfl) (by with_unfolding_all exact rfl) ?_
  | with_reducible refine ex_pk (by with_unfolding_all exact rfl) ?_
  | with_reducible refine ex_op (by with_unfolding_all exact rfl) (by with_unfolding_all exact rfl) ?_
  | with_reducible refine ex_it (by with_unfolding_all exact rfl) (by with_unfolding_all exact rfl) ?_
  | with_reducible refine ex_its (by with_unfolding_all exact rfl) (by with_unfolding_all exact rfl) ?_
  | with_reducible refine ex_zip (by with_unfolding_all exact rfl) (by with_unfolding_all exact rfl) ?_
  | with_reducible refine ex_bl ?_
  | with_reducible refine ex_int ?_
  | with_reducible refine ex_sc (by with_unfolding_all exact rfl) ?_
  | with_reducible refine and_brT ?_
  | with_reducible refine and_brF ?_
  | with_reducible refine and_rbT ?_
  | with_reducible refine and_rbF ?_
  | with_reducible refine and_nT ?_
  | with_reducible refine and_nF ?_
  | with_reducible refine and_mT ?_
  | with_reducible refine and_mF ?_
  | with_reducible refine and_br ?_ ?_
  | with_reducible refine and_rb ?_ ?_
  | with_reducible refine ⟨nv_d, ?_⟩
  | with_reducible refine ⟨nv_nw, ?_⟩)
local macro_rules | `(tactic| walk_at "br") => `(tactic| first
  | (with_reducible refine br_tup ?_; intro xs e; subst e)
  | (with_reducible refine br_tupN ?_; intro xs e; subst e)
  | (with_reducible refine br_lst ?_; intro xs e; subst e)
  | (with_reducible refine br_lstN ?_; intro xs e; subst e)
  | (with_reducible refine br_str ?_; intro xs e; subst e)
  | (with_reducible refine br_strN ?_; intro xs e; subst e)
  | (with_reducible refine br_non ?_; intro e; subst e)
  | (with_reducible refine br_nonN ?_; intro e; subst e)
  | (with_reducible refine br_t ?_; intro h; first | (cases h; done) | (simp only [lenc, List.length_nil, decide_eq_true_eq, decide_eq_false_iff_not] at h; omega) | exact absurd (show true = false from h) (by decide) | exact absurd (show false = true from h) (by decide) | (simp only [lenc, List.length_nil, Bool.not_eq_true', Bool.not_eq_false', decide_eq_true_eq, decide_eq_false_iff_not] at h) | skip)
  | (with_reducible refine br_f ?_; intro h; first | (cases h; done) | (simp only [lenc, List.length_nil, decide_eq_true_eq, decide_eq_false_iff_not] at h; omega) | exact absurd (show true = false from h) (by decide) | exact absurd (show false = true from h) (by decide) | (simp only [lenc, List.length_nil, Bool.not_eq_true', Bool.not_eq_false', decide_eq_true_eq, decide_eq_false_iff_not] at h) | skip)
  | (with_reducible refine signs_one ?_; intro c)
  | (with_reducible refine fa_mem ?_; intro d hd)
  | ((with_reducible show _ ≤ sizeLine ∧ _); with_reducible refine lc_split (by walk_at "sz") (by walk_at "env") ?_ ?_)
  | ((with_reducible show wipeE _ _ = _ ∧ _); with_reducible refine lc_env (by walk_at "env") ?_)
  | ((with_reducible show (_ : D) = _); exact rfl))
local macro_rules | `(tactic| walk_at "pws") => `(tactic| repeat' walk_at "pw")
local macro_rules | `(tactic| walk_at "pw") => `(tactic| first
  | ((with_reducible show w_is_integer _ _); with_reducible refine i_is_integer (by walk_at "bi") ?_) | ((with_reducible show w_is_within _ _); with_reducible refine i_is_within (by walk_at "bi") ?_) | ((with_reducible show w_is_tuple_of _ _); with_reducible refine i_is_tuple_of (by walk_at "bi") ?_)
  | ((with_reducible show w_is_name _ _); with_reducible refine i_is_name (by walk_at "jn") ?_) | ((with_reducible show w_is_lock _ _); with_reducible refine i_is_lock (by walk_at "bi") ?_) | ((with_reducible show w_is_member _ _); with_reducible refine i_is_member (by walk_at "jn") ?_)
  | (with_reducible refine br_two ?_; intro a b e; subst e) | (with_reducible refine br_twoN ?_; intro a b e; subst e) | (with_reducible refine br_thr ?_; intro a b c e; subst e) | (with_reducible refine br_thrN ?_; intro a b c e; subst e)
  | (with_reducible refine br_int ?_; intro i e; subst e) | (with_reducible refine br_win ?_; intro i e h1 h2; subst e) | (with_reducible refine br_winN ?_; intro i e h1 h2; subst e))
local macro_rules | `(tactic| walk_at "pw") => `(tactic| first
  | ((with_reducible show w_law_int _ _); with_reducible refine i_law_int (by walk_at "bi") ?_) | ((with_reducible show w_law_named _ _); with_reducible refine i_law_named (by walk_at "jn") ?_) | ((with_reducible show w_law_node _ _); with_reducible refine i_law_node (by walk_at "jn") (by assumption) ?_))
local macro_rules | `(tactic| walk_at "pw") => `(tactic| first
  | (with_reducible refine br_l2 ?_; intro a b e; subst e) | (with_reducible refine br_l3 ?_; intro a b c e; subst e))
def membersFrom : List Str → List D → Bool
  | _, [] => true
  | seen, l :: r => if l.isNon = true then membersFrom seen r else isMember l && !decide (nameOf l ∈ seen) && membersFrom (seen ++ [nameOf l]) r
theorem members_all : ∀ (r : List D) (seen : List Str), seen.Nodup → membersFrom seen r = ((r.all fun l => l.isNon || isMember l) && decide (seen ++ namesOf r).Nodup)
  | [], seen, h => by
    show true = (true && decide (seen ++ []).Nodup)
    rw [List.append_nil, decide_eq_true h]
    rfl
  | l :: r, seen, h => by
    rw [membersFrom]
    by_cases hn : l.isNon = true
    · rw [if_pos hn, members_all r seen h]
      have e : namesOf (l :: r) = namesOf r := by
        unfold namesOf
        rw [List.filter_cons_of_neg (by rw [hn]; decide)]
      rw [e, List.all_cons, hn, Bool.true_or, Bool.true_and]
    · rw [if_neg hn]
      rw [Bool.not_eq_true] at hn
      have e : namesOf (l :: r) = nameOf l :: namesOf r := by
        unfold namesOf
        rw [List.filter_cons_of_pos (by rw [hn]; rfl), List.map_cons]
      rw [e, List.all_cons, hn, Bool.false_or]
      have ea : seen ++ nameOf l :: namesOf r = (seen ++ [nameOf l]) ++ namesOf r := by rw [List.append_assoc]; rfl
      by_cases hm : nameOf l ∈ seen
      · have nd : ¬ (seen ++ nameOf l :: namesOf r).Nodup := fun z => (List.nodup_append.mp z).2.2 _ hm _ (List.mem_cons_self ..) rfl
        rw [decide_eq_true hm, decide_eq_false nd]
        cases isMember l <;> simp
      · have nd : (seen ++ [nameOf l]).Nodup := List.nodup_append.mpr ⟨h, by simp, fun a ha b hb z => hm (by rw [List.mem_singleton.mp hb] at z; rw [← z]; exact ha)⟩
        rw [decide_eq_false hm, members_all r _ nd, ea]
        cases isMember l <;> simp
theorem leaves_from {ls : List D} {h : Nat} (hl : ls.length = 2 ^ h) : areLeaves (.tup ls) h = membersFrom [] ls := by
  rw [members_all ls [] (by simp)]
  show (decide (ls.length = 2 ^ h) && _ && decide (namesOf ls).Nodup) = _
  rw [decide_eq_true hl, Bool.true_and]
  rfl
theorem leaves_not {x : D} {h : Nat} (z : x.isTup = false) : areLeaves x h = false := by
  cases x <;> first
    | rfl
    | cases z
theorem mem_strs {s : Str} {seen : List Str} : D.mem (.str s) (seen.map D.str) = decide (s ∈ seen) := by
  unfold D.mem
  rw [List.any_map]
  have e : ((fun z => PyData.eqv z.py (D.str s).py) ∘ D.str) = fun (t : Str) => decide (t = s) := by
    funext t
    exact eqv_str _ _
  rw [e]
  by_cases h : s ∈ seen
  · rw [decide_eq_true h]
    exact List.any_eq_true.mpr ⟨s, h, decide_eq_true rfl⟩
  · rw [decide_eq_false h]
    exact List.any_eq_false.mpr fun t ht => by rw [decide_eq_true_eq]; intro e; exact h (by rw [← e]; exact ht)
theorem sh_str {s : Str} (h : PyData.canLay0 (.str s) = true) : (D.str s).sh = true := by
  refine Bool.and_eq_true_iff.mpr ⟨rfl, ?_⟩
  show (PyData.canLay0 (.str s) && decide (PyData.depth (.str s) ≤ 64)) = true
  rw [h]
  rfl
theorem sh_strs {seen : List Str} (h : ∀ s ∈ seen, PyData.canLay0 (.str s) = true) : (D.lst (seen.map D.str)).sh = true := by
  have h1 : D.plnL (seen.map D.str) = true ∧ PyData.canLayAll0 (D.pyL (seen.map D.str)) = true ∧ PyData.depthAll (D.pyL (seen.map D.str)) ≤ 1 := by
    induction seen with
    | nil => exact ⟨rfl, rfl, by decide⟩
    | cons s r ih =>
      obtain ⟨a, b, c⟩ := ih fun t ht => h t (List.mem_cons_of_mem _ ht)
      refine ⟨a, ?_, ?_⟩
      · show (PyData.canLay0 (.str s) && PyData.canLayAll0 (D.pyL (r.map D.str))) = true
        rw [h s (List.mem_cons_self ..), b]
        rfl
      · show PyData.depthAll (.str s :: D.pyL (r.map D.str)) ≤ 1
        simp only [PyData.depthAll, PyData.depth]
        omega
  obtain ⟨a, b, c⟩ := h1
  refine Bool.and_eq_true_iff.mpr ⟨a, ?_⟩
  show (PyData.canLay0 (.list (D.pyL (seen.map D.str))) && decide (PyData.depth (.list (D.pyL (seen.map D.str))) ≤ 64)) = true
  refine Bool.and_eq_true_iff.mpr ⟨by simpa [PyData.canLay0] using b, decide_eq_true ?_⟩
  simp only [PyData.depth]
  omega
theorem name_lay {s : Str} (h : isName (.str s) = true) : PyData.canLay0 (.str s) = true := by
  have h2 : (signsD s).all letterD = true := (Bool.and_eq_true_iff.mp h).2
  simp only [PyData.canLay0]
  refine Array.all_eq_true_iff_forall_mem.mpr fun c hc => ?_
  have hm : D.str ⟨#[c]⟩ ∈ signsD s := List.mem_map.mpr ⟨c, by simpa using hc, rfl⟩
  have hl : c ∈ letters.cps.toList := of_decide_eq_true (List.all_eq_true.mp h2 _ hm)
  have e : letters.cps.toList = [97, 98, 99, 100, 101, 102, 103, 104, 105, 106, 107, 108, 109, 110, 111, 112, 113, 114, 115, 116, 117, 118, 119, 120, 121, 122] := by decide +kernel
  rw [e] at hl
  simp only [List.mem_cons, List.not_mem_nil, or_false] at hl
  exact decide_eq_true (by omega)
theorem pure_law_members {K : PySem.W.Frag} : ∀ ds kk, w_law_members ds kk → XS K (t_law_members K) (ini 4 ds) { nx := fun _ => kk (.d .non), rt := fun r _ => kk r } := by
  rintro _ kk ⟨h, x, rfl, hx, him, h8, g⟩
  show XS K (t_law_members K) [.d (.int h), .d x, .u, .u] (Fin kk)
  unfold t_law_members
  walk_at "pws"
  · rename_i ls
    refine i_law_beneath h8 (by decide) (by decide) ?_
    walk_at "pws"
    · rename_i z
      rw [rngD_len] at z
      refine fin_bl g ?_
      show (decide (ls.length = 2 ^ h) && _ && _) = false
      rw [decide_eq_false (by omega), Bool.false_and, Bool.false_and]
    · rename_i z
      rw [rngD_len] at z
      have hl : ls.length = 2 ^ h := by
        first
          | omega
          | exact Decidable.byContradiction fun q => z (by omega)
      rw [leaves_from hl] at g
      refine ⟨fun i ρ => ∃ (seen : List Str) (e3 : Ent), ρ = [.d (.int h), .d (.tup ls), .own (.lst (seen.map D.str)), e3] ∧ membersFrom [] ls = membersFrom seen (ls.drop i) ∧ (∀ s ∈ seen, PyData.canLay0 (.str s) = true) ∧ seen.length ≤ i, ⟨[], _, rfl, rfl, (fun _ z => nomatch z), Nat.le_refl _⟩, ?_, ?_⟩
      · rintro i d ρ' hd ⟨seen, e3, rfl, hi, hs, hc⟩
        rw [drop_at hd, membersFrom] at hi
        have hm := List.mem_of_getElem? hd
        have hj := jnT hx hm
        have hi2 := imT him hm
        have hlt : i < ls.length := (List.getElem?_eq_some_iff.mp hd).1
        have h3 : 2 ^ h ≤ 2 ^ 8 := Nat.pow_le_pow_right (by decide) h8
        walk_at "pws"
        all_goals first
          | exact ⟨seen, _, rfl, hi, hs, by omega⟩
          | (refine fin_bl g (hi.trans ?_); rename_i q; rw [if_neg (fun z => by cases z)]; simp [isMember, q]; done)
          | (refine fin_bl g (hi.trans ?_); rename_i q; rw [isLock_im (imT hi2 (by simp))] at q; rw [if_neg (fun z => by cases z)]; simp [isMember, q]; done)
          | (refine fin_bl g (hi.trans ?_); rename_i q q2; rw [if_neg (by rw [q]; decide), show isMember d = false from isMember_not2 (not_tup q2 2)]; rfl)
          | skip
        · rename_i a hn j w1 w2 _
          cases a with
          | str s =>
            have lay := name_lay hn
            have em : isMember (.tup [.str s, .int j]) = true := by
              show (isName (.str s) && decide (0 ≤ j)) = true
              rw [hn, decide_eq_true w1]
              rfl
            have en : nameOf (.tup [.str s, .int j]) = s := rfl
            rw [if_neg (fun z => by cases z), em, en, Bool.true_and] at hi
            refine o_inL (sh_str lay) (sh_strs hs) ?_
            rw [mem_strs]
            walk_at "pws"
            · rename_i q
              refine fin_bl g (hi.trans ?_)
              rw [decide_eq_true q]
              rfl
            · rename_i q
              rw [decide_eq_false q, Bool.not_false, Bool.true_and] at hi
              refine ⟨_, _, rfl, _, rfl, rfl, ?_⟩
              refine m_append (by rw [List.length_map]; have := sz5; omega) ⟨_, rfl, ?_⟩
              refine ⟨seen ++ [s], _, by rw [List.map_append]; rfl, hi, fun t ht => ?_, by rw [List.length_append]; simp; omega⟩
              rcases List.mem_append.mp ht with ht | ht
              · exact hs t ht
              · rw [List.mem_singleton.mp ht]
                exact lay
          | _ => cases hn
        · rename_i xs _ q
          refine fin_bl g (hi.trans ?_)
          rw [if_neg (fun z => by cases z), show isMember (.tup xs) = false from isMember_not2 (show isTupleOf (.tup xs) 2 = false from decide_eq_false q), Bool.false_and, Bool.false_and]
      · rintro ρ' ⟨seen, e3, rfl, hi, hs, hc⟩
        rw [List.drop_length] at hi
        walk_at "pws"
        exact fin_bl g hi
  · exact fin_bl g (leaves_not (by assumption))

end LawK08
end
section
namespace LawK08
open PySem PySem.Spec PyProof.Rows L2 PW
local macro_rules | `(tactic| walk_at "env") => `(tactic| (first | (dsimp only [sto, stoE, frz, frzE, frzAll, wipeE, Res.ent, List.set, List.getElem?_cons_zero, List.getElem?_cons_succ]; done) | (dsimp only [sto, stoE, frz, frzE, frzAll, wipeE, Res.ent, List.set, List.getElem?_cons_zero, List.getElem?_cons_succ]; rfl) | rfl))
local macro_rules | `(tactic| walk_at "mem") => `(tactic| first | assumption | exact cut_sub (by assumption) | exact List.mem_cons_of_mem _ (by assumption) | (simp only [List.mem_cons, true_or, or_true]; done))
local macro_rules | `(tactic| walk_at "jn") => `(tactic| first | assumption | with_unfolding_all exact rfl | exact jnTr (by assumption) (by assumption) | exact jnTr (cut_sub (by assumption)) (by assumption) | exact jnTr (List.mem_cons_of_mem _ (by assumption)) (by assumption) | exact jnT (by assumption) (by walk_at "mem") | exact jnL' (by assumption) (by walk_at "mem") | exact jnT2 (by assumption) (by assumption) (by walk_at "mem"))
local macro_rules | `(tactic| walk_at "sz") => `(tactic| first | with_unfolding_all exact Nat.le_of_ble_eq_true rfl | assumption | exact szl (by assumption) | exact szS (by walk_at "jn") | exact szT (by walk_at "jn") | exact szTl (by assumption) | exact szL (by walk_at "jn") | exact szG (by walk_at "jn") | ((with_reducible show (PW.cutD _ _ _).length ≤ _); refine szC ?_; walk_at "sz") | with_unfolding_all exact szl (Nat.le_of_ble_eq_true rfl))
local macro_rules | `(tactic| walk_at "bi") => `(tactic| first | with_unfolding_all exact rfl | assumption | exact jn_bi (by walk_at "jn"))
local macro_rules | `(tactic| walk_at "pw") => `(tactic| first
  | ((with_reducible show PW.XE _ _ _ _); first | with_reducible refine xe_var_d (by with_unfolding_all exact rfl) ?_ | with_reducible refine xe_var_o (by with_unfolding_all exact rfl) ?_ | with_reducible refine xe_int ?_ | with_reducible refine xe_str ?_ | with_reducible refine xe_bl ?_ | with_reducible refine xe_non ?_ | with_reducible refine ye_emp ?_ | with_reducible refine xe_op ?_ | with_reducible refine xe_un ?_ | with_reducible refine xe_if ?_ | with_reducible refine xe_andV ?_ | with_reducible refine xe_orV ?_ | with_reducible refine xe_notV ?_ | with_reducible refine xe_chain ?_ | with_reducible refine xe_isi D.isTup isi_tuple ?_ | with_reducible refine xe_isi D.isLst isi_list ?_ | with_reducible refine xe_isi D.isStr isi_str ?_ | with_reducible refine xe_isi D.isInt isi_int ?_ | with_reducible refine xe_isi D.isBool isi_bool ?_ | with_reducible refine xe_isi D.isDct isi_dict ?_ | with_reducible refine xe_isi2 D.isTup D.isLst isi_tuple isi_list ?_ | with_reducible refine ye_lenSet ?_ | with_reducible refine ye_join ?_ | with_reducible refine xe_cb ?_ | with_reducible refine xe_callS ?_ | with_reducible refine ye_callH (by with_unfolding_all exact rfl) ?_ | with_reducible refine ye_call ?_ | with_reducible refine ye_tup ?_ | with_reducible refine ye_lst ?_ | with_reducible refine xe_sl ?_ | with_reducible refine ye_revT ?_ | with_reducible refine ye_rg1 ?_ | with_reducible refine ye_rg2 ?_ | with_reducible refine ye_meth (by with_unfolding_all exact rfl) (fun _ _ _ h => ty_list h) ?_ | with_reducible refine ye_meth0 (by with_unfolding_all exact rfl) (fun _ _ _ h => ty_list h) ?_)
  | ((with_reducible show PW.XA _ _ _ _); first | with_reducible refine xa_nil ?_ | with_reducible refine xa_cons ?_)
  | ((with_reducible show PW.XT _ _ _ _); first | with_reducible refine xt_yes ?_ | with_reducible refine xt_test ?_ | with_reducible refine xt_B ?_ | with_reducible refine xt_not ?_ | with_reducible refine xt_and ?_ | with_reducible refine xt_or ?_)
  | ((with_reducible show PW.XS _ _ _ _); first | with_reducible refine xs_seq ?_ | with_reducible refine xs_next ?_ | with_reducible refine ys_asg ?_ | with_reducible refine xs_if ?_ | with_reducible refine ys_ret ?_ | with_reducible refine xs_retN ?_ | with_reducible refine xs_drop ?_ | with_reducible refine xs_break ?_ | with_reducible refine xs_cont ?_ | with_reducible refine ys_par (by with_unfolding_all decide) ?_ | with_reducible refine ys_par3 (by with_unfolding_all decide) (by with_unfolding_all decide) (by with_unfolding_all decide) ?_ | with_reducible refine ys_unp2 (by with_unfolding_all decide) ?_ | with_reducible refine ys_unp3 (by with_unfolding_all decide) (by with_unfolding_all decide) (by with_unfolding_all decide) ?_ | with_reducible refine ys_setix ?_ | with_reducible refine ys_asgG ?_ | with_reducible refine xs_for ?_)
  | ((with_reducible show PW.OpD _ _ _ _ _); first | with_reducible refine o_addI ?_ | with_reducible refine o_subI ?_ | with_reducible refine o_mulI (by first | with_unfolding_all exact .inl ⟨by decide, by decide⟩ | with_unfolding_all exact .inr ⟨by decide, by decide⟩) ?_ | with_reducible refine o_mulI (cmulL (by omega) (by omega)) ?_ | with_reducible refine o_mulI (cmulR (by omega) (by omega)) ?_ | with_reducible refine o_divI (by with_unfolding_all exact ⟨by decide, by decide⟩) ?_ | with_reducible refine o_modI (by with_unfolding_all decide) ?_ | with_reducible refine o_powI (by with_unfolding_all exact ⟨by decide, by decide, by decide⟩) ?_ | with_reducible refine o_ltI ?_ | with_reducible refine o_leI ?_ | with_reducible refine o_leUI ?_ | with_reducible refine o_leP ?_ | with_reducible refine o_shlI (cpow1 (by omega) (by omega)) ?_ | with_reducible refine o_gtI ?_ | with_reducible refine o_geI ?_ | with_reducible refine o_eqI ?_ | with_reducible refine o_neI ?_ | with_reducible refine o_eqB ?_ | with_reducible refine o_neB ?_ | with_reducible refine o_isNo ?_ | with_reducible refine o_isNotNo ?_ | with_reducible refine o_isBo ?_ | with_reducible refine o_isNotBo ?_ | with_reducible refine o_inC ?_ | with_reducible refine o_notInC ?_ | with_reducible refine o_ix0 ?_ | with_reducible refine o_ix1 ?_ | with_reducible refine o_ix2 ?_ | ((with_reducible show PW.OpD _ (rIx _) (.tup _) (.int 0) _); refine o_ix0e (ne_len (by omega)) ?_; intro y ys e; subst e) | with_reducible refine o_ixT (by with_unfolding_all exact rfl) ?_ | with_reducible refine o_ixL (by with_unfolding_all exact rfl) ?_)
  | ((with_reducible show PW.CaD _ _ _ _); first | with_reducible refine c_lenT ?_ | with_reducible refine c_lenL ?_ | with_reducible refine c_intI ?_ | with_reducible refine c_intB ?_ | with_reducible refine c_absI ?_ | with_reducible refine c_allM ?_ | with_reducible refine c_anyM ?_ | with_reducible refine c_tupL ?_ | with_reducible refine c_tupT ?_ | with_reducible refine c_lstL ?_ | with_reducible refine c_lstT ?_ | ((with_reducible show CaD _ (rLenU _) [.str _] _); with_reducible refine c_lenS (by walk_at "sz") ?_))
  | ((with_reducible show PW.XI _ _ _ _); first | with_reducible refine yi_seqU ?_ | with_reducible refine yi_enum ?_ | with_reducible refine yi_zip ?_ | with_reducible refine xi_range1 ?_ | with_reducible refine xi_range2 ?_)
  | ((with_reducible show PW.XG _ _ _ _ _); first | with_reducible refine yg_name ?_ | with_reducible refine xg_tup (by with_unfolding_all exact rfl) ?_)
  | ((with_reducible show PW.XGs _ _ _ _ _); first | with_reducible refine xgs_nil ?_ | with_reducible refine xgs_cons ?_)
  | ((with_reducible show PW.XM _ _ _ _ _); first | with_reducible refine xm_nil ?_ | with_reducible refine xm_cons ?_)
  | ((with_reducible show PW.XO _ _ _ _); first | with_reducible refine xo_none ?_ | with_reducible refine xo_some ?_)
  | ((with_reducible show PW.SlD _ _ _ _ _ _); first | with_reducible refine sl_tail ?_ | with_reducible refine sl_T ?_ | with_reducible refine sl_L ?_)
  | ((with_reducible show PW.UnD _ _ _ _); first | with_reducible refine u_neg ?_)
  | ((with_reducible show PW.back _ _ _); first | with_reducible refine back_d ?_ | with_reducible refine back_nw ?_ | with_reducible refine back_v (by with_unfolding_all exact rfl) ?_)
  | walk_at "cnt"
  | walk_at "br")
local macro_rules | `(tactic| walk_at "cnt") => `(tactic| first
  | with_reducible refine ex_env (by walk_at "env") ?_
  | ((with_reducible show ∃ x : List D, _ = some x ∧ x.length ≤ _ ∧ _); with_reducible refine ex_pks2 (by with_unfolding_all exact rfl) (by walk_at "sz") ?_)
  | with_reducible refine ex_pks (by with_unfolding_all exact rfl) ?_
  | ((with_reducible show ∃ x : D, _ = some x ∧ x.isBuiltin = true ∧ _); with_reducible refine ex_pk2 (by with_unfolding_all exact rfl) (by walk_at "bi") ?_)
  | with_reducible refine lc_fin (by with_unfolding_all exact rfl) (by with_unfolding_all exact rfl) ?_
  | with_reducible refine lcf_fin (by with_unfolding_all exact rfl) (by with_unfolding_all exact rfl) ?_
  | with_reducible refine ex_pk (by with_unfolding_all exact rfl) ?_
  | with_reducible refine ex_op (by with_unfolding_all exact rfl) (by with_unfolding_all exact rfl) ?_
  | with_reducible refine ex_it (by with_unfolding_all exact rfl) (by with_unfolding_all exact rfl) ?_
  | with_reducible refine ex_its (by with_unfolding_all exact rfl) (by with_unfolding_all exact rfl) ?_
  | with_reducible refine ex_zip (by with_unfolding_all exact rfl) (by with_unfolding_all exact rfl) ?_
  | with_reducible refine ex_bl ?_
  | with_reducible refine ex_int ?_
  | with_reducible refine ex_sc (by with_unfolding_all exact rfl) ?_
  | with_reducible refine and_brT ?_
  | with_reducible refine and_brF ?_
  | with_reducible refine and_rbT ?_
  | with_reducible refine and_rbF ?_
  | with_reducible refine and_nT ?_
  | with_reducible refine and_nF ?_
  | with_reducible refine and_mT ?_
  | with_reducible refine and_mF ?_
  | with_reducible refine and_br ?_ ?_
  | with_reducible refine and_rb ?_ ?_
  | with_reducible refine ⟨nv_d, ?_⟩
  | with_reducible refine ⟨nv_nw, ?_⟩)
local macro_rules | `(tactic| walk_at "br") => `(tactic| first
  | (with_reducible refine br_tup ?_; intro xs e; subst e)
  | (with_reducible refine br_tupN ?_; intro xs e; subst e)
  | (with_reducible refine br_lst ?_; intro xs e; subst e)
  | (with_reducible refine br_lstN ?_; intro xs e; subst e)
  | (with_reducible refine br_str ?_; intro xs e; subst e)
  | (with_reducible refine br_strN ?_; intro xs e; subst e)
  | (with_reducible refine br_non ?_; intro e; subst e)
  | (with_reducible refine br_nonN ?_; intro e; subst e)
  | (with_reducible refine br_t ?_; intro h; first | (cases h; done) | (simp only [lenc, List.length_nil, decide_eq_true_eq, decide_eq_false_iff_not] at h; omega) | exact absurd (show true = false from h) (by decide) | exact absurd (show false = true from h) (by decide) | (simp only [lenc, List.length_nil, Bool.not_eq_true', Bool.not_eq_false', decide_eq_true_eq, decide_eq_false_iff_not] at h) | skip)
  | (with_reducible refine br_f ?_; intro h; first | (cases h; done) | (simp only [lenc, List.length_nil, decide_eq_true_eq, decide_eq_false_iff_not] at h; omega) | exact absurd (show true = false from h) (by decide) | exact absurd (show false = true from h) (by decide) | (simp only [lenc, List.length_nil, Bool.not_eq_true', Bool.not_eq_false', decide_eq_true_eq, decide_eq_false_iff_not] at h) | skip)
  | (with_reducible refine signs_one ?_; intro c)
  | (with_reducible refine fa_mem ?_; intro d hd)
  | ((with_reducible show _ ≤ sizeLine ∧ _); with_reducible refine lc_split (by walk_at "sz") (by walk_at "env") ?_ ?_)
  | ((with_reducible show wipeE _ _ = _ ∧ _); with_reducible refine lc_env (by walk_at "env") ?_)
  | ((with_reducible show (_ : D) = _); exact rfl))
local macro_rules | `(tactic| walk_at "pws") => `(tactic| repeat' walk_at "pw")
def pairAt (p : Int × Int) (x : D) : Int × Int := match x with
  | .tup [n, _, _] => pairOf n
  | _ => p
def lastP : Int × Int → List D → Int × Int
  | p, [] => p
  | p, x :: r => lastP (pairAt p x) r
theorem nodes_three {h : Int} {ls r : List D} {p : Int × Int} {x : D} (z : nodesFrom h ls p (x :: r) = true) : ∃ n l s, x = .tup [n, l, s] := by
  unfold nodesFrom at z
  split at z
  · exact ⟨_, _, _, rfl⟩
  · cases z
theorem nodes_snoc {h : Int} {ls : List D} {x : D} : ∀ {ns : List D} {p : Int × Int}, nodesFrom h ls p ns = true → nodesFrom h ls (lastP p ns) [x] = true → nodesFrom h ls p (ns ++ [x]) = true
  | [], _, _, h2 => h2
  | y :: r, p, h1, h2 => by
    obtain ⟨n, l, s, rfl⟩ := nodes_three h1
    have h1 : (isNode n h 1 && above n p && isLock l && isAside s (pairOf n).1 (pairOf n).2 ls && nodesFrom h ls (pairOf n) r) = true := h1
    obtain ⟨h3, h4⟩ := Bool.and_eq_true_iff.mp h1
    show (isNode n h 1 && above n p && isLock l && isAside s (pairOf n).1 (pairOf n).2 ls && nodesFrom h ls (pairOf n) (r ++ [x])) = true
    rw [h3, nodes_snoc h4 h2]
    rfl
theorem lastP_snoc {x : D} : ∀ {ns : List D} {p : Int × Int}, lastP p (ns ++ [x]) = pairAt (lastP p ns) x
  | [], _ => rfl
  | y :: r, p => lastP_snoc (ns := r) (p := pairAt p y)

end LawK08
end
section
namespace LawK08
open PySem PySem.Spec PyProof.Rows L2 PW
local macro_rules | `(tactic| walk_at "env") => `(tactic| (first | (dsimp only [sto, stoE, frz, frzE, frzAll, wipeE, Res.ent, List.set, List.getElem?_cons_zero, List.getElem?_cons_succ]; done) | (dsimp only [sto, stoE, frz, frzE, frzAll, wipeE, Res.ent, List.set, List.getElem?_cons_zero, List.getElem?_cons_succ]; rfl) | rfl))
local macro_rules | `(tactic| walk_at "mem") => `(tactic| first | assumption | exact cut_sub (by assumption) | exact List.mem_cons_of_mem _ (by assumption) | (simp only [List.mem_cons, true_or, or_true]; done))
local macro_rules | `(tactic| walk_at "jn") => `(tactic| first | assumption | with_unfolding_all exact rfl | exact jnTr (by assumption) (by assumption) | exact jnTr (cut_sub (by assumption)) (by assumption) | exact jnTr (List.mem_cons_of_mem _ (by assumption)) (by assumption) | exact jnT (by assumption) (by walk_at "mem") | exact jnL' (by assumption) (by walk_at "mem") | exact jnT2 (by assumption) (by assumption) (by walk_at "mem"))
local macro_rules | `(tactic| walk_at "sz") => `(tactic| first | with_unfolding_all exact Nat.le_of_ble_eq_true rfl | assumption | exact szl (by assumption) | exact szS (by walk_at "jn") | exact szT (by walk_at "jn") | exact szTl (by assumption) | exact szL (by walk_at "jn") | exact szG (by walk_at "jn") | ((with_reducible show (PW.cutD _ _ _).length ≤ _); refine szC ?_; walk_at "sz") | with_unfolding_all exact szl (Nat.le_of_ble_eq_true rfl))
local macro_rules | `(tactic| walk_at "bi") => `(tactic| first | with_unfolding_all exact rfl | assumption | exact jn_bi (by walk_at "jn"))
local macro_rules | `(tactic| walk_at "pw") => `(tactic| first
  | ((with_reducible show PW.XE _ _ _ _); first | with_reducible refine xe_var_d (by with_unfolding_all exact rfl) ?_ | with_reducible refine xe_var_o (by with_unfolding_all exact rfl) ?_ | with_reducible refine xe_int ?_ | with_reducible refine xe_str ?_ | with_reducible refine xe_bl ?_ | with_reducible refine xe_non ?_ | with_reducible refine ye_emp ?_ | with_reducible refine xe_op ?_ | with_reducible refine xe_un ?_ | with_reducible refine xe_if ?_ | with_reducible refine xe_andV ?_ | with_reducible refine xe_orV ?_ | with_reducible refine xe_notV ?_ | with_reducible refine xe_chain ?_ | with_reducible refine xe_isi D.isTup isi_tuple ?_ | with_reducible refine xe_isi D.isLst isi_list ?_ | with_reducible refine xe_isi D.isStr isi_str ?_ | with_reducible refine xe_isi D.isInt isi_int ?_ | with_reducible refine xe_isi D.isBool isi_bool ?_ | with_reducible refine xe_isi D.isDct isi_dict ?_ | with_reducible refine xe_isi2 D.isTup D.isLst isi_tuple isi_list ?_ | with_reducible refine ye_lenSet ?_ | with_reducible refine ye_join ?_ | with_reducible refine xe_cb ?_ | with_reducible refine xe_callS ?_ | with_reducible refine ye_callH (by with_unfolding_all exact rfl) ?_ | with_reducible refine ye_call ?_ | with_reducible refine ye_tup ?_ | with_reducible refine ye_lst ?_ | with_reducible refine xe_sl ?_ | with_reducible refine ye_revT ?_ | with_reducible refine ye_rg1 ?_ | with_reducible refine ye_rg2 ?_ | with_reducible refine ye_meth (by with_unfolding_all exact rfl) (fun _ _ _ h => ty_list h) ?_ | with_reducible refine ye_meth0 (by with_unfolding_all exact rfl) (fun _ _ _ h => ty_list h) ?_)
  | ((with_reducible show PW.XA _ _ _ _); first | with_reducible refine xa_nil ?_ | with_reducible refine xa_cons ?_)
  | ((with_reducible show PW.XT _ _ _ _); first | with_reducible refine xt_yes ?_ | with_reducible refine xt_test ?_ | with_reducible refine xt_B ?_ | with_reducible refine xt_not ?_ | with_reducible refine xt_and ?_ | with_reducible refine xt_or ?_)
  | ((with_reducible show PW.XS _ _ _ _); first | with_reducible refine xs_seq ?_ | with_reducible refine xs_next ?_ | with_reducible refine ys_asg ?_ | with_reducible refine xs_if ?_ | with_reducible refine ys_ret ?_ | with_reducible refine xs_retN ?_ | with_reducible refine xs_drop ?_ | with_reducible refine xs_break ?_ | with_reducible refine xs_cont ?_ | with_reducible refine ys_par (by with_unfolding_all decide) ?_ | with_reducible refine ys_par3 (by with_unfolding_all decide) (by with_unfolding_all decide) (by with_unfolding_all decide) ?_ | with_reducible refine ys_unp2 (by with_unfolding_all decide) ?_ | with_reducible refine ys_unp3 (by with_unfolding_all decide) (by with_unfolding_all decide) (by with_unfolding_all decide) ?_ | with_reducible refine ys_setix ?_ | with_reducible refine ys_asgG ?_ | with_reducible refine xs_for ?_)
  | ((with_reducible show PW.OpD _ _ _ _ _); first | with_reducible refine o_addI ?_ | with_reducible refine o_subI ?_ | with_reducible refine o_mulI (by first | with_unfolding_all exact .inl ⟨by decide, by decide⟩ | with_unfolding_all exact .inr ⟨by decide, by decide⟩) ?_ | with_reducible refine o_mulI (cmulL (by omega) (by omega)) ?_ | with_reducible refine o_mulI (cmulR (by omega) (by omega)) ?_ | with_reducible refine o_divI (by with_unfolding_all exact ⟨by decide, by decide⟩) ?_ | with_reducible refine o_modI (by with_unfolding_all decide) ?_ | with_reducible refine o_powI (by with_unfolding_all exact ⟨by decide, by decide, by decide⟩) ?_ | with_reducible refine o_ltI ?_ | with_reducible refine o_leI ?_ | with_reducible refine o_leUI ?_ | with_reducible refine o_leP ?_ | with_reducible refine o_shlI (cpow1 (by omega) (by omega)) ?_ | with_reducible refine o_gtI ?_ | with_reducible refine o_geI ?_ | with_reducible refine o_eqI ?_ | with_reducible refine o_neI ?_ | with_reducible refine o_eqB ?_ | with_reducible refine o_neB ?_ | with_reducible refine o_isNo ?_ | with_reducible refine o_isNotNo ?_ | with_reducible refine o_isBo ?_ | with_reducible refine o_isNotBo ?_ | with_reducible refine o_inC ?_ | with_reducible refine o_notInC ?_ | with_reducible refine o_ix0 ?_ | with_reducible refine o_ix1 ?_ | with_reducible refine o_ix2 ?_ | ((with_reducible show PW.OpD _ (rIx _) (.tup _) (.int 0) _); refine o_ix0e (ne_len (by omega)) ?_; intro y ys e; subst e) | with_reducible refine o_ixT (by with_unfolding_all exact rfl) ?_ | with_reducible refine o_ixL (by with_unfolding_all exact rfl) ?_)
  | ((with_reducible show PW.CaD _ _ _ _); first | with_reducible refine c_lenT ?_ | with_reducible refine c_lenL ?_ | with_reducible refine c_intI ?_ | with_reducible refine c_intB ?_ | with_reducible refine c_absI ?_ | with_reducible refine c_allM ?_ | with_reducible refine c_anyM ?_ | with_reducible refine c_tupL ?_ | with_reducible refine c_tupT ?_ | with_reducible refine c_lstL ?_ | with_reducible refine c_lstT ?_ | ((with_reducible show CaD _ (rLenU _) [.str _] _); with_reducible refine c_lenS (by walk_at "sz") ?_))
  | ((with_reducible show PW.XI _ _ _ _); first | with_reducible refine yi_seqU ?_ | with_reducible refine yi_enum ?_ | with_reducible refine yi_zip ?_ | with_reducible refine xi_range1 ?_ | with_reducible refine xi_range2 ?_)
  | ((with_reducible show PW.XG _ _ _ _ _); first | with_reducible refine yg_name ?_ | with_reducible refine xg_tup (by with_unfolding_all exact rfl) ?_)
  | ((with_reducible show PW.XGs _ _ _ _ _); first | with_reducible refine xgs_nil ?_ | with_reducible refine xgs_cons ?_)
  | ((with_reducible show PW.XM _ _ _ _ _); first | with_reducible refine xm_nil ?_ | with_reducible refine xm_cons ?_)
  | ((with_reducible show PW.XO _ _ _ _); first | with_reducible refine xo_none ?_ | with_reducible refine xo_some ?_)
  | ((with_reducible show PW.SlD _ _ _ _ _ _); first | with_reducible refine sl_tail ?_ | with_reducible refine sl_T ?_ | with_reducible refine sl_L ?_)
  | ((with_reducible show PW.UnD _ _ _ _); first | with_reducible refine u_neg ?_)
  | ((with_reducible show PW.back _ _ _); first | with_reducible refine back_d ?_ | with_reducible refine back_nw ?_ | with_reducible refine back_v (by with_unfolding_all exact rfl) ?_)
  | walk_at "cnt"
  | walk_at "br")
local macro_rules | `(tactic| walk_at "cnt") => `(tactic| first
  | with_reducible refine ex_env (by walk_at "env") ?_
  | ((with_reducible show ∃ x : List D, _ = some x ∧ x.length ≤ _ ∧ _); with_reducible refine ex_pks2 (by with_unfolding_all exact rfl) (by walk_at "sz") ?_)
  | with_reducible refine ex_pks (by with_unfolding_all exact rfl) ?_
  | ((with_reducible show ∃ x : D, _ = some x ∧ x.isBuiltin = true ∧ _); with_reducible refine ex_pk2 (by with_unfolding_all exact rfl) (by walk_at "bi") ?_)
  | with_reducible refine lc_fin (by with_unfolding_all exact rfl) (by with_unfolding_all exact rfl) ?_
  | with_reducible refine lcf_fin (by with_unfolding_all exact rfl) (by with_unfolding_all exact rfl) ?_
  | with_reducible refine ex_pk (by with_unfolding_all exact rfl) ?_
  | with_reducible refine ex_op (by with_unfolding_all exact rfl) (by with_unfolding_all exact rfl) ?_
  | with_reducible refine ex_it (by with_unfolding_all exact rfl) (by with_unfolding_all exact rfl) ?_
  | with_reducible refine ex_its (by with_unfolding_all exact rfl) (by with_unfolding_all exact rfl) ?_
  | with_reducible refine ex_zip (by with_unfolding_all exact rfl) (by with_unfolding_all exact rfl) ?_
  | with_reducible refine ex_bl ?_
  | with_reducible refine ex_int ?_
  | with_reducible refine ex_sc (by with_unfolding_all exact rfl) ?_
  | with_reducible refine and_brT ?_
  | with_reducible refine and_brF ?_
  | with_reducible refine and_rbT ?_
  | with_reducible refine and_rbF ?_
  | with_reducible refine and_nT ?_
  | with_reducible refine and_nF ?_
  | with_reducible refine and_mT ?_
  | with_reducible refine and_mF ?_
  | with_reducible refine and_br ?_ ?_
  | with_reducible refine and_rb ?_ ?_
  | with_reducible refine ⟨nv_d, ?_⟩
  | with_reducible refine ⟨nv_nw, ?_⟩)
local macro_rules | `(tactic| walk_at "br") => `(tactic| first
  | (with_reducible refine br_tup ?_; intro xs e; subst e)
  | (with_reducible refine br_tupN ?_; intro xs e; subst e)
  | (with_reducible refine br_lst ?_; intro xs e; subst e)
  | (with_reducible refine br_lstN ?_; intro xs e; subst e)
  | (with_reducible refine br_str ?_; intro xs e; subst e)
  | (with_reducible refine br_strN ?_; intro xs e; subst e)
  | (with_reducible refine br_non ?_; intro e; subst e)
  | (with_reducible refine br_nonN ?_; intro e; subst e)
  | (with_reducible refine br_t ?_; intro h; first | (cases h; done) | (simp only [lenc, List.length_nil, decide_eq_true_eq, decide_eq_false_iff_not] at h; omega) | exact absurd (show true = false from h) (by decide) | exact absurd (show false = true from h) (by decide) | (simp only [lenc, List.length_nil, Bool.not_eq_true', Bool.not_eq_false', decide_eq_true_eq, decide_eq_false_iff_not] at h) | skip)
  | (with_reducible refine br_f ?_; intro h; first | (cases h; done) | (simp only [lenc, List.length_nil, decide_eq_true_eq, decide_eq_false_iff_not] at h; omega) | exact absurd (show true = false from h) (by decide) | exact absurd (show false = true from h) (by decide) | (simp only [lenc, List.length_nil, Bool.not_eq_true', Bool.not_eq_false', decide_eq_true_eq, decide_eq_false_iff_not] at h) | skip)
  | (with_reducible refine signs_one ?_; intro c)
  | (with_reducible refine fa_mem ?_; intro d hd)
  | ((with_reducible show _ ≤ sizeLine ∧ _); with_reducible refine lc_split (by walk_at "sz") (by walk_at "env") ?_ ?_)
  | ((with_reducible show wipeE _ _ = _ ∧ _); with_reducible refine lc_env (by walk_at "env") ?_)
  | ((with_reducible show (_ : D) = _); exact rfl))
local macro_rules | `(tactic| walk_at "pws") => `(tactic| repeat' walk_at "pw")
theorem asc_pair : ∀ {xs : List D}, xs.Pairwise (fun x y => asInt x < asInt y) → ascending xs = true
  | [], _ => rfl
  | [x], _ => rfl
  | x :: y :: r, h => by
    obtain ⟨h1, h2⟩ := List.pairwise_cons.mp h
    show (decide (asInt x < asInt y) && ascending (y :: r)) = true
    rw [decide_eq_true (h1 y (List.mem_cons_self ..)), asc_pair h2]
    rfl
theorem rng_pair {lo : Int} {n : Nat} : (rngD lo n).Pairwise (fun x y => asInt x < asInt y) := by
  unfold rngD
  refine List.pairwise_map.mpr ?_
  refine List.Pairwise.imp (fun {a b} h => ?_) List.pairwise_lt_range
  show lo + (a : Int) < lo + (b : Int)
  omega
theorem rng_in {lo : Int} {n : Nat} {x : D} (h : x ∈ rngD lo n) : ∃ l, x = .int l ∧ lo ≤ l ∧ l < lo + n := by
  unfold rngD at h
  obtain ⟨i, hi, rfl⟩ := List.mem_map.mp h
  have := List.mem_range.mp hi
  exact ⟨_, rfl, by omega, by omega⟩
/-- a choice of the filled leaves beneath a node is an aside -/
theorem aside_of {a : Nat} {b : Int} {ls xs : List D} (h : xs.Sublist ((rngD (b * 2 ^ a) (2 ^ a)).filter fun l => filled ls (asInt l))) : isAside (.tup xs) a b ls = true := by
  have hm : ∀ x ∈ xs, ∃ l, x = .int l ∧ b * 2 ^ a ≤ l ∧ l < b * 2 ^ a + ((2 ^ a : Nat) : Int) ∧ filled ls l = true := fun x hx => by
    obtain ⟨h1, h2⟩ := List.mem_filter.mp (h.subset hx)
    obtain ⟨l, rfl, h3, h4⟩ := rng_in h1
    exact ⟨l, rfl, h3, h4, h2⟩
  have e : b * 2 ^ a + ((2 ^ a : Nat) : Int) = (b + 1) * 2 ^ a := by
    rw [Int.add_mul, Int.one_mul, ← pow_cast]
  have h1 : xs.all isInteger = true := List.all_eq_true.mpr fun x hx => by
    obtain ⟨l, rfl, _⟩ := hm x hx
    rfl
  have h2 : ascending xs = true := asc_pair ((rng_pair.filter _).sublist h)
  show ((xs.all isInteger && ascending xs) && _) = true
  rw [h1, h2]
  refine List.all_eq_true.mpr fun x hx => ?_
  obtain ⟨l, rfl, h3, h4, h5⟩ := hm x hx
  rw [e] at h4
  show ((decide (b * 2 ^ a ≤ l) && decide (l < (b + 1) * 2 ^ a)) && filled ls l) = true
  rw [decide_eq_true h3, decide_eq_true h4, h5]
  rfl

end LawK08
end
section
namespace LawK08
open PySem PySem.Spec PyProof.Rows L2 PW
local macro_rules | `(tactic| walk_at "env") => `(tactic| (first | (dsimp only [sto, stoE, frz, frzE, frzAll, wipeE, Res.ent, List.set, List.getElem?_cons_zero, List.getElem?_cons_succ]; done) | (dsimp only [sto, stoE, frz, frzE, frzAll, wipeE, Res.ent, List.set, List.getElem?_cons_zero, List.getElem?_cons_succ]; rfl) | rfl))
local macro_rules | `(tactic| walk_at "mem") => `(tactic| first | assumption | exact cut_sub (by assumption) | exact List.mem_cons_of_mem _ (by assumption) | (simp only [List.mem_cons, true_or, or_true]; done))
local macro_rules | `(tactic| walk_at "jn") => `(tactic| first | assumption | with_unfolding_all exact rfl | exact jnTr (by assumption) (by assumption) | exact jnTr (cut_sub (by assumption)) (by assumption) | exact jnTr (List.mem_cons_of_mem _ (by assumption)) (by assumption) | exact jnT (by assumption) (by walk_at "mem") | exact jnL' (by assumption) (by walk_at "mem") | exact jnT2 (by assumption) (by assumption) (by walk_at "mem"))
local macro_rules | `(tactic| walk_at "sz") => `(tactic| first | with_unfolding_all exact Nat.le_of_ble_eq_true rfl | assumption | exact szl (by assumption) | exact szS (by walk_at "jn") | exact szT (by walk_at "jn") | exact szTl (by assumption) | exact szL (by walk_at "jn") | exact szG (by walk_at "jn") | ((with_reducible show (PW.cutD _ _ _).length ≤ _); refine szC ?_; walk_at "sz") | with_unfolding_all exact szl (Nat.le_of_ble_eq_true rfl))
local macro_rules | `(tactic| walk_at "bi") => `(tactic| first | with_unfolding_all exact rfl | assumption | exact jn_bi (by walk_at "jn"))
local macro_rules | `(tactic| walk_at "pw") => `(tactic| first
  | ((with_reducible show PW.XE _ _ _ _); first | with_reducible refine xe_var_d (by with_unfolding_all exact rfl) ?_ | with_reducible refine xe_var_o (by with_unfolding_all exact rfl) ?_ | with_reducible refine xe_int ?_ | with_reducible refine xe_str ?_ | with_reducible refine xe_bl ?_ | with_reducible refine xe_non ?_ | with_reducible refine ye_emp ?_ | with_reducible refine xe_op ?_ | with_reducible refine xe_un ?_ | with_reducible refine xe_if ?_ | with_reducible refine xe_andV ?_ | with_reducible refine xe_orV ?_ | with_reducible refine xe_notV ?_ | with_reducible refine xe_chain ?_ | with_reducible refine xe_isi D.isTup isi_tuple ?_ | with_reducible refine xe_isi D.isLst isi_list ?_ | with_reducible refine xe_isi D.isStr isi_str ?_ | with_reducible refine xe_isi D.isInt isi_int ?_ | with_reducible refine xe_isi D.isBool isi_bool ?_ | with_reducible refine xe_isi D.isDct isi_dict ?_ | with_reducible refine xe_isi2 D.isTup D.isLst isi_tuple isi_list ?_ | with_reducible refine ye_lenSet ?_ | with_reducible refine ye_join ?_ | with_reducible refine xe_cb ?_ | with_reducible refine xe_callS ?_ | with_reducible refine ye_callH (by with_unfolding_all exact rfl) ?_ | with_reducible refine ye_call ?_ | with_reducible refine ye_tup ?_ | with_reducible refine ye_lst ?_ | with_reducible refine xe_sl ?_ | with_reducible refine ye_revT ?_ | with_reducible refine ye_rg1 ?_ | with_reducible refine ye_rg2 ?_ | with_reducible refine ye_meth (by with_unfolding_all exact rfl) (fun _ _ _ h => ty_list h) ?_ | with_reducible refine ye_meth0 (by with_unfolding_all exact rfl) (fun _ _ _ h => ty_list h) ?_)
  | ((with_reducible show PW.XA _ _ _ _); first | with_reducible refine xa_nil ?_ | with_reducible refine xa_cons ?_)
  | ((with_reducible show PW.XT _ _ _ _); first | with_reducible refine xt_yes ?_ | with_reducible refine xt_test ?_ | with_reducible refine xt_B ?_ | with_reducible refine xt_not ?_ | with_reducible refine xt_and ?_ | with_reducible refine xt_or ?_)
  | ((with_reducible show PW.XS _ _ _ _); first | with_reducible refine xs_seq ?_ | with_reducible refine xs_next ?_ | with_reducible refine ys_asg ?_ | with_reducible refine xs_if ?_ | with_reducible refine ys_ret ?_ | with_reducible refine xs_retN ?_ | with_reducible refine xs_drop ?_ | with_reducible refine xs_break ?_ | with_reducible refine xs_cont ?_ | with_reducible refine ys_par (by with_unfolding_all decide) ?_ | with_reducible refine ys_par3 (by with_unfolding_all decide) (by with_unfolding_all decide) (by with_unfolding_all decide) ?_ | with_reducible refine ys_unp2 (by with_unfolding_all decide) ?_ | with_reducible refine ys_unp3 (by with_unfolding_all decide) (by with_unfolding_all decide) (by with_unfolding_all decide) ?_ | with_reducible refine ys_setix ?_ | with_reducible refine ys_asgG ?_ | with_reducible refine xs_for ?_)
  | ((with_reducible show PW.OpD _ _ _ _ _); first | with_reducible refine o_addI ?_ | with_reducible refine o_subI ?_ | with_reducible refine o_mulI (by first | with_unfolding_all exact .inl ⟨by decide, by decide⟩ | with_unfolding_all exact .inr ⟨by decide, by decide⟩) ?_ | with_reducible refine o_mulI (cmulL (by omega) (by omega)) ?_ | with_reducible refine o_mulI (cmulR (by omega) (by omega)) ?_ | with_reducible refine o_divI (by with_unfolding_all exact ⟨by decide, by decide⟩) ?_ | with_reducible refine o_modI (by with_unfolding_all decide) ?_ | with_reducible refine o_powI (by with_unfolding_all exact ⟨by decide, by decide, by decide⟩) ?_ | with_reducible refine o_ltI ?_ | with_reducible refine o_leI ?_ | with_reducible refine o_leUI ?_ | with_reducible refine o_leP ?_ | with_reducible refine o_shlI (cpow1 (by omega) (by omega)) ?_ | with_reducible refine o_gtI ?_ | with_reducible refine o_geI ?_ | with_reducible refine o_eqI ?_ | with_reducible refine o_neI ?_ | with_reducible refine o_eqB ?_ | with_reducible refine o_neB ?_ | with_reducible refine o_isNo ?_ | with_reducible refine o_isNotNo ?_ | with_reducible refine o_isBo ?_ | with_reducible refine o_isNotBo ?_ | with_reducible refine o_inC ?_ | with_reducible refine o_notInC ?_ | with_reducible refine o_ix0 ?_ | with_reducible refine o_ix1 ?_ | with_reducible refine o_ix2 ?_ | ((with_reducible show PW.OpD _ (rIx _) (.tup _) (.int 0) _); refine o_ix0e (ne_len (by omega)) ?_; intro y ys e; subst e) | with_reducible refine o_ixT (by with_unfolding_all exact rfl) ?_ | with_reducible refine o_ixL (by with_unfolding_all exact rfl) ?_)
  | ((with_reducible show PW.CaD _ _ _ _); first | with_reducible refine c_lenT ?_ | with_reducible refine c_lenL ?_ | with_reducible refine c_intI ?_ | with_reducible refine c_intB ?_ | with_reducible refine c_absI ?_ | with_reducible refine c_allM ?_ | with_reducible refine c_anyM ?_ | with_reducible refine c_tupL ?_ | with_reducible refine c_tupT ?_ | with_reducible refine c_lstL ?_ | with_reducible refine c_lstT ?_ | ((with_reducible show CaD _ (rLenU _) [.str _] _); with_reducible refine c_lenS (by walk_at "sz") ?_))
  | ((with_reducible show PW.XI _ _ _ _); first | with_reducible refine yi_seqU ?_ | with_reducible refine yi_enum ?_ | with_reducible refine yi_zip ?_ | with_reducible refine xi_range1 ?_ | with_reducible refine xi_range2 ?_)
  | ((with_reducible show PW.XG _ _ _ _ _); first | with_reducible refine yg_name ?_ | with_reducible refine xg_tup (by with_unfolding_all exact rfl) ?_)
  | ((with_reducible show PW.XGs _ _ _ _ _); first | with_reducible refine xgs_nil ?_ | with_reducible refine xgs_cons ?_)
  | ((with_reducible show PW.XM _ _ _ _ _); first | with_reducible refine xm_nil ?_ | with_reducible refine xm_cons ?_)
  | ((with_reducible show PW.XO _ _ _ _); first | with_reducible refine xo_none ?_ | with_reducible refine xo_some ?_)
  | ((with_reducible show PW.SlD _ _ _ _ _ _); first | with_reducible refine sl_tail ?_ | with_reducible refine sl_T ?_ | with_reducible refine sl_L ?_)
  | ((with_reducible show PW.UnD _ _ _ _); first | with_reducible refine u_neg ?_)
  | ((with_reducible show PW.back _ _ _); first | with_reducible refine back_d ?_ | with_reducible refine back_nw ?_ | with_reducible refine back_v (by with_unfolding_all exact rfl) ?_)
  | walk_at "cnt"
  | walk_at "br")
local macro_rules | `(tactic| walk_at "cnt") => `(tactic| first
  | with_reducible refine ex_env (by walk_at "env") ?_
  | ((with_reducible show ∃ x : List D, _ = some x ∧ x.length ≤ _ ∧ _); with_reducible refine ex_pks2 (by with_unfolding_all exact rfl) (by walk_at "sz") ?_)
  | with_reducible refine ex_pks (by with_unfolding_all exact rfl) ?_
  | ((with_reducible show ∃ x : D, _ = some x ∧ x.isBuiltin = true ∧ _); with_reducible refine ex_pk2 (by with_unfolding_all exact rfl) (by walk_at "bi") ?_)
  | with_reducible refine lc_fin (by with_unfolding_all exact rfl) (by with_unfolding_all exact rfl) ?_
  | with_reducible refine lcf_fin (by with_unfolding_all exact rfl) (by with_unfolding_all exact rfl) ?_
  | with_reducible refine ex_pk (by with_unfolding_all exact rfl) ?_
  | with_reducible refine ex_op (by with_unfolding_all exact rfl) (by with_unfolding_all exact rfl) ?_
  | with_reducible refine ex_it (by with_unfolding_all exact rfl) (by with_unfolding_all exact rfl) ?_
  | with_reducible refine ex_its (by with_unfolding_all exact rfl) (by with_unfolding_all exact rfl) ?_
  | with_reducible refine ex_zip (by with_unfolding_all exact rfl) (by with_unfolding_all exact rfl) ?_
  | with_reducible refine ex_bl ?_
  | with_reducible refine ex_int ?_
  | with_reducible refine ex_sc (by with_unfolding_all exact rfl) ?_
  | with_reducible refine and_brT ?_
  | with_reducible refine and_brF ?_
  | with_reducible refine and_rbT ?_
  | with_reducible refine and_rbF ?_
  | with_reducible refine and_nT ?_
  | with_reducible refine and_nF ?_
  | with_reducible refine and_mT ?_
  | with_reducible refine and_mF ?_
  | with_reducible refine and_br ?_ ?_
  | with_reducible refine and_rb ?_ ?_
  | with_reducible refine ⟨nv_d, ?_⟩
  | with_reducible refine ⟨nv_nw, ?_⟩)
local macro_rules | `(tactic| walk_at "br") => `(tactic| first
  | (with_reducible refine br_tup ?_; intro xs e; subst e)
  | (with_reducible refine br_tupN ?_; intro xs e; subst e)
  | (with_reducible refine br_lst ?_; intro xs e; subst e)
  | (with_reducible refine br_lstN ?_; intro xs e; subst e)
  | (with_reducible refine br_str ?_; intro xs e; subst e)
  | (with_reducible refine br_strN ?_; intro xs e; subst e)
  | (with_reducible refine br_non ?_; intro e; subst e)
  | (with_reducible refine br_nonN ?_; intro e; subst e)
  | (with_reducible refine br_t ?_; intro h; first | (cases h; done) | (simp only [lenc, List.length_nil, decide_eq_true_eq, decide_eq_false_iff_not] at h; omega) | exact absurd (show true = false from h) (by decide) | exact absurd (show false = true from h) (by decide) | (simp only [lenc, List.length_nil, Bool.not_eq_true', Bool.not_eq_false', decide_eq_true_eq, decide_eq_false_iff_not] at h) | skip)
  | (with_reducible refine br_f ?_; intro h; first | (cases h; done) | (simp only [lenc, List.length_nil, decide_eq_true_eq, decide_eq_false_iff_not] at h; omega) | exact absurd (show true = false from h) (by decide) | exact absurd (show false = true from h) (by decide) | (simp only [lenc, List.length_nil, Bool.not_eq_true', Bool.not_eq_false', decide_eq_true_eq, decide_eq_false_iff_not] at h) | skip)
  | (with_reducible refine signs_one ?_; intro c)
  | (with_reducible refine fa_mem ?_; intro d hd)
  | ((with_reducible show _ ≤ sizeLine ∧ _); with_reducible refine lc_split (by walk_at "sz") (by walk_at "env") ?_ ?_)
  | ((with_reducible show wipeE _ _ = _ ∧ _); with_reducible refine lc_env (by walk_at "env") ?_)
  | ((with_reducible show (_ : D) = _); exact rfl))
local macro_rules | `(tactic| walk_at "pws") => `(tactic| repeat' walk_at "pw")
theorem odd_ok : ∀ x, x ∈ oddL → Ok x := fun x hx => by
  have h : (oddL.all fun x => x.jn && dIm x) = true := by decide +kernel
  exact Bool.and_eq_true_iff.mp (List.all_eq_true.mp h x hx)
theorem dptL_of {k : Nat} : ∀ {xs : List D}, (∀ x ∈ xs, dpt x ≤ k) → dptL xs ≤ k
  | [], _ => Nat.zero_le _
  | y :: ys, h => Nat.max_le.mpr ⟨h y (List.mem_cons_self ..), dptL_of fun x hx => h x (List.mem_cons_of_mem _ hx)⟩
theorem odd_okb : ∀ x, x ∈ oddL → OkB 300 2 x := fun x hx => by
  have h : (oddL.all fun x => dSm x && (decide (wt x ≤ 300) && decide (dpt x ≤ 2))) = true := by decide +kernel
  obtain ⟨h1, h2⟩ := Bool.and_eq_true_iff.mp (List.all_eq_true.mp h x hx)
  obtain ⟨h2, h3⟩ := Bool.and_eq_true_iff.mp h2
  exact ⟨odd_ok x hx, h1, of_decide_eq_true h2, of_decide_eq_true h3⟩
theorem imL_of : ∀ {xs : List D}, (∀ x ∈ xs, dIm x = true) → dImL xs = true
  | [], _ => rfl
  | y :: ys, h => Bool.and_eq_true_iff.mpr ⟨h y (List.mem_cons_self ..), imL_of fun x hx => h x (List.mem_cons_of_mem _ hx)⟩
theorem smL_of : ∀ {xs : List D}, (∀ x ∈ xs, dSm x = true) → dSmL xs = true
  | [], _ => rfl
  | y :: ys, h => Bool.and_eq_true_iff.mpr ⟨h y (List.mem_cons_self ..), smL_of fun x hx => h x (List.mem_cons_of_mem _ hx)⟩
theorem wtL_of {b : Nat} : ∀ {xs : List D}, (∀ x ∈ xs, wt x ≤ b) → wtL xs ≤ xs.length * (b + 2)
  | [], _ => Nat.zero_le _
  | y :: ys, h => by
    have h1 := h y (List.mem_cons_self ..)
    have h2 := wtL_of (xs := ys) fun x hx => h x (List.mem_cons_of_mem _ hx)
    show wt y + 2 + wtL ys ≤ (ys.length + 1) * (b + 2)
    rw [Nat.add_mul]
    omega
theorem ok_tup {xs : List D} (h1 : xs.length ≤ 100000) (h2 : ∀ x ∈ xs, Ok x) : Ok (.tup xs) := ⟨tup_jn h1 fun x hx => (h2 x hx).1, imL_of fun x hx => (h2 x hx).2⟩
theorem ok_lst {xs : List D} (h1 : xs.length ≤ 100000) (h2 : ∀ x ∈ xs, Ok x) : Ok (.lst xs) := ⟨Bool.and_eq_true_iff.mpr ⟨decide_eq_true h1, jnL_of fun x hx => (h2 x hx).1⟩, imL_of fun x hx => (h2 x hx).2⟩
theorem ok_mem {xs : List D} {x : D} (h : Ok (.tup xs)) (hx : x ∈ xs) : Ok x := ⟨jnT h.1 hx, imL_mem (xs := xs) h.2 hx⟩
theorem okb_le {a b m k : Nat} {x : D} (h : OkB a m x) (hl : a ≤ b) (hm : m ≤ k := by decide) : OkB b k x := ⟨h.1, h.2.1, Nat.le_trans h.2.2.1 hl, Nat.le_trans h.2.2.2 hm⟩
theorem okb_tup {n b c m k : Nat} {xs : List D} (h1 : xs.length ≤ n) (hn : n ≤ 100000) (h2 : ∀ x ∈ xs, OkB b m x) (hc : n * (b + 2) + 4 ≤ c) (hm : m + 1 ≤ k := by decide) : OkB c k (.tup xs) := by
  have h5 := dptL_of fun x hx => (h2 x hx).2.2.2
  refine ⟨ok_tup (by omega) fun x hx => (h2 x hx).1, smL_of fun x hx => (h2 x hx).2.1, ?_, by show 1 + dptL xs ≤ k; omega⟩
  have h3 := wtL_of fun x hx => (h2 x hx).2.2.1
  have h4 : xs.length * (b + 2) ≤ n * (b + 2) := Nat.mul_le_mul_right _ h1
  show 4 + wtL xs ≤ c
  omega
theorem okb_lst {n b c m k : Nat} {xs : List D} (h1 : xs.length ≤ n) (hn : n ≤ 100000) (h2 : ∀ x ∈ xs, OkB b m x) (hc : n * (b + 2) + 4 ≤ c) (hm : m + 1 ≤ k := by decide) : OkB c k (.lst xs) := by
  have h5 := dptL_of fun x hx => (h2 x hx).2.2.2
  refine ⟨ok_lst (by omega) fun x hx => (h2 x hx).1, smL_of fun x hx => (h2 x hx).2.1, ?_, by show 1 + dptL xs ≤ k; omega⟩
  have h3 := wtL_of fun x hx => (h2 x hx).2.2.1
  have h4 : xs.length * (b + 2) ≤ n * (b + 2) := Nat.mul_le_mul_right _ h1
  show 4 + wtL xs ≤ c
  omega
theorem okb_two {a b c m k : Nat} {x y : D} (h1 : OkB a m x) (h2 : OkB b m y) (hc : a + b + 8 ≤ c) (hm : m + 1 ≤ k := by decide) : OkB c k (.tup [x, y]) := by
  have h3 := h1.2.2
  have h4 := h2.2.2
  refine ⟨ok_tup (by show 2 ≤ 100000; decide) fun z hz => ?_, ?_, ?_, ?_⟩
  · rcases List.mem_cons.mp hz with e | hz
    · rw [e]; exact h1.1
    · rw [List.mem_singleton.mp hz]; exact h2.1
  · show (dSm x && (dSm y && true)) = true
    rw [h1.2.1, h2.2.1]
    rfl
  · show 4 + (wt x + 2 + (wt y + 2 + 0)) ≤ c
    omega
  · show 1 + max (dpt x) (max (dpt y) 0) ≤ k
    omega
theorem okb_thr {a b c d m k : Nat} {x y z : D} (h1 : OkB a m x) (h2 : OkB b m y) (h3 : OkB c m z) (hc : a + b + c + 10 ≤ d) (hm : m + 1 ≤ k := by decide) : OkB d k (.tup [x, y, z]) := by
  have h4 := h1.2.2
  have h5 := h2.2.2
  have h6 := h3.2.2
  refine ⟨ok_tup (by show 3 ≤ 100000; decide) fun w hw => ?_, ?_, ?_, ?_⟩
  · rcases List.mem_cons.mp hw with e | hw
    · rw [e]; exact h1.1
    rcases List.mem_cons.mp hw with e | hw
    · rw [e]; exact h2.1
    · rw [List.mem_singleton.mp hw]; exact h3.1
  · show (dSm x && (dSm y && (dSm z && true))) = true
    rw [h1.2.1, h2.2.1, h3.2.1]
    rfl
  · show 4 + (wt x + 2 + (wt y + 2 + (wt z + 2 + 0))) ≤ d
    omega
  · show 1 + max (dpt x) (max (dpt y) (max (dpt z) 0)) ≤ k
    omega
theorem okb_int {i : Int} (h1 : i.natAbs < 10 ^ 61) (h2 : i ≤ 10 ^ 60) : OkB 66 0 (.int i) := ⟨⟨rfl, decide_eq_true h2⟩, decide_eq_true h1, Nat.le_refl _, Nat.le_refl _⟩
theorem okb_set {b c n m k : Nat} {xs : List D} {i : Nat} {y : D} (hl : xs.length ≤ n) (hi : i < xs.length) (hn : n ≤ 100000) (h : ∀ x ∈ xs, OkB b m x) (hy : OkB b m y) (hc : n * (b + 2) + 4 ≤ c) (hm : m + 1 ≤ k := by decide) : OkB c k (.tup (xs.take i ++ [y] ++ xs.drop (i + 1))) := by
  refine okb_tup (n := n) (b := b) (by simp; omega) hn (fun x hx => ?_) hc hm
  rcases List.mem_append.mp hx with hx | hx
  · rcases List.mem_append.mp hx with hx | hx
    · exact h x (List.mem_of_mem_take hx)
    · rw [List.mem_singleton.mp hx]
      exact hy
  · exact h x (List.mem_of_mem_drop hx)
theorem letter_small {c : Nat} (h : letterD (.str ⟨#[c]⟩) = true) : c < 16 ^ 8 := by
  have h1 : c ∈ letters.cps.toList := of_decide_eq_true (show decide (c ∈ letters.cps.toList) = true from h)
  have h2 : (letters.cps.toList.all fun c => decide (c < 16 ^ 8)) = true := by decide +kernel
  exact of_decide_eq_true (List.all_eq_true.mp h2 c h1)
theorem okb_name {s : Str} (h : isName (.str s) = true) : OkB 124 0 (.str s) := by
  obtain ⟨h1, h2⟩ := Bool.and_eq_true_iff.mp (show ((decide (1 ≤ (s.length : Int)) && decide ((s.length : Int) ≤ 12)) && (signsD s).all letterD) = true from h)
  have h3 := of_decide_eq_true (Bool.and_eq_true_iff.mp h1).2
  refine ⟨⟨decide_eq_true (by omega), rfl⟩, Bool.and_eq_true_iff.mpr ⟨name_lay h, List.all_eq_true.mpr fun c hc => decide_eq_true (letter_small (List.all_eq_true.mp h2 _ (List.mem_map.mpr ⟨c, hc, rfl⟩)))⟩, ?_, Nat.zero_le _⟩
  show 10 * s.length + 4 ≤ 124
  omega

end LawK08
end
section
namespace LawK08
open PySem PySem.Spec PyProof.Rows L2 PW
local macro_rules | `(tactic| walk_at "env") => `(tactic| (first | (dsimp only [sto, stoE, frz, frzE, frzAll, wipeE, Res.ent, List.set, List.getElem?_cons_zero, List.getElem?_cons_succ]; done) | (dsimp only [sto, stoE, frz, frzE, frzAll, wipeE, Res.ent, List.set, List.getElem?_cons_zero, List.getElem?_cons_succ]; rfl) | rfl))
local macro_rules | `(tactic| walk_at "mem") => `(tactic| first | assumption | exact cut_sub (by assumption) | exact List.mem_cons_of_mem _ (by assumption) | (simp only [List.mem_cons, true_or, or_true]; done))
local macro_rules | `(tactic| walk_at "jn") => `(tactic| first | assumption | with_unfolding_all exact rfl | exact jnTr (by assumption) (by assumption) | exact jnTr (cut_sub (by assumption)) (by assumption) | exact jnTr (List.mem_cons_of_mem _ (by assumption)) (by assumption) | exact jnT (by assumption) (by walk_at "mem") | exact jnL' (by assumption) (by walk_at "mem") | exact jnT2 (by assumption) (by assumption) (by walk_at "mem"))
local macro_rules | `(tactic| walk_at "sz") => `(tactic| first | with_unfolding_all exact Nat.le_of_ble_eq_true rfl | assumption | exact szl (by assumption) | exact szS (by walk_at "jn") | exact szT (by walk_at "jn") | exact szTl (by assumption) | exact szL (by walk_at "jn") | exact szG (by walk_at "jn") | ((with_reducible show (PW.cutD _ _ _).length ≤ _); refine szC ?_; walk_at "sz") | with_unfolding_all exact szl (Nat.le_of_ble_eq_true rfl))
local macro_rules | `(tactic| walk_at "bi") => `(tactic| first | with_unfolding_all exact rfl | assumption | exact jn_bi (by walk_at "jn"))
local macro_rules | `(tactic| walk_at "pw") => `(tactic| first
  | ((with_reducible show PW.XE _ _ _ _); first | with_reducible refine xe_var_d (by with_unfolding_all exact rfl) ?_ | with_reducible refine xe_var_o (by with_unfolding_all exact rfl) ?_ | with_reducible refine xe_int ?_ | with_reducible refine xe_str ?_ | with_reducible refine xe_bl ?_ | with_reducible refine xe_non ?_ | with_reducible refine ye_emp ?_ | with_reducible refine xe_op ?_ | with_reducible refine xe_un ?_ | with_reducible refine xe_if ?_ | with_reducible refine xe_andV ?_ | with_reducible refine xe_orV ?_ | with_reducible refine xe_notV ?_ | with_reducible refine xe_chain ?_ | with_reducible refine xe_isi D.isTup isi_tuple ?_ | with_reducible refine xe_isi D.isLst isi_list ?_ | with_reducible refine xe_isi D.isStr isi_str ?_ | with_reducible refine xe_isi D.isInt isi_int ?_ | with_reducible refine xe_isi D.isBool isi_bool ?_ | with_reducible refine xe_isi D.isDct isi_dict ?_ | with_reducible refine xe_isi2 D.isTup D.isLst isi_tuple isi_list ?_ | with_reducible refine ye_lenSet ?_ | with_reducible refine ye_join ?_ | with_reducible refine xe_cb ?_ | with_reducible refine xe_callS ?_ | with_reducible refine ye_callH (by with_unfolding_all exact rfl) ?_ | with_reducible refine ye_call ?_ | with_reducible refine ye_tup ?_ | with_reducible refine ye_lst ?_ | with_reducible refine xe_sl ?_ | with_reducible refine ye_revT ?_ | with_reducible refine ye_rg1 ?_ | with_reducible refine ye_rg2 ?_ | with_reducible refine ye_meth (by with_unfolding_all exact rfl) (fun _ _ _ h => ty_list h) ?_ | with_reducible refine ye_meth0 (by with_unfolding_all exact rfl) (fun _ _ _ h => ty_list h) ?_)
  | ((with_reducible show PW.XA _ _ _ _); first | with_reducible refine xa_nil ?_ | with_reducible refine xa_cons ?_)
  | ((with_reducible show PW.XT _ _ _ _); first | with_reducible refine xt_yes ?_ | with_reducible refine xt_test ?_ | with_reducible refine xt_B ?_ | with_reducible refine xt_not ?_ | with_reducible refine xt_and ?_ | with_reducible refine xt_or ?_)
  | ((with_reducible show PW.XS _ _ _ _); first | with_reducible refine xs_seq ?_ | with_reducible refine xs_next ?_ | with_reducible refine ys_asg ?_ | with_reducible refine xs_if ?_ | with_reducible refine ys_ret ?_ | with_reducible refine xs_retN ?_ | with_reducible refine xs_drop ?_ | with_reducible refine xs_break ?_ | with_reducible refine xs_cont ?_ | with_reducible refine ys_par (by with_unfolding_all decide) ?_ | with_reducible refine ys_par3 (by with_unfolding_all decide) (by with_unfolding_all decide) (by with_unfolding_all decide) ?_ | with_reducible refine ys_unp2 (by with_unfolding_all decide) ?_ | with_reducible refine ys_unp3 (by with_unfolding_all decide) (by with_unfolding_all decide) (by with_unfolding_all decide) ?_ | with_reducible refine ys_setix ?_ | with_reducible refine ys_asgG ?_ | with_reducible refine xs_for ?_)
  | ((with_reducible show PW.OpD _ _ _ _ _); first | with_reducible refine o_addI ?_ | with_reducible refine o_subI ?_ | with_reducible refine o_mulI (by first | with_unfolding_all exact .inl ⟨by decide, by decide⟩ | with_unfolding_all exact .inr ⟨by decide, by decide⟩) ?_ | with_reducible refine o_mulI (cmulL (by omega) (by omega)) ?_ | with_reducible refine o_mulI (cmulR (by omega) (by omega)) ?_ | with_reducible refine o_divI (by with_unfolding_all exact ⟨by decide, by decide⟩) ?_ | with_reducible refine o_modI (by with_unfolding_all decide) ?_ | with_reducible refine o_powI (by with_unfolding_all exact ⟨by decide, by decide, by decide⟩) ?_ | with_reducible refine o_ltI ?_ | with_reducible refine o_leI ?_ | with_reducible refine o_leUI ?_ | with_reducible refine o_leP ?_ | with_reducible refine o_shlI (cpow1 (by omega) (by omega)) ?_ | with_reducible refine o_gtI ?_ | with_reducible refine o_geI ?_ | with_reducible refine o_eqI ?_ | with_reducible refine o_neI ?_ | with_reducible refine o_eqB ?_ | with_reducible refine o_neB ?_ | with_reducible refine o_isNo ?_ | with_reducible refine o_isNotNo ?_ | with_reducible refine o_isBo ?_ | with_reducible refine o_isNotBo ?_ | with_reducible refine o_inC ?_ | with_reducible refine o_notInC ?_ | with_reducible refine o_ix0 ?_ | with_reducible refine o_ix1 ?_ | with_reducible refine o_ix2 ?_ | ((with_reducible show PW.OpD _ (rIx _) (.tup _) (.int 0) _); refine o_ix0e (ne_len (by omega)) ?_; intro y ys e; subst e) | with_reducible refine o_ixT (by with_unfolding_all exact rfl) ?_ | with_reducible refine o_ixL (by with_unfolding_all exact rfl) ?_)
  | ((with_reducible show PW.CaD _ _ _ _); first | with_reducible refine c_lenT ?_ | with_reducible refine c_lenL ?_ | with_reducible refine c_intI ?_ | with_reducible refine c_intB ?_ | with_reducible refine c_absI ?_ | with_reducible refine c_allM ?_ | with_reducible refine c_anyM ?_ | with_reducible refine c_tupL ?_ | with_reducible refine c_tupT ?_ | with_reducible refine c_lstL ?_ | with_reducible refine c_lstT ?_ | ((with_reducible show CaD _ (rLenU _) [.str _] _); with_reducible refine c_lenS (by walk_at "sz") ?_))
  | ((with_reducible show PW.XI _ _ _ _); first | with_reducible refine yi_seqU ?_ | with_reducible refine yi_enum ?_ | with_reducible refine yi_zip ?_ | with_reducible refine xi_range1 ?_ | with_reducible refine xi_range2 ?_)
  | ((with_reducible show PW.XG _ _ _ _ _); first | with_reducible refine yg_name ?_ | with_reducible refine xg_tup (by with_unfolding_all exact rfl) ?_)
  | ((with_reducible show PW.XGs _ _ _ _ _); first | with_reducible refine xgs_nil ?_ | with_reducible refine xgs_cons ?_)
  | ((with_reducible show PW.XM _ _ _ _ _); first | with_reducible refine xm_nil ?_ | with_reducible refine xm_cons ?_)
  | ((with_reducible show PW.XO _ _ _ _); first | with_reducible refine xo_none ?_ | with_reducible refine xo_some ?_)
  | ((with_reducible show PW.SlD _ _ _ _ _ _); first | with_reducible refine sl_tail ?_ | with_reducible refine sl_T ?_ | with_reducible refine sl_L ?_)
  | ((with_reducible show PW.UnD _ _ _ _); first | with_reducible refine u_neg ?_)
  | ((with_reducible show PW.back _ _ _); first | with_reducible refine back_d ?_ | with_reducible refine back_nw ?_ | with_reducible refine back_v (by with_unfolding_all exact rfl) ?_)
  | walk_at "cnt"
  | walk_at "br")
local macro_rules | `(tactic| walk_at "cnt") => `(tactic| first
  | with_reducible refine ex_env (by walk_at "env") ?_
  | ((with_reducible show ∃ x : List D, _ = some x ∧ x.length ≤ _ ∧ _); with_reducible refine ex_pks2 (by with_unfolding_all exact rfl) (by walk_at "sz") ?_)
  | with_reducible refine ex_pks (by with_unfolding_all exact rfl) ?_
  | ((with_reducible show ∃ x : D, _ = some x ∧ x.isBuiltin = true ∧ _); with_reducible refine ex_pk2 (by with_unfolding_all exact rfl) (by walk_at "bi") ?_)
  | with_reducible refine lc_fin (by with_unfolding_all exact rfl) (by with_unfolding_all exact rfl) ?_
  | with_reducible refine lcf_fin (by with_unfolding_all exact rfl) (by with_unfolding_all exact rfl) ?_
  | with_reducible refine ex_pk (by with_unfolding_all exact rfl) ?_
  | with_reducible refine ex_op (by with_unfolding_all exact rfl) (by with_unfolding_all exact rfl) ?_
  | with_reducible refine ex_it (by with_unfolding_all exact rfl) (by with_unfolding_all exact rfl) ?_
  | with_reducible refine ex_its (by with_unfolding_all exact rfl) (by with_unfolding_all exact rfl) ?_
  | with_reducible refine ex_zip (by with_unfolding_all exact rfl) (by with_unfolding_all exact rfl) ?_
  | with_reducible refine ex_bl ?_
  | with_reducible refine ex_int ?_
  | with_reducible refine ex_sc (by with_unfolding_all exact rfl) ?_
  | with_reducible refine and_brT ?_
  | with_reducible refine and_brF ?_
  | with_reducible refine and_rbT ?_
  | with_reducible refine and_rbF ?_
  | with_reducible refine and_nT ?_
  | with_reducible refine and_nF ?_
  | with_reducible refine and_mT ?_
  | with_reducible refine and_mF ?_
  | with_reducible refine and_br ?_ ?_
  | with_reducible refine and_rb ?_ ?_
  | with_reducible refine ⟨nv_d, ?_⟩
  | with_reducible refine ⟨nv_nw, ?_⟩)
local macro_rules | `(tactic| walk_at "br") => `(tactic| first
  | (with_reducible refine br_tup ?_; intro xs e; subst e)
  | (with_reducible refine br_tupN ?_; intro xs e; subst e)
  | (with_reducible refine br_lst ?_; intro xs e; subst e)
  | (with_reducible refine br_lstN ?_; intro xs e; subst e)
  | (with_reducible refine br_str ?_; intro xs e; subst e)
  | (with_reducible refine br_strN ?_; intro xs e; subst e)
  | (with_reducible refine br_non ?_; intro e; subst e)
  | (with_reducible refine br_nonN ?_; intro e; subst e)
  | (with_reducible refine br_t ?_; intro h; first | (cases h; done) | (simp only [lenc, List.length_nil, decide_eq_true_eq, decide_eq_false_iff_not] at h; omega) | exact absurd (show true = false from h) (by decide) | exact absurd (show false = true from h) (by decide) | (simp only [lenc, List.length_nil, Bool.not_eq_true', Bool.not_eq_false', decide_eq_true_eq, decide_eq_false_iff_not] at h) | skip)
  | (with_reducible refine br_f ?_; intro h; first | (cases h; done) | (simp only [lenc, List.length_nil, decide_eq_true_eq, decide_eq_false_iff_not] at h; omega) | exact absurd (show true = false from h) (by decide) | exact absurd (show false = true from h) (by decide) | (simp only [lenc, List.length_nil, Bool.not_eq_true', Bool.not_eq_false', decide_eq_true_eq, decide_eq_false_iff_not] at h) | skip)
  | (with_reducible refine signs_one ?_; intro c)
  | (with_reducible refine fa_mem ?_; intro d hd)
  | ((with_reducible show _ ≤ sizeLine ∧ _); with_reducible refine lc_split (by walk_at "sz") (by walk_at "env") ?_ ?_)
  | ((with_reducible show wipeE _ _ = _ ∧ _); with_reducible refine lc_env (by walk_at "env") ?_)
  | ((with_reducible show (_ : D) = _); exact rfl))
local macro_rules | `(tactic| walk_at "pws") => `(tactic| repeat' walk_at "pw")
local macro_rules | `(tactic| walk_at "pw") => `(tactic| first
  | ((with_reducible show w_is_integer _ _); with_reducible refine i_is_integer (by walk_at "bi") ?_) | ((with_reducible show w_is_within _ _); with_reducible refine i_is_within (by walk_at "bi") ?_) | ((with_reducible show w_is_tuple_of _ _); with_reducible refine i_is_tuple_of (by walk_at "bi") ?_)
  | ((with_reducible show w_is_name _ _); with_reducible refine i_is_name (by walk_at "jn") ?_) | ((with_reducible show w_is_lock _ _); with_reducible refine i_is_lock (by walk_at "bi") ?_) | ((with_reducible show w_is_member _ _); with_reducible refine i_is_member (by walk_at "jn") ?_)
  | (with_reducible refine br_two ?_; intro a b e; subst e) | (with_reducible refine br_twoN ?_; intro a b e; subst e) | (with_reducible refine br_thr ?_; intro a b c e; subst e) | (with_reducible refine br_thrN ?_; intro a b c e; subst e)
  | (with_reducible refine br_int ?_; intro i e; subst e) | (with_reducible refine br_win ?_; intro i e h1 h2; subst e) | (with_reducible refine br_winN ?_; intro i e h1 h2; subst e))
section
local macro_rules | `(tactic| walk_at "pw") => `(tactic| first
  | ((with_reducible show w_law_draw _ _); refine i_law_drawN (by first | omega | decide) (by first | omega | decide) ?_; intro n hn)
  | ((with_reducible show w_law_set _ _); refine i_law_set (by omega) (by omega) ?_)
  | ((with_reducible show w_law_odd _ _); refine i_law_odd ?_; intro x hx))
theorem pure_law_leaf_spoilt {K : PySem.W.Frag} : ∀ ds kk, w_law_leaf_spoilt ds kk → XS K (t_law_leaf_spoilt K) (iniH 5 ds) { nx := fun _ => kk (.d .non), rt := fun r _ => kk r } := by
  rintro _ kk ⟨ls, h, rfl, h8, hv, ok, g, g2⟩
  show XS K (t_law_leaf_spoilt K) [.hand, .d (.tup ls), .u, .u, .u] (Fin kk)
  unfold t_law_leaf_spoilt
  have hl : ls.length = 2 ^ h := of_decide_eq_true (Bool.and_eq_true_iff.mp (Bool.and_eq_true_iff.mp (show (decide (ls.length = 2 ^ h) && _ && _) = true from hv)).1).1
  have h3 : 2 ^ h ≤ 2 ^ 8 := Nat.pow_le_pow_right (by decide) h8
  have h4 : 1 ≤ 2 ^ h := Nat.one_le_two_pow
  have hall : (ls.all fun l => l.isNon || isMember l) = true := (Bool.and_eq_true_iff.mp (Bool.and_eq_true_iff.mp (show (decide (ls.length = 2 ^ h) && _ && _) = true from hv)).1).2
  have s5 := sz5
  have l3 : ls.length ≤ 300 := by omega
  have set_ok : ∀ (i : Nat) (y : D), i < ls.length → OkB 400 3 y → OkB 200000 4 (.tup (ls.take i ++ [y] ++ ls.drop (i + 1))) := fun i y hi hy => okb_set l3 hi (by decide) ok hy (by decide)
  have o5 : OkB 66 0 (.int 5) := okb_int (by decide) (by decide)
  have o0 : OkB 66 0 (.int 0) := okb_int (by decide) (by decide)
  have o52 : OkB 66 2 (.int 5) := okb_le o5 (by decide)
  walk_at "pws"
  rename_i n1 hn1 n2 hn2 n3 hn3
  refine o_ixAnyT (by omega) hn3 fun d hd => ?_
  have hm := List.mem_of_getElem? hd
  walk_at "pws"
  all_goals first
    | (refine o_addT (by simp; omega) ?_; walk_at "pws"; refine g _ (okb_tup (n := 300) (b := 400) (m := 3) (by simp; omega) (by decide) (fun x hx => ?_) (by decide)); rcases List.mem_append.mp hx with hx | hx; exact ok x hx; rw [List.mem_singleton.mp hx]; exact ⟨⟨rfl, rfl⟩, rfl, by decide, by decide⟩)
    | exact g2
    | exact g _ (set_ok _ _ (by omega) ⟨⟨rfl, rfl⟩, rfl, by decide, by decide⟩)
    | exact g _ (set_ok _ _ (by omega) (okb_two (odd_okb _ (by assumption)) o52 (by decide)))
    | exact g _ (set_ok _ _ (by omega) (okb_two (a := 14) ⟨⟨rfl, by decide⟩, by decide +kernel, by decide, by decide⟩ (odd_okb _ (by assumption)) (by decide)))
    | exact g _ (set_ok _ _ (by omega) (okb_two (a := 14) (b := 66) (m := 0) ⟨⟨rfl, by decide⟩, by decide +kernel, by decide, by decide⟩ ⟨⟨rfl, by decide⟩, by decide +kernel, by decide, by decide⟩ (by decide)))
    | exact g _ (set_ok _ _ (by omega) (okb_le (odd_okb _ (by assumption)) (by decide)))
    | exact g _ (okb_tup (n := 300) (b := 400) (m := 3) (Nat.le_trans cut_len (by omega)) (by decide) (fun x hx => ok x (cut_sub hx)) (by decide))
    | skip
  rename_i hn
  have hq := List.all_eq_true.mp hall d hm
  rw [hn, Bool.false_or] at hq
  obtain ⟨s, j, rfl, hs, _⟩ := isMember_of hq
  walk_at "pws"
  exact g _ (set_ok _ _ (by omega) (okb_two (okb_name hs) o5 (by decide)))
end

end LawK08
end
section
namespace LawK08
open PySem PySem.Spec PyProof.Rows L2 PW
local macro_rules | `(tactic| walk_at "env") => `(tactic| (first | (dsimp only [sto, stoE, frz, frzE, frzAll, wipeE, Res.ent, List.set, List.getElem?_cons_zero, List.getElem?_cons_succ]; done) | (dsimp only [sto, stoE, frz, frzE, frzAll, wipeE, Res.ent, List.set, List.getElem?_cons_zero, List.getElem?_cons_succ]; rfl) | rfl))
local macro_rules | `(tactic| walk_at "mem") => `(tactic| first | assumption | exact cut_sub (by assumption) | exact List.mem_cons_of_mem _ (by assumption) | (simp only [List.mem_cons, true_or, or_true]; done))
local macro_rules | `(tactic| walk_at "jn") => `(tactic| first | assumption | with_unfolding_all exact rfl | exact jnTr (by assumption) (by assumption) | exact jnTr (cut_sub (by assumption)) (by assumption) | exact jnTr (List.mem_cons_of_mem _ (by assumption)) (by assumption) | exact jnT (by assumption) (by walk_at "mem") | exact jnL' (by assumption) (by walk_at "mem") | exact jnT2 (by assumption) (by assumption) (by walk_at "mem"))
local macro_rules | `(tactic| walk_at "sz") => `(tactic| first | with_unfolding_all exact Nat.le_of_ble_eq_true rfl | assumption | exact szl (by assumption) | exact szS (by walk_at "jn") | exact szT (by walk_at "jn") | exact szTl (by assumption) | exact szL (by walk_at "jn") | exact szG (by walk_at "jn") | ((with_reducible show (PW.cutD _ _ _).length ≤ _); refine szC ?_; walk_at "sz") | with_unfolding_all exact szl (Nat.le_of_ble_eq_true rfl))
local macro_rules | `(tactic| walk_at "bi") => `(tactic| first | with_unfolding_all exact rfl | assumption | exact jn_bi (by walk_at "jn"))
local macro_rules | `(tactic| walk_at "pw") => `(tactic| first
  | ((with_reducible show PW.XE _ _ _ _); first | with_reducible refine xe_var_d (by with_unfolding_all exact rfl) ?_ | with_reducible refine xe_var_o (by with_unfolding_all exact rfl) ?_ | with_reducible refine xe_int ?_ | with_reducible refine xe_str ?_ | with_reducible refine xe_bl ?_ | with_reducible refine xe_non ?_ | with_reducible refine ye_emp ?_ | with_reducible refine xe_op ?_ | with_reducible refine xe_un ?_ | with_reducible refine xe_if ?_ | with_reducible refine xe_andV ?_ | with_reducible refine xe_orV ?_ | with_reducible refine xe_notV ?_ | with_reducible refine xe_chain ?_ | with_reducible refine xe_isi D.isTup isi_tuple ?_ | with_reducible refine xe_isi D.isLst isi_list ?_ | with_reducible refine xe_isi D.isStr isi_str ?_ | with_reducible refine xe_isi D.isInt isi_int ?_ | with_reducible refine xe_isi D.isBool isi_bool ?_ | with_reducible refine xe_isi D.isDct isi_dict ?_ | with_reducible refine xe_isi2 D.isTup D.isLst isi_tuple isi_list ?_ | with_reducible refine ye_lenSet ?_ | with_reducible refine ye_join ?_ | with_reducible refine xe_cb ?_ | with_reducible refine xe_callS ?_ | with_reducible refine ye_callH (by with_unfolding_all exact rfl) ?_ | with_reducible refine ye_call ?_ | with_reducible refine ye_tup ?_ | with_reducible refine ye_lst ?_ | with_reducible refine xe_sl ?_ | with_reducible refine ye_revT ?_ | with_reducible refine ye_rg1 ?_ | with_reducible refine ye_rg2 ?_ | with_reducible refine ye_meth (by with_unfolding_all exact rfl) (fun _ _ _ h => ty_list h) ?_ | with_reducible refine ye_meth0 (by with_unfolding_all exact rfl) (fun _ _ _ h => ty_list h) ?_)
  | ((with_reducible show PW.XA _ _ _ _); first | with_reducible refine xa_nil ?_ | with_reducible refine xa_cons ?_)
  | ((with_reducible show PW.XT _ _ _ _); first | with_reducible refine xt_yes ?_ | with_reducible refine xt_test ?_ | with_reducible refine xt_B ?_ | with_reducible refine xt_not ?_ | with_reducible refine xt_and ?_ | with_reducible refine xt_or ?_)
  | ((with_reducible show PW.XS _ _ _ _); first | with_reducible refine xs_seq ?_ | with_reducible refine xs_next ?_ | with_reducible refine ys_asg ?_ | with_reducible refine xs_if ?_ | with_reducible refine ys_ret ?_ | with_reducible refine xs_retN ?_ | with_reducible refine xs_drop ?_ | with_reducible refine xs_break ?_ | with_reducible refine xs_cont ?_ | with_reducible refine ys_par (by with_unfolding_all decide) ?_ | with_reducible refine ys_par3 (by with_unfolding_all decide) (by with_unfolding_all decide) (by with_unfolding_all decide) ?_ | with_reducible refine ys_unp2 (by with_unfolding_all decide) ?_ | with_reducible refine ys_unp3 (by with_unfolding_all decide) (by with_unfolding_all decide) (by with_unfolding_all decide) ?_ | with_reducible refine ys_setix ?_ | with_reducible refine ys_asgG ?_ | with_reducible refine xs_for ?_)
  | ((with_reducible show PW.OpD _ _ _ _ _); first | with_reducible refine o_addI ?_ | with_reducible refine o_subI ?_ | with_reducible refine o_mulI (by first | with_unfolding_all exact .inl ⟨by decide, by decide⟩ | with_unfolding_all exact .inr ⟨by decide, by decide⟩) ?_ | with_reducible refine o_mulI (cmulL (by omega) (by omega)) ?_ | with_reducible refine o_mulI (cmulR (by omega) (by omega)) ?_ | with_reducible refine o_divI (by with_unfolding_all exact ⟨by decide, by decide⟩) ?_ | with_reducible refine o_modI (by with_unfolding_all decide) ?_ | with_reducible refine o_powI (by with_unfolding_all exact ⟨by decide, by decide, by decide⟩) ?_ | with_reducible refine o_ltI ?_ | with_reducible refine o_leI ?_ | with_reducible refine o_leUI ?_ | with_reducible refine o_leP ?_ | with_reducible refine o_shlI (cpow1 (by omega) (by omega)) ?_ | with_reducible refine o_gtI ?_ | with_reducible refine o_geI ?_ | with_reducible refine o_eqI ?_ | with_reducible refine o_neI ?_ | with_reducible refine o_eqB ?_ | with_reducible refine o_neB ?_ | with_reducible refine o_isNo ?_ | with_reducible refine o_isNotNo ?_ | with_reducible refine o_isBo ?_ | with_reducible refine o_isNotBo ?_ | with_reducible refine o_inC ?_ | with_reducible refine o_notInC ?_ | with_reducible refine o_ix0 ?_ | with_reducible refine o_ix1 ?_ | with_reducible refine o_ix2 ?_ | ((with_reducible show PW.OpD _ (rIx _) (.tup _) (.int 0) _); refine o_ix0e (ne_len (by omega)) ?_; intro y ys e; subst e) | with_reducible refine o_ixT (by with_unfolding_all exact rfl) ?_ | with_reducible refine o_ixL (by with_unfolding_all exact rfl) ?_)
  | ((with_reducible show PW.CaD _ _ _ _); first | with_reducible refine c_lenT ?_ | with_reducible refine c_lenL ?_ | with_reducible refine c_intI ?_ | with_reducible refine c_intB ?_ | with_reducible refine c_absI ?_ | with_reducible refine c_allM ?_ | with_reducible refine c_anyM ?_ | with_reducible refine c_tupL ?_ | with_reducible refine c_tupT ?_ | with_reducible refine c_lstL ?_ | with_reducible refine c_lstT ?_ | ((with_reducible show CaD _ (rLenU _) [.str _] _); with_reducible refine c_lenS (by walk_at "sz") ?_))
  | ((with_reducible show PW.XI _ _ _ _); first | with_reducible refine yi_seqU ?_ | with_reducible refine yi_enum ?_ | with_reducible refine yi_zip ?_ | with_reducible refine xi_range1 ?_ | with_reducible refine xi_range2 ?_)
  | ((with_reducible show PW.XG _ _ _ _ _); first | with_reducible refine yg_name ?_ | with_reducible refine xg_tup (by with_unfolding_all exact rfl) ?_)
  | ((with_reducible show PW.XGs _ _ _ _ _); first | with_reducible refine xgs_nil ?_ | with_reducible refine xgs_cons ?_)
  | ((with_reducible show PW.XM _ _ _ _ _); first | with_reducible refine xm_nil ?_ | with_reducible refine xm_cons ?_)
  | ((with_reducible show PW.XO _ _ _ _); first | with_reducible refine xo_none ?_ | with_reducible refine xo_some ?_)
  | ((with_reducible show PW.SlD _ _ _ _ _ _); first | with_reducible refine sl_tail ?_ | with_reducible refine sl_T ?_ | with_reducible refine sl_L ?_)
  | ((with_reducible show PW.UnD _ _ _ _); first | with_reducible refine u_neg ?_)
  | ((with_reducible show PW.back _ _ _); first | with_reducible refine back_d ?_ | with_reducible refine back_nw ?_ | with_reducible refine back_v (by with_unfolding_all exact rfl) ?_)
  | walk_at "cnt"
  | walk_at "br")
local macro_rules | `(tactic| walk_at "cnt") => `(tactic| first
  | with_reducible refine ex_env (by walk_at "env") ?_
  | ((with_reducible show ∃ x : List D, _ = some x ∧ x.length ≤ _ ∧ _); with_reducible refine ex_pks2 (by with_unfolding_all exact rfl) (by walk_at "sz") ?_)
  | with_reducible refine ex_pks (by with_unfolding_all exact rfl) ?_
  | ((with_reducible show ∃ x : D, _ = some x ∧ x.isBuiltin = true ∧ _); with_reducible refine ex_pk2 (by with_unfolding_all exact rfl) (by walk_at "bi") ?_)
  | with_reducible refine lc_fin (by with_unfolding_all exact rfl) (by with_unfolding_all exact rfl) ?_
  | with_reducible refine lcf_fin (by with_unfolding_all exact rfl) (by with_unfolding_all exact rfl) ?_
  | with_reducible refine ex_pk (by with_unfolding_all exact rfl) ?_
  | with_reducible refine ex_op (by with_unfolding_all exact rfl) (by with_unfolding_all exact rfl) ?_
  | with_reducible refine ex_it (by with_unfolding_all exact rfl) (by with_unfolding_all exact rfl) ?_
  | with_reducible refine ex_its (by with_unfolding_all exact rfl) (by with_unfolding_all exact rfl) ?_
  | with_reducible refine ex_zip (by with_unfolding_all exact rfl) (by with_unfolding_all exact rfl) ?_
  | with_reducible refine ex_bl ?_
  | with_reducible refine ex_int ?_
  | with_reducible refine ex_sc (by with_unfolding_all exact rfl) ?_
  | with_reducible refine and_brT ?_
  | with_reducible refine and_brF ?_
  | with_reducible refine and_rbT ?_
  | with_reducible refine and_rbF ?_
  | with_reducible refine and_nT ?_
  | with_reducible refine and_nF ?_
  | with_reducible refine and_mT ?_
  | with_reducible refine and_mF ?_
  | with_reducible refine and_br ?_ ?_
  | with_reducible refine and_rb ?_ ?_
  | with_reducible refine ⟨nv_d, ?_⟩
  | with_reducible refine ⟨nv_nw, ?_⟩)
local macro_rules | `(tactic| walk_at "br") => `(tactic| first
  | (with_reducible refine br_tup ?_; intro xs e; subst e)
  | (with_reducible refine br_tupN ?_; intro xs e; subst e)
  | (with_reducible refine br_lst ?_; intro xs e; subst e)
  | (with_reducible refine br_lstN ?_; intro xs e; subst e)
  | (with_reducible refine br_str ?_; intro xs e; subst e)
  | (with_reducible refine br_strN ?_; intro xs e; subst e)
  | (with_reducible refine br_non ?_; intro e; subst e)
  | (with_reducible refine br_nonN ?_; intro e; subst e)
  | (with_reducible refine br_t ?_; intro h; first | (cases h; done) | (simp only [lenc, List.length_nil, decide_eq_true_eq, decide_eq_false_iff_not] at h; omega) | exact absurd (show true = false from h) (by decide) | exact absurd (show false = true from h) (by decide) | (simp only [lenc, List.length_nil, Bool.not_eq_true', Bool.not_eq_false', decide_eq_true_eq, decide_eq_false_iff_not] at h) | skip)
  | (with_reducible refine br_f ?_; intro h; first | (cases h; done) | (simp only [lenc, List.length_nil, decide_eq_true_eq, decide_eq_false_iff_not] at h; omega) | exact absurd (show true = false from h) (by decide) | exact absurd (show false = true from h) (by decide) | (simp only [lenc, List.length_nil, Bool.not_eq_true', Bool.not_eq_false', decide_eq_true_eq, decide_eq_false_iff_not] at h) | skip)
  | (with_reducible refine signs_one ?_; intro c)
  | (with_reducible refine fa_mem ?_; intro d hd)
  | ((with_reducible show _ ≤ sizeLine ∧ _); with_reducible refine lc_split (by walk_at "sz") (by walk_at "env") ?_ ?_)
  | ((with_reducible show wipeE _ _ = _ ∧ _); with_reducible refine lc_env (by walk_at "env") ?_)
  | ((with_reducible show (_ : D) = _); exact rfl))
local macro_rules | `(tactic| walk_at "pws") => `(tactic| repeat' walk_at "pw")
local macro_rules | `(tactic| walk_at "pw") => `(tactic| first
  | ((with_reducible show w_is_integer _ _); with_reducible refine i_is_integer (by walk_at "bi") ?_) | ((with_reducible show w_is_within _ _); with_reducible refine i_is_within (by walk_at "bi") ?_) | ((with_reducible show w_is_tuple_of _ _); with_reducible refine i_is_tuple_of (by walk_at "bi") ?_)
  | ((with_reducible show w_is_name _ _); with_reducible refine i_is_name (by walk_at "jn") ?_) | ((with_reducible show w_is_lock _ _); with_reducible refine i_is_lock (by walk_at "bi") ?_) | ((with_reducible show w_is_member _ _); with_reducible refine i_is_member (by walk_at "jn") ?_)
  | (with_reducible refine br_two ?_; intro a b e; subst e) | (with_reducible refine br_twoN ?_; intro a b e; subst e) | (with_reducible refine br_thr ?_; intro a b c e; subst e) | (with_reducible refine br_thrN ?_; intro a b c e; subst e)
  | (with_reducible refine br_int ?_; intro i e; subst e) | (with_reducible refine br_win ?_; intro i e h1 h2; subst e) | (with_reducible refine br_winN ?_; intro i e h1 h2; subst e))
theorem pln_ints : ∀ {xs : List D}, (∀ x ∈ xs, isInteger x = true) → D.plnL xs = true
  | [], _ => rfl
  | x :: xs, h => by
    obtain ⟨i, rfl⟩ := isInteger_int (h x (List.mem_cons_self ..))
    exact (pln_ints fun y hy => h y (List.mem_cons_of_mem _ hy) : D.plnL xs = true)
theorem lay_ints : ∀ {xs : List D}, (∀ x ∈ xs, isInteger x = true) → PyData.canLayAll0 (D.pyL xs) = true ∧ PyData.depthAll (D.pyL xs) ≤ 1
  | [], _ => ⟨rfl, by decide⟩
  | x :: xs, h => by
    obtain ⟨i, rfl⟩ := isInteger_int (h x (List.mem_cons_self ..))
    obtain ⟨h1, h2⟩ := lay_ints fun y hy => h y (List.mem_cons_of_mem _ hy)
    refine ⟨?_, ?_⟩
    · show (PyData.canLay0 (.int i) && PyData.canLayAll0 (D.pyL xs)) = true
      rw [h1]
      rfl
    · show PyData.depthAll (.int i :: D.pyL xs) ≤ 1
      simp only [PyData.depthAll, PyData.depth]
      omega
theorem sh_ints {xs : List D} (h : ∀ x ∈ xs, isInteger x = true) : (D.lst xs).sh = true := by
  obtain ⟨h1, h2⟩ := lay_ints h
  refine Bool.and_eq_true_iff.mpr ⟨pln_ints h, ?_⟩
  show (PyData.canLay0 (.list (D.pyL xs)) && decide (PyData.depth (.list (D.pyL xs)) ≤ 64)) = true
  refine Bool.and_eq_true_iff.mpr ⟨by simpa [PyData.canLay0] using h1, decide_eq_true ?_⟩
  simp only [PyData.depth]
  omega
theorem rng_int {lo : Int} {n : Nat} : ∀ x ∈ rngD lo n, isInteger x = true := fun x hx => by
  unfold rngD at hx
  obtain ⟨i, _, e⟩ := List.mem_map.mp hx
  rw [← e]
  rfl
theorem mem_rng {lo l : Int} {n : Nat} : D.mem (.int l) (rngD lo n) = (decide (lo ≤ l) && decide (l < lo + n)) := by
  unfold D.mem rngD
  rw [List.any_map, ← Bool.decide_and]
  have e : ((fun z => PyData.eqv z.py (D.int l).py) ∘ fun (i : Nat) => D.int (lo + (i : Int))) = fun (i : Nat) => decide (lo + (i : Int) = l) := by
    funext i
    exact eqv_int _ _
  rw [e]
  by_cases h : lo ≤ l ∧ l < lo + n
  · rw [decide_eq_true h, List.any_eq_true]
    exact ⟨(l - lo).toNat, List.mem_range.mpr (by omega), decide_eq_true (by omega)⟩
  · rw [decide_eq_false h, List.any_eq_false]
    intro i hi
    have := List.mem_range.mp hi
    rw [decide_eq_true_eq]
    omega
theorem zipD_mem : ∀ {xs ys : List D} {d : D}, d ∈ zipD xs ys → ∃ x y, x ∈ xs ∧ y ∈ ys ∧ d = .tup [x, y]
  | [], ys, d, h => by
    have e : zipD [] ys = [] := by cases ys <;> rfl
    rw [e] at h
    cases h
  | x :: xs, [], d, h => by cases h
  | x :: xs, y :: ys, d, h => by
    rcases List.mem_cons.mp h with e | h
    · exact ⟨x, y, List.mem_cons_self .., List.mem_cons_self .., e⟩
    · obtain ⟨a, b, h1, h2, h3⟩ := zipD_mem h
      exact ⟨a, b, List.mem_cons_of_mem _ h1, List.mem_cons_of_mem _ h2, h3⟩
def ltP (d : D) : Bool := match d with
  | .tup [x, y] => decide (asInt x < asInt y)
  | _ => false
theorem asc_tail : ∀ (xs : List D), (zipD xs xs.tail).all ltP = ascending xs
  | [] => rfl
  | [x] => rfl
  | x :: y :: r => by
    show (ltP (.tup [x, y]) && (zipD (y :: r) r).all ltP) = (decide (asInt x < asInt y) && ascending (y :: r))
    rw [← asc_tail (y :: r)]
    rfl
theorem cutD_one (xs : List D) : PW.cutD xs (some 1) none = xs.tail := by
  cases xs with
  | nil => rfl
  | cons y ys => rw [cutD_tail]; rfl
theorem i_leaves_beneath {a : Nat} {b : Int} {k : Res → Prop} (h1 : a ≤ 8) (h2 : 0 ≤ b) (h3 : b ≤ 256) (q : k (.nw (.lst (rngD (b * 2 ^ a) (2 ^ a))))) : w_leaves_beneath [.tup [.int a, .int b]] k := ⟨a, b, rfl, h1, h2, h3, q⟩
theorem zip_len {xs ys : List D} (h : xs.length ≤ sizeLine) : (zipD xs ys).length ≤ sizeLine := by
  rw [zipD_len]
  omega
section
local macro_rules | `(tactic| walk_at "pw") => `(tactic| first
  | with_reducible refine ye_lcm (vs := [4, 5]) (fun d => .bl (ltP d)) (own_pair (by decide)) (wipe2 (by decide)) ?_
  | with_reducible refine ye_lcm (vs := [3]) (te := PW.tCallS _ _ _) (fun l => .bl (isInteger l)) own_name wipe1 ?_)
local macro_rules | `(tactic| walk_at "sz") => `(tactic| ((with_reducible show (zipD _ _).length ≤ _); refine zip_len ?_; walk_at "sz"))
theorem pure_is_aside {K : PySem.W.Frag} : ∀ ds kk, w_is_aside ds kk → XS K (t_is_aside K) (ini 6 ds) { nx := fun _ => kk (.d .non), rt := fun r _ => kk r } := by
  rintro _ kk ⟨x, a, b, h, ls, rfl, hx, h8, ha, hb0, hb1, hl, g⟩
  show XS K (t_is_aside K) [.d x, .d (.tup [.int a, .int b]), .d (.tup ls), .u, .u, .u] (Fin kk)
  unfold t_is_aside
  obtain ⟨p1, p2⟩ := pow_le8 (a := h - a) (by omega)
  have hp : (2 : Int) ^ (h - a) * 2 ^ a = 2 ^ h := by
    rw [← Int.pow_add, Nat.sub_add_cancel ha]
  have hlI : (ls.length : Int) = 2 ^ h := by rw [hl, pow_cast]
  have q0 : 0 ≤ b * 2 ^ a := Int.mul_nonneg hb0 (by have := (pow_le8 (a := a) (by omega)).1; omega)
  have q1 : b * 2 ^ a + 2 ^ a ≤ 2 ^ h := by
    have e : b * 2 ^ a + 2 ^ a = (b + 1) * 2 ^ a := by rw [Int.add_mul, Int.one_mul]
    rw [e, ← hp]
    exact Int.mul_le_mul_of_nonneg_right (by omega) (by have := (pow_le8 (a := a) (by omega)).1; omega)
  walk_at "pws"
  · rename_i xs ha
    refine fin_bl g ?_
    simp only [isAside, ha, Bool.false_and]
  · rename_i xs hall d hd
    rw [cutD_one] at hd
    obtain ⟨x, y, hx1, hy1, rfl⟩ := zipD_mem hd
    obtain ⟨i, rfl⟩ := isInteger_int (List.all_eq_true.mp hall x hx1)
    obtain ⟨j, rfl⟩ := isInteger_int (List.all_eq_true.mp hall y (List.mem_of_mem_tail hy1))
    walk_at "pws"
  · rename_i xs hall hz
    rw [cutD_one, asc_tail] at hz
    refine fin_bl g ?_
    simp only [isAside, hz, Bool.false_and, Bool.and_false]
  · rename_i xs hall hz
    rw [cutD_one, asc_tail] at hz
    refine ye_lcm (fun l => .bl ((decide (b * 2 ^ a ≤ asInt l) && decide (asInt l < (b + 1) * 2 ^ a)) && filled ls (asInt l))) own_name wipe1 ?_
    walk_at "pws"
    · rename_i d hd
      obtain ⟨l, rfl⟩ := isInteger_int (List.all_eq_true.mp hall d hd)
      walk_at "pws"
      refine i_leaves_beneath (by omega) hb0 (by omega) ?_
      walk_at "pws"
      refine o_inL rfl (sh_ints rng_int) ?_
      rw [mem_rng]
      walk_at "pws"
      · rename_i z
        obtain ⟨z1, z2⟩ := Bool.and_eq_true_iff.mp z
        have z1 := of_decide_eq_true z1
        have z2 := of_decide_eq_true z2
        rw [← pow_cast] at z2
        have z3 : l < (b + 1) * 2 ^ a := by rw [Int.add_mul, Int.one_mul]; exact z2
        refine o_ixAnyT (by omega) (by omega) fun d he => ?_
        walk_at "pws"
        show D.bl (!d.isNon) = D.bl ((decide (b * 2 ^ a ≤ l) && decide (l < (b + 1) * 2 ^ a)) && filled ls l)
        rw [decide_eq_true z1, decide_eq_true z3]
        unfold filled
        rw [he]
        rfl
      · rename_i z
        show D.bl false = D.bl ((decide (b * 2 ^ a ≤ l) && decide (l < (b + 1) * 2 ^ a)) && filled ls l)
        rw [← pow_cast] at z
        rw [Int.add_mul, Int.one_mul, z, Bool.false_and]
    · refine fin_bl g ?_
      show ((xs.all isInteger && ascending xs) && _) = _
      rw [hall, hz]
      rfl
  · refine fin_bl g ?_
    rename_i z
    cases x <;> first
      | rfl
      | cases z
end

end LawK08
end
section
namespace LawK08
open PySem PySem.Spec PyProof.Rows L2 PW
local macro_rules | `(tactic| walk_at "env") => `(tactic| (first | (dsimp only [sto, stoE, frz, frzE, frzAll, wipeE, Res.ent, List.set, List.getElem?_cons_zero, List.getElem?_cons_succ]; done) | (dsimp only [sto, stoE, frz, frzE, frzAll, wipeE, Res.ent, List.set, List.getElem?_cons_zero, List.getElem?_cons_succ]; rfl) | rfl))
local macro_rules | `(tactic| walk_at "mem") => `(tactic| first | assumption | exact cut_sub (by assumption) | exact List.mem_cons_of_mem _ (by assumption) | (simp only [List.mem_cons, true_or, or_true]; done))
local macro_rules | `(tactic| walk_at "jn") => `(tactic| first | assumption | with_unfolding_all exact rfl | exact jnTr (by assumption) (by assumption) | exact jnTr (cut_sub (by assumption)) (by assumption) | exact jnTr (List.mem_cons_of_mem _ (by assumption)) (by assumption) | exact jnT (by assumption) (by walk_at "mem") | exact jnL' (by assumption) (by walk_at "mem") | exact jnT2 (by assumption) (by assumption) (by walk_at "mem"))
local macro_rules | `(tactic| walk_at "sz") => `(tactic| first | with_unfolding_all exact Nat.le_of_ble_eq_true rfl | assumption | exact szl (by assumption) | exact szS (by walk_at "jn") | exact szT (by walk_at "jn") | exact szTl (by assumption) | exact szL (by walk_at "jn") | exact szG (by walk_at "jn") | ((with_reducible show (PW.cutD _ _ _).length ≤ _); refine szC ?_; walk_at "sz") | with_unfolding_all exact szl (Nat.le_of_ble_eq_true rfl))
local macro_rules | `(tactic| walk_at "bi") => `(tactic| first | with_unfolding_all exact rfl | assumption | exact jn_bi (by walk_at "jn"))
local macro_rules | `(tactic| walk_at "pw") => `(tactic| first
  | ((with_reducible show PW.XE _ _ _ _); first | with_reducible refine xe_var_d (by with_unfolding_all exact rfl) ?_ | with_reducible refine xe_var_o (by with_unfolding_all exact rfl) ?_ | with_reducible refine xe_int ?_ | with_reducible refine xe_str ?_ | with_reducible refine xe_bl ?_ | with_reducible refine xe_non ?_ | with_reducible refine ye_emp ?_ | with_reducible refine xe_op ?_ | with_reducible refine xe_un ?_ | with_reducible refine xe_if ?_ | with_reducible refine xe_andV ?_ | with_reducible refine xe_orV ?_ | with_reducible refine xe_notV ?_ | with_reducible refine xe_chain ?_ | with_reducible refine xe_isi D.isTup isi_tuple ?_ | with_reducible refine xe_isi D.isLst isi_list ?_ | with_reducible refine xe_isi D.isStr isi_str ?_ | with_reducible refine xe_isi D.isInt isi_int ?_ | with_reducible refine xe_isi D.isBool isi_bool ?_ | with_reducible refine xe_isi D.isDct isi_dict ?_ | with_reducible refine xe_isi2 D.isTup D.isLst isi_tuple isi_list ?_ | with_reducible refine ye_lenSet ?_ | with_reducible refine ye_join ?_ | with_reducible refine xe_cb ?_ | with_reducible refine xe_callS ?_ | with_reducible refine ye_callH (by with_unfolding_all exact rfl) ?_ | with_reducible refine ye_call ?_ | with_reducible refine ye_tup ?_ | with_reducible refine ye_lst ?_ | with_reducible refine xe_sl ?_ | with_reducible refine ye_revT ?_ | with_reducible refine ye_rg1 ?_ | with_reducible refine ye_rg2 ?_ | with_reducible refine ye_meth (by with_unfolding_all exact rfl) (fun _ _ _ h => ty_list h) ?_ | with_reducible refine ye_meth0 (by with_unfolding_all exact rfl) (fun _ _ _ h => ty_list h) ?_)
  | ((with_reducible show PW.XA _ _ _ _); first | with_reducible refine xa_nil ?_ | with_reducible refine xa_cons ?_)
  | ((with_reducible show PW.XT _ _ _ _); first | with_reducible refine xt_yes ?_ | with_reducible refine xt_test ?_ | with_reducible refine xt_B ?_ | with_reducible refine xt_not ?_ | with_reducible refine xt_and ?_ | with_reducible refine xt_or ?_)
  | ((with_reducible show PW.XS _ _ _ _); first | with_reducible refine xs_seq ?_ | with_reducible refine xs_next ?_ | with_reducible refine ys_asg ?_ | with_reducible refine xs_if ?_ | with_reducible refine ys_ret ?_ | with_reducible refine xs_retN ?_ | with_reducible refine xs_drop ?_ | with_reducible refine xs_break ?_ | with_reducible refine xs_cont ?_ | with_reducible refine ys_par (by with_unfolding_all decide) ?_ | with_reducible refine ys_par3 (by with_unfolding_all decide) (by with_unfolding_all decide) (by with_unfolding_all decide) ?_ | with_reducible refine ys_unp2 (by with_unfolding_all decide) ?_ | with_reducible refine ys_unp3 (by with_unfolding_all decide) (by with_unfolding_all decide) (by with_unfolding_all decide) ?_ | with_reducible refine ys_setix ?_ | with_reducible refine ys_asgG ?_ | with_reducible refine xs_for ?_)
  | ((with_reducible show PW.OpD _ _ _ _ _); first | with_reducible refine o_addI ?_ | with_reducible refine o_subI ?_ | with_reducible refine o_mulI (by first | with_unfolding_all exact .inl ⟨by decide, by decide⟩ | with_unfolding_all exact .inr ⟨by decide, by decide⟩) ?_ | with_reducible refine o_mulI (cmulL (by omega) (by omega)) ?_ | with_reducible refine o_mulI (cmulR (by omega) (by omega)) ?_ | with_reducible refine o_divI (by with_unfolding_all exact ⟨by decide, by decide⟩) ?_ | with_reducible refine o_modI (by with_unfolding_all decide) ?_ | with_reducible refine o_powI (by with_unfolding_all exact ⟨by decide, by decide, by decide⟩) ?_ | with_reducible refine o_ltI ?_ | with_reducible refine o_leI ?_ | with_reducible refine o_leUI ?_ | with_reducible refine o_leP ?_ | with_reducible refine o_shlI (cpow1 (by omega) (by omega)) ?_ | with_reducible refine o_gtI ?_ | with_reducible refine o_geI ?_ | with_reducible refine o_eqI ?_ | with_reducible refine o_neI ?_ | with_reducible refine o_eqB ?_ | with_reducible refine o_neB ?_ | with_reducible refine o_isNo ?_ | with_reducible refine o_isNotNo ?_ | with_reducible refine o_isBo ?_ | with_reducible refine o_isNotBo ?_ | with_reducible refine o_inC ?_ | with_reducible refine o_notInC ?_ | with_reducible refine o_ix0 ?_ | with_reducible refine o_ix1 ?_ | with_reducible refine o_ix2 ?_ | ((with_reducible show PW.OpD _ (rIx _) (.tup _) (.int 0) _); refine o_ix0e (ne_len (by omega)) ?_; intro y ys e; subst e) | with_reducible refine o_ixT (by with_unfolding_all exact rfl) ?_ | with_reducible refine o_ixL (by with_unfolding_all exact rfl) ?_)
  | ((with_reducible show PW.CaD _ _ _ _); first | with_reducible refine c_lenT ?_ | with_reducible refine c_lenL ?_ | with_reducible refine c_intI ?_ | with_reducible refine c_intB ?_ | with_reducible refine c_absI ?_ | with_reducible refine c_allM ?_ | with_reducible refine c_anyM ?_ | with_reducible refine c_tupL ?_ | with_reducible refine c_tupT ?_ | with_reducible refine c_lstL ?_ | with_reducible refine c_lstT ?_ | ((with_reducible show CaD _ (rLenU _) [.str _] _); with_reducible refine c_lenS (by walk_at "sz") ?_))
  | ((with_reducible show PW.XI _ _ _ _); first | with_reducible refine yi_seqU ?_ | with_reducible refine yi_enum ?_ | with_reducible refine yi_zip ?_ | with_reducible refine xi_range1 ?_ | with_reducible refine xi_range2 ?_)
  | ((with_reducible show PW.XG _ _ _ _ _); first | with_reducible refine yg_name ?_ | with_reducible refine xg_tup (by with_unfolding_all exact rfl) ?_)
  | ((with_reducible show PW.XGs _ _ _ _ _); first | with_reducible refine xgs_nil ?_ | with_reducible refine xgs_cons ?_)
  | ((with_reducible show PW.XM _ _ _ _ _); first | with_reducible refine xm_nil ?_ | with_reducible refine xm_cons ?_)
  | ((with_reducible show PW.XO _ _ _ _); first | with_reducible refine xo_none ?_ | with_reducible refine xo_some ?_)
  | ((with_reducible show PW.SlD _ _ _ _ _ _); first | with_reducible refine sl_tail ?_ | with_reducible refine sl_T ?_ | with_reducible refine sl_L ?_)
  | ((with_reducible show PW.UnD _ _ _ _); first | with_reducible refine u_neg ?_)
  | ((with_reducible show PW.back _ _ _); first | with_reducible refine back_d ?_ | with_reducible refine back_nw ?_ | with_reducible refine back_v (by with_unfolding_all exact rfl) ?_)
  | walk_at "cnt"
  | walk_at "br")
local macro_rules | `(tactic| walk_at "cnt") => `(tactic| first
  | with_reducible refine ex_env (by walk_at "env") ?_
  | ((with_reducible show ∃ x : List D, _ = some x ∧ x.length ≤ _ ∧ _); with_reducible refine ex_pks2 (by with_unfolding_all exact rfl) (by walk_at "sz") ?_)
  | with_reducible refine ex_pks (by with_unfolding_all exact rfl) ?_
  | ((with_reducible show ∃ x : D, _ = some x ∧ x.isBuiltin = true ∧ _); with_reducible refine ex_pk2 (by with_unfolding_all exact rfl) (by walk_at "bi") ?_)
  | with_reducible refine lc_fin (by with_unfolding_all exact rfl) (by with_unfolding_all exact rfl) ?_
  | with_reducible refine lcf_fin (by with_unfolding_all exact rfl) (by with_unfolding_all exact rfl) ?_
  | with_reducible refine ex_pk (by with_unfolding_all exact rfl) ?_
  | with_reducible refine ex_op (by with_unfolding_all exact rfl) (by with_unfolding_all exact rfl) ?_
  | with_reducible refine ex_it (by with_unfolding_all exact rfl) (by with_unfolding_all exact rfl) ?_
  | with_reducible refine ex_its (by with_unfolding_all exact rfl) (by with_unfolding_all exact rfl) ?_
  | with_reducible refine ex_zip (by with_unfolding_all exact rfl) (by with_unfolding_all exact rfl) ?_
  | with_reducible refine ex_bl ?_
  | with_reducible refine ex_int ?_
  | with_reducible refine ex_sc (by with_unfolding_all exact rfl) ?_
  | with_reducible refine and_brT ?_
  | with_reducible refine and_brF ?_
  | with_reducible refine and_rbT ?_
  | with_reducible refine and_rbF ?_
  | with_reducible refine and_nT ?_
  | with_reducible refine and_nF ?_
  | with_reducible refine and_mT ?_
  | with_reducible refine and_mF ?_
  | with_reducible refine and_br ?_ ?_
  | with_reducible refine and_rb ?_ ?_
  | with_reducible refine ⟨nv_d, ?_⟩
  | with_reducible refine ⟨nv_nw, ?_⟩)
local macro_rules | `(tactic| walk_at "br") => `(tactic| first
  | (with_reducible refine br_tup ?_; intro xs e; subst e)
  | (with_reducible refine br_tupN ?_; intro xs e; subst e)
  | (with_reducible refine br_lst ?_; intro xs e; subst e)
  | (with_reducible refine br_lstN ?_; intro xs e; subst e)
  | (with_reducible refine br_str ?_; intro xs e; subst e)
  | (with_reducible refine br_strN ?_; intro xs e; subst e)
  | (with_reducible refine br_non ?_; intro e; subst e)
  | (with_reducible refine br_nonN ?_; intro e; subst e)
  | (with_reducible refine br_t ?_; intro h; first | (cases h; done) | (simp only [lenc, List.length_nil, decide_eq_true_eq, decide_eq_false_iff_not] at h; omega) | exact absurd (show true = false from h) (by decide) | exact absurd (show false = true from h) (by decide) | (simp only [lenc, List.length_nil, Bool.not_eq_true', Bool.not_eq_false', decide_eq_true_eq, decide_eq_false_iff_not] at h) | skip)
  | (with_reducible refine br_f ?_; intro h; first | (cases h; done) | (simp only [lenc, List.length_nil, decide_eq_true_eq, decide_eq_false_iff_not] at h; omega) | exact absurd (show true = false from h) (by decide) | exact absurd (show false = true from h) (by decide) | (simp only [lenc, List.length_nil, Bool.not_eq_true', Bool.not_eq_false', decide_eq_true_eq, decide_eq_false_iff_not] at h) | skip)
  | (with_reducible refine signs_one ?_; intro c)
  | (with_reducible refine fa_mem ?_; intro d hd)
  | ((with_reducible show _ ≤ sizeLine ∧ _); with_reducible refine lc_split (by walk_at "sz") (by walk_at "env") ?_ ?_)
  | ((with_reducible show wipeE _ _ = _ ∧ _); with_reducible refine lc_env (by walk_at "env") ?_)
  | ((with_reducible show (_ : D) = _); exact rfl))
local macro_rules | `(tactic| walk_at "pws") => `(tactic| repeat' walk_at "pw")
local macro_rules | `(tactic| walk_at "pw") => `(tactic| first
  | ((with_reducible show w_is_integer _ _); with_reducible refine i_is_integer (by walk_at "bi") ?_) | ((with_reducible show w_is_within _ _); with_reducible refine i_is_within (by walk_at "bi") ?_) | ((with_reducible show w_is_tuple_of _ _); with_reducible refine i_is_tuple_of (by walk_at "bi") ?_)
  | ((with_reducible show w_is_name _ _); with_reducible refine i_is_name (by walk_at "jn") ?_) | ((with_reducible show w_is_lock _ _); with_reducible refine i_is_lock (by walk_at "bi") ?_) | ((with_reducible show w_is_member _ _); with_reducible refine i_is_member (by walk_at "jn") ?_)
  | (with_reducible refine br_two ?_; intro a b e; subst e) | (with_reducible refine br_twoN ?_; intro a b e; subst e) | (with_reducible refine br_thr ?_; intro a b c e; subst e) | (with_reducible refine br_thrN ?_; intro a b c e; subst e)
  | (with_reducible refine br_int ?_; intro i e; subst e) | (with_reducible refine br_win ?_; intro i e h1 h2; subst e) | (with_reducible refine br_winN ?_; intro i e h1 h2; subst e))
theorem i_is_aside {x : D} {a h : Nat} {b : Int} {ls : List D} {k : Res → Prop} (h0 : x.jn = true) (h1 : h ≤ 8) (h2 : a ≤ h) (h3 : 0 ≤ b) (h4 : b ≤ 2 ^ (h - a) - 1) (h5 : ls.length = 2 ^ h) (q : k (.d (.bl (isAside x a b ls)))) : w_is_aside [x, .tup [.int a, .int b], .tup ls] k :=
  ⟨x, a, b, h, ls, rfl, h0, h1, h2, h3, h4, h5, q⟩
theorem nodes_not3 {h : Int} {ls r : List D} {p : Int × Int} {x : D} (z : isTupleOf x 3 = false) : nodesFrom h ls p (x :: r) = false := by
  unfold nodesFrom
  split
  · cases z
  · rfl
theorem br_leP {a b c d : Int} {P : Prop} (h : pairLe a b c d = false → P) : pairLe a b c d = false → P := h
local macro_rules | `(tactic| walk_at "pw") => `(tactic| first
  | ((with_reducible show w_is_node _ _); with_reducible refine i_is_node (by walk_at "jn") (by assumption) (by with_unfolding_all decide) ?_)
  | ((with_reducible show w_is_aside _ _); with_reducible refine i_is_aside (by walk_at "jn") (by assumption) (by assumption) (by assumption) (by assumption) (by assumption) ?_)
  | (with_reducible refine br_node ?_; intro a b e h1 h2 h3 h4 h5; subst e))
theorem pure_are_nodes {K : PySem.W.Frag} : ∀ ds kk, w_are_nodes ds kk → XS K (t_are_nodes K) (ini 5 ds) { nx := fun _ => kk (.d .non), rt := fun r _ => kk r } := by
  rintro _ kk ⟨x, h, ls, rfl, hx, h8, hl, g⟩
  show XS K (t_are_nodes K) [.d x, .d (.int h), .d (.tup ls), .u, .u] (Fin kk)
  unfold t_are_nodes
  walk_at "pws"
  · refine fin_bl g ?_
    rename_i z
    cases x <;> first
      | rfl
      | cases z
  · rename_i ns
    refine ⟨fun i ρ => ∃ (u v : Int) (e4 : Ent), ρ = [.d (.tup ns), .d (.int h), .d (.tup ls), .d (.tup [.int u, .int v]), e4] ∧ areNodes (.tup ns) h ls = nodesFrom h ls (u, v) (ns.drop i), ⟨0, 0, _, rfl, rfl⟩, ?_, ?_⟩
    · rintro i d ρ' hd ⟨u, v, e4, rfl, hi⟩
      rw [drop_at hd] at hi
      have hm := List.mem_of_getElem? hd
      have hj := jnT hx hm
      walk_at "pws"
      all_goals first
        | exact fin_bl g (hi.trans (nodes_not3 (by assumption)))
        | exact fin_bl g (hi.trans (nodes_bad (by assumption)))
        | (refine fin_bl g (hi.trans ?_); rw [nodes_eq (by assumption)]; simp [*]; done)
        | (refine ⟨_, _, _, rfl, hi.trans ?_⟩; rw [nodes_eq (by assumption)]; simp [*]; done)
    · rintro ρ' ⟨u, v, e4, rfl, hi⟩
      rw [List.drop_length] at hi
      walk_at "pws"
      exact fin_bl g hi

end LawK08
end
section
namespace LawK08
open PySem PySem.Spec PyProof.Rows L2 PW
local macro_rules | `(tactic| walk_at "env") => `(tactic| (first | (dsimp only [sto, stoE, frz, frzE, frzAll, wipeE, Res.ent, List.set, List.getElem?_cons_zero, List.getElem?_cons_succ]; done) | (dsimp only [sto, stoE, frz, frzE, frzAll, wipeE, Res.ent, List.set, List.getElem?_cons_zero, List.getElem?_cons_succ]; rfl) | rfl))
local macro_rules | `(tactic| walk_at "mem") => `(tactic| first | assumption | exact cut_sub (by assumption) | exact List.mem_cons_of_mem _ (by assumption) | (simp only [List.mem_cons, true_or, or_true]; done))
local macro_rules | `(tactic| walk_at "jn") => `(tactic| first | assumption | with_unfolding_all exact rfl | exact jnTr (by assumption) (by assumption) | exact jnTr (cut_sub (by assumption)) (by assumption) | exact jnTr (List.mem_cons_of_mem _ (by assumption)) (by assumption) | exact jnT (by assumption) (by walk_at "mem") | exact jnL' (by assumption) (by walk_at "mem") | exact jnT2 (by assumption) (by assumption) (by walk_at "mem"))
local macro_rules | `(tactic| walk_at "sz") => `(tactic| first | with_unfolding_all exact Nat.le_of_ble_eq_true rfl | assumption | exact szl (by assumption) | exact szS (by walk_at "jn") | exact szT (by walk_at "jn") | exact szTl (by assumption) | exact szL (by walk_at "jn") | exact szG (by walk_at "jn") | ((with_reducible show (PW.cutD _ _ _).length ≤ _); refine szC ?_; walk_at "sz") | with_unfolding_all exact szl (Nat.le_of_ble_eq_true rfl))
local macro_rules | `(tactic| walk_at "bi") => `(tactic| first | with_unfolding_all exact rfl | assumption | exact jn_bi (by walk_at "jn"))
local macro_rules | `(tactic| walk_at "pw") => `(tactic| first
  | ((with_reducible show PW.XE _ _ _ _); first | with_reducible refine xe_var_d (by with_unfolding_all exact rfl) ?_ | with_reducible refine xe_var_o (by with_unfolding_all exact rfl) ?_ | with_reducible refine xe_int ?_ | with_reducible refine xe_str ?_ | with_reducible refine xe_bl ?_ | with_reducible refine xe_non ?_ | with_reducible refine ye_emp ?_ | with_reducible refine xe_op ?_ | with_reducible refine xe_un ?_ | with_reducible refine xe_if ?_ | with_reducible refine xe_andV ?_ | with_reducible refine xe_orV ?_ | with_reducible refine xe_notV ?_ | with_reducible refine xe_chain ?_ | with_reducible refine xe_isi D.isTup isi_tuple ?_ | with_reducible refine xe_isi D.isLst isi_list ?_ | with_reducible refine xe_isi D.isStr isi_str ?_ | with_reducible refine xe_isi D.isInt isi_int ?_ | with_reducible refine xe_isi D.isBool isi_bool ?_ | with_reducible refine xe_isi D.isDct isi_dict ?_ | with_reducible refine xe_isi2 D.isTup D.isLst isi_tuple isi_list ?_ | with_reducible refine ye_lenSet ?_ | with_reducible refine ye_join ?_ | with_reducible refine xe_cb ?_ | with_reducible refine xe_callS ?_ | with_reducible refine ye_callH (by with_unfolding_all exact rfl) ?_ | with_reducible refine ye_call ?_ | with_reducible refine ye_tup ?_ | with_reducible refine ye_lst ?_ | with_reducible refine xe_sl ?_ | with_reducible refine ye_revT ?_ | with_reducible refine ye_rg1 ?_ | with_reducible refine ye_rg2 ?_ | with_reducible refine ye_meth (by with_unfolding_all exact rfl) (fun _ _ _ h => ty_list h) ?_ | with_reducible refine ye_meth0 (by with_unfolding_all exact rfl) (fun _ _ _ h => ty_list h) ?_)
  | ((with_reducible show PW.XA _ _ _ _); first | with_reducible refine xa_nil ?_ | with_reducible refine xa_cons ?_)
  | ((with_reducible show PW.XT _ _ _ _); first | with_reducible refine xt_yes ?_ | with_reducible refine xt_test ?_ | with_reducible refine xt_B ?_ | with_reducible refine xt_not ?_ | with_reducible refine xt_and ?_ | with_reducible refine xt_or ?_)
  | ((with_reducible show PW.XS _ _ _ _); first | with_reducible refine xs_seq ?_ | with_reducible refine xs_next ?_ | with_reducible refine ys_asg ?_ | with_reducible refine xs_if ?_ | with_reducible refine ys_ret ?_ | with_reducible refine xs_retN ?_ | with_reducible refine xs_drop ?_ | with_reducible refine xs_break ?_ | with_reducible refine xs_cont ?_ | with_reducible refine ys_par (by with_unfolding_all decide) ?_ | with_reducible refine ys_par3 (by with_unfolding_all decide) (by with_unfolding_all decide) (by with_unfolding_all decide) ?_ | with_reducible refine ys_unp2 (by with_unfolding_all decide) ?_ | with_reducible refine ys_unp3 (by with_unfolding_all decide) (by with_unfolding_all decide) (by with_unfolding_all decide) ?_ | with_reducible refine ys_setix ?_ | with_reducible refine ys_asgG ?_ | with_reducible refine xs_for ?_)
  | ((with_reducible show PW.OpD _ _ _ _ _); first | with_reducible refine o_addI ?_ | with_reducible refine o_subI ?_ | with_reducible refine o_mulI (by first | with_unfolding_all exact .inl ⟨by decide, by decide⟩ | with_unfolding_all exact .inr ⟨by decide, by decide⟩) ?_ | with_reducible refine o_mulI (cmulL (by omega) (by omega)) ?_ | with_reducible refine o_mulI (cmulR (by omega) (by omega)) ?_ | with_reducible refine o_divI (by with_unfolding_all exact ⟨by decide, by decide⟩) ?_ | with_reducible refine o_modI (by with_unfolding_all decide) ?_ | with_reducible refine o_powI (by with_unfolding_all exact ⟨by decide, by decide, by decide⟩) ?_ | with_reducible refine o_ltI ?_ | with_reducible refine o_leI ?_ | with_reducible refine o_leUI ?_ | with_reducible refine o_leP ?_ | with_reducible refine o_shlI (cpow1 (by omega) (by omega)) ?_ | with_reducible refine o_gtI ?_ | with_reducible refine o_geI ?_ | with_reducible refine o_eqI ?_ | with_reducible refine o_neI ?_ | with_reducible refine o_eqB ?_ | with_reducible refine o_neB ?_ | with_reducible refine o_isNo ?_ | with_reducible refine o_isNotNo ?_ | with_reducible refine o_isBo ?_ | with_reducible refine o_isNotBo ?_ | with_reducible refine o_inC ?_ | with_reducible refine o_notInC ?_ | with_reducible refine o_ix0 ?_ | with_reducible refine o_ix1 ?_ | with_reducible refine o_ix2 ?_ | ((with_reducible show PW.OpD _ (rIx _) (.tup _) (.int 0) _); refine o_ix0e (ne_len (by omega)) ?_; intro y ys e; subst e) | with_reducible refine o_ixT (by with_unfolding_all exact rfl) ?_ | with_reducible refine o_ixL (by with_unfolding_all exact rfl) ?_)
  | ((with_reducible show PW.CaD _ _ _ _); first | with_reducible refine c_lenT ?_ | with_reducible refine c_lenL ?_ | with_reducible refine c_intI ?_ | with_reducible refine c_intB ?_ | with_reducible refine c_absI ?_ | with_reducible refine c_allM ?_ | with_reducible refine c_anyM ?_ | with_reducible refine c_tupL ?_ | with_reducible refine c_tupT ?_ | with_reducible refine c_lstL ?_ | with_reducible refine c_lstT ?_ | ((with_reducible show CaD _ (rLenU _) [.str _] _); with_reducible refine c_lenS (by walk_at "sz") ?_))
  | ((with_reducible show PW.XI _ _ _ _); first | with_reducible refine yi_seqU ?_ | with_reducible refine yi_enum ?_ | with_reducible refine yi_zip ?_ | with_reducible refine xi_range1 ?_ | with_reducible refine xi_range2 ?_)
  | ((with_reducible show PW.XG _ _ _ _ _); first | with_reducible refine yg_name ?_ | with_reducible refine xg_tup (by with_unfolding_all exact rfl) ?_)
  | ((with_reducible show PW.XGs _ _ _ _ _); first | with_reducible refine xgs_nil ?_ | with_reducible refine xgs_cons ?_)
  | ((with_reducible show PW.XM _ _ _ _ _); first | with_reducible refine xm_nil ?_ | with_reducible refine xm_cons ?_)
  | ((with_reducible show PW.XO _ _ _ _); first | with_reducible refine xo_none ?_ | with_reducible refine xo_some ?_)
  | ((with_reducible show PW.SlD _ _ _ _ _ _); first | with_reducible refine sl_tail ?_ | with_reducible refine sl_T ?_ | with_reducible refine sl_L ?_)
  | ((with_reducible show PW.UnD _ _ _ _); first | with_reducible refine u_neg ?_)
  | ((with_reducible show PW.back _ _ _); first | with_reducible refine back_d ?_ | with_reducible refine back_nw ?_ | with_reducible refine back_v (by with_unfolding_all exact rfl) ?_)
  | walk_at "cnt"
  | walk_at "br")
local macro_rules | `(tactic| walk_at "cnt") => `(tactic| first
  | with_reducible refine ex_env (by walk_at "env") ?_
  | ((with_reducible show ∃ x : List D, _ = some x ∧ x.length ≤ _ ∧ _); with_reducible refine ex_pks2 (by with_unfolding_all exact rfl) (by walk_at "sz") ?_)
  | with_reducible refine ex_pks (by with_unfolding_all exact rfl) ?_
  | ((with_reducible show ∃ x : D, _ = some x ∧ x.isBuiltin = true ∧ _); with_reducible refine ex_pk2 (by with_unfolding_all exact rfl) (by walk_at "bi") ?_)
  | with_reducible refine lc_fin (by with_unfolding_all exact rfl) (by with_unfolding_all exact rfl) ?_
  | with_reducible refine lcf_fin (by with_unfolding_all exact rfl) (by with_unfolding_all exact rfl) ?_
  | with_reducible refine ex_pk (by with_unfolding_all exact rfl) ?_
  | with_reducible refine ex_op (by with_unfolding_all exact rfl) (by with_unfolding_all exact rfl) ?_
  | with_reducible refine ex_it (by with_unfolding_all exact rfl) (by with_unfolding_all exact rfl) ?_
  | with_reducible refine ex_its (by with_unfolding_all exact rfl) (by with_unfolding_all exact rfl) ?_
  | with_reducible refine ex_zip (by with_unfolding_all exact rfl) (by with_unfolding_all exact rfl) ?_
  | with_reducible refine ex_bl ?_
  | with_reducible refine ex_int ?_
  | with_reducible refine ex_sc (by with_unfolding_all exact rfl) ?_
  | with_reducible refine and_brT ?_
  | with_reducible refine and_brF ?_
  | with_reducible refine and_rbT ?_
  | with_reducible refine and_rbF ?_
  | with_reducible refine and_nT ?_
  | with_reducible refine and_nF ?_
  | with_reducible refine and_mT ?_
  | with_reducible refine and_mF ?_
  | with_reducible refine and_br ?_ ?_
  | with_reducible refine and_rb ?_ ?_
  | with_reducible refine ⟨nv_d, ?_⟩
  | with_reducible refine ⟨nv_nw, ?_⟩)
local macro_rules | `(tactic| walk_at "br") => `(tactic| first
  | (with_reducible refine br_tup ?_; intro xs e; subst e)
  | (with_reducible refine br_tupN ?_; intro xs e; subst e)
  | (with_reducible refine br_lst ?_; intro xs e; subst e)
  | (with_reducible refine br_lstN ?_; intro xs e; subst e)
  | (with_reducible refine br_str ?_; intro xs e; subst e)
  | (with_reducible refine br_strN ?_; intro xs e; subst e)
  | (with_reducible refine br_non ?_; intro e; subst e)
  | (with_reducible refine br_nonN ?_; intro e; subst e)
  | (with_reducible refine br_t ?_; intro h; first | (cases h; done) | (simp only [lenc, List.length_nil, decide_eq_true_eq, decide_eq_false_iff_not] at h; omega) | exact absurd (show true = false from h) (by decide) | exact absurd (show false = true from h) (by decide) | (simp only [lenc, List.length_nil, Bool.not_eq_true', Bool.not_eq_false', decide_eq_true_eq, decide_eq_false_iff_not] at h) | skip)
  | (with_reducible refine br_f ?_; intro h; first | (cases h; done) | (simp only [lenc, List.length_nil, decide_eq_true_eq, decide_eq_false_iff_not] at h; omega) | exact absurd (show true = false from h) (by decide) | exact absurd (show false = true from h) (by decide) | (simp only [lenc, List.length_nil, Bool.not_eq_true', Bool.not_eq_false', decide_eq_true_eq, decide_eq_false_iff_not] at h) | skip)
  | (with_reducible refine signs_one ?_; intro c)
  | (with_reducible refine fa_mem ?_; intro d hd)
  | ((with_reducible show _ ≤ sizeLine ∧ _); with_reducible refine lc_split (by walk_at "sz") (by walk_at "env") ?_ ?_)
  | ((with_reducible show wipeE _ _ = _ ∧ _); with_reducible refine lc_env (by walk_at "env") ?_)
  | ((with_reducible show (_ : D) = _); exact rfl))
local macro_rules | `(tactic| walk_at "pws") => `(tactic| repeat' walk_at "pw")
theorem pure_law_mixed {K : PySem.W.Frag} : ∀ ds kk, w_law_mixed ds kk → XS K (t_law_mixed K) (ini 2 ds) { nx := fun _ => kk (.d .non), rt := fun r _ => kk r } := by
  rintro _ kk ⟨a, b, rfl, g⟩
  show XS K (t_law_mixed K) [.d (.int a), .d (.int b)] { nx := fun _ => kk (.d .non), rt := fun r _ => kk r }
  unfold t_law_mixed
  walk_at "pws"
  all_goals first
    | exact g _ (Int.emod_nonneg _ (by decide)) (Int.emod_lt_of_pos _ (by decide))
    | trace_state

end LawK08
end
section
namespace LawK08
open PySem PySem.Spec PyProof.Rows L2 PW
local macro_rules | `(tactic| walk_at "env") => `(tactic| (first | (dsimp only [sto, stoE, frz, frzE, frzAll, wipeE, Res.ent, List.set, List.getElem?_cons_zero, List.getElem?_cons_succ]; done) | (dsimp only [sto, stoE, frz, frzE, frzAll, wipeE, Res.ent, List.set, List.getElem?_cons_zero, List.getElem?_cons_succ]; rfl) | rfl))
local macro_rules | `(tactic| walk_at "mem") => `(tactic| first | assumption | exact cut_sub (by assumption) | exact List.mem_cons_of_mem _ (by assumption) | (simp only [List.mem_cons, true_or, or_true]; done))
local macro_rules | `(tactic| walk_at "jn") => `(tactic| first | assumption | with_unfolding_all exact rfl | exact jnTr (by assumption) (by assumption) | exact jnTr (cut_sub (by assumption)) (by assumption) | exact jnTr (List.mem_cons_of_mem _ (by assumption)) (by assumption) | exact jnT (by assumption) (by walk_at "mem") | exact jnL' (by assumption) (by walk_at "mem") | exact jnT2 (by assumption) (by assumption) (by walk_at "mem"))
local macro_rules | `(tactic| walk_at "sz") => `(tactic| first | with_unfolding_all exact Nat.le_of_ble_eq_true rfl | assumption | exact szl (by assumption) | exact szS (by walk_at "jn") | exact szT (by walk_at "jn") | exact szTl (by assumption) | exact szL (by walk_at "jn") | exact szG (by walk_at "jn") | ((with_reducible show (PW.cutD _ _ _).length ≤ _); refine szC ?_; walk_at "sz") | with_unfolding_all exact szl (Nat.le_of_ble_eq_true rfl))
local macro_rules | `(tactic| walk_at "bi") => `(tactic| first | with_unfolding_all exact rfl | assumption | exact jn_bi (by walk_at "jn"))
local macro_rules | `(tactic| walk_at "pw") => `(tactic| first
  | ((with_reducible show PW.XE _ _ _ _); first | with_reducible refine xe_var_d (by with_unfolding_all exact rfl) ?_ | with_reducible refine xe_var_o (by with_unfolding_all exact rfl) ?_ | with_reducible refine xe_int ?_ | with_reducible refine xe_str ?_ | with_reducible refine xe_bl ?_ | with_reducible refine xe_non ?_ | with_reducible refine ye_emp ?_ | with_reducible refine xe_op ?_ | with_reducible refine xe_un ?_ | with_reducible refine xe_if ?_ | with_reducible refine xe_andV ?_ | with_reducible refine xe_orV ?_ | with_reducible refine xe_notV ?_ | with_reducible refine xe_chain ?_ | with_reducible refine xe_isi D.isTup isi_tuple ?_ | with_reducible refine xe_isi D.isLst isi_list ?_ | with_reducible refine xe_isi D.isStr isi_str ?_ | with_reducible refine xe_isi D.isInt isi_int ?_ | with_reducible refine xe_isi D.isBool isi_bool ?_ | with_reducible refine xe_isi D.isDct isi_dict ?_ | with_reducible refine xe_isi2 D.isTup D.isLst isi_tuple isi_list ?_ | with_reducible refine ye_lenSet ?_ | with_reducible refine ye_join ?_ | with_reducible refine xe_cb ?_ | with_reducible refine xe_callS ?_ | with_reducible refine ye_callH (by with_unfolding_all exact rfl) ?_ | with_reducible refine ye_call ?_ | with_reducible refine ye_tup ?_ | with_reducible refine ye_lst ?_ | with_reducible refine xe_sl ?_ | with_reducible refine ye_revT ?_ | with_reducible refine ye_rg1 ?_ | with_reducible refine ye_rg2 ?_ | with_reducible refine ye_meth (by with_unfolding_all exact rfl) (fun _ _ _ h => ty_list h) ?_ | with_reducible refine ye_meth0 (by with_unfolding_all exact rfl) (fun _ _ _ h => ty_list h) ?_)
  | ((with_reducible show PW.XA _ _ _ _); first | with_reducible refine xa_nil ?_ | with_reducible refine xa_cons ?_)
  | ((with_reducible show PW.XT _ _ _ _); first | with_reducible refine xt_yes ?_ | with_reducible refine xt_test ?_ | with_reducible refine xt_B ?_ | with_reducible refine xt_not ?_ | with_reducible refine xt_and ?_ | with_reducible refine xt_or ?_)
  | ((with_reducible show PW.XS _ _ _ _); first | with_reducible refine xs_seq ?_ | with_reducible refine xs_next ?_ | with_reducible refine ys_asg ?_ | with_reducible refine xs_if ?_ | with_reducible refine ys_ret ?_ | with_reducible refine xs_retN ?_ | with_reducible refine xs_drop ?_ | with_reducible refine xs_break ?_ | with_reducible refine xs_cont ?_ | with_reducible refine ys_par (by with_unfolding_all decide) ?_ | with_reducible refine ys_par3 (by with_unfolding_all decide) (by with_unfolding_all decide) (by with_unfolding_all decide) ?_ | with_reducible refine ys_unp2 (by with_unfolding_all decide) ?_ | with_reducible refine ys_unp3 (by with_unfolding_all decide) (by with_unfolding_all decide) (by with_unfolding_all decide) ?_ | with_reducible refine ys_setix ?_ | with_reducible refine ys_asgG ?_ | with_reducible refine xs_for ?_)
  | ((with_reducible show PW.OpD _ _ _ _ _); first | with_reducible refine o_addI ?_ | with_reducible refine o_subI ?_ | with_reducible refine o_mulI (by first | with_unfolding_all exact .inl ⟨by decide, by decide⟩ | with_unfolding_all exact .inr ⟨by decide, by decide⟩) ?_ | with_reducible refine o_mulI (cmulL (by omega) (by omega)) ?_ | with_reducible refine o_mulI (cmulR (by omega) (by omega)) ?_ | with_reducible refine o_divI (by with_unfolding_all exact ⟨by decide, by decide⟩) ?_ | with_reducible refine o_modI (by with_unfolding_all decide) ?_ | with_reducible refine o_powI (by with_unfolding_all exact ⟨by decide, by decide, by decide⟩) ?_ | with_reducible refine o_ltI ?_ | with_reducible refine o_leI ?_ | with_reducible refine o_leUI ?_ | with_reducible refine o_leP ?_ | with_reducible refine o_shlI (cpow1 (by omega) (by omega)) ?_ | with_reducible refine o_gtI ?_ | with_reducible refine o_geI ?_ | with_reducible refine o_eqI ?_ | with_reducible refine o_neI ?_ | with_reducible refine o_eqB ?_ | with_reducible refine o_neB ?_ | with_reducible refine o_isNo ?_ | with_reducible refine o_isNotNo ?_ | with_reducible refine o_isBo ?_ | with_reducible refine o_isNotBo ?_ | with_reducible refine o_inC ?_ | with_reducible refine o_notInC ?_ | with_reducible refine o_ix0 ?_ | with_reducible refine o_ix1 ?_ | with_reducible refine o_ix2 ?_ | ((with_reducible show PW.OpD _ (rIx _) (.tup _) (.int 0) _); refine o_ix0e (ne_len (by omega)) ?_; intro y ys e; subst e) | with_reducible refine o_ixT (by with_unfolding_all exact rfl) ?_ | with_reducible refine o_ixL (by with_unfolding_all exact rfl) ?_)
  | ((with_reducible show PW.CaD _ _ _ _); first | with_reducible refine c_lenT ?_ | with_reducible refine c_lenL ?_ | with_reducible refine c_intI ?_ | with_reducible refine c_intB ?_ | with_reducible refine c_absI ?_ | with_reducible refine c_allM ?_ | with_reducible refine c_anyM ?_ | with_reducible refine c_tupL ?_ | with_reducible refine c_tupT ?_ | with_reducible refine c_lstL ?_ | with_reducible refine c_lstT ?_ | ((with_reducible show CaD _ (rLenU _) [.str _] _); with_reducible refine c_lenS (by walk_at "sz") ?_))
  | ((with_reducible show PW.XI _ _ _ _); first | with_reducible refine yi_seqU ?_ | with_reducible refine yi_enum ?_ | with_reducible refine yi_zip ?_ | with_reducible refine xi_range1 ?_ | with_reducible refine xi_range2 ?_)
  | ((with_reducible show PW.XG _ _ _ _ _); first | with_reducible refine yg_name ?_ | with_reducible refine xg_tup (by with_unfolding_all exact rfl) ?_)
  | ((with_reducible show PW.XGs _ _ _ _ _); first | with_reducible refine xgs_nil ?_ | with_reducible refine xgs_cons ?_)
  | ((with_reducible show PW.XM _ _ _ _ _); first | with_reducible refine xm_nil ?_ | with_reducible refine xm_cons ?_)
  | ((with_reducible show PW.XO _ _ _ _); first | with_reducible refine xo_none ?_ | with_reducible refine xo_some ?_)
  | ((with_reducible show PW.SlD _ _ _ _ _ _); first | with_reducible refine sl_tail ?_ | with_reducible refine sl_T ?_ | with_reducible refine sl_L ?_)
  | ((with_reducible show PW.UnD _ _ _ _); first | with_reducible refine u_neg ?_)
  | ((with_reducible show PW.back _ _ _); first | with_reducible refine back_d ?_ | with_reducible refine back_nw ?_ | with_reducible refine back_v (by with_unfolding_all exact rfl) ?_)
  | walk_at "cnt"
  | walk_at "br")
local macro_rules | `(tactic| walk_at "cnt") => `(tactic| first
  | with_reducible refine ex_env (by walk_at "env") ?_
  | ((with_reducible show ∃ x : List D, _ = some x ∧ x.length ≤ _ ∧ _); with_reducible refine ex_pks2 (by with_unfolding_all exact rfl) (by walk_at "sz") ?_)
  | with_reducible refine ex_pks (by with_unfolding_all exact rfl) ?_
  | ((with_reducible show ∃ x : D, _ = some x ∧ x.isBuiltin = true ∧ _); with_reducible refine ex_pk2 (by with_unfolding_all exact rfl) (by walk_at "bi") ?_)
  | with_reducible refine lc_fin (by with_unfolding_all exact rfl) (by with_unfolding_all exact rfl) ?_
  | with_reducible refine lcf_fin (by with_unfolding_all exact rfl) (by with_unfolding_all exact rfl) ?_
  | with_reducible refine ex_pk (by with_unfolding_all exact rfl) ?_
  | with_reducible refine ex_op (by with_unfolding_all exact rfl) (by with_unfolding_all exact rfl) ?_
  | with_reducible refine ex_it (by with_unfolding_all exact rfl) (by with_unfolding_all exact rfl) ?_
  | with_reducible refine ex_its (by with_unfolding_all exact rfl) (by with_unfolding_all exact rfl) ?_
  | with_reducible refine ex_zip (by with_unfolding_all exact rfl) (by with_unfolding_all exact rfl) ?_
  | with_reducible refine ex_bl ?_
  | with_reducible refine ex_int ?_
  | with_reducible refine ex_sc (by with_unfolding_all exact rfl) ?_
  | with_reducible refine and_brT ?_
  | with_reducible refine and_brF ?_
  | with_reducible refine and_rbT ?_
  | with_reducible refine and_rbF ?_
  | with_reducible refine and_nT ?_
  | with_reducible refine and_nF ?_
  | with_reducible refine and_mT ?_
  | with_reducible refine and_mF ?_
  | with_reducible refine and_br ?_ ?_
  | with_reducible refine and_rb ?_ ?_
  | with_reducible refine ⟨nv_d, ?_⟩
  | with_reducible refine ⟨nv_nw, ?_⟩)
local macro_rules | `(tactic| walk_at "br") => `(tactic| first
  | (with_reducible refine br_tup ?_; intro xs e; subst e)
  | (with_reducible refine br_tupN ?_; intro xs e; subst e)
  | (with_reducible refine br_lst ?_; intro xs e; subst e)
  | (with_reducible refine br_lstN ?_; intro xs e; subst e)
  | (with_reducible refine br_str ?_; intro xs e; subst e)
  | (with_reducible refine br_strN ?_; intro xs e; subst e)
  | (with_reducible refine br_non ?_; intro e; subst e)
  | (with_reducible refine br_nonN ?_; intro e; subst e)
  | (with_reducible refine br_t ?_; intro h; first | (cases h; done) | (simp only [lenc, List.length_nil, decide_eq_true_eq, decide_eq_false_iff_not] at h; omega) | exact absurd (show true = false from h) (by decide) | exact absurd (show false = true from h) (by decide) | (simp only [lenc, List.length_nil, Bool.not_eq_true', Bool.not_eq_false', decide_eq_true_eq, decide_eq_false_iff_not] at h) | skip)
  | (with_reducible refine br_f ?_; intro h; first | (cases h; done) | (simp only [lenc, List.length_nil, decide_eq_true_eq, decide_eq_false_iff_not] at h; omega) | exact absurd (show true = false from h) (by decide) | exact absurd (show false = true from h) (by decide) | (simp only [lenc, List.length_nil, Bool.not_eq_true', Bool.not_eq_false', decide_eq_true_eq, decide_eq_false_iff_not] at h) | skip)
  | (with_reducible refine signs_one ?_; intro c)
  | (with_reducible refine fa_mem ?_; intro d hd)
  | ((with_reducible show _ ≤ sizeLine ∧ _); with_reducible refine lc_split (by walk_at "sz") (by walk_at "env") ?_ ?_)
  | ((with_reducible show wipeE _ _ = _ ∧ _); with_reducible refine lc_env (by walk_at "env") ?_)
  | ((with_reducible show (_ : D) = _); exact rfl))
local macro_rules | `(tactic| walk_at "pws") => `(tactic| repeat' walk_at "pw")
local macro_rules | `(tactic| walk_at "pw") => `(tactic| first
  | ((with_reducible show w_is_integer _ _); with_reducible refine i_is_integer (by walk_at "bi") ?_) | ((with_reducible show w_is_within _ _); with_reducible refine i_is_within (by walk_at "bi") ?_) | ((with_reducible show w_is_tuple_of _ _); with_reducible refine i_is_tuple_of (by walk_at "bi") ?_)
  | ((with_reducible show w_is_name _ _); with_reducible refine i_is_name (by walk_at "jn") ?_) | ((with_reducible show w_is_lock _ _); with_reducible refine i_is_lock (by walk_at "bi") ?_) | ((with_reducible show w_is_member _ _); with_reducible refine i_is_member (by walk_at "jn") ?_)
  | (with_reducible refine br_two ?_; intro a b e; subst e) | (with_reducible refine br_twoN ?_; intro a b e; subst e) | (with_reducible refine br_thr ?_; intro a b c e; subst e) | (with_reducible refine br_thrN ?_; intro a b c e; subst e)
  | (with_reducible refine br_int ?_; intro i e; subst e) | (with_reducible refine br_win ?_; intro i e h1 h2; subst e) | (with_reducible refine br_winN ?_; intro i e h1 h2; subst e))
theorem lt30 {x : Int} (h : x < 10 ^ Int.toNat 30) : x < 10 ^ 30 := by
  rw [show Int.toNat 30 = 30 from rfl] at h
  exact h
theorem within_notInt {x : D} (h : x.isInt = false) : ∀ a b, isWithin x a b = false := by
  cases x <;> first
    | exact fun _ _ => rfl
    | cases h
theorem pure_law_int {K : PySem.W.Frag} : ∀ ds kk, w_law_int ds kk → XS K (t_law_int K) (ini 3 ds) { nx := fun _ => kk (.d .non), rt := fun r _ => kk r } := by
  rintro _ kk ⟨x, a, b, rfl, hx, g⟩
  show XS K (t_law_int K) [.d x, .d (.int a), .d (.int b)] (Fin kk)
  unfold t_law_int
  cases x
  all_goals walk_at "pws"
  all_goals first
    | exact g
    | (refine fin_bl g ?_; simp [isWithin, *]; done)
    | (refine fin_bl g ?_; simp [isWithin]; omega)
    | cases hx
section
local macro_rules | `(tactic| walk_at "pw") => `(tactic| with_reducible refine ye_lcm (vs := [1]) (fun d => .bl (letterD d)) own_name wipe1 ?_)
theorem pure_law_named {K : PySem.W.Frag} : ∀ ds kk, w_law_named ds kk → XS K (t_law_named K) (ini 2 ds) { nx := fun _ => kk (.d .non), rt := fun r _ => kk r } := by
  rintro _ kk ⟨x, rfl, hx, g⟩
  show XS K (t_law_named K) [.d x, .u] (Fin kk)
  unfold t_law_named
  walk_at "pws"
  all_goals first
    | exact fin_bl g (isName_notStr (by assumption))
    | (refine fin_bl g ?_; simp [isName, *]; done)
    | (refine fin_bl g ?_; simp [isName]; omega)
    | (dsimp only; trace_state)
end
section
local macro_rules | `(tactic| walk_at "pw") => `(tactic| ((with_reducible show w_law_draw _ _); refine i_law_draw (by first | omega | decide) (by first | omega | decide) ?_; intro r h0 h1))
theorem pure_law_lock {K : PySem.W.Frag} : ∀ ds kk, w_law_lock ds kk → XS K (t_law_lock K) (iniH 1 ds) { nx := fun _ => kk (.d .non), rt := fun r _ => kk r } := by
  rintro _ kk ⟨rfl, g⟩
  show XS K (t_law_lock K) [.hand] (Fin kk)
  unfold t_law_lock
  walk_at "pws"
  all_goals first
    | (refine g _ (by assumption) ?_; omega)
    | exact g _ (by assumption) (lt30 (by assumption))
end

theorem fl_step {b lo : Int} {n : Nat} (h : lo = b * 2 ^ n) : 2 * lo = b * 2 ^ (n + 1) := by
  rw [h, Int.pow_succ, Int.mul_left_comm, Int.mul_comm 2 (2 ^ n)]
theorem rng_map {lo : Int} {n : Nat} : (rngD 0 n).map (fun d => D.int (lo + asInt d)) = rngD lo n := by
  unfold rngD
  rw [List.map_map]
  refine List.map_congr_left fun i _ => ?_
  show D.int (lo + (0 + (i : Int))) = D.int (lo + (i : Int))
  rw [Int.zero_add]
theorem pure_law_beneath {K : PySem.W.Frag} : ∀ ds kk, w_law_beneath ds kk → XS K (t_law_beneath K) (ini 6 ds) { nx := fun _ => kk (.d .non), rt := fun r _ => kk r } := by
  rintro _ kk ⟨a, b, rfl, h8, h0, h1, g⟩
  show XS K (t_law_beneath K) [.d (.tup [.int a, .int b]), .u, .u, .u, .u, .u] (Fin kk)
  unfold t_law_beneath
  walk_at "pws"
  refine ⟨(a : Int), rfl, by omega, by omega, ?_⟩
  rw [Int.toNat_natCast]
  refine ⟨fun i ρ => ∃ (lo m : Int) (e5 : Ent), ρ = [.d (.tup [.int a, .int b]), .d (.int a), .d (.int b), .d (.int lo), .d (.int m), e5] ∧ lo = b * 2 ^ i ∧ m = 2 ^ i, ⟨b, 1, _, rfl, by rw [Int.pow_zero, Int.mul_one], rfl⟩, ?_, ?_⟩
  · rintro i d ρ' hd ⟨lo, m, e5, rfl, hlo, hm⟩
    walk_at "pws"
    exact ⟨_, _, _, rfl, fl_step hlo, by rw [hm, Int.pow_succ, Int.mul_comm]⟩
  · rintro ρ' ⟨lo, m, e5, rfl, hlo, hm⟩
    rw [rngD_len] at hlo hm
    have p := pow_le8 h8
    walk_at "pws"
    refine ye_lcm (fun d => .int (lo + asInt d)) own_name wipe1 ?_
    walk_at "pws"
    refine ⟨m, rfl, by omega, by omega, ?_⟩
    have em : m.toNat = 2 ^ a := by rw [hm, pow_cast, Int.toNat_natCast]
    rw [em]
    refine lc_split (by rw [rngD_len]; have := Nat.pow_le_pow_right (show 0 < 2 by decide) h8; exact szl (by omega)) (by walk_at "env") ?_ ?_
    · intro d hd
      unfold rngD at hd
      obtain ⟨j, _, rfl⟩ := List.mem_map.mp hd
      walk_at "pws"
    · rw [rng_map, hlo]
      walk_at "pws"
      exact g

end LawK08
end
section
namespace LawK08
open PySem PySem.Spec PyProof.Rows L2 PW
local macro_rules | `(tactic| walk_at "env") => `(tactic| (first | (dsimp only [sto, stoE, frz, frzE, frzAll, wipeE, Res.ent, List.set, List.getElem?_cons_zero, List.getElem?_cons_succ]; done) | (dsimp only [sto, stoE, frz, frzE, frzAll, wipeE, Res.ent, List.set, List.getElem?_cons_zero, List.getElem?_cons_succ]; rfl) | rfl))
local macro_rules | `(tactic| walk_at "mem") => `(tactic| first | assumption | exact cut_sub (by assumption) | exact List.mem_cons_of_mem _ (by assumption) | (simp only [List.mem_cons, true_or, or_true]; done))
local macro_rules | `(tactic| walk_at "jn") => `(tactic| first | assumption | with_unfolding_all exact rfl | exact jnTr (by assumption) (by assumption) | exact jnTr (cut_sub (by assumption)) (by assumption) | exact jnTr (List.mem_cons_of_mem _ (by assumption)) (by assumption) | exact jnT (by assumption) (by walk_at "mem") | exact jnL' (by assumption) (by walk_at "mem") | exact jnT2 (by assumption) (by assumption) (by walk_at "mem"))
local macro_rules | `(tactic| walk_at "sz") => `(tactic| first | with_unfolding_all exact Nat.le_of_ble_eq_true rfl | assumption | exact szl (by assumption) | exact szS (by walk_at "jn") | exact szT (by walk_at "jn") | exact szTl (by assumption) | exact szL (by walk_at "jn") | exact szG (by walk_at "jn") | ((with_reducible show (PW.cutD _ _ _).length ≤ _); refine szC ?_; walk_at "sz") | with_unfolding_all exact szl (Nat.le_of_ble_eq_true rfl))
local macro_rules | `(tactic| walk_at "bi") => `(tactic| first | with_unfolding_all exact rfl | assumption | exact jn_bi (by walk_at "jn"))
local macro_rules | `(tactic| walk_at "pw") => `(tactic| first
  | ((with_reducible show PW.XE _ _ _ _); first | with_reducible refine xe_var_d (by with_unfolding_all exact rfl) ?_ | with_reducible refine xe_var_o (by with_unfolding_all exact rfl) ?_ | with_reducible refine xe_int ?_ | with_reducible refine xe_str ?_ | with_reducible refine xe_bl ?_ | with_reducible refine xe_non ?_ | with_reducible refine ye_emp ?_ | with_reducible refine xe_op ?_ | with_reducible refine xe_un ?_ | with_reducible refine xe_if ?_ | with_reducible refine xe_andV ?_ | with_reducible refine xe_orV ?_ | with_reducible refine xe_notV ?_ | with_reducible refine xe_chain ?_ | with_reducible refine xe_isi D.isTup isi_tuple ?_ | with_reducible refine xe_isi D.isLst isi_list ?_ | with_reducible refine xe_isi D.isStr isi_str ?_ | with_reducible refine xe_isi D.isInt isi_int ?_ | with_reducible refine xe_isi D.isBool isi_bool ?_ | with_reducible refine xe_isi D.isDct isi_dict ?_ | with_reducible refine xe_isi2 D.isTup D.isLst isi_tuple isi_list ?_ | with_reducible refine ye_lenSet ?_ | with_reducible refine ye_join ?_ | with_reducible refine xe_cb ?_ | with_reducible refine xe_callS ?_ | with_reducible refine ye_callH (by with_unfolding_all exact rfl) ?_ | with_reducible refine ye_call ?_ | with_reducible refine ye_tup ?_ | with_reducible refine ye_lst ?_ | with_reducible refine xe_sl ?_ | with_reducible refine ye_revT ?_ | with_reducible refine ye_rg1 ?_ | with_reducible refine ye_rg2 ?_ | with_reducible refine ye_meth (by with_unfolding_all exact rfl) (fun _ _ _ h => ty_list h) ?_ | with_reducible refine ye_meth0 (by with_unfolding_all exact rfl) (fun _ _ _ h => ty_list h) ?_)
  | ((with_reducible show PW.XA _ _ _ _); first | with_reducible refine xa_nil ?_ | with_reducible refine xa_cons ?_)
  | ((with_reducible show PW.XT _ _ _ _); first | with_reducible refine xt_yes ?_ | with_reducible refine xt_test ?_ | with_reducible refine xt_B ?_ | with_reducible refine xt_not ?_ | with_reducible refine xt_and ?_ | with_reducible refine xt_or ?_)
  | ((with_reducible show PW.XS _ _ _ _); first | with_reducible refine xs_seq ?_ | with_reducible refine xs_next ?_ | with_reducible refine ys_asg ?_ | with_reducible refine xs_if ?_ | with_reducible refine ys_ret ?_ | with_reducible refine xs_retN ?_ | with_reducible refine xs_drop ?_ | with_reducible refine xs_break ?_ | with_reducible refine xs_cont ?_ | with_reducible refine ys_par (by with_unfolding_all decide) ?_ | with_reducible refine ys_par3 (by with_unfolding_all decide) (by with_unfolding_all decide) (by with_unfolding_all decide) ?_ | with_reducible refine ys_unp2 (by with_unfolding_all decide) ?_ | with_reducible refine ys_unp3 (by with_unfolding_all decide) (by with_unfolding_all decide) (by with_unfolding_all decide) ?_ | with_reducible refine ys_setix ?_ | with_reducible refine ys_asgG ?_ | with_reducible refine xs_for ?_)
  | ((with_reducible show PW.OpD _ _ _ _ _); first | with_reducible refine o_addI ?_ | with_reducible refine o_subI ?_ | with_reducible refine o_mulI (by first | with_unfolding_all exact .inl ⟨by decide, by decide⟩ | with_unfolding_all exact .inr ⟨by decide, by decide⟩) ?_ | with_reducible refine o_mulI (cmulL (by omega) (by omega)) ?_ | with_reducible refine o_mulI (cmulR (by omega) (by omega)) ?_ | with_reducible refine o_divI (by with_unfolding_all exact ⟨by decide, by decide⟩) ?_ | with_reducible refine o_modI (by with_unfolding_all decide) ?_ | with_reducible refine o_powI (by with_unfolding_all exact ⟨by decide, by decide, by decide⟩) ?_ | with_reducible refine o_ltI ?_ | with_reducible refine o_leI ?_ | with_reducible refine o_leUI ?_ | with_reducible refine o_leP ?_ | with_reducible refine o_shlI (cpow1 (by omega) (by omega)) ?_ | with_reducible refine o_gtI ?_ | with_reducible refine o_geI ?_ | with_reducible refine o_eqI ?_ | with_reducible refine o_neI ?_ | with_reducible refine o_eqB ?_ | with_reducible refine o_neB ?_ | with_reducible refine o_isNo ?_ | with_reducible refine o_isNotNo ?_ | with_reducible refine o_isBo ?_ | with_reducible refine o_isNotBo ?_ | with_reducible refine o_inC ?_ | with_reducible refine o_notInC ?_ | with_reducible refine o_ix0 ?_ | with_reducible refine o_ix1 ?_ | with_reducible refine o_ix2 ?_ | ((with_reducible show PW.OpD _ (rIx _) (.tup _) (.int 0) _); refine o_ix0e (ne_len (by omega)) ?_; intro y ys e; subst e) | with_reducible refine o_ixT (by with_unfolding_all exact rfl) ?_ | with_reducible refine o_ixL (by with_unfolding_all exact rfl) ?_)
  | ((with_reducible show PW.CaD _ _ _ _); first | with_reducible refine c_lenT ?_ | with_reducible refine c_lenL ?_ | with_reducible refine c_intI ?_ | with_reducible refine c_intB ?_ | with_reducible refine c_absI ?_ | with_reducible refine c_allM ?_ | with_reducible refine c_anyM ?_ | with_reducible refine c_tupL ?_ | with_reducible refine c_tupT ?_ | with_reducible refine c_lstL ?_ | with_reducible refine c_lstT ?_ | ((with_reducible show CaD _ (rLenU _) [.str _] _); with_reducible refine c_lenS (by walk_at "sz") ?_))
  | ((with_reducible show PW.XI _ _ _ _); first | with_reducible refine yi_seqU ?_ | with_reducible refine yi_enum ?_ | with_reducible refine yi_zip ?_ | with_reducible refine xi_range1 ?_ | with_reducible refine xi_range2 ?_)
  | ((with_reducible show PW.XG _ _ _ _ _); first | with_reducible refine yg_name ?_ | with_reducible refine xg_tup (by with_unfolding_all exact rfl) ?_)
  | ((with_reducible show PW.XGs _ _ _ _ _); first | with_reducible refine xgs_nil ?_ | with_reducible refine xgs_cons ?_)
  | ((with_reducible show PW.XM _ _ _ _ _); first | with_reducible refine xm_nil ?_ | with_reducible refine xm_cons ?_)
  | ((with_reducible show PW.XO _ _ _ _); first | with_reducible refine xo_none ?_ | with_reducible refine xo_some ?_)
  | ((with_reducible show PW.SlD _ _ _ _ _ _); first | with_reducible refine sl_tail ?_ | with_reducible refine sl_T ?_ | with_reducible refine sl_L ?_)
  | ((with_reducible show PW.UnD _ _ _ _); first | with_reducible refine u_neg ?_)
  | ((with_reducible show PW.back _ _ _); first | with_reducible refine back_d ?_ | with_reducible refine back_nw ?_ | with_reducible refine back_v (by with_unfolding_all exact rfl) ?_)
  | walk_at "cnt"
  | walk_at "br")
local macro_rules | `(tactic| walk_at "cnt") => `(tactic| first
  | with_reducible refine ex_env (by walk_at "env") ?_
  | ((with_reducible show ∃ x : List D, _ = some x ∧ x.length ≤ _ ∧ _); with_reducible refine ex_pks2 (by with_unfolding_all exact rfl) (by walk_at "sz") ?_)
  | with_reducible refine ex_pks (by with_unfolding_all exact rfl) ?_
  | ((with_reducible show ∃ x : D, _ = some x ∧ x.isBuiltin = true ∧ _); with_reducible refine ex_pk2 (by with_unfolding_all exact rfl) (by walk_at "bi") ?_)
  | with_reducible refine lc_fin (by with_unfolding_all exact rfl) (by with_unfolding_all exact rfl) ?_
  | with_reducible refine lcf_fin (by with_unfolding_all exact rfl) (by with_unfolding_all exact rfl) ?_
  | with_reducible refine ex_pk (by with_unfolding_all exact rfl) ?_
  | with_reducible refine ex_op (by with_unfolding_all exact rfl) (by with_unfolding_all exact rfl) ?_
  | with_reducible refine ex_it (by with_unfolding_all exact rfl) (by with_unfolding_all exact rfl) ?_
  | with_reducible refine ex_its (by with_unfolding_all exact rfl) (by with_unfolding_all exact rfl) ?_
  | with_reducible refine ex_zip (by with_unfolding_all exact rfl) (by with_unfolding_all exact rfl) ?_
  | with_reducible refine ex_bl ?_
  | with_reducible refine ex_int ?_
  | with_reducible refine ex_sc (by with_unfolding_all exact rfl) ?_
  | with_reducible refine and_brT ?_
  | with_reducible refine and_brF ?_
  | with_reducible refine and_rbT ?_
  | with_reducible refine and_rbF ?_
  | with_reducible refine and_nT ?_
  | with_reducible refine and_nF ?_
  | with_reducible refine and_mT ?_
  | with_reducible refine and_mF ?_
  | with_reducible refine and_br ?_ ?_
  | with_reducible refine and_rb ?_ ?_
  | with_reducible refine ⟨nv_d, ?_⟩
  | with_reducible refine ⟨nv_nw, ?_⟩)
local macro_rules | `(tactic| walk_at "br") => `(tactic| first
  | (with_reducible refine br_tup ?_; intro xs e; subst e)
  | (with_reducible refine br_tupN ?_; intro xs e; subst e)
  | (with_reducible refine br_lst ?_; intro xs e; subst e)
  | (with_reducible refine br_lstN ?_; intro xs e; subst e)
  | (with_reducible refine br_str ?_; intro xs e; subst e)
  | (with_reducible refine br_strN ?_; intro xs e; subst e)
  | (with_reducible refine br_non ?_; intro e; subst e)
  | (with_reducible refine br_nonN ?_; intro e; subst e)
  | (with_reducible refine br_t ?_; intro h; first | (cases h; done) | (simp only [lenc, List.length_nil, decide_eq_true_eq, decide_eq_false_iff_not] at h; omega) | exact absurd (show true = false from h) (by decide) | exact absurd (show false = true from h) (by decide) | (simp only [lenc, List.length_nil, Bool.not_eq_true', Bool.not_eq_false', decide_eq_true_eq, decide_eq_false_iff_not] at h) | skip)
  | (with_reducible refine br_f ?_; intro h; first | (cases h; done) | (simp only [lenc, List.length_nil, decide_eq_true_eq, decide_eq_false_iff_not] at h; omega) | exact absurd (show true = false from h) (by decide) | exact absurd (show false = true from h) (by decide) | (simp only [lenc, List.length_nil, Bool.not_eq_true', Bool.not_eq_false', decide_eq_true_eq, decide_eq_false_iff_not] at h) | skip)
  | (with_reducible refine signs_one ?_; intro c)
  | (with_reducible refine fa_mem ?_; intro d hd)
  | ((with_reducible show _ ≤ sizeLine ∧ _); with_reducible refine lc_split (by walk_at "sz") (by walk_at "env") ?_ ?_)
  | ((with_reducible show wipeE _ _ = _ ∧ _); with_reducible refine lc_env (by walk_at "env") ?_)
  | ((with_reducible show (_ : D) = _); exact rfl))
local macro_rules | `(tactic| walk_at "pws") => `(tactic| repeat' walk_at "pw")
local macro_rules | `(tactic| walk_at "pw") => `(tactic| first
  | ((with_reducible show w_is_integer _ _); with_reducible refine i_is_integer (by walk_at "bi") ?_) | ((with_reducible show w_is_within _ _); with_reducible refine i_is_within (by walk_at "bi") ?_) | ((with_reducible show w_is_tuple_of _ _); with_reducible refine i_is_tuple_of (by walk_at "bi") ?_)
  | ((with_reducible show w_is_name _ _); with_reducible refine i_is_name (by walk_at "jn") ?_) | ((with_reducible show w_is_lock _ _); with_reducible refine i_is_lock (by walk_at "bi") ?_) | ((with_reducible show w_is_member _ _); with_reducible refine i_is_member (by walk_at "jn") ?_)
  | (with_reducible refine br_two ?_; intro a b e; subst e) | (with_reducible refine br_twoN ?_; intro a b e; subst e) | (with_reducible refine br_thr ?_; intro a b c e; subst e) | (with_reducible refine br_thrN ?_; intro a b c e; subst e)
  | (with_reducible refine br_int ?_; intro i e; subst e) | (with_reducible refine br_win ?_; intro i e h1 h2; subst e) | (with_reducible refine br_winN ?_; intro i e h1 h2; subst e))
theorem letters_list : letters.cps.toList = [97, 98, 99, 100, 101, 102, 103, 104, 105, 106, 107, 108, 109, 110, 111, 112, 113, 114, 115, 116, 117, 118, 119, 120, 121, 122] := by decide +kernel
theorem name_of {cs : List Nat} (h1 : 1 ≤ cs.length) (h2 : cs.length ≤ 12) (h : ∀ c ∈ cs, c ∈ letters.cps.toList) : isName (.str ⟨cs.toArray⟩) = true := by
  have e1 : (⟨cs.toArray⟩ : Str).length = cs.length := by
    show cs.toArray.size = _
    rw [List.size_toArray]
  show ((decide (1 ≤ ((⟨cs.toArray⟩ : Str).length : Int)) && decide (((⟨cs.toArray⟩ : Str).length : Int) ≤ 12)) && (signsD ⟨cs.toArray⟩).all letterD) = true
  rw [e1, decide_eq_true (show 1 ≤ (cs.length : Int) by omega), decide_eq_true (show (cs.length : Int) ≤ 12 by omega)]
  show (signsD ⟨cs.toArray⟩).all letterD = true
  refine List.all_eq_true.mpr fun d hd => ?_
  unfold signsD at hd
  obtain ⟨c, hc, rfl⟩ := List.mem_map.mp hd
  exact decide_eq_true (h c (by simpa using hc))
def SignIn (y : D) : Prop := ∃ c, c ∈ letters.cps.toList ∧ y = .str ⟨#[c]⟩
theorem signs_of : ∀ {ys : List D}, (∀ y ∈ ys, SignIn y) → ∃ cs : List Nat, (∀ c ∈ cs, c ∈ letters.cps.toList) ∧ cs.length = ys.length ∧ ys = (cs.map fun c => (⟨#[c]⟩ : Str)).map D.str
  | [], _ => ⟨[], fun _ h => (nomatch h), rfl, rfl⟩
  | y :: ys, h => by
    obtain ⟨c, hc, e⟩ := h y (List.mem_cons_self ..)
    obtain ⟨cs, h1, h2, h3⟩ := signs_of fun z hz => h z (List.mem_cons_of_mem _ hz)
    refine ⟨c :: cs, fun z hz => ?_, by rw [List.length_cons, List.length_cons, h2], by rw [e, h3]; rfl⟩
    rcases List.mem_cons.mp hz with q | q
    · rw [q]; exact hc
    · exact h1 z q
theorem rel2_mem {R : D → D → Prop} {ds acc : List D} {S : D → Prop} (h : Rel2 R ds acc) (hs : ∀ d y, d ∈ ds → R d y → S y) : ∀ y ∈ acc, S y := fun y hy => by
  obtain ⟨i, hi⟩ := List.mem_iff_getElem?.mp hy
  have hl : i < ds.length := by rw [← h.1]; exact (List.getElem?_eq_some_iff.mp hi).1
  exact hs ds[i] y (List.getElem_mem hl) (h.2 i ds[i] y (List.getElem?_eq_getElem hl) hi)
theorem sum_ones (cs : List Nat) : ((cs.map fun c => (⟨#[c]⟩ : Str)).map (·.length)).sum = cs.length := by
  induction cs with
  | nil => rfl
  | cons c cs ih =>
    rw [List.map_cons, List.map_cons, List.sum_cons, ih, List.length_cons]
    show 1 + cs.length = _
    omega
section
local macro_rules | `(tactic| walk_at "pw") => `(tactic| ((with_reducible show w_law_draw _ _); refine i_law_draw (by first | omega | decide) (by first | omega | decide) ?_; intro r h0 h1))
theorem o_sign {K : PySem.W.Frag} {r : Int} {kk : Res → Prop} (h0 : 0 ≤ r) (h1 : r < 26) (g : ∀ y, SignIn y → kk (.d y)) : OpD K (rIx K) (.str "abcdefghijklmnopqrstuvwxyz") (.int r) kk := by
  have hl : letters.cps.toList.length = 26 := by rw [letters_list]; rfl
  have hr : r.toNat < letters.cps.toList.length := by omega
  refine o_ixS (n := letters.cps.toList[r.toNat]) (by decide +kernel) ?_ (g _ ⟨_, List.getElem_mem hr, rfl⟩)
  show atI letters.cps.toList r = _
  unfold atI ixN
  rw [if_pos h0, if_pos (by rw [hl]; exact h1)]
  exact List.getElem?_eq_getElem hr
theorem name_signs {K : PySem.W.Frag} {e2 : Ent} {m : Int} {k : KE} (m1 : 1 ≤ m) (m2 : m ≤ 12) (q : ∀ cs : List Nat, (∀ c ∈ cs, c ∈ letters.cps.toList) → (cs.length : Int) = m → k (.nw (.lst ((cs.map fun c => (⟨#[c]⟩ : Str)).map D.str))) [.hand, .d (.int m), .u]) :
    PW.XE K (tLc (iRng1 (tCons (tVar 1) tNil)) (gName 2) tYes (tOp (rIx K) (tC (.str "abcdefghijklmnopqrstuvwxyz")) (PW.tCallH (spH K w_law_draw) L2.E0 0 (tCons (tC (.int 26)) tNil))) [2]) [.hand, .d (.int m), e2] k := by
  refine ye_lcr (fun _ y => SignIn y) own_name wipe1 ?_
  walk_at "pws"
  refine ⟨m, rfl, by omega, by omega, ?_⟩
  refine ⟨by rw [rngD_len]; exact szl (by omega), _, rfl, ?_, ?_⟩
  · intro d hd
    walk_at "pws"
    refine o_sign (by assumption) (by assumption) fun y hy => ?_
    exact ⟨y, rfl, rfl, hy⟩
  · intro acc ha
    obtain ⟨cs, h1, h2, h3⟩ := signs_of (rel2_mem (S := SignIn) ha fun _ _ _ h => h)
    have hl := ha.1
    rw [rngD_len] at hl
    subst h3
    exact q cs h1 (by omega)
theorem pure_law_name {K : PySem.W.Frag} : ∀ ds kk, w_law_name ds kk → XS K (t_law_name K) (iniH 3 ds) { nx := fun _ => kk (.d .non), rt := fun r _ => kk r } := by
  rintro _ kk ⟨rfl, g⟩
  show XS K (t_law_name K) [.hand, .u, .u] (Fin kk)
  unfold t_law_name
  walk_at "pws"
  all_goals
    refine name_signs (by omega) (by omega) fun cs h1 h2 => ?_
    refine ⟨_, rfl, ?_, ?_⟩
    · rw [sum_ones, List.length_map]
      have : (Str.ofString "").length = 0 := by decide
      rw [this]
      omega
    · rw [join_signs]
      walk_at "pws"
      exact g _ (name_of (by omega) (by omega) h1)
end

end LawK08
end
section
namespace LawK08
open PySem PySem.Spec PyProof.Rows L2 PW
local macro_rules | `(tactic| walk_at "env") => `(tactic| (first | (dsimp only [sto, stoE, frz, frzE, frzAll, wipeE, Res.ent, List.set, List.getElem?_cons_zero, List.getElem?_cons_succ]; done) | (dsimp only [sto, stoE, frz, frzE, frzAll, wipeE, Res.ent, List.set, List.getElem?_cons_zero, List.getElem?_cons_succ]; rfl) | rfl))
local macro_rules | `(tactic| walk_at "mem") => `(tactic| first | assumption | exact cut_sub (by assumption) | exact List.mem_cons_of_mem _ (by assumption) | (simp only [List.mem_cons, true_or, or_true]; done))
local macro_rules | `(tactic| walk_at "jn") => `(tactic| first | assumption | with_unfolding_all exact rfl | exact jnTr (by assumption) (by assumption) | exact jnTr (cut_sub (by assumption)) (by assumption) | exact jnTr (List.mem_cons_of_mem _ (by assumption)) (by assumption) | exact jnT (by assumption) (by walk_at "mem") | exact jnL' (by assumption) (by walk_at "mem") | exact jnT2 (by assumption) (by assumption) (by walk_at "mem"))
local macro_rules | `(tactic| walk_at "sz") => `(tactic| first | with_unfolding_all exact Nat.le_of_ble_eq_true rfl | assumption | exact szl (by assumption) | exact szS (by walk_at "jn") | exact szT (by walk_at "jn") | exact szTl (by assumption) | exact szL (by walk_at "jn") | exact szG (by walk_at "jn") | ((with_reducible show (PW.cutD _ _ _).length ≤ _); refine szC ?_; walk_at "sz") | with_unfolding_all exact szl (Nat.le_of_ble_eq_true rfl))
local macro_rules | `(tactic| walk_at "bi") => `(tactic| first | with_unfolding_all exact rfl | assumption | exact jn_bi (by walk_at "jn"))
local macro_rules | `(tactic| walk_at "pw") => `(tactic| first
  | ((with_reducible show PW.XE _ _ _ _); first | with_reducible refine xe_var_d (by with_unfolding_all exact rfl) ?_ | with_reducible refine xe_var_o (by with_unfolding_all exact rfl) ?_ | with_reducible refine xe_int ?_ | with_reducible refine xe_str ?_ | with_reducible refine xe_bl ?_ | with_reducible refine xe_non ?_ | with_reducible refine ye_emp ?_ | with_reducible refine xe_op ?_ | with_reducible refine xe_un ?_ | with_reducible refine xe_if ?_ | with_reducible refine xe_andV ?_ | with_reducible refine xe_orV ?_ | with_reducible refine xe_notV ?_ | with_reducible refine xe_chain ?_ | with_reducible refine xe_isi D.isTup isi_tuple ?_ | with_reducible refine xe_isi D.isLst isi_list ?_ | with_reducible refine xe_isi D.isStr isi_str ?_ | with_reducible refine xe_isi D.isInt isi_int ?_ | with_reducible refine xe_isi D.isBool isi_bool ?_ | with_reducible refine xe_isi D.isDct isi_dict ?_ | with_reducible refine xe_isi2 D.isTup D.isLst isi_tuple isi_list ?_ | with_reducible refine ye_lenSet ?_ | with_reducible refine ye_join ?_ | with_reducible refine xe_cb ?_ | with_reducible refine xe_callS ?_ | with_reducible refine ye_callH (by with_unfolding_all exact rfl) ?_ | with_reducible refine ye_call ?_ | with_reducible refine ye_tup ?_ | with_reducible refine ye_lst ?_ | with_reducible refine xe_sl ?_ | with_reducible refine ye_revT ?_ | with_reducible refine ye_rg1 ?_ | with_reducible refine ye_rg2 ?_ | with_reducible refine ye_meth (by with_unfolding_all exact rfl) (fun _ _ _ h => ty_list h) ?_ | with_reducible refine ye_meth0 (by with_unfolding_all exact rfl) (fun _ _ _ h => ty_list h) ?_)
  | ((with_reducible show PW.XA _ _ _ _); first | with_reducible refine xa_nil ?_ | with_reducible refine xa_cons ?_)
  | ((with_reducible show PW.XT _ _ _ _); first | with_reducible refine xt_yes ?_ | with_reducible refine xt_test ?_ | with_reducible refine xt_B ?_ | with_reducible refine xt_not ?_ | with_reducible refine xt_and ?_ | with_reducible refine xt_or ?_)
  | ((with_reducible show PW.XS _ _ _ _); first | with_reducible refine xs_seq ?_ | with_reducible refine xs_next ?_ | with_reducible refine ys_asg ?_ | with_reducible refine xs_if ?_ | with_reducible refine ys_ret ?_ | with_reducible refine xs_retN ?_ | with_reducible refine xs_drop ?_ | with_reducible refine xs_break ?_ | with_reducible refine xs_cont ?_ | with_reducible refine ys_par (by with_unfolding_all decide) ?_ | with_reducible refine ys_par3 (by with_unfolding_all decide) (by with_unfolding_all decide) (by with_unfolding_all decide) ?_ | with_reducible refine ys_unp2 (by with_unfolding_all decide) ?_ | with_reducible refine ys_unp3 (by with_unfolding_all decide) (by with_unfolding_all decide) (by with_unfolding_all decide) ?_ | with_reducible refine ys_setix ?_ | with_reducible refine ys_asgG ?_ | with_reducible refine xs_for ?_)
  | ((with_reducible show PW.OpD _ _ _ _ _); first | with_reducible refine o_addI ?_ | with_reducible refine o_subI ?_ | with_reducible refine o_mulI (by first | with_unfolding_all exact .inl ⟨by decide, by decide⟩ | with_unfolding_all exact .inr ⟨by decide, by decide⟩) ?_ | with_reducible refine o_mulI (cmulL (by omega) (by omega)) ?_ | with_reducible refine o_mulI (cmulR (by omega) (by omega)) ?_ | with_reducible refine o_divI (by with_unfolding_all exact ⟨by decide, by decide⟩) ?_ | with_reducible refine o_modI (by with_unfolding_all decide) ?_ | with_reducible refine o_powI (by with_unfolding_all exact ⟨by decide, by decide, by decide⟩) ?_ | with_reducible refine o_ltI ?_ | with_reducible refine o_leI ?_ | with_reducible refine o_leUI ?_ | with_reducible refine o_leP ?_ | with_reducible refine o_shlI (cpow1 (by omega) (by omega)) ?_ | with_reducible refine o_gtI ?_ | with_reducible refine o_geI ?_ | with_reducible refine o_eqI ?_ | with_reducible refine o_neI ?_ | with_reducible refine o_eqB ?_ | with_reducible refine o_neB ?_ | with_reducible refine o_isNo ?_ | with_reducible refine o_isNotNo ?_ | with_reducible refine o_isBo ?_ | with_reducible refine o_isNotBo ?_ | with_reducible refine o_inC ?_ | with_reducible refine o_notInC ?_ | with_reducible refine o_ix0 ?_ | with_reducible refine o_ix1 ?_ | with_reducible refine o_ix2 ?_ | ((with_reducible show PW.OpD _ (rIx _) (.tup _) (.int 0) _); refine o_ix0e (ne_len (by omega)) ?_; intro y ys e; subst e) | with_reducible refine o_ixT (by with_unfolding_all exact rfl) ?_ | with_reducible refine o_ixL (by with_unfolding_all exact rfl) ?_)
  | ((with_reducible show PW.CaD _ _ _ _); first | with_reducible refine c_lenT ?_ | with_reducible refine c_lenL ?_ | with_reducible refine c_intI ?_ | with_reducible refine c_intB ?_ | with_reducible refine c_absI ?_ | with_reducible refine c_allM ?_ | with_reducible refine c_anyM ?_ | with_reducible refine c_tupL ?_ | with_reducible refine c_tupT ?_ | with_reducible refine c_lstL ?_ | with_reducible refine c_lstT ?_ | ((with_reducible show CaD _ (rLenU _) [.str _] _); with_reducible refine c_lenS (by walk_at "sz") ?_))
  | ((with_reducible show PW.XI _ _ _ _); first | with_reducible refine yi_seqU ?_ | with_reducible refine yi_enum ?_ | with_reducible refine yi_zip ?_ | with_reducible refine xi_range1 ?_ | with_reducible refine xi_range2 ?_)
  | ((with_reducible show PW.XG _ _ _ _ _); first | with_reducible refine yg_name ?_ | with_reducible refine xg_tup (by with_unfolding_all exact rfl) ?_)
  | ((with_reducible show PW.XGs _ _ _ _ _); first | with_reducible refine xgs_nil ?_ | with_reducible refine xgs_cons ?_)
  | ((with_reducible show PW.XM _ _ _ _ _); first | with_reducible refine xm_nil ?_ | with_reducible refine xm_cons ?_)
  | ((with_reducible show PW.XO _ _ _ _); first | with_reducible refine xo_none ?_ | with_reducible refine xo_some ?_)
  | ((with_reducible show PW.SlD _ _ _ _ _ _); first | with_reducible refine sl_tail ?_ | with_reducible refine sl_T ?_ | with_reducible refine sl_L ?_)
  | ((with_reducible show PW.UnD _ _ _ _); first | with_reducible refine u_neg ?_)
  | ((with_reducible show PW.back _ _ _); first | with_reducible refine back_d ?_ | with_reducible refine back_nw ?_ | with_reducible refine back_v (by with_unfolding_all exact rfl) ?_)
  | walk_at "cnt"
  | walk_at "br")
local macro_rules | `(tactic| walk_at "cnt") => `(tactic| first
  | with_reducible refine ex_env (by walk_at "env") ?_
  | ((with_reducible show ∃ x : List D, _ = some x ∧ x.length ≤ _ ∧ _); with_reducible refine ex_pks2 (by with_unfolding_all exact rfl) (by walk_at "sz") ?_)
  | with_reducible refine ex_pks (by with_unfolding_all exact rfl) ?_
  | ((with_reducible show ∃ x : D, _ = some x ∧ x.isBuiltin = true ∧ _); with_reducible refine ex_pk2 (by with_unfolding_all exact rfl) (by walk_at "bi") ?_)
  | with_reducible refine lc_fin (by with_unfolding_all exact rfl) (by with_unfolding_all exact rfl) ?_
  | with_reducible refine lcf_fin (by with_unfolding_all exact rfl) (by with_unfolding_all exact rfl) ?_
  | with_reducible refine ex_pk (by with_unfolding_all exact rfl) ?_
  | with_reducible refine ex_op (by with_unfolding_all exact rfl) (by with_unfolding_all exact rfl) ?_
  | with_reducible refine ex_it (by with_unfolding_all exact rfl) (by with_unfolding_all exact rfl) ?_
  | with_reducible refine ex_its (by with_unfolding_all exact rfl) (by with_unfolding_all exact rfl) ?_
  | with_reducible refine ex_zip (by with_unfolding_all exact rfl) (by with_unfolding_all exact rfl) ?_
  | with_reducible refine ex_bl ?_
  | with_reducible refine ex_int ?_
  | with_reducible refine ex_sc (by with_unfolding_all exact rfl) ?_
  | with_reducible refine and_brT ?_
  | with_reducible refine and_brF ?_
  | with_reducible refine and_rbT ?_
  | with_reducible refine and_rbF ?_
  | with_reducible refine and_nT ?_
  | with_reducible refine and_nF ?_
  | with_reducible refine and_mT ?_
  | with_reducible refine and_mF ?_
  | with_reducible refine and_br ?_ ?_
  | with_reducible refine and_rb ?_ ?_
  | with_reducible refine ⟨nv_d, ?_⟩
  | with_reducible refine ⟨nv_nw, ?_⟩)
local macro_rules | `(tactic| walk_at "br") => `(tactic| first
  | (with_reducible refine br_tup ?_; intro xs e; subst e)
  | (with_reducible refine br_tupN ?_; intro xs e; subst e)
  | (with_reducible refine br_lst ?_; intro xs e; subst e)
  | (with_reducible refine br_lstN ?_; intro xs e; subst e)
  | (with_reducible refine br_str ?_; intro xs e; subst e)
  | (with_reducible refine br_strN ?_; intro xs e; subst e)
  | (with_reducible refine br_non ?_; intro e; subst e)
  | (with_reducible refine br_nonN ?_; intro e; subst e)
  | (with_reducible refine br_t ?_; intro h; first | (cases h; done) | (simp only [lenc, List.length_nil, decide_eq_true_eq, decide_eq_false_iff_not] at h; omega) | exact absurd (show true = false from h) (by decide) | exact absurd (show false = true from h) (by decide) | (simp only [lenc, List.length_nil, Bool.not_eq_true', Bool.not_eq_false', decide_eq_true_eq, decide_eq_false_iff_not] at h) | skip)
  | (with_reducible refine br_f ?_; intro h; first | (cases h; done) | (simp only [lenc, List.length_nil, decide_eq_true_eq, decide_eq_false_iff_not] at h; omega) | exact absurd (show true = false from h) (by decide) | exact absurd (show false = true from h) (by decide) | (simp only [lenc, List.length_nil, Bool.not_eq_true', Bool.not_eq_false', decide_eq_true_eq, decide_eq_false_iff_not] at h) | skip)
  | (with_reducible refine signs_one ?_; intro c)
  | (with_reducible refine fa_mem ?_; intro d hd)
  | ((with_reducible show _ ≤ sizeLine ∧ _); with_reducible refine lc_split (by walk_at "sz") (by walk_at "env") ?_ ?_)
  | ((with_reducible show wipeE _ _ = _ ∧ _); with_reducible refine lc_env (by walk_at "env") ?_)
  | ((with_reducible show (_ : D) = _); exact rfl))
local macro_rules | `(tactic| walk_at "pws") => `(tactic| repeat' walk_at "pw")
local macro_rules | `(tactic| walk_at "pw") => `(tactic| first
  | ((with_reducible show w_is_integer _ _); with_reducible refine i_is_integer (by walk_at "bi") ?_) | ((with_reducible show w_is_within _ _); with_reducible refine i_is_within (by walk_at "bi") ?_) | ((with_reducible show w_is_tuple_of _ _); with_reducible refine i_is_tuple_of (by walk_at "bi") ?_)
  | ((with_reducible show w_is_name _ _); with_reducible refine i_is_name (by walk_at "jn") ?_) | ((with_reducible show w_is_lock _ _); with_reducible refine i_is_lock (by walk_at "bi") ?_) | ((with_reducible show w_is_member _ _); with_reducible refine i_is_member (by walk_at "jn") ?_)
  | (with_reducible refine br_two ?_; intro a b e; subst e) | (with_reducible refine br_twoN ?_; intro a b e; subst e) | (with_reducible refine br_thr ?_; intro a b c e; subst e) | (with_reducible refine br_thrN ?_; intro a b c e; subst e)
  | (with_reducible refine br_int ?_; intro i e; subst e) | (with_reducible refine br_win ?_; intro i e h1 h2; subst e) | (with_reducible refine br_winN ?_; intro i e h1 h2; subst e))
section
local macro_rules | `(tactic| walk_at "pw") => `(tactic| ((with_reducible show w_law_draw _ _); refine i_law_draw (by first | omega | decide) (by first | omega | decide) ?_; intro r h0 h1))
theorem pure_law_odd {K : PySem.W.Frag} : ∀ ds kk, w_law_odd ds kk → XS K (t_law_odd K) (iniH 1 ds) { nx := fun _ => kk (.d .non), rt := fun r _ => kk r } := by
  rintro _ kk ⟨rfl, g⟩
  show XS K (t_law_odd K) [.hand] (Fin kk)
  unfold t_law_odd
  walk_at "pws"
  rename_i r h0 h1
  refine o_ixAnyL h0 (show r < 15 from h1) fun d hd => ?_
  walk_at "pws"
  exact g d (List.mem_of_getElem? hd)
end

end LawK08
end
section
namespace LawK08
open PySem PySem.Spec PyProof.Rows L2 PW
local macro_rules | `(tactic| walk_at "env") => `(tactic| (first | (dsimp only [sto, stoE, frz, frzE, frzAll, wipeE, Res.ent, List.set, List.getElem?_cons_zero, List.getElem?_cons_succ]; done) | (dsimp only [sto, stoE, frz, frzE, frzAll, wipeE, Res.ent, List.set, List.getElem?_cons_zero, List.getElem?_cons_succ]; rfl) | rfl))
local macro_rules | `(tactic| walk_at "mem") => `(tactic| first | assumption | exact cut_sub (by assumption) | exact List.mem_cons_of_mem _ (by assumption) | (simp only [List.mem_cons, true_or, or_true]; done))
local macro_rules | `(tactic| walk_at "jn") => `(tactic| first | assumption | with_unfolding_all exact rfl | exact jnTr (by assumption) (by assumption) | exact jnTr (cut_sub (by assumption)) (by assumption) | exact jnTr (List.mem_cons_of_mem _ (by assumption)) (by assumption) | exact jnT (by assumption) (by walk_at "mem") | exact jnL' (by assumption) (by walk_at "mem") | exact jnT2 (by assumption) (by assumption) (by walk_at "mem"))
local macro_rules | `(tactic| walk_at "sz") => `(tactic| first | with_unfolding_all exact Nat.le_of_ble_eq_true rfl | assumption | exact szl (by assumption) | exact szS (by walk_at "jn") | exact szT (by walk_at "jn") | exact szTl (by assumption) | exact szL (by walk_at "jn") | exact szG (by walk_at "jn") | ((with_reducible show (PW.cutD _ _ _).length ≤ _); refine szC ?_; walk_at "sz") | with_unfolding_all exact szl (Nat.le_of_ble_eq_true rfl))
local macro_rules | `(tactic| walk_at "bi") => `(tactic| first | with_unfolding_all exact rfl | assumption | exact jn_bi (by walk_at "jn"))
local macro_rules | `(tactic| walk_at "pw") => `(tactic| first
  | ((with_reducible show PW.XE _ _ _ _); first | with_reducible refine xe_var_d (by with_unfolding_all exact rfl) ?_ | with_reducible refine xe_var_o (by with_unfolding_all exact rfl) ?_ | with_reducible refine xe_int ?_ | with_reducible refine xe_str ?_ | with_reducible refine xe_bl ?_ | with_reducible refine xe_non ?_ | with_reducible refine ye_emp ?_ | with_reducible refine xe_op ?_ | with_reducible refine xe_un ?_ | with_reducible refine xe_if ?_ | with_reducible refine xe_andV ?_ | with_reducible refine xe_orV ?_ | with_reducible refine xe_notV ?_ | with_reducible refine xe_chain ?_ | with_reducible refine xe_isi D.isTup isi_tuple ?_ | with_reducible refine xe_isi D.isLst isi_list ?_ | with_reducible refine xe_isi D.isStr isi_str ?_ | with_reducible refine xe_isi D.isInt isi_int ?_ | with_reducible refine xe_isi D.isBool isi_bool ?_ | with_reducible refine xe_isi D.isDct isi_dict ?_ | with_reducible refine xe_isi2 D.isTup D.isLst isi_tuple isi_list ?_ | with_reducible refine ye_lenSet ?_ | with_reducible refine ye_join ?_ | with_reducible refine xe_cb ?_ | with_reducible refine xe_callS ?_ | with_reducible refine ye_callH (by with_unfolding_all exact rfl) ?_ | with_reducible refine ye_call ?_ | with_reducible refine ye_tup ?_ | with_reducible refine ye_lst ?_ | with_reducible refine xe_sl ?_ | with_reducible refine ye_revT ?_ | with_reducible refine ye_rg1 ?_ | with_reducible refine ye_rg2 ?_ | with_reducible refine ye_meth (by with_unfolding_all exact rfl) (fun _ _ _ h => ty_list h) ?_ | with_reducible refine ye_meth0 (by with_unfolding_all exact rfl) (fun _ _ _ h => ty_list h) ?_)
  | ((with_reducible show PW.XA _ _ _ _); first | with_reducible refine xa_nil ?_ | with_reducible refine xa_cons ?_)
  | ((with_reducible show PW.XT _ _ _ _); first | with_reducible refine xt_yes ?_ | with_reducible refine xt_test ?_ | with_reducible refine xt_B ?_ | with_reducible refine xt_not ?_ | with_reducible refine xt_and ?_ | with_reducible refine xt_or ?_)
  | ((with_reducible show PW.XS _ _ _ _); first | with_reducible refine xs_seq ?_ | with_reducible refine xs_next ?_ | with_reducible refine ys_asg ?_ | with_reducible refine xs_if ?_ | with_reducible refine ys_ret ?_ | with_reducible refine xs_retN ?_ | with_reducible refine xs_drop ?_ | with_reducible refine xs_break ?_ | with_reducible refine xs_cont ?_ | with_reducible refine ys_par (by with_unfolding_all decide) ?_ | with_reducible refine ys_par3 (by with_unfolding_all decide) (by with_unfolding_all decide) (by with_unfolding_all decide) ?_ | with_reducible refine ys_unp2 (by with_unfolding_all decide) ?_ | with_reducible refine ys_unp3 (by with_unfolding_all decide) (by with_unfolding_all decide) (by with_unfolding_all decide) ?_ | with_reducible refine ys_setix ?_ | with_reducible refine ys_asgG ?_ | with_reducible refine xs_for ?_)
  | ((with_reducible show PW.OpD _ _ _ _ _); first | with_reducible refine o_addI ?_ | with_reducible refine o_subI ?_ | with_reducible refine o_mulI (by first | with_unfolding_all exact .inl ⟨by decide, by decide⟩ | with_unfolding_all exact .inr ⟨by decide, by decide⟩) ?_ | with_reducible refine o_mulI (cmulL (by omega) (by omega)) ?_ | with_reducible refine o_mulI (cmulR (by omega) (by omega)) ?_ | with_reducible refine o_divI (by with_unfolding_all exact ⟨by decide, by decide⟩) ?_ | with_reducible refine o_modI (by with_unfolding_all decide) ?_ | with_reducible refine o_powI (by with_unfolding_all exact ⟨by decide, by decide, by decide⟩) ?_ | with_reducible refine o_ltI ?_ | with_reducible refine o_leI ?_ | with_reducible refine o_leUI ?_ | with_reducible refine o_leP ?_ | with_reducible refine o_shlI (cpow1 (by omega) (by omega)) ?_ | with_reducible refine o_gtI ?_ | with_reducible refine o_geI ?_ | with_reducible refine o_eqI ?_ | with_reducible refine o_neI ?_ | with_reducible refine o_eqB ?_ | with_reducible refine o_neB ?_ | with_reducible refine o_isNo ?_ | with_reducible refine o_isNotNo ?_ | with_reducible refine o_isBo ?_ | with_reducible refine o_isNotBo ?_ | with_reducible refine o_inC ?_ | with_reducible refine o_notInC ?_ | with_reducible refine o_ix0 ?_ | with_reducible refine o_ix1 ?_ | with_reducible refine o_ix2 ?_ | ((with_reducible show PW.OpD _ (rIx _) (.tup _) (.int 0) _); refine o_ix0e (ne_len (by omega)) ?_; intro y ys e; subst e) | with_reducible refine o_ixT (by with_unfolding_all exact rfl) ?_ | with_reducible refine o_ixL (by with_unfolding_all exact rfl) ?_)
  | ((with_reducible show PW.CaD _ _ _ _); first | with_reducible refine c_lenT ?_ | with_reducible refine c_lenL ?_ | with_reducible refine c_intI ?_ | with_reducible refine c_intB ?_ | with_reducible refine c_absI ?_ | with_reducible refine c_allM ?_ | with_reducible refine c_anyM ?_ | with_reducible refine c_tupL ?_ | with_reducible refine c_tupT ?_ | with_reducible refine c_lstL ?_ | with_reducible refine c_lstT ?_ | ((with_reducible show CaD _ (rLenU _) [.str _] _); with_reducible refine c_lenS (by walk_at "sz") ?_))
  | ((with_reducible show PW.XI _ _ _ _); first | with_reducible refine yi_seqU ?_ | with_reducible refine yi_enum ?_ | with_reducible refine yi_zip ?_ | with_reducible refine xi_range1 ?_ | with_reducible refine xi_range2 ?_)
  | ((with_reducible show PW.XG _ _ _ _ _); first | with_reducible refine yg_name ?_ | with_reducible refine xg_tup (by with_unfolding_all exact rfl) ?_)
  | ((with_reducible show PW.XGs _ _ _ _ _); first | with_reducible refine xgs_nil ?_ | with_reducible refine xgs_cons ?_)
  | ((with_reducible show PW.XM _ _ _ _ _); first | with_reducible refine xm_nil ?_ | with_reducible refine xm_cons ?_)
  | ((with_reducible show PW.XO _ _ _ _); first | with_reducible refine xo_none ?_ | with_reducible refine xo_some ?_)
  | ((with_reducible show PW.SlD _ _ _ _ _ _); first | with_reducible refine sl_tail ?_ | with_reducible refine sl_T ?_ | with_reducible refine sl_L ?_)
  | ((with_reducible show PW.UnD _ _ _ _); first | with_reducible refine u_neg ?_)
  | ((with_reducible show PW.back _ _ _); first | with_reducible refine back_d ?_ | with_reducible refine back_nw ?_ | with_reducible refine back_v (by with_unfolding_all exact rfl) ?_)
  | walk_at "cnt"
  | walk_at "br")
local macro_rules | `(tactic| walk_at "cnt") => `(tactic| first
  | with_reducible refine ex_env (by walk_at "env") ?_
  | ((with_reducible show ∃ x : List D, _ = some x ∧ x.length ≤ _ ∧ _); with_reducible refine ex_pks2 (by with_unfolding_all exact rfl) (by walk_at "sz") ?_)
  | with_reducible refine ex_pks (by with_unfolding_all exact rfl) ?_
  | ((with_reducible show ∃ x : D, _ = some x ∧ x.isBuiltin = true ∧ _); with_reducible refine ex_pk2 (by with_unfolding_all exact rfl) (by walk_at "bi") ?_)
  | with_reducible refine lc_fin (by with_unfolding_all exact rfl) (by with_unfolding_all exact rfl) ?_
  | with_reducible refine lcf_fin (by with_unfolding_all exact rfl) (by with_unfolding_all exact rfl) ?_
  | with_reducible refine ex_pk (by with_unfolding_all exact rfl) ?_
  | with_reducible refine ex_op (by with_unfolding_all exact rfl) (by with_unfolding_all exact rfl) ?_
  | with_reducible refine ex_it (by with_unfolding_all exact rfl) (by with_unfolding_all exact rfl) ?_
  | with_reducible refine ex_its (by with_unfolding_all exact rfl) (by with_unfolding_all exact rfl) ?_
  | with_reducible refine ex_zip (by with_unfolding_all exact rfl) (by with_unfolding_all exact rfl) ?_
  | with_reducible refine ex_bl ?_
  | with_reducible refine ex_int ?_
  | with_reducible refine ex_sc (by with_unfolding_all exact rfl) ?_
  | with_reducible refine and_brT ?_
  | with_reducible refine and_brF ?_
  | with_reducible refine and_rbT ?_
  | with_reducible refine and_rbF ?_
  | with_reducible refine and_nT ?_
  | with_reducible refine and_nF ?_
  | with_reducible refine and_mT ?_
  | with_reducible refine and_mF ?_
  | with_reducible refine and_br ?_ ?_
  | with_reducible refine and_rb ?_ ?_
  | with_reducible refine ⟨nv_d, ?_⟩
  | with_reducible refine ⟨nv_nw, ?_⟩)
local macro_rules | `(tactic| walk_at "br") => `(tactic| first
  | (with_reducible refine br_tup ?_; intro xs e; subst e)
  | (with_reducible refine br_tupN ?_; intro xs e; subst e)
  | (with_reducible refine br_lst ?_; intro xs e; subst e)
  | (with_reducible refine br_lstN ?_; intro xs e; subst e)
  | (with_reducible refine br_str ?_; intro xs e; subst e)
  | (with_reducible refine br_strN ?_; intro xs e; subst e)
  | (with_reducible refine br_non ?_; intro e; subst e)
  | (with_reducible refine br_nonN ?_; intro e; subst e)
  | (with_reducible refine br_t ?_; intro h; first | (cases h; done) | (simp only [lenc, List.length_nil, decide_eq_true_eq, decide_eq_false_iff_not] at h; omega) | exact absurd (show true = false from h) (by decide) | exact absurd (show false = true from h) (by decide) | (simp only [lenc, List.length_nil, Bool.not_eq_true', Bool.not_eq_false', decide_eq_true_eq, decide_eq_false_iff_not] at h) | skip)
  | (with_reducible refine br_f ?_; intro h; first | (cases h; done) | (simp only [lenc, List.length_nil, decide_eq_true_eq, decide_eq_false_iff_not] at h; omega) | exact absurd (show true = false from h) (by decide) | exact absurd (show false = true from h) (by decide) | (simp only [lenc, List.length_nil, Bool.not_eq_true', Bool.not_eq_false', decide_eq_true_eq, decide_eq_false_iff_not] at h) | skip)
  | (with_reducible refine signs_one ?_; intro c)
  | (with_reducible refine fa_mem ?_; intro d hd)
  | ((with_reducible show _ ≤ sizeLine ∧ _); with_reducible refine lc_split (by walk_at "sz") (by walk_at "env") ?_ ?_)
  | ((with_reducible show wipeE _ _ = _ ∧ _); with_reducible refine lc_env (by walk_at "env") ?_)
  | ((with_reducible show (_ : D) = _); exact rfl))
local macro_rules | `(tactic| walk_at "pws") => `(tactic| repeat' walk_at "pw")
local macro_rules | `(tactic| walk_at "pw") => `(tactic| first
  | ((with_reducible show w_is_integer _ _); with_reducible refine i_is_integer (by walk_at "bi") ?_) | ((with_reducible show w_is_within _ _); with_reducible refine i_is_within (by walk_at "bi") ?_) | ((with_reducible show w_is_tuple_of _ _); with_reducible refine i_is_tuple_of (by walk_at "bi") ?_)
  | ((with_reducible show w_is_name _ _); with_reducible refine i_is_name (by walk_at "jn") ?_) | ((with_reducible show w_is_lock _ _); with_reducible refine i_is_lock (by walk_at "bi") ?_) | ((with_reducible show w_is_member _ _); with_reducible refine i_is_member (by walk_at "jn") ?_)
  | (with_reducible refine br_two ?_; intro a b e; subst e) | (with_reducible refine br_twoN ?_; intro a b e; subst e) | (with_reducible refine br_thr ?_; intro a b c e; subst e) | (with_reducible refine br_thrN ?_; intro a b c e; subst e)
  | (with_reducible refine br_int ?_; intro i e; subst e) | (with_reducible refine br_win ?_; intro i e h1 h2; subst e) | (with_reducible refine br_winN ?_; intro i e h1 h2; subst e))
section
local macro_rules | `(tactic| walk_at "pw") => `(tactic| first
  | ((with_reducible show w_law_bad _ _); with_reducible refine i_law_bad (by assumption) (by assumption) (by assumption) (by assumption) (by assumption) ?_)
  | with_reducible refine o_ixL (by with_unfolding_all exact rfl) ?_)
theorem pure_law_due {K : PySem.W.Frag} : ∀ ds kk, w_law_due ds kk → XS K (t_law_due K) (ini 2 ds) { nx := fun _ => kk (.d .non), rt := fun r _ => kk r } := by
  rintro _ kk ⟨x, y, z, rfl, hx, hy, hz, iy, iz, g⟩
  show XS K (t_law_due K) [.d (.lst [x, y, z]), .u] (Fin kk)
  unfold t_law_due
  unfold dueOf at g
  walk_at "pws"
  · rename_i h
    rw [if_pos h] at g
    exact g
  · rename_i h
    rw [if_neg (by rw [h]; exact Bool.false_ne_true)] at g
    exact g
end

end LawK08
end
section
namespace LawK08
open PySem PySem.Spec PyProof.Rows L2 PW
local macro_rules | `(tactic| walk_at "env") => `(tactic| (first | (dsimp only [sto, stoE, frz, frzE, frzAll, wipeE, Res.ent, List.set, List.getElem?_cons_zero, List.getElem?_cons_succ]; done) | (dsimp only [sto, stoE, frz, frzE, frzAll, wipeE, Res.ent, List.set, List.getElem?_cons_zero, List.getElem?_cons_succ]; rfl) | rfl))
local macro_rules | `(tactic| walk_at "mem") => `(tactic| first | assumption | exact cut_sub (by assumption) | exact List.mem_cons_of_mem _ (by assumption) | (simp only [List.mem_cons, true_or, or_true]; done))
local macro_rules | `(tactic| walk_at "jn") => `(tactic| first | assumption | with_unfolding_all exact rfl | exact jnTr (by assumption) (by assumption) | exact jnTr (cut_sub (by assumption)) (by assumption) | exact jnTr (List.mem_cons_of_mem _ (by assumption)) (by assumption) | exact jnT (by assumption) (by walk_at "mem") | exact jnL' (by assumption) (by walk_at "mem") | exact jnT2 (by assumption) (by assumption) (by walk_at "mem"))
local macro_rules | `(tactic| walk_at "sz") => `(tactic| first | with_unfolding_all exact Nat.le_of_ble_eq_true rfl | assumption | exact szl (by assumption) | exact szS (by walk_at "jn") | exact szT (by walk_at "jn") | exact szTl (by assumption) | exact szL (by walk_at "jn") | exact szG (by walk_at "jn") | ((with_reducible show (PW.cutD _ _ _).length ≤ _); refine szC ?_; walk_at "sz") | with_unfolding_all exact szl (Nat.le_of_ble_eq_true rfl))
local macro_rules | `(tactic| walk_at "bi") => `(tactic| first | with_unfolding_all exact rfl | assumption | exact jn_bi (by walk_at "jn"))
local macro_rules | `(tactic| walk_at "pw") => `(tactic| first
  | ((with_reducible show PW.XE _ _ _ _); first | with_reducible refine xe_var_d (by with_unfolding_all exact rfl) ?_ | with_reducible refine xe_var_o (by with_unfolding_all exact rfl) ?_ | with_reducible refine xe_int ?_ | with_reducible refine xe_str ?_ | with_reducible refine xe_bl ?_ | with_reducible refine xe_non ?_ | with_reducible refine ye_emp ?_ | with_reducible refine xe_op ?_ | with_reducible refine xe_un ?_ | with_reducible refine xe_if ?_ | with_reducible refine xe_andV ?_ | with_reducible refine xe_orV ?_ | with_reducible refine xe_notV ?_ | with_reducible refine xe_chain ?_ | with_reducible refine xe_isi D.isTup isi_tuple ?_ | with_reducible refine xe_isi D.isLst isi_list ?_ | with_reducible refine xe_isi D.isStr isi_str ?_ | with_reducible refine xe_isi D.isInt isi_int ?_ | with_reducible refine xe_isi D.isBool isi_bool ?_ | with_reducible refine xe_isi D.isDct isi_dict ?_ | with_reducible refine xe_isi2 D.isTup D.isLst isi_tuple isi_list ?_ | with_reducible refine ye_lenSet ?_ | with_reducible refine ye_join ?_ | with_reducible refine xe_cb ?_ | with_reducible refine xe_callS ?_ | with_reducible refine ye_callH (by with_unfolding_all exact rfl) ?_ | with_reducible refine ye_call ?_ | with_reducible refine ye_tup ?_ | with_reducible refine ye_lst ?_ | with_reducible refine xe_sl ?_ | with_reducible refine ye_revT ?_ | with_reducible refine ye_rg1 ?_ | with_reducible refine ye_rg2 ?_ | with_reducible refine ye_meth (by with_unfolding_all exact rfl) (fun _ _ _ h => ty_list h) ?_ | with_reducible refine ye_meth0 (by with_unfolding_all exact rfl) (fun _ _ _ h => ty_list h) ?_)
  | ((with_reducible show PW.XA _ _ _ _); first | with_reducible refine xa_nil ?_ | with_reducible refine xa_cons ?_)
  | ((with_reducible show PW.XT _ _ _ _); first | with_reducible refine xt_yes ?_ | with_reducible refine xt_test ?_ | with_reducible refine xt_B ?_ | with_reducible refine xt_not ?_ | with_reducible refine xt_and ?_ | with_reducible refine xt_or ?_)
  | ((with_reducible show PW.XS _ _ _ _); first | with_reducible refine xs_seq ?_ | with_reducible refine xs_next ?_ | with_reducible refine ys_asg ?_ | with_reducible refine xs_if ?_ | with_reducible refine ys_ret ?_ | with_reducible refine xs_retN ?_ | with_reducible refine xs_drop ?_ | with_reducible refine xs_break ?_ | with_reducible refine xs_cont ?_ | with_reducible refine ys_par (by with_unfolding_all decide) ?_ | with_reducible refine ys_par3 (by with_unfolding_all decide) (by with_unfolding_all decide) (by with_unfolding_all decide) ?_ | with_reducible refine ys_unp2 (by with_unfolding_all decide) ?_ | with_reducible refine ys_unp3 (by with_unfolding_all decide) (by with_unfolding_all decide) (by with_unfolding_all decide) ?_ | with_reducible refine ys_setix ?_ | with_reducible refine ys_asgG ?_ | with_reducible refine xs_for ?_)
  | ((with_reducible show PW.OpD _ _ _ _ _); first | with_reducible refine o_addI ?_ | with_reducible refine o_subI ?_ | with_reducible refine o_mulI (by first | with_unfolding_all exact .inl ⟨by decide, by decide⟩ | with_unfolding_all exact .inr ⟨by decide, by decide⟩) ?_ | with_reducible refine o_mulI (cmulL (by omega) (by omega)) ?_ | with_reducible refine o_mulI (cmulR (by omega) (by omega)) ?_ | with_reducible refine o_divI (by with_unfolding_all exact ⟨by decide, by decide⟩) ?_ | with_reducible refine o_modI (by with_unfolding_all decide) ?_ | with_reducible refine o_powI (by with_unfolding_all exact ⟨by decide, by decide, by decide⟩) ?_ | with_reducible refine o_ltI ?_ | with_reducible refine o_leI ?_ | with_reducible refine o_leUI ?_ | with_reducible refine o_leP ?_ | with_reducible refine o_shlI (cpow1 (by omega) (by omega)) ?_ | with_reducible refine o_gtI ?_ | with_reducible refine o_geI ?_ | with_reducible refine o_eqI ?_ | with_reducible refine o_neI ?_ | with_reducible refine o_eqB ?_ | with_reducible refine o_neB ?_ | with_reducible refine o_isNo ?_ | with_reducible refine o_isNotNo ?_ | with_reducible refine o_isBo ?_ | with_reducible refine o_isNotBo ?_ | with_reducible refine o_inC ?_ | with_reducible refine o_notInC ?_ | with_reducible refine o_ix0 ?_ | with_reducible refine o_ix1 ?_ | with_reducible refine o_ix2 ?_ | ((with_reducible show PW.OpD _ (rIx _) (.tup _) (.int 0) _); refine o_ix0e (ne_len (by omega)) ?_; intro y ys e; subst e) | with_reducible refine o_ixT (by with_unfolding_all exact rfl) ?_ | with_reducible refine o_ixL (by with_unfolding_all exact rfl) ?_)
  | ((with_reducible show PW.CaD _ _ _ _); first | with_reducible refine c_lenT ?_ | with_reducible refine c_lenL ?_ | with_reducible refine c_intI ?_ | with_reducible refine c_intB ?_ | with_reducible refine c_absI ?_ | with_reducible refine c_allM ?_ | with_reducible refine c_anyM ?_ | with_reducible refine c_tupL ?_ | with_reducible refine c_tupT ?_ | with_reducible refine c_lstL ?_ | with_reducible refine c_lstT ?_ | ((with_reducible show CaD _ (rLenU _) [.str _] _); with_reducible refine c_lenS (by walk_at "sz") ?_))
  | ((with_reducible show PW.XI _ _ _ _); first | with_reducible refine yi_seqU ?_ | with_reducible refine yi_enum ?_ | with_reducible refine yi_zip ?_ | with_reducible refine xi_range1 ?_ | with_reducible refine xi_range2 ?_)
  | ((with_reducible show PW.XG _ _ _ _ _); first | with_reducible refine yg_name ?_ | with_reducible refine xg_tup (by with_unfolding_all exact rfl) ?_)
  | ((with_reducible show PW.XGs _ _ _ _ _); first | with_reducible refine xgs_nil ?_ | with_reducible refine xgs_cons ?_)
  | ((with_reducible show PW.XM _ _ _ _ _); first | with_reducible refine xm_nil ?_ | with_reducible refine xm_cons ?_)
  | ((with_reducible show PW.XO _ _ _ _); first | with_reducible refine xo_none ?_ | with_reducible refine xo_some ?_)
  | ((with_reducible show PW.SlD _ _ _ _ _ _); first | with_reducible refine sl_tail ?_ | with_reducible refine sl_T ?_ | with_reducible refine sl_L ?_)
  | ((with_reducible show PW.UnD _ _ _ _); first | with_reducible refine u_neg ?_)
  | ((with_reducible show PW.back _ _ _); first | with_reducible refine back_d ?_ | with_reducible refine back_nw ?_ | with_reducible refine back_v (by with_unfolding_all exact rfl) ?_)
  | walk_at "cnt"
  | walk_at "br")
local macro_rules | `(tactic| walk_at "cnt") => `(tactic| first
  | with_reducible refine ex_env (by walk_at "env") ?_
  | ((with_reducible show ∃ x : List D, _ = some x ∧ x.length ≤ _ ∧ _); with_reducible refine ex_pks2 (by with_unfolding_all exact rfl) (by walk_at "sz") ?_)
  | with_reducible refine ex_pks (by with_unfolding_all exact rfl) ?_
  | ((with_reducible show ∃ x : D, _ = some x ∧ x.isBuiltin = true ∧ _); with_reducible refine ex_pk2 (by with_unfolding_all exact rfl) (by walk_at "bi") ?_)
  | with_reducible refine lc_fin (by with_unfolding_all exact rfl) (by with_unfolding_all exact rfl) ?_
  | with_reducible refine lcf_fin (by with_unfolding_all exact rfl) (by with_unfolding_all exact rfl) ?_
  | with_reducible refine ex_pk (by with_unfolding_all exact rfl) ?_
  | with_reducible refine ex_op (by with_unfolding_all exact rfl) (by with_unfolding_all exact rfl) ?_
  | with_reducible refine ex_it (by with_unfolding_all exact rfl) (by with_unfolding_all exact rfl) ?_
  | with_reducible refine ex_its (by with_unfolding_all exact rfl) (by with_unfolding_all exact rfl) ?_
  | with_reducible refine ex_zip (by with_unfolding_all exact rfl) (by with_unfolding_all exact rfl) ?_
  | with_reducible refine ex_bl ?_
  | with_reducible refine ex_int ?_
  | with_reducible refine ex_sc (by with_unfolding_all exact rfl) ?_
  | with_reducible refine and_brT ?_
  | with_reducible refine and_brF ?_
  | with_reducible refine and_rbT ?_
  | with_reducible refine and_rbF ?_
  | with_reducible refine and_nT ?_
  | with_reducible refine and_nF ?_
  | with_reducible refine and_mT ?_
  | with_reducible refine and_mF ?_
  | with_reducible refine and_br ?_ ?_
  | with_reducible refine and_rb ?_ ?_
  | with_reducible refine ⟨nv_d, ?_⟩
  | with_reducible refine ⟨nv_nw, ?_⟩)
local macro_rules | `(tactic| walk_at "br") => `(tactic| first
  | (with_reducible refine br_tup ?_; intro xs e; subst e)
  | (with_reducible refine br_tupN ?_; intro xs e; subst e)
  | (with_reducible refine br_lst ?_; intro xs e; subst e)
  | (with_reducible refine br_lstN ?_; intro xs e; subst e)
  | (with_reducible refine br_str ?_; intro xs e; subst e)
  | (with_reducible refine br_strN ?_; intro xs e; subst e)
  | (with_reducible refine br_non ?_; intro e; subst e)
  | (with_reducible refine br_nonN ?_; intro e; subst e)
  | (with_reducible refine br_t ?_; intro h; first | (cases h; done) | (simp only [lenc, List.length_nil, decide_eq_true_eq, decide_eq_false_iff_not] at h; omega) | exact absurd (show true = false from h) (by decide) | exact absurd (show false = true from h) (by decide) | (simp only [lenc, List.length_nil, Bool.not_eq_true', Bool.not_eq_false', decide_eq_true_eq, decide_eq_false_iff_not] at h) | skip)
  | (with_reducible refine br_f ?_; intro h; first | (cases h; done) | (simp only [lenc, List.length_nil, decide_eq_true_eq, decide_eq_false_iff_not] at h; omega) | exact absurd (show true = false from h) (by decide) | exact absurd (show false = true from h) (by decide) | (simp only [lenc, List.length_nil, Bool.not_eq_true', Bool.not_eq_false', decide_eq_true_eq, decide_eq_false_iff_not] at h) | skip)
  | (with_reducible refine signs_one ?_; intro c)
  | (with_reducible refine fa_mem ?_; intro d hd)
  | ((with_reducible show _ ≤ sizeLine ∧ _); with_reducible refine lc_split (by walk_at "sz") (by walk_at "env") ?_ ?_)
  | ((with_reducible show wipeE _ _ = _ ∧ _); with_reducible refine lc_env (by walk_at "env") ?_)
  | ((with_reducible show (_ : D) = _); exact rfl))
local macro_rules | `(tactic| walk_at "pws") => `(tactic| repeat' walk_at "pw")
local macro_rules | `(tactic| walk_at "pw") => `(tactic| first
  | ((with_reducible show w_is_integer _ _); with_reducible refine i_is_integer (by walk_at "bi") ?_) | ((with_reducible show w_is_within _ _); with_reducible refine i_is_within (by walk_at "bi") ?_) | ((with_reducible show w_is_tuple_of _ _); with_reducible refine i_is_tuple_of (by walk_at "bi") ?_)
  | ((with_reducible show w_is_name _ _); with_reducible refine i_is_name (by walk_at "jn") ?_) | ((with_reducible show w_is_lock _ _); with_reducible refine i_is_lock (by walk_at "bi") ?_) | ((with_reducible show w_is_member _ _); with_reducible refine i_is_member (by walk_at "jn") ?_)
  | (with_reducible refine br_two ?_; intro a b e; subst e) | (with_reducible refine br_twoN ?_; intro a b e; subst e) | (with_reducible refine br_thr ?_; intro a b c e; subst e) | (with_reducible refine br_thrN ?_; intro a b c e; subst e)
  | (with_reducible refine br_int ?_; intro i e; subst e) | (with_reducible refine br_win ?_; intro i e h1 h2; subst e) | (with_reducible refine br_winN ?_; intro i e h1 h2; subst e))
def okIn (a : Nat) (b : Int) (ls : List D) (l : D) : Bool := (decide (b * 2 ^ a ≤ asInt l) && decide (asInt l < (b + 1) * 2 ^ a)) && filled ls (asInt l)
def asideFrom (a : Nat) (b : Int) (ls : List D) : Int → List D → Bool
  | _, [] => true
  | p, x :: r => isInteger x && decide (p < asInt x) && okIn a b ls x && asideFrom a b ls (asInt x) r
theorem asc_int (x : D) (r : List D) : ascending (.int (asInt x) :: r) = ascending (x :: r) := by
  cases r with
  | nil => rfl
  | cons y r => rfl
theorem aside_all {a : Nat} {b : Int} {ls : List D} : ∀ (xs : List D) (p : Int), asideFrom a b ls p xs = (xs.all isInteger && ascending (.int p :: xs) && xs.all (okIn a b ls))
  | [], p => rfl
  | x :: r, p => by
    rw [asideFrom, aside_all r (asInt x), asc_int]
    show _ = ((isInteger x && r.all isInteger) && (decide (p < asInt x) && ascending (x :: r)) && (okIn a b ls x && r.all (okIn a b ls)))
    cases isInteger x <;> cases decide (p < asInt x) <;> cases okIn a b ls x <;> cases r.all isInteger <;> cases ascending (x :: r) <;> cases r.all (okIn a b ls) <;> rfl
theorem aside_eq {a : Nat} {b : Int} {ls xs : List D} (h0 : 0 ≤ b * 2 ^ a) : isAside (.tup xs) a b ls = asideFrom a b ls (-1) xs := by
  rw [aside_all]
  show ((xs.all isInteger && ascending xs) && xs.all (okIn a b ls)) = _
  cases xs with
  | nil => rfl
  | cons x r =>
    show _ = ((List.all (x :: r) isInteger && (decide (-1 < asInt x) && ascending (x :: r))) && List.all (x :: r) (okIn a b ls))
    by_cases h : okIn a b ls x = true
    · have h1 : b * 2 ^ a ≤ asInt x := of_decide_eq_true (Bool.and_eq_true_iff.mp (Bool.and_eq_true_iff.mp h).1).1
      rw [decide_eq_true (show -1 < asInt x by omega), Bool.true_and]
    · rw [Bool.not_eq_true] at h
      rw [List.all_cons (f := okIn a b ls), h, Bool.false_and, Bool.and_false, Bool.and_false]
theorem drop_at2 {xs : List D} {i : Nat} {x : D} (h : xs[i]? = some x) : xs.drop i = x :: xs.drop (i + 1) := by
  obtain ⟨hl, e⟩ := List.getElem?_eq_some_iff.mp h
  rw [← e]
  exact List.drop_eq_getElem_cons hl
local macro_rules | `(tactic| walk_at "pw") => `(tactic| first
  | ((with_reducible show w_law_int _ _); with_reducible refine i_law_int (by walk_at "bi") ?_))
theorem pure_law_aside {K : PySem.W.Frag} : ∀ ds kk, w_law_aside ds kk → XS K (t_law_aside K) (ini 6 ds) { nx := fun _ => kk (.d .non), rt := fun r _ => kk r } := by
  rintro _ kk ⟨x, a, b, h, ls, rfl, hx, h8, ha, hb0, hb1, hl, g⟩
  show XS K (t_law_aside K) [.d x, .d (.tup [.int a, .int b]), .d (.tup ls), .u, .u, .u] (Fin kk)
  unfold t_law_aside
  obtain ⟨p1, p2⟩ := pow_le8 (a := h - a) (by omega)
  have hp : (2 : Int) ^ (h - a) * 2 ^ a = 2 ^ h := by
    rw [← Int.pow_add, Nat.sub_add_cancel ha]
  have hlI : (ls.length : Int) = 2 ^ h := by rw [hl, pow_cast]
  have q0 : 0 ≤ b * 2 ^ a := Int.mul_nonneg hb0 (by have := (pow_le8 (a := a) (by omega)).1; omega)
  have eb : b * 2 ^ a + 2 ^ a = (b + 1) * 2 ^ a := by rw [Int.add_mul, Int.one_mul]
  have q1 : (b + 1) * 2 ^ a ≤ 2 ^ h := by
    rw [← hp]
    exact Int.mul_le_mul_of_nonneg_right (by omega) (by have := (pow_le8 (a := a) (by omega)).1; omega)
  walk_at "pws"
  · refine fin_bl g ?_
    rename_i z
    cases x <;> first
      | rfl
      | cases z
  · rename_i xs
    rw [aside_eq q0] at g
    refine i_law_beneath (by omega) hb0 (by omega) ?_
    walk_at "pws"
    refine ⟨fun i ρ => ∃ (p : Int) (e5 : Ent), ρ = [.d (.tup xs), .d (.tup [.int a, .int b]), .d (.tup ls), .d (.int p), .own (.lst (rngD (b * 2 ^ a) (2 ^ a))), e5] ∧ asideFrom a b ls (-1) xs = asideFrom a b ls p (xs.drop i), ⟨-1, _, rfl, rfl⟩, ?_, ?_⟩
    · rintro i d ρ' hd ⟨p, e5, rfl, hi⟩
      rw [drop_at2 hd] at hi
      have hm := List.mem_of_getElem? hd
      walk_at "pws"
      · rename_i l w1 w2
        refine o_notInL rfl (sh_ints rng_int) ?_
        rw [mem_rng, ← pow_cast, eb]
        have ok : okIn a b ls (.int l) = ((decide (b * 2 ^ a ≤ l) && decide (l < (b + 1) * 2 ^ a)) && filled ls l) := rfl
        have step : asideFrom a b ls p (.int l :: xs.drop (i + 1)) = (okIn a b ls (.int l) && asideFrom a b ls l (xs.drop (i + 1))) := by
          show (isInteger (.int l) && decide (p < l) && okIn a b ls (.int l) && asideFrom a b ls l (xs.drop (i + 1))) = _
          rw [decide_eq_true (show p < l by omega)]
          rfl
        rw [step, ok] at hi
        walk_at "pws"
        · rename_i z
          have z : (decide (b * 2 ^ a ≤ l) && decide (l < (b + 1) * 2 ^ a)) = true := by
            cases q : (decide (b * 2 ^ a ≤ l) && decide (l < (b + 1) * 2 ^ a)) with
            | true => rfl
            | false => rw [q] at z; cases z
          rw [z, Bool.true_and] at hi
          obtain ⟨z1, z2⟩ := Bool.and_eq_true_iff.mp z
          have z1 := of_decide_eq_true z1
          have z2 := of_decide_eq_true z2
          refine o_ixAnyT (by omega) (by omega) fun d he => ?_
          have fe : filled ls l = !d.isNon := by
            unfold filled
            rw [he]
          rw [fe] at hi
          walk_at "pws"
          · refine fin_bl g (hi.trans ?_)
            rfl
          · rename_i z3
            rw [z3] at hi
            exact ⟨_, _, rfl, hi⟩
        · rename_i z
          refine fin_bl g (hi.trans ?_)
          have z : (decide (b * 2 ^ a ≤ l) && decide (l < (b + 1) * 2 ^ a)) = false := by
            cases q : (decide (b * 2 ^ a ≤ l) && decide (l < (b + 1) * 2 ^ a)) with
            | false => rfl
            | true => rw [q] at z; cases z
          rw [z, Bool.false_and, Bool.false_and]
      · rename_i z
        refine fin_bl g (hi.trans ?_)
        cases d with
        | int l =>
          have z : (decide (p + 1 ≤ l) && decide (l ≤ (ls.length : Int))) = false := z
          show (isInteger (.int l) && decide (p < l) && okIn a b ls (.int l) && _) = false
          by_cases h1 : p < l
          · rw [decide_eq_true (show p + 1 ≤ l by omega), Bool.true_and] at z
            have z := of_decide_eq_false z
            have e : okIn a b ls (.int l) = false := by
              show ((decide (b * 2 ^ a ≤ l) && decide (l < (b + 1) * 2 ^ a)) && filled ls l) = false
              rw [decide_eq_false (show ¬ l < (b + 1) * 2 ^ a by omega), Bool.and_false, Bool.false_and]
            rw [e, Bool.and_false, Bool.false_and]
          · rw [decide_eq_false h1, Bool.and_false, Bool.false_and, Bool.false_and]
        | _ => rfl
    · rintro ρ' ⟨p, e5, rfl, hi⟩
      rw [List.drop_length] at hi
      walk_at "pws"
      exact fin_bl g hi

end LawK08
end
section
namespace LawK08
open PySem PySem.Spec PyProof.Rows L2 PW
local macro_rules | `(tactic| walk_at "env") => `(tactic| (first | (dsimp only [sto, stoE, frz, frzE, frzAll, wipeE, Res.ent, List.set, List.getElem?_cons_zero, List.getElem?_cons_succ]; done) | (dsimp only [sto, stoE, frz, frzE, frzAll, wipeE, Res.ent, List.set, List.getElem?_cons_zero, List.getElem?_cons_succ]; rfl) | rfl))
local macro_rules | `(tactic| walk_at "mem") => `(tactic| first | assumption | exact cut_sub (by assumption) | exact List.mem_cons_of_mem _ (by assumption) | (simp only [List.mem_cons, true_or, or_true]; done))
local macro_rules | `(tactic| walk_at "jn") => `(tactic| first | assumption | with_unfolding_all exact rfl | exact jnTr (by assumption) (by assumption) | exact jnTr (cut_sub (by assumption)) (by assumption) | exact jnTr (List.mem_cons_of_mem _ (by assumption)) (by assumption) | exact jnT (by assumption) (by walk_at "mem") | exact jnL' (by assumption) (by walk_at "mem") | exact jnT2 (by assumption) (by assumption) (by walk_at "mem"))
local macro_rules | `(tactic| walk_at "sz") => `(tactic| first | with_unfolding_all exact Nat.le_of_ble_eq_true rfl | assumption | exact szl (by assumption) | exact szS (by walk_at "jn") | exact szT (by walk_at "jn") | exact szTl (by assumption) | exact szL (by walk_at "jn") | exact szG (by walk_at "jn") | ((with_reducible show (PW.cutD _ _ _).length ≤ _); refine szC ?_; walk_at "sz") | with_unfolding_all exact szl (Nat.le_of_ble_eq_true rfl))
local macro_rules | `(tactic| walk_at "bi") => `(tactic| first | with_unfolding_all exact rfl | assumption | exact jn_bi (by walk_at "jn"))
local macro_rules | `(tactic| walk_at "pw") => `(tactic| first
  | ((with_reducible show PW.XE _ _ _ _); first | with_reducible refine xe_var_d (by with_unfolding_all exact rfl) ?_ | with_reducible refine xe_var_o (by with_unfolding_all exact rfl) ?_ | with_reducible refine xe_int ?_ | with_reducible refine xe_str ?_ | with_reducible refine xe_bl ?_ | with_reducible refine xe_non ?_ | with_reducible refine ye_emp ?_ | with_reducible refine xe_op ?_ | with_reducible refine xe_un ?_ | with_reducible refine xe_if ?_ | with_reducible refine xe_andV ?_ | with_reducible refine xe_orV ?_ | with_reducible refine xe_notV ?_ | with_reducible refine xe_chain ?_ | with_reducible refine xe_isi D.isTup isi_tuple ?_ | with_reducible refine xe_isi D.isLst isi_list ?_ | with_reducible refine xe_isi D.isStr isi_str ?_ | with_reducible refine xe_isi D.isInt isi_int ?_ | with_reducible refine xe_isi D.isBool isi_bool ?_ | with_reducible refine xe_isi D.isDct isi_dict ?_ | with_reducible refine xe_isi2 D.isTup D.isLst isi_tuple isi_list ?_ | with_reducible refine ye_lenSet ?_ | with_reducible refine ye_join ?_ | with_reducible refine xe_cb ?_ | with_reducible refine xe_callS ?_ | with_reducible refine ye_callH (by with_unfolding_all exact rfl) ?_ | with_reducible refine ye_call ?_ | with_reducible refine ye_tup ?_ | with_reducible refine ye_lst ?_ | with_reducible refine xe_sl ?_ | with_reducible refine ye_revT ?_ | with_reducible refine ye_rg1 ?_ | with_reducible refine ye_rg2 ?_ | with_reducible refine ye_meth (by with_unfolding_all exact rfl) (fun _ _ _ h => ty_list h) ?_ | with_reducible refine ye_meth0 (by with_unfolding_all exact rfl) (fun _ _ _ h => ty_list h) ?_)
  | ((with_reducible show PW.XA _ _ _ _); first | with_reducible refine xa_nil ?_ | with_reducible refine xa_cons ?_)
  | ((with_reducible show PW.XT _ _ _ _); first | with_reducible refine xt_yes ?_ | with_reducible refine xt_test ?_ | with_reducible refine xt_B ?_ | with_reducible refine xt_not ?_ | with_reducible refine xt_and ?_ | with_reducible refine xt_or ?_)
  | ((with_reducible show PW.XS _ _ _ _); first | with_reducible refine xs_seq ?_ | with_reducible refine xs_next ?_ | with_reducible refine ys_asg ?_ | with_reducible refine xs_if ?_ | with_reducible refine ys_ret ?_ | with_reducible refine xs_retN ?_ | with_reducible refine xs_drop ?_ | with_reducible refine xs_break ?_ | with_reducible refine xs_cont ?_ | with_reducible refine ys_par (by with_unfolding_all decide) ?_ | with_reducible refine ys_par3 (by with_unfolding_all decide) (by with_unfolding_all decide) (by with_unfolding_all decide) ?_ | with_reducible refine ys_unp2 (by with_unfolding_all decide) ?_ | with_reducible refine ys_unp3 (by with_unfolding_all decide) (by with_unfolding_all decide) (by with_unfolding_all decide) ?_ | with_reducible refine ys_setix ?_ | with_reducible refine ys_asgG ?_ | with_reducible refine xs_for ?_)
  | ((with_reducible show PW.OpD _ _ _ _ _); first | with_reducible refine o_addI ?_ | with_reducible refine o_subI ?_ | with_reducible refine o_mulI (by first | with_unfolding_all exact .inl ⟨by decide, by decide⟩ | with_unfolding_all exact .inr ⟨by decide, by decide⟩) ?_ | with_reducible refine o_mulI (cmulL (by omega) (by omega)) ?_ | with_reducible refine o_mulI (cmulR (by omega) (by omega)) ?_ | with_reducible refine o_divI (by with_unfolding_all exact ⟨by decide, by decide⟩) ?_ | with_reducible refine o_modI (by with_unfolding_all decide) ?_ | with_reducible refine o_powI (by with_unfolding_all exact ⟨by decide, by decide, by decide⟩) ?_ | with_reducible refine o_ltI ?_ | with_reducible refine o_leI ?_ | with_reducible refine o_leUI ?_ | with_reducible refine o_leP ?_ | with_reducible refine o_shlI (cpow1 (by omega) (by omega)) ?_ | with_reducible refine o_gtI ?_ | with_reducible refine o_geI ?_ | with_reducible refine o_eqI ?_ | with_reducible refine o_neI ?_ | with_reducible refine o_eqB ?_ | with_reducible refine o_neB ?_ | with_reducible refine o_isNo ?_ | with_reducible refine o_isNotNo ?_ | with_reducible refine o_isBo ?_ | with_reducible refine o_isNotBo ?_ | with_reducible refine o_inC ?_ | with_reducible refine o_notInC ?_ | with_reducible refine o_ix0 ?_ | with_reducible refine o_ix1 ?_ | with_reducible refine o_ix2 ?_ | ((with_reducible show PW.OpD _ (rIx _) (.tup _) (.int 0) _); refine o_ix0e (ne_len (by omega)) ?_; intro y ys e; subst e) | with_reducible refine o_ixT (by with_unfolding_all exact rfl) ?_ | with_reducible refine o_ixL (by with_unfolding_all exact rfl) ?_)
  | ((with_reducible show PW.CaD _ _ _ _); first | with_reducible refine c_lenT ?_ | with_reducible refine c_lenL ?_ | with_reducible refine c_intI ?_ | with_reducible refine c_intB ?_ | with_reducible refine c_absI ?_ | with_reducible refine c_allM ?_ | with_reducible refine c_anyM ?_ | with_reducible refine c_tupL ?_ | with_reducible refine c_tupT ?_ | with_reducible refine c_lstL ?_ | with_reducible refine c_lstT ?_ | ((with_reducible show CaD _ (rLenU _) [.str _] _); with_reducible refine c_lenS (by walk_at "sz") ?_))
  | ((with_reducible show PW.XI _ _ _ _); first | with_reducible refine yi_seqU ?_ | with_reducible refine yi_enum ?_ | with_reducible refine yi_zip ?_ | with_reducible refine xi_range1 ?_ | with_reducible refine xi_range2 ?_)
  | ((with_reducible show PW.XG _ _ _ _ _); first | with_reducible refine yg_name ?_ | with_reducible refine xg_tup (by with_unfolding_all exact rfl) ?_)
  | ((with_reducible show PW.XGs _ _ _ _ _); first | with_reducible refine xgs_nil ?_ | with_reducible refine xgs_cons ?_)
  | ((with_reducible show PW.XM _ _ _ _ _); first | with_reducible refine xm_nil ?_ | with_reducible refine xm_cons ?_)
  | ((with_reducible show PW.XO _ _ _ _); first | with_reducible refine xo_none ?_ | with_reducible refine xo_some ?_)
  | ((with_reducible show PW.SlD _ _ _ _ _ _); first | with_reducible refine sl_tail ?_ | with_reducible refine sl_T ?_ | with_reducible refine sl_L ?_)
  | ((with_reducible show PW.UnD _ _ _ _); first | with_reducible refine u_neg ?_)
  | ((with_reducible show PW.back _ _ _); first | with_reducible refine back_d ?_ | with_reducible refine back_nw ?_ | with_reducible refine back_v (by with_unfolding_all exact rfl) ?_)
  | walk_at "cnt"
  | walk_at "br")
local macro_rules | `(tactic| walk_at "cnt") => `(tactic| first
  | with_reducible refine ex_env (by walk_at "env") ?_
  | ((with_reducible show ∃ x : List D, _ = some x ∧ x.length ≤ _ ∧ _); with_reducible refine ex_pks2 (by with_unfolding_all exact rfl) (by walk_at "sz") ?_)
  | with_reducible refine ex_pks (by with_unfolding_all exact rfl) ?_
  | ((with_reducible show ∃ x : D, _ = some x ∧ x.isBuiltin = true ∧ _); with_reducible refine ex_pk2 (by with_unfolding_all exact rfl) (by walk_at "bi") ?_)
  | with_reducible refine lc_fin (by with_unfolding_all exact rfl) (by with_unfolding_all exact rfl) ?_
  | with_reducible refine lcf_fin (by with_unfolding_all exact rfl) (by with_unfolding_all exact rfl) ?_
  | with_reducible refine ex_pk (by with_unfolding_all exact rfl) ?_
  | with_reducible refine ex_op (by with_unfolding_all exact rfl) (by with_unfolding_all exact rfl) ?_
  | with_reducible refine ex_it (by with_unfolding_all exact rfl) (by with_unfolding_all exact rfl) ?_
  | with_reducible refine ex_its (by with_unfolding_all exact rfl) (by with_unfolding_all exact rfl) ?_
  | with_reducible refine ex_zip (by with_unfolding_all exact rfl) (by with_unfolding_all exact rfl) ?_
  | with_reducible refine ex_bl ?_
  | with_reducible refine ex_int ?_
  | with_reducible refine ex_sc (by with_unfolding_all exact rfl) ?_
  | with_reducible refine and_brT ?_
  | with_reducible refine and_brF ?_
  | with_reducible refine and_rbT ?_
  | with_reducible refine and_rbF ?_
  | with_reducible refine and_nT ?_
  | with_reducible refine and_nF ?_
  | with_reducible refine and_mT ?_
  | with_reducible refine and_mF ?_
  | with_reducible refine and_br ?_ ?_
  | with_reducible refine and_rb ?_ ?_
  | with_reducible refine ⟨nv_d, ?_⟩
  | with_reducible refine ⟨nv_nw, ?_⟩)
local macro_rules | `(tactic| walk_at "br") => `(tactic| first
  | (with_reducible refine br_tup ?_; intro xs e; subst e)
  | (with_reducible refine br_tupN ?_; intro xs e; subst e)
  | (with_reducible refine br_lst ?_; intro xs e; subst e)
  | (with_reducible refine br_lstN ?_; intro xs e; subst e)
  | (with_reducible refine br_str ?_; intro xs e; subst e)
  | (with_reducible refine br_strN ?_; intro xs e; subst e)
  | (with_reducible refine br_non ?_; intro e; subst e)
  | (with_reducible refine br_nonN ?_; intro e; subst e)
  | (with_reducible refine br_t ?_; intro h; first | (cases h; done) | (simp only [lenc, List.length_nil, decide_eq_true_eq, decide_eq_false_iff_not] at h; omega) | exact absurd (show true = false from h) (by decide) | exact absurd (show false = true from h) (by decide) | (simp only [lenc, List.length_nil, Bool.not_eq_true', Bool.not_eq_false', decide_eq_true_eq, decide_eq_false_iff_not] at h) | skip)
  | (with_reducible refine br_f ?_; intro h; first | (cases h; done) | (simp only [lenc, List.length_nil, decide_eq_true_eq, decide_eq_false_iff_not] at h; omega) | exact absurd (show true = false from h) (by decide) | exact absurd (show false = true from h) (by decide) | (simp only [lenc, List.length_nil, Bool.not_eq_true', Bool.not_eq_false', decide_eq_true_eq, decide_eq_false_iff_not] at h) | skip)
  | (with_reducible refine signs_one ?_; intro c)
  | (with_reducible refine fa_mem ?_; intro d hd)
  | ((with_reducible show _ ≤ sizeLine ∧ _); with_reducible refine lc_split (by walk_at "sz") (by walk_at "env") ?_ ?_)
  | ((with_reducible show wipeE _ _ = _ ∧ _); with_reducible refine lc_env (by walk_at "env") ?_)
  | ((with_reducible show (_ : D) = _); exact rfl))
local macro_rules | `(tactic| walk_at "pws") => `(tactic| repeat' walk_at "pw")
local macro_rules | `(tactic| walk_at "pw") => `(tactic| first
  | ((with_reducible show w_is_integer _ _); with_reducible refine i_is_integer (by walk_at "bi") ?_) | ((with_reducible show w_is_within _ _); with_reducible refine i_is_within (by walk_at "bi") ?_) | ((with_reducible show w_is_tuple_of _ _); with_reducible refine i_is_tuple_of (by walk_at "bi") ?_)
  | ((with_reducible show w_is_name _ _); with_reducible refine i_is_name (by walk_at "jn") ?_) | ((with_reducible show w_is_lock _ _); with_reducible refine i_is_lock (by walk_at "bi") ?_) | ((with_reducible show w_is_member _ _); with_reducible refine i_is_member (by walk_at "jn") ?_)
  | (with_reducible refine br_two ?_; intro a b e; subst e) | (with_reducible refine br_twoN ?_; intro a b e; subst e) | (with_reducible refine br_thr ?_; intro a b c e; subst e) | (with_reducible refine br_thrN ?_; intro a b c e; subst e)
  | (with_reducible refine br_int ?_; intro i e; subst e) | (with_reducible refine br_win ?_; intro i e h1 h2; subst e) | (with_reducible refine br_winN ?_; intro i e h1 h2; subst e))
local macro_rules | `(tactic| walk_at "pw") => `(tactic| first
  | ((with_reducible show w_law_int _ _); with_reducible refine i_law_int (by walk_at "bi") ?_) | ((with_reducible show w_law_named _ _); with_reducible refine i_law_named (by walk_at "jn") ?_) | ((with_reducible show w_law_node _ _); with_reducible refine i_law_node (by walk_at "jn") (by assumption) ?_))
local macro_rules | `(tactic| walk_at "pw") => `(tactic| first
  | (with_reducible refine br_l2 ?_; intro a b e; subst e) | (with_reducible refine br_l3 ?_; intro a b c e; subst e))
theorem leaves_len {x : D} {h : Nat} (z : areLeaves x h = true) : ∃ ls, x = .tup ls ∧ ls.length = 2 ^ h := by
  cases x with
  | tup ls =>
    have z : (decide (ls.length = 2 ^ h) && _ && _) = true := z
    exact ⟨ls, rfl, of_decide_eq_true (Bool.and_eq_true_iff.mp (Bool.and_eq_true_iff.mp z).1).1⟩
  | _ => cases z
theorem br_winB {x : D} {P : Prop} (h : ∀ n : Nat, x = .int n → n ≤ 8 → P) : (!isWithin x 0 8) = false → P := fun z => by
  obtain ⟨i, e, h1, h2⟩ := isWithin_int (nbf z)
  obtain ⟨n, rfl⟩ := Int.eq_ofNat_of_zero_le h1
  exact h n e (by omega)
theorem br_lv {x : D} {h : Nat} {P : Prop} (g : ∀ ls, x = .tup ls → ls.length = 2 ^ h → areLeaves (.tup ls) h = true → P) : (!areLeaves x h) = false → P := fun z => by
  obtain ⟨ls, e, hl⟩ := leaves_len (nbf z)
  exact g ls e hl (by rw [← e]; exact nbf z)
local macro_rules | `(tactic| walk_at "pw") => `(tactic| first
  | (with_reducible refine br_winB ?_; intro n e h8; subst e) | (with_reducible refine br_lv ?_; intro ls e hl hv; subst e)
  | ((with_reducible show w_law_members _ _); with_reducible refine i_law_members (by assumption) (by assumption) (by assumption) ?_)
  | ((with_reducible show w_law_nodes _ _); with_reducible refine i_law_nodes (by assumption) (by assumption) (by assumption) (by assumption) ?_))
theorem bad_height {x y z : D} (h : isWithin x 0 8 = false) : badOf x y z = .str "height" := by
  cases x with
  | int i =>
    have h : (decide (0 ≤ i) && decide (i ≤ 8)) = false := h
    unfold badOf
    rw [← Bool.decide_and] at h
    simp only [if_neg (of_decide_eq_false h)]
  | _ => rfl
theorem bad_leaves {n : Nat} {y z : D} (h8 : n ≤ 8) (h : areLeaves y n = false) : badOf (.int n) y z = .str "leaves" := by
  unfold badOf
  simp only [if_pos (show (0 : Int) ≤ n ∧ (n : Int) ≤ 8 by omega)]
  cases y with
  | tup ls => simp only [Int.toNat_natCast, if_neg (show ¬ areLeaves (.tup ls) n = true by rw [h]; exact Bool.false_ne_true)]
  | _ => rfl
theorem bad_nodes {n : Nat} {ls : List D} {z : D} (h8 : n ≤ 8) (h : areLeaves (.tup ls) n = true) (h2 : areNodes z n ls = false) : badOf (.int n) (.tup ls) z = .str "nodes" := by
  unfold badOf
  simp only [if_pos (show (0 : Int) ≤ n ∧ (n : Int) ≤ 8 by omega), Int.toNat_natCast, if_pos h, if_neg (show ¬ areNodes z n ls = true by rw [h2]; exact Bool.false_ne_true)]
theorem bad_none {n : Nat} {ls : List D} {z : D} (h8 : n ≤ 8) (h : areLeaves (.tup ls) n = true) (h2 : areNodes z n ls = true) : badOf (.int n) (.tup ls) z = .non := by
  unfold badOf
  simp only [if_pos (show (0 : Int) ≤ n ∧ (n : Int) ≤ 8 by omega), Int.toNat_natCast, if_pos h, if_pos h2]
theorem pure_law_bad {K : PySem.W.Frag} : ∀ ds kk, w_law_bad ds kk → XS K (t_law_bad K) (ini 1 ds) { nx := fun _ => kk (.d .non), rt := fun r _ => kk r } := by
  rintro _ kk ⟨x, y, z, rfl, hx, hy, hz, iy, iz, g⟩
  show XS K (t_law_bad K) [.d (.lst [x, y, z])] (Fin kk)
  unfold t_law_bad
  walk_at "pws"
  all_goals first
    | exact fin_d g (bad_height (by assumption))
    | exact fin_d g (bad_leaves (by assumption) (by assumption))
    | exact fin_d g (bad_nodes (by assumption) (by assumption) (by assumption))
    | exact fin_d g (bad_none (by assumption) (by assumption) (by assumption))
    | (dsimp only; trace_state)

end LawK08
end
section
namespace LawK08
open PySem PySem.Spec PyProof.Rows L2 PW
local macro_rules | `(tactic| walk_at "env") => `(tactic| (first | (dsimp only [sto, stoE, frz, frzE, frzAll, wipeE, Res.ent, List.set, List.getElem?_cons_zero, List.getElem?_cons_succ]; done) | (dsimp only [sto, stoE, frz, frzE, frzAll, wipeE, Res.ent, List.set, List.getElem?_cons_zero, List.getElem?_cons_succ]; rfl) | rfl))
local macro_rules | `(tactic| walk_at "mem") => `(tactic| first | assumption | exact cut_sub (by assumption) | exact List.mem_cons_of_mem _ (by assumption) | (simp only [List.mem_cons, true_or, or_true]; done))
local macro_rules | `(tactic| walk_at "jn") => `(tactic| first | assumption | with_unfolding_all exact rfl | exact jnTr (by assumption) (by assumption) | exact jnTr (cut_sub (by assumption)) (by assumption) | exact jnTr (List.mem_cons_of_mem _ (by assumption)) (by assumption) | exact jnT (by assumption) (by walk_at "mem") | exact jnL' (by assumption) (by walk_at "mem") | exact jnT2 (by assumption) (by assumption) (by walk_at "mem"))
local macro_rules | `(tactic| walk_at "sz") => `(tactic| first | with_unfolding_all exact Nat.le_of_ble_eq_true rfl | assumption | exact szl (by assumption) | exact szS (by walk_at "jn") | exact szT (by walk_at "jn") | exact szTl (by assumption) | exact szL (by walk_at "jn") | exact szG (by walk_at "jn") | ((with_reducible show (PW.cutD _ _ _).length ≤ _); refine szC ?_; walk_at "sz") | with_unfolding_all exact szl (Nat.le_of_ble_eq_true rfl))
local macro_rules | `(tactic| walk_at "bi") => `(tactic| first | with_unfolding_all exact rfl | assumption | exact jn_bi (by walk_at "jn"))
local macro_rules | `(tactic| walk_at "pw") => `(tactic| first
  | ((with_reducible show PW.XE _ _ _ _); first | with_reducible refine xe_var_d (by with_unfolding_all exact rfl) ?_ | with_reducible refine xe_var_o (by with_unfolding_all exact rfl) ?_ | with_reducible refine xe_int ?_ | with_reducible refine xe_str ?_ | with_reducible refine xe_bl ?_ | with_reducible refine xe_non ?_ | with_reducible refine ye_emp ?_ | with_reducible refine xe_op ?_ | with_reducible refine xe_un ?_ | with_reducible refine xe_if ?_ | with_reducible refine xe_andV ?_ | with_reducible refine xe_orV ?_ | with_reducible refine xe_notV ?_ | with_reducible refine xe_chain ?_ | with_reducible refine xe_isi D.isTup isi_tuple ?_ | with_reducible refine xe_isi D.isLst isi_list ?_ | with_reducible refine xe_isi D.isStr isi_str ?_ | with_reducible refine xe_isi D.isInt isi_int ?_ | with_reducible refine xe_isi D.isBool isi_bool ?_ | with_reducible refine xe_isi D.isDct isi_dict ?_ | with_reducible refine xe_isi2 D.isTup D.isLst isi_tuple isi_list ?_ | with_reducible refine ye_lenSet ?_ | with_reducible refine ye_join ?_ | with_reducible refine xe_cb ?_ | with_reducible refine xe_callS ?_ | with_reducible refine ye_callH (by with_unfolding_all exact rfl) ?_ | with_reducible refine ye_call ?_ | with_reducible refine ye_tup ?_ | with_reducible refine ye_lst ?_ | with_reducible refine xe_sl ?_ | with_reducible refine ye_revT ?_ | with_reducible refine ye_rg1 ?_ | with_reducible refine ye_rg2 ?_ | with_reducible refine ye_meth (by with_unfolding_all exact rfl) (fun _ _ _ h => ty_list h) ?_ | with_reducible refine ye_meth0 (by with_unfolding_all exact rfl) (fun _ _ _ h => ty_list h) ?_)
  | ((with_reducible show PW.XA _ _ _ _); first | with_reducible refine xa_nil ?_ | with_reducible refine xa_cons ?_)
  | ((with_reducible show PW.XT _ _ _ _); first | with_reducible refine xt_yes ?_ | with_reducible refine xt_test ?_ | with_reducible refine xt_B ?_ | with_reducible refine xt_not ?_ | with_reducible refine xt_and ?_ | with_reducible refine xt_or ?_)
  | ((with_reducible show PW.XS _ _ _ _); first | with_reducible refine xs_seq ?_ | with_reducible refine xs_next ?_ | with_reducible refine ys_asg ?_ | with_reducible refine xs_if ?_ | with_reducible refine ys_ret ?_ | with_reducible refine xs_retN ?_ | with_reducible refine xs_drop ?_ | with_reducible refine xs_break ?_ | with_reducible refine xs_cont ?_ | with_reducible refine ys_par (by with_unfolding_all decide) ?_ | with_reducible refine ys_par3 (by with_unfolding_all decide) (by with_unfolding_all decide) (by with_unfolding_all decide) ?_ | with_reducible refine ys_unp2 (by with_unfolding_all decide) ?_ | with_reducible refine ys_unp3 (by with_unfolding_all decide) (by with_unfolding_all decide) (by with_unfolding_all decide) ?_ | with_reducible refine ys_setix ?_ | with_reducible refine ys_asgG ?_ | with_reducible refine xs_for ?_)
  | ((with_reducible show PW.OpD _ _ _ _ _); first | with_reducible refine o_addI ?_ | with_reducible refine o_subI ?_ | with_reducible refine o_mulI (by first | with_unfolding_all exact .inl ⟨by decide, by decide⟩ | with_unfolding_all exact .inr ⟨by decide, by decide⟩) ?_ | with_reducible refine o_mulI (cmulL (by omega) (by omega)) ?_ | with_reducible refine o_mulI (cmulR (by omega) (by omega)) ?_ | with_reducible refine o_divI (by with_unfolding_all exact ⟨by decide, by decide⟩) ?_ | with_reducible refine o_modI (by with_unfolding_all decide) ?_ | with_reducible refine o_powI (by with_unfolding_all exact ⟨by decide, by decide, by decide⟩) ?_ | with_reducible refine o_ltI ?_ | with_reducible refine o_leI ?_ | with_reducible refine o_leUI ?_ | with_reducible refine o_leP ?_ | with_reducible refine o_shlI (cpow1 (by omega) (by omega)) ?_ | with_reducible refine o_gtI ?_ | with_reducible refine o_geI ?_ | with_reducible refine o_eqI ?_ | with_reducible refine o_neI ?_ | with_reducible refine o_eqB ?_ | with_reducible refine o_neB ?_ | with_reducible refine o_isNo ?_ | with_reducible refine o_isNotNo ?_ | with_reducible refine o_isBo ?_ | with_reducible refine o_isNotBo ?_ | with_reducible refine o_inC ?_ | with_reducible refine o_notInC ?_ | with_reducible refine o_ix0 ?_ | with_reducible refine o_ix1 ?_ | with_reducible refine o_ix2 ?_ | ((with_reducible show PW.OpD _ (rIx _) (.tup _) (.int 0) _); refine o_ix0e (ne_len (by omega)) ?_; intro y ys e; subst e) | with_reducible refine o_ixT (by with_unfolding_all exact rfl) ?_ | with_reducible refine o_ixL (by with_unfolding_all exact rfl) ?_)
  | ((with_reducible show PW.CaD _ _ _ _); first | with_reducible refine c_lenT ?_ | with_reducible refine c_lenL ?_ | with_reducible refine c_intI ?_ | with_reducible refine c_intB ?_ | with_reducible refine c_absI ?_ | with_reducible refine c_allM ?_ | with_reducible refine c_anyM ?_ | with_reducible refine c_tupL ?_ | with_reducible refine c_tupT ?_ | with_reducible refine c_lstL ?_ | with_reducible refine c_lstT ?_ | ((with_reducible show CaD _ (rLenU _) [.str _] _); with_reducible refine c_lenS (by walk_at "sz") ?_))
  | ((with_reducible show PW.XI _ _ _ _); first | with_reducible refine yi_seqU ?_ | with_reducible refine yi_enum ?_ | with_reducible refine yi_zip ?_ | with_reducible refine xi_range1 ?_ | with_reducible refine xi_range2 ?_)
  | ((with_reducible show PW.XG _ _ _ _ _); first | with_reducible refine yg_name ?_ | with_reducible refine xg_tup (by with_unfolding_all exact rfl) ?_)
  | ((with_reducible show PW.XGs _ _ _ _ _); first | with_reducible refine xgs_nil ?_ | with_reducible refine xgs_cons ?_)
  | ((with_reducible show PW.XM _ _ _ _ _); first | with_reducible refine xm_nil ?_ | with_reducible refine xm_cons ?_)
  | ((with_reducible show PW.XO _ _ _ _); first | with_reducible refine xo_none ?_ | with_reducible refine xo_some ?_)
  | ((with_reducible show PW.SlD _ _ _ _ _ _); first | with_reducible refine sl_tail ?_ | with_reducible refine sl_T ?_ | with_reducible refine sl_L ?_)
  | ((with_reducible show PW.UnD _ _ _ _); first | with_reducible refine u_neg ?_)
  | ((with_reducible show PW.back _ _ _); first | with_reducible refine back_d ?_ | with_reducible refine back_nw ?_ | with_reducible refine back_v (by with_unfolding_all exact rfl) ?_)
  | walk_at "cnt"
  | walk_at "br")
local macro_rules | `(tactic| walk_at "cnt") => `(tactic| first
  | with_reducible refine ex_env (by walk_at "env") ?_
  | ((with_reducible show ∃ x : List D, _ = some x ∧ x.length ≤ _ ∧ _); with_reducible refine ex_pks2 (by with_unfolding_all exact rfl) (by walk_at "sz") ?_)
  | with_reducible refine ex_pks (by with_unfolding_all exact rfl) ?_
  | ((with_reducible show ∃ x : D, _ = some x ∧ x.isBuiltin = true ∧ _); with_reducible refine ex_pk2 (by with_unfolding_all exact rfl) (by walk_at "bi") ?_)
  | with_reducible refine lc_fin (by with_unfolding_all exact rfl) (by with_unfolding_all exact rfl) ?_
  | with_reducible refine lcf_fin (by with_unfolding_all exact rfl) (by with_unfolding_all exact rfl) ?_
  | with_reducible refine ex_pk (by with_unfolding_all exact rfl) ?_
  | with_reducible refine ex_op (by with_unfolding_all exact rfl) (by with_unfolding_all exact rfl) ?_
  | with_reducible refine ex_it (by with_unfolding_all exact rfl) (by with_unfolding_all exact rfl) ?_
  | with_reducible refine ex_its (by with_unfolding_all exact rfl) (by with_unfolding_all exact rfl) ?_
  | with_reducible refine ex_zip (by with_unfolding_all exact rfl) (by with_unfolding_all exact rfl) ?_
  | with_reducible refine ex_bl ?_
  | with_reducible refine ex_int ?_
  | with_reducible refine ex_sc (by with_unfolding_all exact rfl) ?_
  | with_reducible refine and_brT ?_
  | with_reducible refine and_brF ?_
  | with_reducible refine and_rbT ?_
  | with_reducible refine and_rbF ?_
  | with_reducible refine and_nT ?_
  | with_reducible refine and_nF ?_
  | with_reducible refine and_mT ?_
  | with_reducible refine and_mF ?_
  | with_reducible refine and_br ?_ ?_
  | with_reducible refine and_rb ?_ ?_
  | with_reducible refine ⟨nv_d, ?_⟩
  | with_reducible refine ⟨nv_nw, ?_⟩)
local macro_rules | `(tactic| walk_at "br") => `(tactic| first
  | (with_reducible refine br_tup ?_; intro xs e; subst e)
  | (with_reducible refine br_tupN ?_; intro xs e; subst e)
  | (with_reducible refine br_lst ?_; intro xs e; subst e)
  | (with_reducible refine br_lstN ?_; intro xs e; subst e)
  | (with_reducible refine br_str ?_; intro xs e; subst e)
  | (with_reducible refine br_strN ?_; intro xs e; subst e)
  | (with_reducible refine br_non ?_; intro e; subst e)
  | (with_reducible refine br_nonN ?_; intro e; subst e)
  | (with_reducible refine br_t ?_; intro h; first | (cases h; done) | (simp only [lenc, List.length_nil, decide_eq_true_eq, decide_eq_false_iff_not] at h; omega) | exact absurd (show true = false from h) (by decide) | exact absurd (show false = true from h) (by decide) | (simp only [lenc, List.length_nil, Bool.not_eq_true', Bool.not_eq_false', decide_eq_true_eq, decide_eq_false_iff_not] at h) | skip)
  | (with_reducible refine br_f ?_; intro h; first | (cases h; done) | (simp only [lenc, List.length_nil, decide_eq_true_eq, decide_eq_false_iff_not] at h; omega) | exact absurd (show true = false from h) (by decide) | exact absurd (show false = true from h) (by decide) | (simp only [lenc, List.length_nil, Bool.not_eq_true', Bool.not_eq_false', decide_eq_true_eq, decide_eq_false_iff_not] at h) | skip)
  | (with_reducible refine signs_one ?_; intro c)
  | (with_reducible refine fa_mem ?_; intro d hd)
  | ((with_reducible show _ ≤ sizeLine ∧ _); with_reducible refine lc_split (by walk_at "sz") (by walk_at "env") ?_ ?_)
  | ((with_reducible show wipeE _ _ = _ ∧ _); with_reducible refine lc_env (by walk_at "env") ?_)
  | ((with_reducible show (_ : D) = _); exact rfl))
local macro_rules | `(tactic| walk_at "pws") => `(tactic| repeat' walk_at "pw")
local macro_rules | `(tactic| walk_at "pw") => `(tactic| first
  | ((with_reducible show w_is_integer _ _); with_reducible refine i_is_integer (by walk_at "bi") ?_) | ((with_reducible show w_is_within _ _); with_reducible refine i_is_within (by walk_at "bi") ?_) | ((with_reducible show w_is_tuple_of _ _); with_reducible refine i_is_tuple_of (by walk_at "bi") ?_)
  | ((with_reducible show w_is_name _ _); with_reducible refine i_is_name (by walk_at "jn") ?_) | ((with_reducible show w_is_lock _ _); with_reducible refine i_is_lock (by walk_at "bi") ?_) | ((with_reducible show w_is_member _ _); with_reducible refine i_is_member (by walk_at "jn") ?_)
  | (with_reducible refine br_two ?_; intro a b e; subst e) | (with_reducible refine br_twoN ?_; intro a b e; subst e) | (with_reducible refine br_thr ?_; intro a b c e; subst e) | (with_reducible refine br_thrN ?_; intro a b c e; subst e)
  | (with_reducible refine br_int ?_; intro i e; subst e) | (with_reducible refine br_win ?_; intro i e h1 h2; subst e) | (with_reducible refine br_winN ?_; intro i e h1 h2; subst e))
local macro_rules | `(tactic| walk_at "pw") => `(tactic| first
  | ((with_reducible show w_law_int _ _); with_reducible refine i_law_int (by walk_at "bi") ?_) | ((with_reducible show w_law_named _ _); with_reducible refine i_law_named (by walk_at "jn") ?_) | ((with_reducible show w_law_node _ _); with_reducible refine i_law_node (by walk_at "jn") (by assumption) ?_))
local macro_rules | `(tactic| walk_at "pw") => `(tactic| first
  | (with_reducible refine br_l2 ?_; intro a b e; subst e) | (with_reducible refine br_l3 ?_; intro a b c e; subst e))
theorem cut_take {xs : List D} {i : Nat} (h : i ≤ xs.length) : PW.cutD xs none (some (i : Int)) = xs.take i := by
  unfold PW.cutD
  rw [HT.sIx_none, HT.sIx_nat, List.drop_zero, Nat.sub_zero, Nat.min_eq_left h]
theorem cut_drop {xs : List D} {i : Nat} (h : i ≤ xs.length) : PW.cutD xs (some (i : Int)) none = xs.drop i := by
  unfold PW.cutD
  rw [HT.sIx_none, HT.sIx_nat, Nat.min_eq_left h]
  exact List.take_of_length_le (by rw [List.length_drop]; exact Nat.le_refl _)
theorem pure_law_set {K : PySem.W.Frag} : ∀ ds kk, w_law_set ds kk → XS K (t_law_set K) (ini 3 ds) { nx := fun _ => kk (.d .non), rt := fun r _ => kk r } := by
  rintro _ kk ⟨xs, i, y, rfl, hi, hl, g⟩
  show XS K (t_law_set K) [.d (.tup xs), .d (.int i), .d y] (Fin kk)
  unfold t_law_set
  walk_at "pws"
  have e : ((i : Int) + 1) = ((i + 1 : Nat) : Int) := by omega
  rw [cut_take (by omega)]
  have s5 := sz5
  refine o_addT (by rw [List.length_take]; simp; omega) ?_
  walk_at "pws"
  rw [e, cut_drop (by omega)]
  refine o_addT (by simp; omega) ?_
  walk_at "pws"
  exact g

end LawK08
end
section
namespace LawK08
open PySem PySem.Spec PyProof.Rows L2 PW
local macro_rules | `(tactic| walk_at "env") => `(tactic| (first | (dsimp only [sto, stoE, frz, frzE, frzAll, wipeE, Res.ent, List.set, List.getElem?_cons_zero, List.getElem?_cons_succ]; done) | (dsimp only [sto, stoE, frz, frzE, frzAll, wipeE, Res.ent, List.set, List.getElem?_cons_zero, List.getElem?_cons_succ]; rfl) | rfl))
local macro_rules | `(tactic| walk_at "mem") => `(tactic| first | assumption | exact cut_sub (by assumption) | exact List.mem_cons_of_mem _ (by assumption) | (simp only [List.mem_cons, true_or, or_true]; done))
local macro_rules | `(tactic| walk_at "jn") => `(tactic| first | assumption | with_unfolding_all exact rfl | exact jnTr (by assumption) (by assumption) | exact jnTr (cut_sub (by assumption)) (by assumption) | exact jnTr (List.mem_cons_of_mem _ (by assumption)) (by assumption) | exact jnT (by assumption) (by walk_at "mem") | exact jnL' (by assumption) (by walk_at "mem") | exact jnT2 (by assumption) (by assumption) (by walk_at "mem"))
local macro_rules | `(tactic| walk_at "sz") => `(tactic| first | with_unfolding_all exact Nat.le_of_ble_eq_true rfl | assumption | exact szl (by assumption) | exact szS (by walk_at "jn") | exact szT (by walk_at "jn") | exact szTl (by assumption) | exact szL (by walk_at "jn") | exact szG (by walk_at "jn") | ((with_reducible show (PW.cutD _ _ _).length ≤ _); refine szC ?_; walk_at "sz") | with_unfolding_all exact szl (Nat.le_of_ble_eq_true rfl))
local macro_rules | `(tactic| walk_at "bi") => `(tactic| first | with_unfolding_all exact rfl | assumption | exact jn_bi (by walk_at "jn"))
local macro_rules | `(tactic| walk_at "pw") => `(tactic| first
  | ((with_reducible show PW.XE _ _ _ _); first | with_reducible refine xe_var_d (by with_unfolding_all exact rfl) ?_ | with_reducible refine xe_var_o (by with_unfolding_all exact rfl) ?_ | with_reducible refine xe_int ?_ | with_reducible refine xe_str ?_ | with_reducible refine xe_bl ?_ | with_reducible refine xe_non ?_ | with_reducible refine ye_emp ?_ | with_reducible refine xe_op ?_ | with_reducible refine xe_un ?_ | with_reducible refine xe_if ?_ | with_reducible refine xe_andV ?_ | with_reducible refine xe_orV ?_ | with_reducible refine xe_notV ?_ | with_reducible refine xe_chain ?_ | with_reducible refine xe_isi D.isTup isi_tuple ?_ | with_reducible refine xe_isi D.isLst isi_list ?_ | with_reducible refine xe_isi D.isStr isi_str ?_ | with_reducible refine xe_isi D.isInt isi_int ?_ | with_reducible refine xe_isi D.isBool isi_bool ?_ | with_reducible refine xe_isi D.isDct isi_dict ?_ | with_reducible refine xe_isi2 D.isTup D.isLst isi_tuple isi_list ?_ | with_reducible refine ye_lenSet ?_ | with_reducible refine ye_join ?_ | with_reducible refine xe_cb ?_ | with_reducible refine xe_callS ?_ | with_reducible refine ye_callH (by with_unfolding_all exact rfl) ?_ | with_reducible refine ye_call ?_ | with_reducible refine ye_tup ?_ | with_reducible refine ye_lst ?_ | with_reducible refine xe_sl ?_ | with_reducible refine ye_revT ?_ | with_reducible refine ye_rg1 ?_ | with_reducible refine ye_rg2 ?_ | with_reducible refine ye_meth (by with_unfolding_all exact rfl) (fun _ _ _ h => ty_list h) ?_ | with_reducible refine ye_meth0 (by with_unfolding_all exact rfl) (fun _ _ _ h => ty_list h) ?_)
  | ((with_reducible show PW.XA _ _ _ _); first | with_reducible refine xa_nil ?_ | with_reducible refine xa_cons ?_)
  | ((with_reducible show PW.XT _ _ _ _); first | with_reducible refine xt_yes ?_ | with_reducible refine xt_test ?_ | with_reducible refine xt_B ?_ | with_reducible refine xt_not ?_ | with_reducible refine xt_and ?_ | with_reducible refine xt_or ?_)
  | ((with_reducible show PW.XS _ _ _ _); first | with_reducible refine xs_seq ?_ | with_reducible refine xs_next ?_ | with_reducible refine ys_asg ?_ | with_reducible refine xs_if ?_ | with_reducible refine ys_ret ?_ | with_reducible refine xs_retN ?_ | with_reducible refine xs_drop ?_ | with_reducible refine xs_break ?_ | with_reducible refine xs_cont ?_ | with_reducible refine ys_par (by with_unfolding_all decide) ?_ | with_reducible refine ys_par3 (by with_unfolding_all decide) (by with_unfolding_all decide) (by with_unfolding_all decide) ?_ | with_reducible refine ys_unp2 (by with_unfolding_all decide) ?_ | with_reducible refine ys_unp3 (by with_unfolding_all decide) (by with_unfolding_all decide) (by with_unfolding_all decide) ?_ | with_reducible refine ys_setix ?_ | with_reducible refine ys_asgG ?_ | with_reducible refine xs_for ?_)
  | ((with_reducible show PW.OpD _ _ _ _ _); first | with_reducible refine o_addI ?_ | with_reducible refine o_subI ?_ | with_reducible refine o_mulI (by first | with_unfolding_all exact .inl ⟨by decide, by decide⟩ | with_unfolding_all exact .inr ⟨by decide, by decide⟩) ?_ | with_reducible refine o_mulI (cmulL (by omega) (by omega)) ?_ | with_reducible refine o_mulI (cmulR (by omega) (by omega)) ?_ | with_reducible refine o_divI (by with_unfolding_all exact ⟨by decide, by decide⟩) ?_ | with_reducible refine o_modI (by with_unfolding_all decide) ?_ | with_reducible refine o_powI (by with_unfolding_all exact ⟨by decide, by decide, by decide⟩) ?_ | with_reducible refine o_ltI ?_ | with_reducible refine o_leI ?_ | with_reducible refine o_leUI ?_ | with_reducible refine o_leP ?_ | with_reducible refine o_shlI (cpow1 (by omega) (by omega)) ?_ | with_reducible refine o_gtI ?_ | with_reducible refine o_geI ?_ | with_reducible refine o_eqI ?_ | with_reducible refine o_neI ?_ | with_reducible refine o_eqB ?_ | with_reducible refine o_neB ?_ | with_reducible refine o_isNo ?_ | with_reducible refine o_isNotNo ?_ | with_reducible refine o_isBo ?_ | with_reducible refine o_isNotBo ?_ | with_reducible refine o_inC ?_ | with_reducible refine o_notInC ?_ | with_reducible refine o_ix0 ?_ | with_reducible refine o_ix1 ?_ | with_reducible refine o_ix2 ?_ | ((with_reducible show PW.OpD _ (rIx _) (.tup _) (.int 0) _); refine o_ix0e (ne_len (by omega)) ?_; intro y ys e; subst e) | with_reducible refine o_ixT (by with_unfolding_all exact rfl) ?_ | with_reducible refine o_ixL (by with_unfolding_all exact rfl) ?_)
  | ((with_reducible show PW.CaD _ _ _ _); first | with_reducible refine c_lenT ?_ | with_reducible refine c_lenL ?_ | with_reducible refine c_intI ?_ | with_reducible refine c_intB ?_ | with_reducible refine c_absI ?_ | with_reducible refine c_allM ?_ | with_reducible refine c_anyM ?_ | with_reducible refine c_tupL ?_ | with_reducible refine c_tupT ?_ | with_reducible refine c_lstL ?_ | with_reducible refine c_lstT ?_ | ((with_reducible show CaD _ (rLenU _) [.str _] _); with_reducible refine c_lenS (by walk_at "sz") ?_))
  | ((with_reducible show PW.XI _ _ _ _); first | with_reducible refine yi_seqU ?_ | with_reducible refine yi_enum ?_ | with_reducible refine yi_zip ?_ | with_reducible refine xi_range1 ?_ | with_reducible refine xi_range2 ?_)
  | ((with_reducible show PW.XG _ _ _ _ _); first | with_reducible refine yg_name ?_ | with_reducible refine xg_tup (by with_unfolding_all exact rfl) ?_)
  | ((with_reducible show PW.XGs _ _ _ _ _); first | with_reducible refine xgs_nil ?_ | with_reducible refine xgs_cons ?_)
  | ((with_reducible show PW.XM _ _ _ _ _); first | with_reducible refine xm_nil ?_ | with_reducible refine xm_cons ?_)
  | ((with_reducible show PW.XO _ _ _ _); first | with_reducible refine xo_none ?_ | with_reducible refine xo_some ?_)
  | ((with_reducible show PW.SlD _ _ _ _ _ _); first | with_reducible refine sl_tail ?_ | with_reducible refine sl_T ?_ | with_reducible refine sl_L ?_)
  | ((with_reducible show PW.UnD _ _ _ _); first | with_reducible refine u_neg ?_)
  | ((with_reducible show PW.back _ _ _); first | with_reducible refine back_d ?_ | with_reducible refine back_nw ?_ | with_reducible refine back_v (by with_unfolding_all exact rfl) ?_)
  | walk_at "cnt"
  | walk_at "br")
local macro_rules | `(tactic| walk_at "cnt") => `(tactic| first
  | with_reducible refine ex_env (by walk_at "env") ?_
  | ((with_reducible show ∃ x : List D, _ = some x ∧ x.length ≤ _ ∧ _); with_reducible refine ex_pks2 (by with_unfolding_all exact rfl) (by walk_at "sz") ?_)
  | with_reducible refine ex_pks (by with_unfolding_all exact rfl) ?_
  | ((with_reducible show ∃ x : D, _ = some x ∧ x.isBuiltin = true ∧ _); with_reducible refine ex_pk2 (by with_unfolding_all exact rfl) (by walk_at "bi") ?_)
  | with_reducible refine lc_fin (by with_unfolding_all exact rfl) (by with_unfolding_all exact rfl) ?_
  | with_reducible refine lcf_fin (by with_unfolding_all exact rfl) (by with_unfolding_all exact rfl) ?_
  | with_reducible refine ex_pk (by with_unfolding_all exact rfl) ?_
  | with_reducible refine ex_op (by with_unfolding_all exact rfl) (by with_unfolding_all exact rfl) ?_
  | with_reducible refine ex_it (by with_unfolding_all exact rfl) (by with_unfolding_all exact rfl) ?_
  | with_reducible refine ex_its (by with_unfolding_all exact rfl) (by with_unfolding_all exact rfl) ?_
  | with_reducible refine ex_zip (by with_unfolding_all exact rfl) (by with_unfolding_all exact rfl) ?_
  | with_reducible refine ex_bl ?_
  | with_reducible refine ex_int ?_
  | with_reducible refine ex_sc (by with_unfolding_all exact rfl) ?_
  | with_reducible refine and_brT ?_
  | with_reducible refine and_brF ?_
  | with_reducible refine and_rbT ?_
  | with_reducible refine and_rbF ?_
  | with_reducible refine and_nT ?_
  | with_reducible refine and_nF ?_
  | with_reducible refine and_mT ?_
  | with_reducible refine and_mF ?_
  | with_reducible refine and_br ?_ ?_
  | with_reducible refine and_rb ?_ ?_
  | with_reducible refine ⟨nv_d, ?_⟩
  | with_reducible refine ⟨nv_nw, ?_⟩)
local macro_rules | `(tactic| walk_at "br") => `(tactic| first
  | (with_reducible refine br_tup ?_; intro xs e; subst e)
  | (with_reducible refine br_tupN ?_; intro xs e; subst e)
  | (with_reducible refine br_lst ?_; intro xs e; subst e)
  | (with_reducible refine br_lstN ?_; intro xs e; subst e)
  | (with_reducible refine br_str ?_; intro xs e; subst e)
  | (with_reducible refine br_strN ?_; intro xs e; subst e)
  | (with_reducible refine br_non ?_; intro e; subst e)
  | (with_reducible refine br_nonN ?_; intro e; subst e)
  | (with_reducible refine br_t ?_; intro h; first | (cases h; done) | (simp only [lenc, List.length_nil, decide_eq_true_eq, decide_eq_false_iff_not] at h; omega) | exact absurd (show true = false from h) (by decide) | exact absurd (show false = true from h) (by decide) | (simp only [lenc, List.length_nil, Bool.not_eq_true', Bool.not_eq_false', decide_eq_true_eq, decide_eq_false_iff_not] at h) | skip)
  | (with_reducible refine br_f ?_; intro h; first | (cases h; done) | (simp only [lenc, List.length_nil, decide_eq_true_eq, decide_eq_false_iff_not] at h; omega) | exact absurd (show true = false from h) (by decide) | exact absurd (show false = true from h) (by decide) | (simp only [lenc, List.length_nil, Bool.not_eq_true', Bool.not_eq_false', decide_eq_true_eq, decide_eq_false_iff_not] at h) | skip)
  | (with_reducible refine signs_one ?_; intro c)
  | (with_reducible refine fa_mem ?_; intro d hd)
  | ((with_reducible show _ ≤ sizeLine ∧ _); with_reducible refine lc_split (by walk_at "sz") (by walk_at "env") ?_ ?_)
  | ((with_reducible show wipeE _ _ = _ ∧ _); with_reducible refine lc_env (by walk_at "env") ?_)
  | ((with_reducible show (_ : D) = _); exact rfl))
local macro_rules | `(tactic| walk_at "pws") => `(tactic| repeat' walk_at "pw")
local macro_rules | `(tactic| walk_at "pw") => `(tactic| first
  | ((with_reducible show w_is_integer _ _); with_reducible refine i_is_integer (by walk_at "bi") ?_) | ((with_reducible show w_is_within _ _); with_reducible refine i_is_within (by walk_at "bi") ?_) | ((with_reducible show w_is_tuple_of _ _); with_reducible refine i_is_tuple_of (by walk_at "bi") ?_)
  | ((with_reducible show w_is_name _ _); with_reducible refine i_is_name (by walk_at "jn") ?_) | ((with_reducible show w_is_lock _ _); with_reducible refine i_is_lock (by walk_at "bi") ?_) | ((with_reducible show w_is_member _ _); with_reducible refine i_is_member (by walk_at "jn") ?_)
  | (with_reducible refine br_two ?_; intro a b e; subst e) | (with_reducible refine br_twoN ?_; intro a b e; subst e) | (with_reducible refine br_thr ?_; intro a b c e; subst e) | (with_reducible refine br_thrN ?_; intro a b c e; subst e)
  | (with_reducible refine br_int ?_; intro i e; subst e) | (with_reducible refine br_win ?_; intro i e h1 h2; subst e) | (with_reducible refine br_winN ?_; intro i e h1 h2; subst e))
local macro_rules | `(tactic| walk_at "pw") => `(tactic| first
  | ((with_reducible show w_law_int _ _); with_reducible refine i_law_int (by walk_at "bi") ?_) | ((with_reducible show w_law_named _ _); with_reducible refine i_law_named (by walk_at "jn") ?_) | ((with_reducible show w_law_node _ _); with_reducible refine i_law_node (by walk_at "jn") (by assumption) ?_))
local macro_rules | `(tactic| walk_at "pw") => `(tactic| first
  | (with_reducible refine br_l2 ?_; intro a b e; subst e) | (with_reducible refine br_l3 ?_; intro a b c e; subst e))
theorem i_law_draw3 {m : Int} {k : Res → Prop} (h : 0 < m) (h2 : m ≤ 10 ^ 30) (q : ∀ n : Nat, (n : Int) < m → k (.d (.int n))) : w_law_draw [.int m] k := i_law_drawN h h2 q
theorem names_snoc {ls : List D} {s : Str} {j : Int} : namesOf (ls ++ [.tup [.str s, .int j]]) = namesOf ls ++ [s] := by
  unfold namesOf
  rw [List.filter_append, List.map_append]
  rfl
theorem names_non {ls : List D} : namesOf (ls ++ [.non]) = namesOf ls := by
  unfold namesOf
  rw [List.filter_append]
  simp
structure Lv (i : Nat) (ls : List D) : Prop where
  len : ls.length = i
  all : (ls.all fun l => l.isNon || isMember l) = true
  nd : (namesOf ls).Nodup
  ok : ∀ x ∈ ls, OkB 400 3 x
  lay : ∀ s ∈ namesOf ls, PyData.canLay0 (.str s) = true
theorem Lv.snoc {i : Nat} {ls : List D} {s : Str} {j : Int} (L : Lv i ls) (hs : isName (.str s) = true) (hn : s ∉ namesOf ls) (h0 : 0 ≤ j) (h1 : j < 10 ^ 30) : Lv (i + 1) (ls ++ [.tup [.str s, .int j]]) := by
  have em : isMember (.tup [.str s, .int j]) = true := by
    show (isName (.str s) && decide (0 ≤ j)) = true
    rw [hs, decide_eq_true h0]
    rfl
  have okj : OkB 66 0 (.int j) := okb_int (by omega) (by omega)
  refine ⟨by rw [List.length_append, L.len]; rfl, ?_, ?_, fun x hx => ?_, fun t ht => ?_⟩
  · rw [List.all_append, L.all, Bool.true_and]
    show ((false || isMember (.tup [.str s, .int j])) && true) = true
    rw [em]
    rfl
  · rw [names_snoc]
    exact List.nodup_append.mpr ⟨L.nd, by simp, fun a ha b hb z => hn (by rw [List.mem_singleton.mp hb] at z; rw [← z]; exact ha)⟩
  · rcases List.mem_append.mp hx with hx | hx
    · exact L.ok x hx
    · rw [List.mem_singleton.mp hx]
      exact okb_two (okb_name hs) okj (by decide)
  · rw [names_snoc] at ht
    rcases List.mem_append.mp ht with ht | ht
    · exact L.lay t ht
    · rw [List.mem_singleton.mp ht]
      exact name_lay hs
theorem Lv.non {i : Nat} {ls : List D} (L : Lv i ls) : Lv (i + 1) (ls ++ [.non]) := by
  refine ⟨by rw [List.length_append, L.len]; rfl, ?_, by rw [names_non]; exact L.nd, fun x hx => ?_, fun t ht => L.lay t (by rw [names_non] at ht; exact ht)⟩
  · rw [List.all_append, L.all]
    rfl
  · rcases List.mem_append.mp hx with hx | hx
    · exact L.ok x hx
    · rw [List.mem_singleton.mp hx]
      exact ⟨⟨rfl, rfl⟩, rfl, by decide, by decide⟩
theorem Lv.done {h : Nat} {ls : List D} (L : Lv (2 ^ h) ls) : areLeaves (.tup ls) h = true := by
  show (decide (ls.length = 2 ^ h) && _ && decide (namesOf ls).Nodup) = true
  rw [decide_eq_true L.len, decide_eq_true L.nd, L.all]
  rfl
theorem node_ok {h i j : Nat} {ls acc : List D} {p : Int × Int} {lk : Int} (hi : i < h) (hj : j < 2 ^ (h - i - 1)) (hL : p.1 ≤ (i : Int) ∨ (p.1 = ((i + 1 : Nat) : Int) ∧ p.2 < (j : Int))) (k0 : 0 ≤ lk) (ha : isAside (.tup acc) ((i + 1 : Nat) : Int) (j : Int) ls = true) :
    nodesFrom h ls p [.tup [.tup [.int ((i + 1 : Nat) : Int), .int (j : Int)], .int lk, .tup acc]] = true := by
  show (isNode (.tup [.int ((i + 1 : Nat) : Int), .int (j : Int)]) h 1 && above (.tup [.int ((i + 1 : Nat) : Int), .int (j : Int)]) p && isLock (.int lk) && isAside (.tup acc) ((i + 1 : Nat) : Int) (j : Int) ls && true) = true
  have e1 : isNode (.tup [.int ((i + 1 : Nat) : Int), .int (j : Int)]) h 1 = true := by
    show ((decide ((1 : Int) ≤ ((i + 1 : Nat) : Int)) && decide (((i + 1 : Nat) : Int) ≤ h)) && (decide ((0 : Int) ≤ (j : Int)) && decide ((j : Int) ≤ 2 ^ ((h : Int) - ((i + 1 : Nat) : Int)).toNat - 1))) = true
    have e : ((h : Int) - ((i + 1 : Nat) : Int)).toNat = h - i - 1 := by omega
    rw [e, pow_cast, decide_eq_true (by omega), decide_eq_true (by omega), decide_eq_true (by omega), decide_eq_true (by omega)]
    rfl
  have e2 : above (.tup [.int ((i + 1 : Nat) : Int), .int (j : Int)]) p = true := by
    show (!pairLe ((i + 1 : Nat) : Int) (j : Int) p.1 p.2) = true
    unfold pairLe
    rcases hL with q | ⟨q1, q2⟩
    · rw [if_neg (by omega), decide_eq_false (by omega)]
      rfl
    · rw [if_pos q1.symm, decide_eq_false (by omega)]
      rfl
  rw [e1, e2, ha, show isLock (.int lk) = true from decide_eq_true k0]
  rfl
theorem node_small {i : Nat} {j lk lo : Int} {n : Nat} {p : D → Bool} {acc : List D} (hi : (i : Int) ≤ 1000) (hj0 : 0 ≤ j) (hj : j ≤ 1000) (k0 : 0 ≤ lk) (k1 : lk < 10 ^ 30) (ha : acc.length ≤ 256) (h0 : 0 ≤ lo) (h1 : lo + (n : Int) ≤ 1000) (hs : acc.Sublist ((rngD lo n).filter p)) :
    OkB 24000 3 (.tup [.tup [.int (i : Int), .int j], .int lk, .tup acc]) := by
  refine okb_thr (a := 140) (b := 66) (m := 1) (okb_two (okb_int (by omega) (by omega)) (okb_int (by omega) (by omega)) (by decide)) (okb_le (okb_int (by omega) (by omega)) (Nat.le_refl _)) (okb_tup (n := 256) (b := 66) (c := 20000) (m := 0) ha (by decide) (fun x hx => ?_) (by decide)) (by decide)
  obtain ⟨l, rfl, h2, h3⟩ := rng_in (List.mem_filter.mp (hs.subset hx)).1
  exact okb_int (by omega) (by omega)
section
local macro_rules | `(tactic| walk_at "pw") => `(tactic| first
  | ((with_reducible show w_law_draw _ _); refine i_law_drawN (by first | omega | decide) (by first | omega | decide) ?_; intro n hn)
  | ((with_reducible show w_law_name _ _); refine i_law_name ?_; intro s hs)
  | ((with_reducible show w_law_lock _ _); refine i_law_lock ?_; intro j h0 h1)
  | ((with_reducible show w_law_beneath _ _); (first | refine i_law_beneath (by omega) (by decide) (by decide) ?_ | refine i_law_beneathN (by omega) (by omega) ?_)))
theorem pure_law_tree {K : PySem.W.Frag} : ∀ ds kk, w_law_tree ds kk → XS K (t_law_tree K) (iniH 13 ds) { nx := fun _ => kk (.d .non), rt := fun r _ => kk r } := by
  rintro _ kk ⟨most, rfl, m0, m8, g⟩
  show XS K (t_law_tree K) [.hand, .d (.int most), .u, .u, .u, .u, .u, .u, .u, .u, .u, .u, .u] (Fin kk)
  unfold t_law_tree
  walk_at "pws"
  rename_i h hn
  have h8 : h ≤ 8 := by omega
  have p8 : 2 ^ h ≤ 2 ^ 8 := Nat.pow_le_pow_right (by decide) h8
  refine ⟨fun i ρ => ∃ (ls : List D) (e5 e6 : Ent), ρ = [.hand, .d (.int most), .d (.int h), .own (.lst ls), .own (.lst ((namesOf ls).map D.str)), e5, e6, .u, .u, .u, .u, .u, .u] ∧ Lv i ls, ⟨[], _, _, rfl, ⟨rfl, rfl, by simp [namesOf], (fun _ z => nomatch z), (fun _ z => by simp [namesOf] at z)⟩⟩, ?_, ?_⟩
  · rintro i d ρ' hd ⟨ls, e5, e6, rfl, L⟩
    have hi : i < 2 ^ h := by
      have := (List.getElem?_eq_some_iff.mp hd).1
      rwa [rngD_len] at this
    walk_at "pws"
    · rename_i s hs n hn3 hpos
      refine o_notInL (sh_str (name_lay hs)) (sh_strs L.lay) ?_
      rw [mem_strs]
      have ln := names_le (ls := ls)
      have ll := L.len
      have s5 := sz5
      walk_at "pws"
      · rename_i q
        have hq : s ∉ namesOf ls := q
        refine ⟨_, _, rfl, _, rfl, rfl, ?_⟩
        refine m_append (by rw [List.length_map]; omega) ⟨_, rfl, ?_⟩
        walk_at "pws"
        rename_i j h0 h1
        refine ⟨_, _, rfl, _, rfl, rfl, ?_⟩
        refine m_append (by omega) ⟨_, rfl, ?_⟩
        exact ⟨_, _, _, by rw [names_snoc, List.map_append]; rfl, L.snoc hs hq h0 h1⟩
      · refine ⟨_, _, rfl, _, rfl, rfl, ?_⟩
        refine m_append (by omega) ⟨_, rfl, ?_⟩
        exact ⟨_, _, _, by rw [names_non]; rfl, L.non⟩
    · have ll := L.len
      have s5 := sz5
      refine ⟨_, _, rfl, _, rfl, rfl, ?_⟩
      refine m_append (by omega) ⟨_, rfl, ?_⟩
      exact ⟨_, _, _, by rw [names_non]; rfl, L.non⟩
  · rintro ρ' ⟨ls, e5, e6, rfl, L⟩
    rw [rngD_len] at L
    have ll := L.len
    have hv := L.done
    walk_at "pws"
    refine ⟨1, (h : Int) + 1, rfl, ⟨by omega, by omega, by omega, by omega⟩, ?_⟩
    rw [show ((h : Int) + 1 - 1).toNat = h by omega]
    refine ⟨fun i ρ => ∃ (ns : List D) (e5 e9 e10 e11 e12 : Ent), ρ = [.hand, .d (.int most), .d (.int h), .own (.lst ls), .own (.lst ((namesOf ls).map D.str)), e5, e6, .own (.lst ns), .d (.int ((2 ^ (h - i) : Nat) : Int)), e9, e10, e11, e12] ∧ nodesFrom h ls (0, 0) ns = true ∧ (lastP (0, 0) ns).1 ≤ (i : Int) ∧ (∀ x ∈ ns, OkB 24000 3 x) ∧ ns.length + 2 ^ (h - i) ≤ 2 ^ h,
      ⟨[], _, _, _, _, _, by rw [ll]; rfl, rfl, by decide, (fun _ z => nomatch z), by simp⟩, ?_, ?_⟩
    · rintro i d ρ' hd ⟨ns, f5, f9, f10, f11, f12, rfl, hN, hL, hO, hC⟩
      obtain ⟨ed, hi⟩ := rngD_at hd
      rw [show (1 : Int) + (i : Int) = ((i + 1 : Nat) : Int) by omega] at ed
      subst ed
      have hdiv : ((2 ^ (h - i) : Nat) : Int) / 2 = ((2 ^ (h - i - 1) : Nat) : Int) := by
        have e : 2 ^ (h - i) = 2 * 2 ^ (h - i - 1) := by
          rw [← Nat.pow_succ']
          congr 1
          omega
        omega
      walk_at "pws"
      rw [hdiv]
      have pm : 2 ^ (h - i - 1) ≤ 2 ^ 8 := Nat.pow_le_pow_right (by decide) (by omega)
      refine ⟨((2 ^ (h - i - 1) : Nat) : Int), rfl, ?_, ?_, ?_⟩
      · have := Int.natCast_nonneg (2 ^ (h - i - 1)); omega
      · have : ((2 ^ (h - i - 1) : Nat) : Int) ≤ ((2 ^ 8 : Nat) : Int) := Int.ofNat_le.mpr pm
        exact Int.lt_of_le_of_lt this (by decide)
      rw [Int.toNat_natCast]
      refine ⟨fun j ρ => ∃ (ns : List D) (e5 e10 e11 e12 : Ent), ρ = [.hand, .d (.int most), .d (.int h), .own (.lst ls), .own (.lst ((namesOf ls).map D.str)), e5, e6, .own (.lst ns), .d (.int ((2 ^ (h - i - 1) : Nat) : Int)), .d (.int ((i + 1 : Nat) : Int)), e10, e11, e12] ∧ nodesFrom h ls (0, 0) ns = true ∧ ((lastP (0, 0) ns).1 ≤ (i : Int) ∨ ((lastP (0, 0) ns).1 = ((i + 1 : Nat) : Int) ∧ (lastP (0, 0) ns).2 < (j : Int))) ∧ (∀ x ∈ ns, OkB 24000 3 x) ∧ ns.length + 2 ^ (h - i) ≤ 2 ^ h + j,
        ⟨ns, _, _, _, _, rfl, hN, .inl hL, hO, by omega⟩, ?_, ?_⟩
      · rintro j d ρ' hd2 ⟨ns, g5, g10, g11, g12, rfl, hN, hL, hO, hC⟩
        obtain ⟨ed, hj⟩ := rngD_at hd2
        subst ed
        rw [Int.zero_add]
        have hlo : (j : Int) * 2 ^ (i + 1) + ((2 ^ (i + 1) : Nat) : Int) ≤ (ls.length : Int) := by
          rw [← pow_cast]
          have e : (j : Int) * 2 ^ (i + 1) + 2 ^ (i + 1) = ((j : Int) + 1) * 2 ^ (i + 1) := by rw [Int.add_mul, Int.one_mul]
          have e2 : (2 : Int) ^ (h - i - 1) * 2 ^ (i + 1) = 2 ^ h := by
            rw [← Int.pow_add]
            congr 1
            omega
          rw [e, ll, ← pow_cast, ← e2]
          refine Int.mul_le_mul_of_nonneg_right ?_ (by have := (pow_le8 (a := i + 1) (by omega)).1; omega)
          rw [pow_cast]
          omega
        have hl0 : 0 ≤ (j : Int) * 2 ^ (i + 1) := Int.mul_nonneg (by omega) (by have := (pow_le8 (a := i + 1) (by omega)).1; omega)
        walk_at "pws"
        · refine ye_lcf (fun l => filled ls (asInt l)) (fun l => l) own_name wipe1 ?_
          walk_at "pws"
          have pl : 2 ^ (i + 1) ≤ 2 ^ 8 := Nat.pow_le_pow_right (by decide) (by omega)
          refine lc_split (by rw [rngD_len]; exact szl (by omega)) (by walk_at "env") ?_ ?_
          · intro d hd3
            obtain ⟨l, rfl, l0, l1⟩ := rng_in hd3
            walk_at "pws"
            refine o_ixAnyL (by omega) (by omega) fun d he => ?_
            walk_at "pws"
            refine ⟨rfl, ?_, fun _ => ?_⟩
            · show _ = filled ls l
              unfold filled
              rw [he]
            · walk_at "pws"
          · rw [List.map_id']
            generalize hb : (rngD ((j : Int) * 2 ^ (i + 1)) (2 ^ (i + 1))).filter (fun l => filled ls (asInt l)) = bn
            have lb : bn.length ≤ 256 := by
              rw [← hb]
              refine Nat.le_trans (List.length_filter_le _ _) ?_
              rw [rngD_len]
              exact pl
            walk_at "pws"
            refine xe_lc own_name wipe1 ?_
            walk_at "pws"
            refine ⟨szl (by omega), fun m acc => acc.Sublist (bn.take m), List.nil_sublist _, ?_, ?_⟩
            · intro m d acc hm hl hs
              have ht : bn.take (m + 1) = bn.take m ++ [d] := by rw [List.take_add_one, hm]; rfl
              walk_at "pws"
              all_goals refine ⟨rfl, fun hb => ?_, fun hb => ?_⟩
              all_goals first
                | (cases hb; done)
                | (walk_at "pws"; show (acc ++ [d]).Sublist (bn.take (m + 1)); rw [ht]; exact List.Sublist.append hs (List.Sublist.refl _))
                | (show acc.Sublist (bn.take (m + 1)); rw [ht]; exact hs.trans (List.sublist_append_left _ _))
            · intro acc hl hs
              rw [List.take_length] at hs
              have acl : acc.length ≤ 256 := Nat.le_trans hl lb
              walk_at "pws"
              rename_i lk k0 k1
              have s5 := sz5
              have hp2 : (2 : Nat) ^ (h - i) = 2 * 2 ^ (h - i - 1) := by
                rw [← Nat.pow_succ']
                congr 1
                omega
              have hle : (2 : Nat) ^ (h - i) ≤ 2 ^ h := Nat.pow_le_pow_right (by decide) (by omega)
              have hnl : ns.length ≤ 256 := by omega
              refine ⟨_, _, rfl, _, rfl, rfl, ?_⟩
              refine m_append (by omega) ⟨_, rfl, ?_⟩
              rw [← hb] at hs
              exact ⟨_, _, _, _, _, rfl, nodes_snoc hN (node_ok hi hj hL k0 (aside_of hs)), .inr (by rw [lastP_snoc]; exact ⟨rfl, by show (j : Int) < ((j + 1 : Nat) : Int); omega⟩), fun x hx => by
                rcases List.mem_append.mp hx with hx | hx
                · exact hO x hx
                · rw [List.mem_singleton.mp hx]
                  exact node_small (by omega) (by omega) (by omega) k0 k1 acl hl0 (by omega) hs, by rw [List.length_append, List.length_singleton]; omega⟩
        · exact ⟨ns, _, _, _, _, rfl, hN, by rcases hL with q | ⟨q1, q2⟩; exact .inl q; exact .inr ⟨q1, by omega⟩, hO, by omega⟩
      · rintro ρ' ⟨ns, g5, g10, g11, g12, rfl, hN, hL, hO, hC⟩
        rw [rngD_len] at hC hL
        refine ⟨ns, _, _, _, _, _, rfl, hN, by rcases hL with q | ⟨q, _⟩ <;> omega, hO, ?_⟩
        have e : 2 ^ (h - i) = 2 * 2 ^ (h - i - 1) := by
          rw [← Nat.pow_succ']
          congr 1
          omega
        have e2 : h - (i + 1) = h - i - 1 := by omega
        rw [e2]
        omega
    · rintro ρ' ⟨ns, f5, f9, f10, f11, f12, rfl, hN, hL, hO, hC⟩
      rw [rngD_len] at hC
      walk_at "pws"
      rw [Nat.sub_self] at hC
      exact g h ls ns ⟨h8, hv, hN, L.ok, hO, by omega⟩
end

end LawK08
end
section
namespace LawK08
open PySem PySem.Spec PyProof.Rows L2 PW
local macro_rules | `(tactic| walk_at "env") => `(tactic| (first | (dsimp only [sto, stoE, frz, frzE, frzAll, wipeE, Res.ent, List.set, List.getElem?_cons_zero, List.getElem?_cons_succ]; done) | (dsimp only [sto, stoE, frz, frzE, frzAll, wipeE, Res.ent, List.set, List.getElem?_cons_zero, List.getElem?_cons_succ]; rfl) | rfl))
local macro_rules | `(tactic| walk_at "mem") => `(tactic| first | assumption | exact cut_sub (by assumption) | exact List.mem_cons_of_mem _ (by assumption) | (simp only [List.mem_cons, true_or, or_true]; done))
local macro_rules | `(tactic| walk_at "jn") => `(tactic| first | assumption | with_unfolding_all exact rfl | exact jnTr (by assumption) (by assumption) | exact jnTr (cut_sub (by assumption)) (by assumption) | exact jnTr (List.mem_cons_of_mem _ (by assumption)) (by assumption) | exact jnT (by assumption) (by walk_at "mem") | exact jnL' (by assumption) (by walk_at "mem") | exact jnT2 (by assumption) (by assumption) (by walk_at "mem"))
local macro_rules | `(tactic| walk_at "sz") => `(tactic| first | with_unfolding_all exact Nat.le_of_ble_eq_true rfl | assumption | exact szl (by assumption) | exact szS (by walk_at "jn") | exact szT (by walk_at "jn") | exact szTl (by assumption) | exact szL (by walk_at "jn") | exact szG (by walk_at "jn") | ((with_reducible show (PW.cutD _ _ _).length ≤ _); refine szC ?_; walk_at "sz") | with_unfolding_all exact szl (Nat.le_of_ble_eq_true rfl))
local macro_rules | `(tactic| walk_at "bi") => `(tactic| first | with_unfolding_all exact rfl | assumption | exact jn_bi (by walk_at "jn"))
local macro_rules | `(tactic| walk_at "pw") => `(tactic| first
  | ((with_reducible show PW.XE _ _ _ _); first | with_reducible refine xe_var_d (by with_unfolding_all exact rfl) ?_ | with_reducible refine xe_var_o (by with_unfolding_all exact rfl) ?_ | with_reducible refine xe_int ?_ | with_reducible refine xe_str ?_ | with_reducible refine xe_bl ?_ | with_reducible refine xe_non ?_ | with_reducible refine ye_emp ?_ | with_reducible refine xe_op ?_ | with_reducible refine xe_un ?_ | with_reducible refine xe_if ?_ | with_reducible refine xe_andV ?_ | with_reducible refine xe_orV ?_ | with_reducible refine xe_notV ?_ | with_reducible refine xe_chain ?_ | with_reducible refine xe_isi D.isTup isi_tuple ?_ | with_reducible refine xe_isi D.isLst isi_list ?_ | with_reducible refine xe_isi D.isStr isi_str ?_ | with_reducible refine xe_isi D.isInt isi_int ?_ | with_reducible refine xe_isi D.isBool isi_bool ?_ | with_reducible refine xe_isi D.isDct isi_dict ?_ | with_reducible refine xe_isi2 D.isTup D.isLst isi_tuple isi_list ?_ | with_reducible refine ye_lenSet ?_ | with_reducible refine ye_join ?_ | with_reducible refine xe_cb ?_ | with_reducible refine xe_callS ?_ | with_reducible refine ye_callH (by with_unfolding_all exact rfl) ?_ | with_reducible refine ye_call ?_ | with_reducible refine ye_tup ?_ | with_reducible refine ye_lst ?_ | with_reducible refine xe_sl ?_ | with_reducible refine ye_revT ?_ | with_reducible refine ye_rg1 ?_ | with_reducible refine ye_rg2 ?_ | with_reducible refine ye_meth (by with_unfolding_all exact rfl) (fun _ _ _ h => ty_list h) ?_ | with_reducible refine ye_meth0 (by with_unfolding_all exact rfl) (fun _ _ _ h => ty_list h) ?_)
  | ((with_reducible show PW.XA _ _ _ _); first | with_reducible refine xa_nil ?_ | with_reducible refine xa_cons ?_)
  | ((with_reducible show PW.XT _ _ _ _); first | with_reducible refine xt_yes ?_ | with_reducible refine xt_test ?_ | with_reducible refine xt_B ?_ | with_reducible refine xt_not ?_ | with_reducible refine xt_and ?_ | with_reducible refine xt_or ?_)
  | ((with_reducible show PW.XS _ _ _ _); first | with_reducible refine xs_seq ?_ | with_reducible refine xs_next ?_ | with_reducible refine ys_asg ?_ | with_reducible refine xs_if ?_ | with_reducible refine ys_ret ?_ | with_reducible refine xs_retN ?_ | with_reducible refine xs_drop ?_ | with_reducible refine xs_break ?_ | with_reducible refine xs_cont ?_ | with_reducible refine ys_par (by with_unfolding_all decide) ?_ | with_reducible refine ys_par3 (by with_unfolding_all decide) (by with_unfolding_all decide) (by with_unfolding_all decide) ?_ | with_reducible refine ys_unp2 (by with_unfolding_all decide) ?_ | with_reducible refine ys_unp3 (by with_unfolding_all decide) (by with_unfolding_all decide) (by with_unfolding_all decide) ?_ | with_reducible refine ys_setix ?_ | with_reducible refine ys_asgG ?_ | with_reducible refine xs_for ?_)
  | ((with_reducible show PW.OpD _ _ _ _ _); first | with_reducible refine o_addI ?_ | with_reducible refine o_subI ?_ | with_reducible refine o_mulI (by first | with_unfolding_all exact .inl ⟨by decide, by decide⟩ | with_unfolding_all exact .inr ⟨by decide, by decide⟩) ?_ | with_reducible refine o_mulI (cmulL (by omega) (by omega)) ?_ | with_reducible refine o_mulI (cmulR (by omega) (by omega)) ?_ | with_reducible refine o_divI (by with_unfolding_all exact ⟨by decide, by decide⟩) ?_ | with_reducible refine o_modI (by with_unfolding_all decide) ?_ | with_reducible refine o_powI (by with_unfolding_all exact ⟨by decide, by decide, by decide⟩) ?_ | with_reducible refine o_ltI ?_ | with_reducible refine o_leI ?_ | with_reducible refine o_leUI ?_ | with_reducible refine o_leP ?_ | with_reducible refine o_shlI (cpow1 (by omega) (by omega)) ?_ | with_reducible refine o_gtI ?_ | with_reducible refine o_geI ?_ | with_reducible refine o_eqI ?_ | with_reducible refine o_neI ?_ | with_reducible refine o_eqB ?_ | with_reducible refine o_neB ?_ | with_reducible refine o_isNo ?_ | with_reducible refine o_isNotNo ?_ | with_reducible refine o_isBo ?_ | with_reducible refine o_isNotBo ?_ | with_reducible refine o_inC ?_ | with_reducible refine o_notInC ?_ | with_reducible refine o_ix0 ?_ | with_reducible refine o_ix1 ?_ | with_reducible refine o_ix2 ?_ | ((with_reducible show PW.OpD _ (rIx _) (.tup _) (.int 0) _); refine o_ix0e (ne_len (by omega)) ?_; intro y ys e; subst e) | with_reducible refine o_ixT (by with_unfolding_all exact rfl) ?_ | with_reducible refine o_ixL (by with_unfolding_all exact rfl) ?_)
  | ((with_reducible show PW.CaD _ _ _ _); first | with_reducible refine c_lenT ?_ | with_reducible refine c_lenL ?_ | with_reducible refine c_intI ?_ | with_reducible refine c_intB ?_ | with_reducible refine c_absI ?_ | with_reducible refine c_allM ?_ | with_reducible refine c_anyM ?_ | with_reducible refine c_tupL ?_ | with_reducible refine c_tupT ?_ | with_reducible refine c_lstL ?_ | with_reducible refine c_lstT ?_ | ((with_reducible show CaD _ (rLenU _) [.str _] _); with_reducible refine c_lenS (by walk_at "sz") ?_))
  | ((with_reducible show PW.XI _ _ _ _); first | with_reducible refine yi_seqU ?_ | with_reducible refine yi_enum ?_ | with_reducible refine yi_zip ?_ | with_reducible refine xi_range1 ?_ | with_reducible refine xi_range2 ?_)
  | ((with_reducible show PW.XG _ _ _ _ _); first | with_reducible refine yg_name ?_ | with_reducible refine xg_tup (by with_unfolding_all exact rfl) ?_)
  | ((with_reducible show PW.XGs _ _ _ _ _); first | with_reducible refine xgs_nil ?_ | with_reducible refine xgs_cons ?_)
  | ((with_reducible show PW.XM _ _ _ _ _); first | with_reducible refine xm_nil ?_ | with_reducible refine xm_cons ?_)
  | ((with_reducible show PW.XO _ _ _ _); first | with_reducible refine xo_none ?_ | with_reducible refine xo_some ?_)
  | ((with_reducible show PW.SlD _ _ _ _ _ _); first | with_reducible refine sl_tail ?_ | with_reducible refine sl_T ?_ | with_reducible refine sl_L ?_)
  | ((with_reducible show PW.UnD _ _ _ _); first | with_reducible refine u_neg ?_)
  | ((with_reducible show PW.back _ _ _); first | with_reducible refine back_d ?_ | with_reducible refine back_nw ?_ | with_reducible refine back_v (by with_unfolding_all exact rfl) ?_)
  | walk_at "cnt"
  | walk_at "br")
local macro_rules | `(tactic| walk_at "cnt") => `(tactic| first
  | with_reducible refine ex_env (by walk_at "env") ?_
  | ((with_reducible show ∃ x : List D, _ = some x ∧ x.length ≤ _ ∧ _); with_reducible refine ex_pks2 (by with_unfolding_all exact rfl) (by walk_at "sz") ?_)
  | with_reducible refine ex_pks (by with_unfolding_all exact rfl) ?_
  | ((with_reducible show ∃ x : D, _ = some x ∧ x.isBuiltin = true ∧ _); with_reducible refine ex_pk2 (by with_unfolding_all exact rfl) (by walk_at "bi") ?_)
  | with_reducible refine lc_fin (by with_unfolding_all exact rfl) (by with_unfolding_all exact rfl) ?_
  | with_reducible refine lcf_fin (by with_unfolding_all exact rfl) (by with_unfolding_all exact rfl) ?_
  | with_reducible refine ex_pk (by with_unfolding_all exact rfl) ?_
  | with_reducible refine ex_op (by with_unfolding_all exact rfl) (by with_unfolding_all exact rfl) ?_
  | with_reducible refine ex_it (by with_unfolding_all exact rfl) (by with_unfolding_all exact rfl) ?_
  | with_reducible refine ex_its (by with_unfolding_all exact rfl) (by with_unfolding_all exact rfl) ?_
  | with_reducible refine ex_zip (by with_unfolding_all exact rfl) (by with_unfolding_all exact rfl) ?_
  | with_reducible refine ex_bl ?_
  | with_reducible refine ex_int ?_
  | with_reducible refine ex_sc (by with_unfolding_all exact rfl) ?_
  | with_reducible refine and_brT ?_
  | with_reducible refine and_brF ?_
  | with_reducible refine and_rbT ?_
  | with_reducible refine and_rbF ?_
  | with_reducible refine and_nT ?_
  | with_reducible refine and_nF ?_
  | with_reducible refine and_mT ?_
  | with_reducible refine and_mF ?_
  | with_reducible refine and_br ?_ ?_
  | with_reducible refine and_rb ?_ ?_
  | with_reducible refine ⟨nv_d, ?_⟩
  | with_reducible refine ⟨nv_nw, ?_⟩)
local macro_rules | `(tactic| walk_at "br") => `(tactic| first
  | (with_reducible refine br_tup ?_; intro xs e; subst e)
  | (with_reducible refine br_tupN ?_; intro xs e; subst e)
  | (with_reducible refine br_lst ?_; intro xs e; subst e)
  | (with_reducible refine br_lstN ?_; intro xs e; subst e)
  | (with_reducible refine br_str ?_; intro xs e; subst e)
  | (with_reducible refine br_strN ?_; intro xs e; subst e)
  | (with_reducible refine br_non ?_; intro e; subst e)
  | (with_reducible refine br_nonN ?_; intro e; subst e)
  | (with_reducible refine br_t ?_; intro h; first | (cases h; done) | (simp only [lenc, List.length_nil, decide_eq_true_eq, decide_eq_false_iff_not] at h; omega) | exact absurd (show true = false from h) (by decide) | exact absurd (show false = true from h) (by decide) | (simp only [lenc, List.length_nil, Bool.not_eq_true', Bool.not_eq_false', decide_eq_true_eq, decide_eq_false_iff_not] at h) | skip)
  | (with_reducible refine br_f ?_; intro h; first | (cases h; done) | (simp only [lenc, List.length_nil, decide_eq_true_eq, decide_eq_false_iff_not] at h; omega) | exact absurd (show true = false from h) (by decide) | exact absurd (show false = true from h) (by decide) | (simp only [lenc, List.length_nil, Bool.not_eq_true', Bool.not_eq_false', decide_eq_true_eq, decide_eq_false_iff_not] at h) | skip)
  | (with_reducible refine signs_one ?_; intro c)
  | (with_reducible refine fa_mem ?_; intro d hd)
  | ((with_reducible show _ ≤ sizeLine ∧ _); with_reducible refine lc_split (by walk_at "sz") (by walk_at "env") ?_ ?_)
  | ((with_reducible show wipeE _ _ = _ ∧ _); with_reducible refine lc_env (by walk_at "env") ?_)
  | ((with_reducible show (_ : D) = _); exact rfl))
local macro_rules | `(tactic| walk_at "pws") => `(tactic| repeat' walk_at "pw")
local macro_rules | `(tactic| walk_at "pw") => `(tactic| first
  | ((with_reducible show w_is_integer _ _); with_reducible refine i_is_integer (by walk_at "bi") ?_) | ((with_reducible show w_is_within _ _); with_reducible refine i_is_within (by walk_at "bi") ?_) | ((with_reducible show w_is_tuple_of _ _); with_reducible refine i_is_tuple_of (by walk_at "bi") ?_)
  | ((with_reducible show w_is_name _ _); with_reducible refine i_is_name (by walk_at "jn") ?_) | ((with_reducible show w_is_lock _ _); with_reducible refine i_is_lock (by walk_at "bi") ?_) | ((with_reducible show w_is_member _ _); with_reducible refine i_is_member (by walk_at "jn") ?_)
  | (with_reducible refine br_two ?_; intro a b e; subst e) | (with_reducible refine br_twoN ?_; intro a b e; subst e) | (with_reducible refine br_thr ?_; intro a b c e; subst e) | (with_reducible refine br_thrN ?_; intro a b c e; subst e)
  | (with_reducible refine br_int ?_; intro i e; subst e) | (with_reducible refine br_win ?_; intro i e h1 h2; subst e) | (with_reducible refine br_winN ?_; intro i e h1 h2; subst e))
local macro_rules | `(tactic| walk_at "pw") => `(tactic| first
  | ((with_reducible show w_law_int _ _); with_reducible refine i_law_int (by walk_at "bi") ?_) | ((with_reducible show w_law_named _ _); with_reducible refine i_law_named (by walk_at "jn") ?_) | ((with_reducible show w_law_node _ _); with_reducible refine i_law_node (by walk_at "jn") (by assumption) ?_))
local macro_rules | `(tactic| walk_at "pw") => `(tactic| first
  | (with_reducible refine br_l2 ?_; intro a b e; subst e) | (with_reducible refine br_l3 ?_; intro a b c e; subst e))
theorem ye_revTup {K : PySem.W.Frag} {ρ : List Ent} {k : PW.KE} {te : TE} (h : PW.XE K te ρ fun r ρ1 => ∃ xs : List D, peek ρ1 r = some (.tup xs) ∧ k (.d (.tup xs.reverse)) ρ1) : PW.XE K (tTupRevT K te) ρ k := fun F H σ Q E q =>
  h F H σ _ E fun v H1 r ρ1 kp R ⟨xs, px, g⟩ => by
    obtain ⟨a, vs, e, c1, d1⟩ := (R.held.pk R.env px).tup
    refine ⟨a, vs, e, c1, fun p hp => ?_⟩
    have e2 : PW.Ext H1 (upd H1 p (.tup vs.reverse)) := PW.Ext.new hp
    have z : ResV (hot F σ ρ1) K H1 (upd H1 p (.tup vs.reverse)) (.ref p) (.d (.tup xs.reverse)) := Da.newT d1.reverse hp fun z => R.env.hotTrk p z hp
    exact q _ _ (.d (.tup xs.reverse)) ρ1 (hotR.res (hotR.hot kp) e2 z) (ResV.rv R.env e2 z) g
theorem wtL_len : ∀ xs : List D, xs.length ≤ wtL xs
  | [] => Nat.le_refl _
  | y :: ys => by
    have := wtL_len ys
    show ys.length + 1 ≤ wt y + 2 + wtL ys
    omega
theorem wtL_app : ∀ xs ys : List D, wtL (xs ++ ys) = wtL xs + wtL ys
  | [], ys => by
    show wtL ys = 0 + wtL ys
    omega
  | x :: xs, ys => by
    have := wtL_app xs ys
    show wt x + 2 + wtL (xs ++ ys) = wt x + 2 + wtL xs + wtL ys
    omega
theorem wtL_rev : ∀ xs : List D, wtL xs.reverse = wtL xs
  | [] => rfl
  | x :: xs => by
    rw [List.reverse_cons, wtL_app, wtL_rev xs]
    show wtL xs + (wt x + 2 + 0) = wt x + 2 + wtL xs
    omega
theorem smL_mem : ∀ {xs : List D} {x : D}, dSmL xs = true → x ∈ xs → dSm x = true
  | y :: ys, x, h, hx => by
    obtain ⟨h1, h2⟩ := Bool.and_eq_true_iff.mp (show (dSm y && dSmL ys) = true from h)
    rcases List.mem_cons.mp hx with e | hx
    · rw [e]; exact h1
    · exact smL_mem h2 hx
theorem dptL_mem : ∀ {xs : List D} {x : D}, x ∈ xs → dpt x ≤ dptL xs
  | y :: ys, x, hx => by
    show dpt x ≤ max (dpt y) (dptL ys)
    rcases List.mem_cons.mp hx with e | hx
    · rw [e]; omega
    · have := dptL_mem hx
      omega
theorem okb_any {b k : Nat} {xs ys : List D} (h : OkB b k (.tup xs)) (hb : b ≤ 90000) (hs : ∀ y ∈ ys, y ∈ xs) (hw : wtL ys ≤ wtL xs) : OkB b k (.tup ys) ∧ OkB b k (.lst ys) := by
  have h1 : 4 + wtL xs ≤ b := h.2.2.1
  have h2 := wtL_len ys
  have h3 : ∀ y ∈ ys, Ok y := fun y hy => ok_mem h.1 (hs y hy)
  have h4 : dSmL ys = true := smL_of fun y hy => smL_mem (xs := xs) h.2.1 (hs y hy)
  have h5 : 1 + dptL xs ≤ k := h.2.2.2
  have h6 : dptL ys ≤ dptL xs := dptL_of fun y hy => dptL_mem (hs y hy)
  exact ⟨⟨ok_tup (by omega) h3, h4, by show 4 + wtL ys ≤ b; omega, by show 1 + dptL ys ≤ k; omega⟩, ⟨ok_lst (by omega) h3, h4, by show 4 + wtL ys ≤ b; omega, by show 1 + dptL ys ≤ k; omega⟩⟩
theorem okb_app {b c d k m : Nat} {xs : List D} {y : D} (h : OkB b k (.tup xs)) (hb : b ≤ 90000) (hy : OkB c m y) (hd : b + c + 2 ≤ d) (hm : m + 1 ≤ k) : OkB d k (.tup (xs ++ [y])) := by
  have h1 : 4 + wtL xs ≤ b := h.2.2.1
  have h2 := wtL_len xs
  have h5 : 1 + dptL xs ≤ k := h.2.2.2
  have hm : ∀ z ∈ xs ++ [y], Ok z ∧ dSm z = true ∧ dpt z ≤ k - 1 := fun z hz => by
    rcases List.mem_append.mp hz with hz | hz
    · have := dptL_mem hz
      exact ⟨ok_mem h.1 hz, smL_mem (xs := xs) h.2.1 hz, by omega⟩
    · rw [List.mem_singleton.mp hz]
      have := hy.2.2.2
      exact ⟨hy.1, hy.2.1, by omega⟩
  have h6 := dptL_of fun z hz => (hm z hz).2.2
  refine ⟨ok_tup (by rw [List.length_append, List.length_singleton]; omega) fun z hz => (hm z hz).1, smL_of fun z hz => (hm z hz).2.1, ?_, by show 1 + dptL (xs ++ [y]) ≤ k; omega⟩
  have h3 := hy.2.2.1
  show 4 + wtL (xs ++ [y]) ≤ d
  rw [wtL_app]
  show 4 + (wtL xs + (wt y + 2 + 0)) ≤ d
  omega
/-- the parts of three -/
theorem okb_parts {b k : Nat} {x y z : D} (h : OkB b (k + 1) (.tup [x, y, z])) : ∃ p q r, OkB p k x ∧ OkB q k y ∧ OkB r k z ∧ p + q + r + 10 ≤ b := by
  have h1 : 4 + (wt x + 2 + (wt y + 2 + (wt z + 2 + 0))) ≤ b := h.2.2.1
  have h2 : 1 + max (dpt x) (max (dpt y) (max (dpt z) 0)) ≤ k + 1 := h.2.2.2
  have hm : ∀ w ∈ [x, y, z], Ok w ∧ dSm w = true := fun w hw => ⟨ok_mem h.1 hw, smL_mem (xs := [x, y, z]) h.2.1 hw⟩
  have hx := hm x (by simp)
  have hy := hm y (by simp)
  have hz := hm z (by simp)
  exact ⟨wt x, wt y, wt z, ⟨hx.1, hx.2, Nat.le_refl _, by omega⟩, ⟨hy.1, hy.2, Nat.le_refl _, by omega⟩, ⟨hz.1, hz.2, Nat.le_refl _, by omega⟩, by omega⟩
/-- a node's three parts -/
theorem nodes_parts {h : Int} {ls : List D} : ∀ {ns : List D} {p : Int × Int} {x : D}, nodesFrom h ls p ns = true → x ∈ ns → ∃ n l xs, x = .tup [n, l, .tup xs]
  | y :: r, p, x, z, hx => by
    obtain ⟨n, l, s, rfl⟩ := nodes_three z
    have z : (isNode n h 1 && above n p && isLock l && isAside s (pairOf n).1 (pairOf n).2 ls && nodesFrom h ls (pairOf n) r) = true := z
    obtain ⟨z1, z2⟩ := Bool.and_eq_true_iff.mp z
    obtain ⟨_, z3⟩ := Bool.and_eq_true_iff.mp z1
    rcases List.mem_cons.mp hx with e | hx
    · cases s with
      | tup xs => exact ⟨n, l, xs, e⟩
      | _ => cases z3
    · exact nodes_parts z2 hx
section
local macro_rules | `(tactic| walk_at "pw") => `(tactic| first
  | ((with_reducible show w_law_draw _ _); refine i_law_drawN (by first | omega | decide) (by first | omega | decide) ?_; intro n hn)
  | ((with_reducible show w_law_set _ _); refine i_law_set (by omega) (by omega) ?_)
  | ((with_reducible show w_law_odd _ _); refine i_law_odd ?_; intro x hx)
  | (with_reducible refine ye_revTup ?_)
  | ((with_reducible show ∃ xs : List D, peek _ _ = some (D.tup xs) ∧ _); refine ⟨_, rfl, ?_⟩)
  | ((with_reducible show OpD _ (rAddU _) (.tup _) (.tup _) _); refine o_addT (by simp; omega) ?_)
  | ((with_reducible show OpD _ (rIx _) (.lst _) (.int _) _); refine o_ixAnyL (by omega) (by simp only [List.length_cons, List.length_nil]; omega) ?_; intro d hd))
theorem pure_law_node_spoilt {K : PySem.W.Frag} : ∀ ds kk, w_law_node_spoilt ds kk → XS K (t_law_node_spoilt K) (iniH 9 ds) { nx := fun _ => kk (.d .non), rt := fun r _ => kk r } := by
  rintro _ kk ⟨h, ls, ns, rfl, G, g⟩
  show XS K (t_law_node_spoilt K) [.hand, .d (.int h), .d (.tup ls), .d (.tup ns), .u, .u, .u, .u, .u] (Fin kk)
  unfold t_law_node_spoilt
  have hv := G.leaves
  have hl : ls.length = 2 ^ h := of_decide_eq_true (Bool.and_eq_true_iff.mp (Bool.and_eq_true_iff.mp (show (decide (ls.length = 2 ^ h) && _ && _) = true from hv)).1).1
  have h8 := G.small
  have h3 : 2 ^ h ≤ 2 ^ 8 := Nat.pow_le_pow_right (by decide) h8
  have h4 : 1 ≤ 2 ^ h := Nat.one_le_two_pow
  have s5 := sz5
  have nf := G.few
  have okn := G.okN
  have hall : ∀ x ∈ ns, ∃ n l xs, x = .tup [n, l, .tup xs] := fun x hx => nodes_parts (p := (0, 0)) (show nodesFrom h ls (0, 0) ns = true from G.nodes) hx
  have app_ok : ∀ y : D, OkB 26000 3 y → OkB 7000000 4 (.tup (ns ++ [y])) := fun y hy => okb_tup (n := 260) (b := 26000) (m := 3) (by simp; omega) (by decide) (fun x hx => by
    rcases List.mem_append.mp hx with hx | hx
    · exact okb_le (okn x hx) (by decide)
    · rw [List.mem_singleton.mp hx]; exact hy) (by decide)
  have set_ok : ∀ (i : Nat) (y : D), i < ns.length → OkB 26000 3 y → OkB 7000000 4 (.tup (ns.take i ++ [y] ++ ns.drop (i + 1))) := fun i y hi hy => okb_set (n := 260) (b := 26000) (m := 3) (by omega) hi (by decide) (fun x hx => okb_le (okn x hx) (by decide)) hy (by decide)
  have new_ok : ∀ a b : Nat, (a : Int) ≤ 1000 → (b : Int) ≤ 1000 → OkB 26000 3 (.tup [.tup [.int (a : Int), .int (b : Int)], .int 3, .tup []]) := fun a b h1 h2 =>
    okb_thr (a := 140) (b := 66) (c := 4) (m := 1) (okb_two (okb_int (by omega) (by omega)) (okb_int (by omega) (by omega)) (by decide)) (okb_le (okb_int (by decide) (by decide)) (Nat.le_refl _)) ⟨⟨rfl, rfl⟩, rfl, by decide, by decide⟩ (by decide)
  walk_at "pws"
  · exact g _ (app_ok _ (new_ok _ _ (by omega) (by omega)))
  · rename_i hn
    refine o_ixAnyT (by omega) hn fun d hd => ?_
    have hm := List.mem_of_getElem? hd
    obtain ⟨n, l, xs, rfl⟩ := hall d hm
    obtain ⟨p, q, r, o1, o2, o3, hw⟩ := okb_parts (k := 2) (okn _ hm)
    have hxl : xs.length ≤ 24000 := by
      have h1 : 4 + wtL xs ≤ r := o3.2.2.1
      have h2 := wtL_len xs
      omega
    have oks : OkB r 2 (.tup xs) := o3
    walk_at "pws"
    · refine o_ixAnyT (by omega) hn fun d' hd' => ?_
      rw [hd] at hd'
      cases hd'
      walk_at "pws"
      exact g _ (app_ok _ (okb_le (okn _ hm) (by decide)))
    · exact g _ (okb_tup (n := 260) (b := 24000) (m := 3) (by rw [List.length_reverse]; omega) (by decide) (fun x hx => okn x (List.mem_reverse.mp hx)) (by decide))
    · exact g _ (set_ok _ _ (by omega) (okb_thr o1 (odd_okb _ (by assumption)) o3 (by omega)))
    · exact g _ (set_ok _ _ (by omega) (okb_thr (odd_okb _ (by assumption)) o2 o3 (by omega)))
    · rename_i n2 hn2
      exact g _ (set_ok _ _ (by omega) (okb_thr o1 o2 (okb_app (c := 66) (d := r + 70) oks (by omega) (okb_int (by omega) (by omega)) (by omega) (by decide)) (by omega)))
    · rename_i x hx n2 hn2 d2 hd2
      refine g _ (set_ok _ _ (by omega) (okb_thr o1 o2 (c := r + 400) ?_ (by omega)))
      have hd3 := List.mem_of_getElem? hd2
      simp only [List.mem_cons, List.not_mem_nil, or_false] at hd3
      rcases hd3 with e | e | e | e
      · rw [e]; exact okb_le (odd_okb _ hx) (by omega)
      · rw [e]; exact okb_le (okb_any oks (by omega) (fun y hy => List.mem_reverse.mp hy) (by rw [wtL_rev]; omega)).1 (by omega)
      · rw [e]; exact okb_le (okb_any oks (by omega) (fun y hy => hy) (Nat.le_refl _)).2 (by omega)
      · rw [e]; exact okb_app (c := 6) (m := 0) oks (by omega) ⟨⟨rfl, rfl⟩, rfl, by decide, by decide⟩ (by omega) (by decide)
    · exact g _ (set_ok _ _ (by omega) (okb_le (odd_okb _ (by assumption)) (by decide)))
    · rename_i n2 hn2 d2 hd2
      have hd3 := List.mem_of_getElem? hd2
      simp only [List.mem_cons, List.not_mem_nil, or_false] at hd3
      refine g _ ?_
      rcases hd3 with e | e | e
      · rw [e]; exact okb_lst (n := 260) (b := 24000) (m := 3) (by omega) (by decide) okn (by decide)
      · rw [e]; exact okb_tup (n := 260) (b := 24000) (m := 3) (Nat.le_trans cut_len (by omega)) (by decide) (fun x hx => okn x (cut_sub hx)) (by decide)
      · rw [e]; exact ⟨⟨rfl, rfl⟩, rfl, by decide, by decide⟩
  · exact g _ (app_ok _ (new_ok _ _ (by omega) (by omega)))
end

end LawK08
end
section
namespace LawK08
open PySem PySem.Spec PyProof.Rows L2 PW
local macro_rules | `(tactic| walk_at "env") => `(tactic| (first | (dsimp only [sto, stoE, frz, frzE, frzAll, wipeE, Res.ent, List.set, List.getElem?_cons_zero, List.getElem?_cons_succ]; done) | (dsimp only [sto, stoE, frz, frzE, frzAll, wipeE, Res.ent, List.set, List.getElem?_cons_zero, List.getElem?_cons_succ]; rfl) | rfl))
local macro_rules | `(tactic| walk_at "mem") => `(tactic| first | assumption | exact cut_sub (by assumption) | exact List.mem_cons_of_mem _ (by assumption) | (simp only [List.mem_cons, true_or, or_true]; done))
local macro_rules | `(tactic| walk_at "jn") => `(tactic| first | assumption | with_unfolding_all exact rfl | exact jnTr (by assumption) (by assumption) | exact jnTr (cut_sub (by assumption)) (by assumption) | exact jnTr (List.mem_cons_of_mem _ (by assumption)) (by assumption) | exact jnT (by assumption) (by walk_at "mem") | exact jnL' (by assumption) (by walk_at "mem") | exact jnT2 (by assumption) (by assumption) (by walk_at "mem"))
local macro_rules | `(tactic| walk_at "sz") => `(tactic| first | with_unfolding_all exact Nat.le_of_ble_eq_true rfl | assumption | exact szl (by assumption) | exact szS (by walk_at "jn") | exact szT (by walk_at "jn") | exact szTl (by assumption) | exact szL (by walk_at "jn") | exact szG (by walk_at "jn") | ((with_reducible show (PW.cutD _ _ _).length ≤ _); refine szC ?_; walk_at "sz") | with_unfolding_all exact szl (Nat.le_of_ble_eq_true rfl))
local macro_rules | `(tactic| walk_at "bi") => `(tactic| first | with_unfolding_all exact rfl | assumption | exact jn_bi (by walk_at "jn"))
local macro_rules | `(tactic| walk_at "pw") => `(tactic| first
  | ((with_reducible show PW.XE _ _ _ _); first | with_reducible refine xe_var_d (by with_unfolding_all exact rfl) ?_ | with_reducible refine xe_var_o (by with_unfolding_all exact rfl) ?_ | with_reducible refine xe_int ?_ | with_reducible refine xe_str ?_ | with_reducible refine xe_bl ?_ | with_reducible refine xe_non ?_ | with_reducible refine ye_emp ?_ | with_reducible refine xe_op ?_ | with_reducible refine xe_un ?_ | with_reducible refine xe_if ?_ | with_reducible refine xe_andV ?_ | with_reducible refine xe_orV ?_ | with_reducible refine xe_notV ?_ | with_reducible refine xe_chain ?_ | with_reducible refine xe_isi D.isTup isi_tuple ?_ | with_reducible refine xe_isi D.isLst isi_list ?_ | with_reducible refine xe_isi D.isStr isi_str ?_ | with_reducible refine xe_isi D.isInt isi_int ?_ | with_reducible refine xe_isi D.isBool isi_bool ?_ | with_reducible refine xe_isi D.isDct isi_dict ?_ | with_reducible refine xe_isi2 D.isTup D.isLst isi_tuple isi_list ?_ | with_reducible refine ye_lenSet ?_ | with_reducible refine ye_join ?_ | with_reducible refine xe_cb ?_ | with_reducible refine xe_callS ?_ | with_reducible refine ye_callH (by with_unfolding_all exact rfl) ?_ | with_reducible refine ye_call ?_ | with_reducible refine ye_tup ?_ | with_reducible refine ye_lst ?_ | with_reducible refine xe_sl ?_ | with_reducible refine ye_revT ?_ | with_reducible refine ye_rg1 ?_ | with_reducible refine ye_rg2 ?_ | with_reducible refine ye_meth (by with_unfolding_all exact rfl) (fun _ _ _ h => ty_list h) ?_ | with_reducible refine ye_meth0 (by with_unfolding_all exact rfl) (fun _ _ _ h => ty_list h) ?_)
  | ((with_reducible show PW.XA _ _ _ _); first | with_reducible refine xa_nil ?_ | with_reducible refine xa_cons ?_)
  | ((with_reducible show PW.XT _ _ _ _); first | with_reducible refine xt_yes ?_ | with_reducible refine xt_test ?_ | with_reducible refine xt_B ?_ | with_reducible refine xt_not ?_ | with_reducible refine xt_and ?_ | with_reducible refine xt_or ?_)
  | ((with_reducible show PW.XS _ _ _ _); first | with_reducible refine xs_seq ?_ | with_reducible refine xs_next ?_ | with_reducible refine ys_asg ?_ | with_reducible refine xs_if ?_ | with_reducible refine ys_ret ?_ | with_reducible refine xs_retN ?_ | with_reducible refine xs_drop ?_ | with_reducible refine xs_break ?_ | with_reducible refine xs_cont ?_ | with_reducible refine ys_par (by with_unfolding_all decide) ?_ | with_reducible refine ys_par3 (by with_unfolding_all decide) (by with_unfolding_all decide) (by with_unfolding_all decide) ?_ | with_reducible refine ys_unp2 (by with_unfolding_all decide) ?_ | with_reducible refine ys_unp3 (by with_unfolding_all decide) (by with_unfolding_all decide) (by with_unfolding_all decide) ?_ | with_reducible refine ys_setix ?_ | with_reducible refine ys_asgG ?_ | with_reducible refine xs_for ?_)
  | ((with_reducible show PW.OpD _ _ _ _ _); first | with_reducible refine o_addI ?_ | with_reducible refine o_subI ?_ | with_reducible refine o_mulI (by first | with_unfolding_all exact .inl ⟨by decide, by decide⟩ | with_unfolding_all exact .inr ⟨by decide, by decide⟩) ?_ | with_reducible refine o_mulI (cmulL (by omega) (by omega)) ?_ | with_reducible refine o_mulI (cmulR (by omega) (by omega)) ?_ | with_reducible refine o_divI (by with_unfolding_all exact ⟨by decide, by decide⟩) ?_ | with_reducible refine o_modI (by with_unfolding_all decide) ?_ | with_reducible refine o_powI (by with_unfolding_all exact ⟨by decide, by decide, by decide⟩) ?_ | with_reducible refine o_ltI ?_ | with_reducible refine o_leI ?_ | with_reducible refine o_leUI ?_ | with_reducible refine o_leP ?_ | with_reducible refine o_shlI (cpow1 (by omega) (by omega)) ?_ | with_reducible refine o_gtI ?_ | with_reducible refine o_geI ?_ | with_reducible refine o_eqI ?_ | with_reducible refine o_neI ?_ | with_reducible refine o_eqB ?_ | with_reducible refine o_neB ?_ | with_reducible refine o_isNo ?_ | with_reducible refine o_isNotNo ?_ | with_reducible refine o_isBo ?_ | with_reducible refine o_isNotBo ?_ | with_reducible refine o_inC ?_ | with_reducible refine o_notInC ?_ | with_reducible refine o_ix0 ?_ | with_reducible refine o_ix1 ?_ | with_reducible refine o_ix2 ?_ | ((with_reducible show PW.OpD _ (rIx _) (.tup _) (.int 0) _); refine o_ix0e (ne_len (by omega)) ?_; intro y ys e; subst e) | with_reducible refine o_ixT (by with_unfolding_all exact rfl) ?_ | with_reducible refine o_ixL (by with_unfolding_all exact rfl) ?_)
  | ((with_reducible show PW.CaD _ _ _ _); first | with_reducible refine c_lenT ?_ | with_reducible refine c_lenL ?_ | with_reducible refine c_intI ?_ | with_reducible refine c_intB ?_ | with_reducible refine c_absI ?_ | with_reducible refine c_allM ?_ | with_reducible refine c_anyM ?_ | with_reducible refine c_tupL ?_ | with_reducible refine c_tupT ?_ | with_reducible refine c_lstL ?_ | with_reducible refine c_lstT ?_ | ((with_reducible show CaD _ (rLenU _) [.str _] _); with_reducible refine c_lenS (by walk_at "sz") ?_))
  | ((with_reducible show PW.XI _ _ _ _); first | with_reducible refine yi_seqU ?_ | with_reducible refine yi_enum ?_ | with_reducible refine yi_zip ?_ | with_reducible refine xi_range1 ?_ | with_reducible refine xi_range2 ?_)
  | ((with_reducible show PW.XG _ _ _ _ _); first | with_reducible refine yg_name ?_ | with_reducible refine xg_tup (by with_unfolding_all exact rfl) ?_)
  | ((with_reducible show PW.XGs _ _ _ _ _); first | with_reducible refine xgs_nil ?_ | with_reducible refine xgs_cons ?_)
  | ((with_reducible show PW.XM _ _ _ _ _); first | with_reducible refine xm_nil ?_ | with_reducible refine xm_cons ?_)
  | ((with_reducible show PW.XO _ _ _ _); first | with_reducible refine xo_none ?_ | with_reducible refine xo_some ?_)
  | ((with_reducible show PW.SlD _ _ _ _ _ _); first | with_reducible refine sl_tail ?_ | with_reducible refine sl_T ?_ | with_reducible refine sl_L ?_)
  | ((with_reducible show PW.UnD _ _ _ _); first | with_reducible refine u_neg ?_)
  | ((with_reducible show PW.back _ _ _); first | with_reducible refine back_d ?_ | with_reducible refine back_nw ?_ | with_reducible refine back_v (by with_unfolding_all exact rfl) ?_)
  | walk_at "cnt"
  | walk_at "br")
local macro_rules | `(tactic| walk_at "cnt") => `(tactic| first
  | with_reducible refine ex_env (by walk_at "env") ?_
  | ((with_reducible show ∃ x : List D, _ = some x ∧ x.length ≤ _ ∧ _); with_reducible refine ex_pks2 (by with_unfolding_all exact rfl) (by walk_at "sz") ?_)
  | with_reducible refine ex_pks (by with_unfolding_all exact rfl) ?_
  | ((with_reducible show ∃ x : D, _ = some x ∧ x.isBuiltin = true ∧ _); with_reducible refine ex_pk2 (by with_unfolding_all exact rfl) (by walk_at "bi") ?_)
  | with_reducible refine lc_fin (by with_unfolding_all exact rfl) (by with_unfolding_all exact rfl) ?_
  | with_reducible refine lcf_fin (by with_unfolding_all exact rfl) (by with_unfolding_all exact rfl) ?_
  | with_reducible refine ex_pk (by with_unfolding_all exact rfl) ?_
  | with_reducible refine ex_op (by with_unfolding_all exact rfl) (by with_unfolding_all exact rfl) ?_
  | with_reducible refine ex_it (by with_unfolding_all exact rfl) (by with_unfolding_all exact rfl) ?_
  | with_reducible refine ex_its (by with_unfolding_all exact rfl) (by with_unfolding_all exact rfl) ?_
  | with_reducible refine ex_zip (by with_unfolding_all exact rfl) (by with_unfolding_all exact rfl) ?_
  | with_reducible refine ex_bl ?_
  | with_reducible refine ex_int ?_
  | with_reducible refine ex_sc (by with_unfolding_all exact rfl) ?_
  | with_reducible refine and_brT ?_
  | with_reducible refine and_brF ?_
  | with_reducible refine and_rbT ?_
  | with_reducible refine and_rbF ?_
  | with_reducible refine and_nT ?_
  | with_reducible refine and_nF ?_
  | with_reducible refine and_mT ?_
  | with_reducible refine and_mF ?_
  | with_reducible refine and_br ?_ ?_
  | with_reducible refine and_rb ?_ ?_
  | with_reducible refine ⟨nv_d, ?_⟩
  | with_reducible refine ⟨nv_nw, ?_⟩)
local macro_rules | `(tactic| walk_at "br") => `(tactic| first
  | (with_reducible refine br_tup ?_; intro xs e; subst e)
  | (with_reducible refine br_tupN ?_; intro xs e; subst e)
  | (with_reducible refine br_lst ?_; intro xs e; subst e)
  | (with_reducible refine br_lstN ?_; intro xs e; subst e)
  | (with_reducible refine br_str ?_; intro xs e; subst e)
  | (with_reducible refine br_strN ?_; intro xs e; subst e)
  | (with_reducible refine br_non ?_; intro e; subst e)
  | (with_reducible refine br_nonN ?_; intro e; subst e)
  | (with_reducible refine br_t ?_; intro h; first | (cases h; done) | (simp only [lenc, List.length_nil, decide_eq_true_eq, decide_eq_false_iff_not] at h; omega) | exact absurd (show true = false from h) (by decide) | exact absurd (show false = true from h) (by decide) | (simp only [lenc, List.length_nil, Bool.not_eq_true', Bool.not_eq_false', decide_eq_true_eq, decide_eq_false_iff_not] at h) | skip)
  | (with_reducible refine br_f ?_; intro h; first | (cases h; done) | (simp only [lenc, List.length_nil, decide_eq_true_eq, decide_eq_false_iff_not] at h; omega) | exact absurd (show true = false from h) (by decide) | exact absurd (show false = true from h) (by decide) | (simp only [lenc, List.length_nil, Bool.not_eq_true', Bool.not_eq_false', decide_eq_true_eq, decide_eq_false_iff_not] at h) | skip)
  | (with_reducible refine signs_one ?_; intro c)
  | (with_reducible refine fa_mem ?_; intro d hd)
  | ((with_reducible show _ ≤ sizeLine ∧ _); with_reducible refine lc_split (by walk_at "sz") (by walk_at "env") ?_ ?_)
  | ((with_reducible show wipeE _ _ = _ ∧ _); with_reducible refine lc_env (by walk_at "env") ?_)
  | ((with_reducible show (_ : D) = _); exact rfl))
local macro_rules | `(tactic| walk_at "pws") => `(tactic| repeat' walk_at "pw")
/-- the box at a, behind H0 -/
structure Bx (M : Addr → Prop) (K : PySem.W.Frag) (H0 : Hp) (a : Addr) (H : Hp) (c : Addr) (cs : List Int) (i r m : Int) (g : Bool) (n : Int) : Prop where
  kept : ∀ b o, b ≠ a → H0 b = some o → H b = some o
  at_ : H a = some (.dK (boxK c i r m g n))
  cells : ColdL M K H c (cs.map V.int)
  hot : M a
  trk : Tr M H0
  pos : 0 ≤ i
section
variable {M : Addr → Prop} {K : PySem.W.Frag} {H0 H H' : Hp} {a c : Addr} {cs : List Int} {i r m n j : Int} {g b : Bool} {Q : VK} {σ : L2.St} {te : TE} {D : Ends} {P : Hp → Prop}
theorem Bx.ext (B : Bx M K H0 a H c cs i r m g n) (e : Ext H H') : Bx M K H0 a H' c cs i r m g n :=
  ⟨fun b o nb h => e b o (B.kept b o nb h), e _ _ B.at_, ⟨B.cells.1, e _ _ B.cells.2⟩, B.hot, B.trk, B.pos⟩
theorem Bx.put {i' r' m' n' : Int} {g' : Bool} (B : Bx M K H0 a H c cs i r m g n) (h : H' a = some (.dK (boxK c i' r' m' g' n'))) (st : ∀ b, b ≠ a → H' b = H b) (p : 0 ≤ i') : Bx M K H0 a H' c cs i' r' m' g' n' :=
  ⟨fun b o nb e => by rw [st b nb]; exact B.kept b o nb e, h, ⟨B.cells.1, by rw [st c fun z => B.cells.1 (by rw [z]; exact B.hot)]; exact B.cells.2⟩, B.hot, B.trk, p⟩
theorem Bx.hand (B : Bx M K H0 a H c cs i r m g n) : HandOk M K H a := ⟨c, cs, i, r, m, g, n, B.at_, B.cells, B.pos⟩
theorem Bx.tr (B : Bx M K H0 a H c cs i r m g n) : Tr M H := fun b hb => by
  by_cases z : b = a
  · rw [z, B.at_]
    exact fun e => nomatch e
  · obtain ⟨o, ho⟩ := Option.ne_none_iff_exists'.mp (B.trk b hb)
    rw [B.kept b o z ho]
    exact fun e => nomatch e
theorem Bx.of (ho : HandOk M K H a) (ma : M a) (tr : Tr M H0) (st : ∀ b o, b ≠ a → H0 b = some o → H b = some o) : ∃ c cs i r m g n, Bx M K H0 a H c cs i r m g n := by
  obtain ⟨c, cs, i, r, m, g, n, h1, h2, h3⟩ := ho
  exact ⟨c, cs, i, r, m, g, n, st, h1, h2, ma, tr, h3⟩
def keyT (k : Str) : TE := tDGet (tVar 0) (tC (.str k))
theorem rb_get {k : Str} {v : V} (h : σ[0]? = some (some (.ref a))) (e : DGet H a (.str k) (some v)) (q : Q v H) : tDGet (tVar 0) (tC (.str k)) σ H Q := ⟨_, h, a, v, rfl, e, q⟩
theorem rb_cells (B : Bx M K H0 a H c cs i r m g n) (h : σ[0]? = some (some (.ref a))) (q : Q (.ref c) H) : tDGet (tVar 0) (tC (.str "cells")) σ H Q := rb_get h (bx_val B.at_ bv_cells) q
theorem rb_at (B : Bx M K H0 a H c cs i r m g n) (h : σ[0]? = some (some (.ref a))) (q : Q (.int i) H) : tDGet (tVar 0) (tC (.str "at")) σ H Q := rb_get h (bx_val B.at_ bv_at) q
theorem rb_rest (B : Bx M K H0 a H c cs i r m g n) (h : σ[0]? = some (some (.ref a))) (q : Q (.int r) H) : tDGet (tVar 0) (tC (.str "rest")) σ H Q := rb_get h (bx_val B.at_ bv_rest) q
theorem rb_many (B : Bx M K H0 a H c cs i r m g n) (h : σ[0]? = some (some (.ref a))) (q : Q (.int m) H) : tDGet (tVar 0) (tC (.str "many")) σ H Q := rb_get h (bx_val B.at_ bv_many) q
theorem rb_great (B : Bx M K H0 a H c cs i r m g n) (h : σ[0]? = some (some (.ref a))) (q : Q (.bl g) H) : tDGet (tVar 0) (tC (.str "great")) σ H Q := rb_get h (bx_val B.at_ bv_great) q
theorem rb_all (B : Bx M K H0 a H c cs i r m g n) (h : σ[0]? = some (some (.ref a))) (q : Q (.int n) H) : tDGet (tVar 0) (tC (.str "all")) σ H Q := rb_get h (bx_val B.at_ bv_all) q
theorem rb_put {k : Str} (h0 : σ[0]? = some (some (.ref a))) (h : te σ H fun v H1 => ∃ H2, DPut H1 a (.str k) v H2 ∧ D.nx σ H2) : sDPut (tVar 0) (tC (.str k)) te D σ H := by
  have e : (fun (v : V) (H1 : Hp) => ∃ H2, DPut H1 a (.str k) v H2 ∧ D.nx σ H2) = fun v H1 => tVar 0 σ H1 fun x H2 => tC (.str k) σ H2 fun y H3 => ∃ a H4, x = .ref a ∧ DPut H3 a y v H4 ∧ D.nx σ H4 := by
    funext v H1
    refine propext ⟨fun ⟨H2, h1, h2⟩ => ⟨_, h0, a, H2, rfl, h1, h2⟩, fun ⟨w, hw, a', H2, e, h1, h2⟩ => ?_⟩
    rw [h0] at hw
    cases hw
    cases e
    exact ⟨H2, h1, h2⟩
  show te σ H fun v H1 => tVar 0 σ H1 fun x H2 => tC (.str k) σ H2 fun y H3 => ∃ a H4, x = .ref a ∧ DPut H3 a y v H4 ∧ D.nx σ H4
  rw [← e]
  exact h
theorem rp_at (B : Bx M K H0 a H c cs i r m g n) (p : 0 ≤ j) (q : ∀ H2, Bx M K H0 a H2 c cs j r m g n → P H2) : ∃ H2, DPut H a (.str "at") (.int j) H2 ∧ P H2 := bx_to B.at_ bx_len bp_at fun H2 h st => q H2 (B.put h st p)
theorem rp_rest (B : Bx M K H0 a H c cs i r m g n) (q : ∀ H2, Bx M K H0 a H2 c cs i j m g n → P H2) : ∃ H2, DPut H a (.str "rest") (.int j) H2 ∧ P H2 := bx_to B.at_ bx_len bp_rest fun H2 h st => q H2 (B.put h st B.pos)
theorem rp_many (B : Bx M K H0 a H c cs i r m g n) (q : ∀ H2, Bx M K H0 a H2 c cs i r j g n → P H2) : ∃ H2, DPut H a (.str "many") (.int j) H2 ∧ P H2 := bx_to B.at_ bx_len bp_many fun H2 h st => q H2 (B.put h st B.pos)
theorem rp_great (B : Bx M K H0 a H c cs i r m g n) (q : ∀ H2, Bx M K H0 a H2 c cs i r m b n → P H2) : ∃ H2, DPut H a (.str "great") (.bl b) H2 ∧ P H2 := bx_to B.at_ bx_len bp_great fun H2 h st => q H2 (B.put h st B.pos)
theorem rp_all (B : Bx M K H0 a H c cs i r m g n) (q : ∀ H2, Bx M K H0 a H2 c cs i r m g j → P H2) : ∃ H2, DPut H a (.str "all") (.int j) H2 ∧ P H2 := bx_to B.at_ bx_len bp_all fun H2 h st => q H2 (B.put h st B.pos)
theorem rb_aug {k : Str} {x j : Int} {f : Int → Int → Int} (h0 : σ[0]? = some (some (.ref a))) (e : DGet H a (.str k) (some (.int x))) (h : ∃ H2, DPut H a (.str k) (.int (f x j)) H2 ∧ D.nx σ H2) : sDAug (tVar 0) (tC (.str k)) (tC (.int j)) (ipI f) D σ H :=
  ⟨_, h0, a, .int x, rfl, e, x, j, rfl, rfl, h⟩
theorem rb_augAt {f : Int → Int → Int} (B : Bx M K H0 a H c cs i r m g n) (h0 : σ[0]? = some (some (.ref a))) (h : ∃ H2, DPut H a (.str "at") (.int (f i j)) H2 ∧ D.nx σ H2) : sDAug (tVar 0) (tC (.str "at")) (tC (.int j)) (ipI f) D σ H := rb_aug h0 (bx_val B.at_ bv_at) h
theorem rb_augMany {f : Int → Int → Int} (B : Bx M K H0 a H c cs i r m g n) (h0 : σ[0]? = some (some (.ref a))) (h : ∃ H2, DPut H a (.str "many") (.int (f m j)) H2 ∧ D.nx σ H2) : sDAug (tVar 0) (tC (.str "many")) (tC (.int j)) (ipI f) D σ H := rb_aug h0 (bx_val B.at_ bv_many) h
theorem rb_augAll {f : Int → Int → Int} (B : Bx M K H0 a H c cs i r m g n) (h0 : σ[0]? = some (some (.ref a))) (h : ∃ H2, DPut H a (.str "all") (.int (f n j)) H2 ∧ D.nx σ H2) : sDAug (tVar 0) (tC (.str "all")) (tC (.int j)) (ipI f) D σ H := rb_aug h0 (bx_val B.at_ bv_all) h
theorem r_mixed {ta tb : TE} {E : XK} (h : ta σ H fun x H1 => tb σ H1 fun y H2 => spW K w_law_mixed [x, y] H2 Q E) : PW.tCallS (spW K w_law_mixed) E (tCons ta (tCons tb tNil)) σ H Q := h
theorem r_mixed2 {u v : Int} {E : XK} (B : Bx M K H0 a H c cs i r m g n) (q : ∀ w H3, Bx M K H0 a H3 c cs i r m g n → Q (.int w) H3) : spW K w_law_mixed [.int u, .int v] H Q E := by
  refine ⟨fun _ => False, [.int u, .int v], fun z => ∃ w : Int, z = .d (.int w), fun b z => z.elim, ⟨_, _, rfl, rfl, _, _, rfl, rfl, rfl⟩, ⟨u, v, rfl, fun w _ _ => ⟨w, rfl⟩⟩, fun x H3 z e hr ⟨w, ez⟩ => ?_⟩
  subst ez
  rw [show x = .int w from hr]
  exact q w H3 (B.ext e)
theorem r_refill {E : XK} (B : Bx M K H0 a H c cs i r m g n) (h : σ[0]? = some (some (.ref a))) (q : ∀ H3 c cs i r m g n, Bx M K H0 a H3 c cs i r m g n → Q .non H3) : PW.tCallH (spH K w_law_refill) E 0 tNil σ H Q := by
  refine ⟨_, h, M, a, [], [], fun z => z = .d .non, rfl, B.tr, B.hot, B.hand, rfl, ⟨rfl, rfl⟩, fun x H3 z st hh hr ez => ?_⟩
  subst ez
  rw [show x = .non from hr]
  have hh2 : HandOk M K H3 a := HandOk.mono hh (fun b o n e => ⟨fun z => n (.inl z), e⟩) fun _ z => z
  obtain ⟨c', cs', i', r', m', g', n', B'⟩ := Bx.of hh2 B.hot B.trk fun b o nb e => st b o nb (B.kept b o nb e)
  exact q H3 c' cs' i' r' m' g' n' B'
theorem r_ixc {Q : VK} (B : Bx M K H0 a H c cs i r m g n) (h1 : decide (i < ((cs.map V.int).length : Int)) = true) (q : ∀ x, Q (.int x) H) : rIx K (.ref c) (.int i) H Q := by
  have h1 := of_decide_eq_true h1
  have h0 := B.pos
  rw [List.length_map] at h1
  have hl : i.toNat < cs.length := by omega
  refine r_ix B.cells.2 (w := .int cs[i.toNat]) ?_ (q _)
  unfold atI ixN
  rw [List.length_map, if_pos h0, if_pos h1]
  simp [hl]
theorem r_or {Q : Bool → Hp → Prop} {t u : TT} (h : t σ H fun c H1 => (c = true → Q true H1) ∧ (c = false → u σ H1 Q)) : tOr t u σ H Q := by
  have e : (fun (c : Bool) (H1 : Hp) => (c = true → Q true H1) ∧ (c = false → u σ H1 Q)) = fun c H1 => if c = true then Q true H1 else u σ H1 Q := by
    funext c H1
    cases c <;> simp
  show t σ H fun c H1 => if c = true then Q true H1 else u σ H1 Q
  rw [← e]
  exact h
theorem r_ifE {c : TT} {ta tb : TE} (h : c σ H fun b H1 => (b = true → ta σ H1 Q) ∧ (b = false → tb σ H1 Q)) : tIf c ta tb σ H Q := by
  have e : (fun (b : Bool) (H1 : Hp) => (b = true → ta σ H1 Q) ∧ (b = false → tb σ H1 Q)) = fun b H1 => if b = true then ta σ H1 Q else tb σ H1 Q := by
    funext b H1
    cases b <;> simp
  show c σ H fun b H1 => if b = true then ta σ H1 Q else tb σ H1 Q
  rw [← e]
  exact h
theorem r_drop (h : te σ H fun _ H1 => D.nx σ H1) : tDrop te D σ H := h
theorem r_divW {u v : Int} (h : CDivW u v) (q : Q (.int (u / v)) H) : rDivW (.int u) (.int v) H Q := ⟨u, v, rfl, rfl, h, q⟩
theorem r_modG {u v : Int} (h : 0 < v) (q : ∀ x, 0 ≤ x → x < v → Q (.int x) H) : rModI (.int u) (.int v) H Q := r_modI h (q _ (Int.emod_nonneg _ (by omega)) (Int.emod_lt_of_pos _ h))
end
theorem ex_st {σ σ2 : L2.St} {P : L2.St → Prop} (e : σ = σ2) (g : P σ2) : ∃ σ2, σ = σ2 ∧ P σ2 := ⟨σ2, e, g⟩
local macro_rules | `(tactic| walk_at "raw") => `(tactic| first
  | with_reducible refine r_seq ?_ | with_reducible refine r_next ?_ | with_reducible refine r_ret ?_ | with_reducible refine r_asg ?_ | with_reducible refine r_if ?_ | with_reducible refine r_drop ?_
  | (with_reducible refine rb_put (by with_unfolding_all exact rfl) ?_)
  | (with_reducible refine rb_augAt (by assumption) (by with_unfolding_all exact rfl) ?_) | (with_reducible refine rb_augMany (by assumption) (by with_unfolding_all exact rfl) ?_) | (with_reducible refine rb_augAll (by assumption) (by with_unfolding_all exact rfl) ?_)
  | (with_reducible refine rp_at (by assumption) (by have := (by assumption : Bx _ _ _ _ _ _ _ _ _ _ _ _).pos; omega) ?_; intro H2 B2) | (with_reducible refine rp_rest (by assumption) ?_; intro H2 B2) | (with_reducible refine rp_many (by assumption) ?_; intro H2 B2) | (with_reducible refine rp_great (by assumption) ?_; intro H2 B2) | (with_reducible refine rp_all (by assumption) ?_; intro H2 B2)
  | (with_reducible refine rb_cells (by assumption) (by with_unfolding_all exact rfl) ?_) | (with_reducible refine rb_at (by assumption) (by with_unfolding_all exact rfl) ?_) | (with_reducible refine rb_rest (by assumption) (by with_unfolding_all exact rfl) ?_) | (with_reducible refine rb_many (by assumption) (by with_unfolding_all exact rfl) ?_) | (with_reducible refine rb_great (by assumption) (by with_unfolding_all exact rfl) ?_) | (with_reducible refine rb_all (by assumption) (by with_unfolding_all exact rfl) ?_)
  | with_reducible refine r_var (by with_unfolding_all exact rfl) ?_ | with_reducible refine r_c ?_ | with_reducible refine r_op ?_ | with_reducible refine r_cb ?_ | with_reducible refine r_cons ?_ | with_reducible refine r_nil ?_
  | with_reducible refine r_test ?_ | with_reducible refine r_b ?_ | with_reducible refine r_and ?_ | with_reducible refine r_or ?_ | with_reducible refine r_ifE ?_ | with_reducible refine r_bl ?_
  | with_reducible refine r_mixed ?_ | (with_reducible refine r_mixed2 (by assumption) ?_; intro w H3 B3) | (with_reducible refine r_refill (by assumption) (by with_unfolding_all exact rfl) ?_; intro H3 c cs i r m g n B3)
  | with_reducible refine r_addI ?_ | with_reducible refine r_subI ?_ | with_reducible refine r_ltI ?_ | with_reducible refine r_leI ?_ | with_reducible refine r_gtI ?_ | with_reducible refine r_geI ?_ | with_reducible refine r_eqI ?_ | with_reducible refine r_int ?_
  | with_reducible refine r_divI (by with_unfolding_all exact ⟨by decide, by decide⟩) ?_
  | with_reducible refine r_divW (by first | assumption | exact (by assumption : ∀ x : Int, CDivW x _) _) ?_
  | (with_reducible refine r_modG (by first | with_unfolding_all decide | assumption) ?_; intro x hx0 hx1)
  | with_reducible refine r_powI (by with_unfolding_all exact ⟨by decide, by decide, by decide⟩) ?_
  | (with_reducible refine r_ixc (by assumption) (by assumption) ?_; intro x)
  | ((with_reducible show rLenU _ [.ref _] _ _); refine r_len (Bx.cells (by assumption)).2 ?_)
  | with_reducible refine ex_st (by first | (dsimp only [List.set]; done) | (dsimp only [List.set]; rfl)) ?_
  | (with_reducible refine and_brT ?_) | (with_reducible refine and_brF ?_) | (with_reducible refine and_br ?_ ?_)
  | (with_reducible refine br_t ?_; intro h) | (with_reducible refine br_f ?_; intro h))
theorem body_law_refill {K : PySem.W.Frag} {vs : List V} {H : Hp} {Q : VK} {E : XK} (h : spH K w_law_refill vs H Q E) : t_law_refill K { nx := fun _ H' => Q .non H', rt := Q } (L2.start ["box", "cell"] vs) H := by
  obtain ⟨M, a, ws, ds, kk, rfl, tr, ma, ho, d, ⟨rfl, gk⟩, fin⟩ := h
  have ew : ws = [] := d
  subst ew
  obtain ⟨c, cs, i, r, m, g, n, B⟩ := Bx.of ho ma tr fun b o _ e => e
  have dfin : ∀ H' c cs i r m g n, Bx M K H a H' c cs i r m g n → Q .non H' := fun H' c cs i r m g n B => by
    refine fin .non H' (.d .non) (fun b o nb e => B.kept b o nb e) ?_ rfl gk
    refine HandOk.mono B.hand (fun b o n e => ⟨fun z => ?_, e⟩) fun _ z => z
    rcases z with z | ⟨⟨_, z⟩, _⟩
    · exact n z
    · cases z
  clear fin d
  show t_law_refill K _ [some (.ref a), none] H
  unfold t_law_refill
  repeat' walk_at "raw"
  all_goals (dsimp only; exact dfin _ _ _ _ _ _ _ _ (by assumption))
theorem body_law_draw {K : PySem.W.Frag} {vs : List V} {H : Hp} {Q : VK} {E : XK} (h : spH K w_law_draw vs H Q E) : t_law_draw K { nx := fun _ H' => Q .non H', rt := Q } (L2.start ["box", "menu", "rest"] vs) H := by
  obtain ⟨M, a, ws, ds, kk, rfl, tr, ma, ho, d, ⟨menu, rfl, m0, m1, gk⟩, fin⟩ := h
  obtain ⟨w, rfl, hw⟩ := da1 d
  have ew : w = .int menu := hw
  subst ew
  obtain ⟨c, cs, i, r, m, g, n, B⟩ := Bx.of ho ma tr fun b o _ e => e
  have dfin : ∀ H' c cs i r m g n x, Bx M K H a H' c cs i r m g n → 0 ≤ x → x < menu → Q (.int x) H' := fun H' c cs i r m g n x B h0 h1 => by
    refine fin (.int x) H' (.d (.int x)) (fun b o nb e => B.kept b o nb e) ?_ rfl (gk x h0 h1)
    refine HandOk.mono B.hand (fun b o n e => ⟨fun z => ?_, e⟩) fun _ z => z
    rcases z with z | ⟨⟨_, z⟩, _⟩
    · exact n z
    · cases z
  have cd : ∀ x : Int, CDivW x menu := fun x => ⟨m0, by
    have : menu.natAbs ≤ 10 ^ 30 := by omega
    have h2 : menu.natAbs < 2 ^ 100 := Nat.lt_of_le_of_lt this (by decide)
    exact Nat.lt_trans ((Nat.log2_lt (by omega)).mpr h2) (by decide)⟩
  clear fin d hw
  show t_law_draw K _ [some (.ref a), some (.int menu), none] H
  unfold t_law_draw
  repeat' walk_at "raw"
  all_goals (try dsimp only)
  all_goals first
    | exact dfin _ _ _ _ _ _ _ _ _ (by assumption) (by assumption) (by assumption)
    | trace_state

end LawK08
end
section
namespace LawK08
open PySem PySem.Spec PyProof.Rows L2 PW
local macro_rules | `(tactic| walk_at "env") => `(tactic| (first | (dsimp only [sto, stoE, frz, frzE, frzAll, wipeE, Res.ent, List.set, List.getElem?_cons_zero, List.getElem?_cons_succ]; done) | (dsimp only [sto, stoE, frz, frzE, frzAll, wipeE, Res.ent, List.set, List.getElem?_cons_zero, List.getElem?_cons_succ]; rfl) | rfl))
local macro_rules | `(tactic| walk_at "mem") => `(tactic| first | assumption | exact cut_sub (by assumption) | exact List.mem_cons_of_mem _ (by assumption) | (simp only [List.mem_cons, true_or, or_true]; done))
local macro_rules | `(tactic| walk_at "jn") => `(tactic| first | assumption | with_unfolding_all exact rfl | exact jnTr (by assumption) (by assumption) | exact jnTr (cut_sub (by assumption)) (by assumption) | exact jnTr (List.mem_cons_of_mem _ (by assumption)) (by assumption) | exact jnT (by assumption) (by walk_at "mem") | exact jnL' (by assumption) (by walk_at "mem") | exact jnT2 (by assumption) (by assumption) (by walk_at "mem"))
local macro_rules | `(tactic| walk_at "sz") => `(tactic| first | with_unfolding_all exact Nat.le_of_ble_eq_true rfl | assumption | exact szl (by assumption) | exact szS (by walk_at "jn") | exact szT (by walk_at "jn") | exact szTl (by assumption) | exact szL (by walk_at "jn") | exact szG (by walk_at "jn") | ((with_reducible show (PW.cutD _ _ _).length ≤ _); refine szC ?_; walk_at "sz") | with_unfolding_all exact szl (Nat.le_of_ble_eq_true rfl))
local macro_rules | `(tactic| walk_at "bi") => `(tactic| first | with_unfolding_all exact rfl | assumption | exact jn_bi (by walk_at "jn"))
local macro_rules | `(tactic| walk_at "pw") => `(tactic| first
  | ((with_reducible show PW.XE _ _ _ _); first | with_reducible refine xe_var_d (by with_unfolding_all exact rfl) ?_ | with_reducible refine xe_var_o (by with_unfolding_all exact rfl) ?_ | with_reducible refine xe_int ?_ | with_reducible refine xe_str ?_ | with_reducible refine xe_bl ?_ | with_reducible refine xe_non ?_ | with_reducible refine ye_emp ?_ | with_reducible refine xe_op ?_ | with_reducible refine xe_un ?_ | with_reducible refine xe_if ?_ | with_reducible refine xe_andV ?_ | with_reducible refine xe_orV ?_ | with_reducible refine xe_notV ?_ | with_reducible refine xe_chain ?_ | with_reducible refine xe_isi D.isTup isi_tuple ?_ | with_reducible refine xe_isi D.isLst isi_list ?_ | with_reducible refine xe_isi D.isStr isi_str ?_ | with_reducible refine xe_isi D.isInt isi_int ?_ | with_reducible refine xe_isi D.isBool isi_bool ?_ | with_reducible refine xe_isi D.isDct isi_dict ?_ | with_reducible refine xe_isi2 D.isTup D.isLst isi_tuple isi_list ?_ | with_reducible refine ye_lenSet ?_ | with_reducible refine ye_join ?_ | with_reducible refine xe_cb ?_ | with_reducible refine xe_callS ?_ | with_reducible refine ye_callH (by with_unfolding_all exact rfl) ?_ | with_reducible refine ye_call ?_ | with_reducible refine ye_tup ?_ | with_reducible refine ye_lst ?_ | with_reducible refine xe_sl ?_ | with_reducible refine ye_revT ?_ | with_reducible refine ye_rg1 ?_ | with_reducible refine ye_rg2 ?_ | with_reducible refine ye_meth (by with_unfolding_all exact rfl) (fun _ _ _ h => ty_list h) ?_ | with_reducible refine ye_meth0 (by with_unfolding_all exact rfl) (fun _ _ _ h => ty_list h) ?_)
  | ((with_reducible show PW.XA _ _ _ _); first | with_reducible refine xa_nil ?_ | with_reducible refine xa_cons ?_)
  | ((with_reducible show PW.XT _ _ _ _); first | with_reducible refine xt_yes ?_ | with_reducible refine xt_test ?_ | with_reducible refine xt_B ?_ | with_reducible refine xt_not ?_ | with_reducible refine xt_and ?_ | with_reducible refine xt_or ?_)
  | ((with_reducible show PW.XS _ _ _ _); first | with_reducible refine xs_seq ?_ | with_reducible refine xs_next ?_ | with_reducible refine ys_asg ?_ | with_reducible refine xs_if ?_ | with_reducible refine ys_ret ?_ | with_reducible refine xs_retN ?_ | with_reducible refine xs_drop ?_ | with_reducible refine xs_break ?_ | with_reducible refine xs_cont ?_ | with_reducible refine ys_par (by with_unfolding_all decide) ?_ | with_reducible refine ys_par3 (by with_unfolding_all decide) (by with_unfolding_all decide) (by with_unfolding_all decide) ?_ | with_reducible refine ys_unp2 (by with_unfolding_all decide) ?_ | with_reducible refine ys_unp3 (by with_unfolding_all decide) (by with_unfolding_all decide) (by with_unfolding_all decide) ?_ | with_reducible refine ys_setix ?_ | with_reducible refine ys_asgG ?_ | with_reducible refine xs_for ?_)
  | ((with_reducible show PW.OpD _ _ _ _ _); first | with_reducible refine o_addI ?_ | with_reducible refine o_subI ?_ | with_reducible refine o_mulI (by first | with_unfolding_all exact .inl ⟨by decide, by decide⟩ | with_unfolding_all exact .inr ⟨by decide, by decide⟩) ?_ | with_reducible refine o_mulI (cmulL (by omega) (by omega)) ?_ | with_reducible refine o_mulI (cmulR (by omega) (by omega)) ?_ | with_reducible refine o_divI (by with_unfolding_all exact ⟨by decide, by decide⟩) ?_ | with_reducible refine o_modI (by with_unfolding_all decide) ?_ | with_reducible refine o_powI (by with_unfolding_all exact ⟨by decide, by decide, by decide⟩) ?_ | with_reducible refine o_ltI ?_ | with_reducible refine o_leI ?_ | with_reducible refine o_leUI ?_ | with_reducible refine o_leP ?_ | with_reducible refine o_shlI (cpow1 (by omega) (by omega)) ?_ | with_reducible refine o_gtI ?_ | with_reducible refine o_geI ?_ | with_reducible refine o_eqI ?_ | with_reducible refine o_neI ?_ | with_reducible refine o_eqB ?_ | with_reducible refine o_neB ?_ | with_reducible refine o_isNo ?_ | with_reducible refine o_isNotNo ?_ | with_reducible refine o_isBo ?_ | with_reducible refine o_isNotBo ?_ | with_reducible refine o_inC ?_ | with_reducible refine o_notInC ?_ | with_reducible refine o_ix0 ?_ | with_reducible refine o_ix1 ?_ | with_reducible refine o_ix2 ?_ | ((with_reducible show PW.OpD _ (rIx _) (.tup _) (.int 0) _); refine o_ix0e (ne_len (by omega)) ?_; intro y ys e; subst e) | with_reducible refine o_ixT (by with_unfolding_all exact rfl) ?_ | with_reducible refine o_ixL (by with_unfolding_all exact rfl) ?_)
  | ((with_reducible show PW.CaD _ _ _ _); first | with_reducible refine c_lenT ?_ | with_reducible refine c_lenL ?_ | with_reducible refine c_intI ?_ | with_reducible refine c_intB ?_ | with_reducible refine c_absI ?_ | with_reducible refine c_allM ?_ | with_reducible refine c_anyM ?_ | with_reducible refine c_tupL ?_ | with_reducible refine c_tupT ?_ | with_reducible refine c_lstL ?_ | with_reducible refine c_lstT ?_ | ((with_reducible show CaD _ (rLenU _) [.str _] _); with_reducible refine c_lenS (by walk_at "sz") ?_))
  | ((with_reducible show PW.XI _ _ _ _); first | with_reducible refine yi_seqU ?_ | with_reducible refine yi_enum ?_ | with_reducible refine yi_zip ?_ | with_reducible refine xi_range1 ?_ | with_reducible refine xi_range2 ?_)
  | ((with_reducible show PW.XG _ _ _ _ _); first | with_reducible refine yg_name ?_ | with_reducible refine xg_tup (by with_unfolding_all exact rfl) ?_)
  | ((with_reducible show PW.XGs _ _ _ _ _); first | with_reducible refine xgs_nil ?_ | with_reducible refine xgs_cons ?_)
  | ((with_reducible show PW.XM _ _ _ _ _); first | with_reducible refine xm_nil ?_ | with_reducible refine xm_cons ?_)
  | ((with_reducible show PW.XO _ _ _ _); first | with_reducible refine xo_none ?_ | with_reducible refine xo_some ?_)
  | ((with_reducible show PW.SlD _ _ _ _ _ _); first | with_reducible refine sl_tail ?_ | with_reducible refine sl_T ?_ | with_reducible refine sl_L ?_)
  | ((with_reducible show PW.UnD _ _ _ _); first | with_reducible refine u_neg ?_)
  | ((with_reducible show PW.back _ _ _); first | with_reducible refine back_d ?_ | with_reducible refine back_nw ?_ | with_reducible refine back_v (by with_unfolding_all exact rfl) ?_)
  | walk_at "cnt"
  | walk_at "br")
local macro_rules | `(tactic| walk_at "cnt") => `(tactic| first
  | with_reducible refine ex_env (by walk_at "env") ?_
  | ((with_reducible show ∃ x : List D, _ = some x ∧ x.length ≤ _ ∧ _); with_reducible refine ex_pks2 (by with_unfolding_all exact rfl) (by walk_at "sz") ?_)
  | with_reducible refine ex_pks (by with_unfolding_all exact rfl) ?_
  | ((with_reducible show ∃ x : D, _ = some x ∧ x.isBuiltin = true ∧ _); with_reducible refine ex_pk2 (by with_unfolding_all exact rfl) (by walk_at "bi") ?_)
  | with_reducible refine lc_fin (by with_unfolding_all exact rfl) (by with_unfolding_all exact rfl) ?_
  | with_reducible refine lcf_fin (by with_unfolding_all exact rfl) (by with_unfolding_all exact rfl) ?_
  | with_reducible refine ex_pk (by with_unfolding_all exact rfl) ?_
  | with_reducible refine ex_op (by with_unfolding_all exact rfl) (by with_unfolding_all exact rfl) ?_
  | with_reducible refine ex_it (by with_unfolding_all exact rfl) (by with_unfolding_all exact rfl) ?_
  | with_reducible refine ex_its (by with_unfolding_all exact rfl) (by with_unfolding_all exact rfl) ?_
  | with_reducible refine ex_zip (by with_unfolding_all exact rfl) (by with_unfolding_all exact rfl) ?_
  | with_reducible refine ex_bl ?_
  | with_reducible refine ex_int ?_
  | with_reducible refine ex_sc (by with_unfolding_all exact rfl) ?_
  | with_reducible refine and_brT ?_
  | with_reducible refine and_brF ?_
  | with_reducible refine and_rbT ?_
  | with_reducible refine and_rbF ?_
  | with_reducible refine and_nT ?_
  | with_reducible refine and_nF ?_
  | with_reducible refine and_mT ?_
  | with_reducible refine and_mF ?_
  | with_reducible refine and_br ?_ ?_
  | with_reducible refine and_rb ?_ ?_
  | with_reducible refine ⟨nv_d, ?_⟩
  | with_reducible refine ⟨nv_nw, ?_⟩)
local macro_rules | `(tactic| walk_at "br") => `(tactic| first
  | (with_reducible refine br_tup ?_; intro xs e; subst e)
  | (with_reducible refine br_tupN ?_; intro xs e; subst e)
  | (with_reducible refine br_lst ?_; intro xs e; subst e)
  | (with_reducible refine br_lstN ?_; intro xs e; subst e)
  | (with_reducible refine br_str ?_; intro xs e; subst e)
  | (with_reducible refine br_strN ?_; intro xs e; subst e)
  | (with_reducible refine br_non ?_; intro e; subst e)
  | (with_reducible refine br_nonN ?_; intro e; subst e)
  | (with_reducible refine br_t ?_; intro h; first | (cases h; done) | (simp only [lenc, List.length_nil, decide_eq_true_eq, decide_eq_false_iff_not] at h; omega) | exact absurd (show true = false from h) (by decide) | exact absurd (show false = true from h) (by decide) | (simp only [lenc, List.length_nil, Bool.not_eq_true', Bool.not_eq_false', decide_eq_true_eq, decide_eq_false_iff_not] at h) | skip)
  | (with_reducible refine br_f ?_; intro h; first | (cases h; done) | (simp only [lenc, List.length_nil, decide_eq_true_eq, decide_eq_false_iff_not] at h; omega) | exact absurd (show true = false from h) (by decide) | exact absurd (show false = true from h) (by decide) | (simp only [lenc, List.length_nil, Bool.not_eq_true', Bool.not_eq_false', decide_eq_true_eq, decide_eq_false_iff_not] at h) | skip)
  | (with_reducible refine signs_one ?_; intro c)
  | (with_reducible refine fa_mem ?_; intro d hd)
  | ((with_reducible show _ ≤ sizeLine ∧ _); with_reducible refine lc_split (by walk_at "sz") (by walk_at "env") ?_ ?_)
  | ((with_reducible show wipeE _ _ = _ ∧ _); with_reducible refine lc_env (by walk_at "env") ?_)
  | ((with_reducible show (_ : D) = _); exact rfl))
local macro_rules | `(tactic| walk_at "pws") => `(tactic| repeat' walk_at "pw")
local macro_rules | `(tactic| walk_at "pw") => `(tactic| first
  | ((with_reducible show w_is_integer _ _); with_reducible refine i_is_integer (by walk_at "bi") ?_) | ((with_reducible show w_is_within _ _); with_reducible refine i_is_within (by walk_at "bi") ?_) | ((with_reducible show w_is_tuple_of _ _); with_reducible refine i_is_tuple_of (by walk_at "bi") ?_)
  | ((with_reducible show w_is_name _ _); with_reducible refine i_is_name (by walk_at "jn") ?_) | ((with_reducible show w_is_lock _ _); with_reducible refine i_is_lock (by walk_at "bi") ?_) | ((with_reducible show w_is_member _ _); with_reducible refine i_is_member (by walk_at "jn") ?_)
  | (with_reducible refine br_two ?_; intro a b e; subst e) | (with_reducible refine br_twoN ?_; intro a b e; subst e) | (with_reducible refine br_thr ?_; intro a b c e; subst e) | (with_reducible refine br_thrN ?_; intro a b c e; subst e)
  | (with_reducible refine br_int ?_; intro i e; subst e) | (with_reducible refine br_win ?_; intro i e h1 h2; subst e) | (with_reducible refine br_winN ?_; intro i e h1 h2; subst e))
local macro_rules | `(tactic| walk_at "pw") => `(tactic| first
  | ((with_reducible show w_law_int _ _); with_reducible refine i_law_int (by walk_at "bi") ?_) | ((with_reducible show w_law_named _ _); with_reducible refine i_law_named (by walk_at "jn") ?_) | ((with_reducible show w_law_node _ _); with_reducible refine i_law_node (by walk_at "jn") (by assumption) ?_))
local macro_rules | `(tactic| walk_at "pw") => `(tactic| first
  | (with_reducible refine br_l2 ?_; intro a b e; subst e) | (with_reducible refine br_l3 ?_; intro a b c e; subst e))
section
local macro_rules | `(tactic| walk_at "pw") => `(tactic| first
  | ((with_reducible show w_law_draw _ _); refine i_law_drawN (by first | omega | decide) (by first | omega | decide) ?_; intro n hn)
  | ((with_reducible show ∃ x0 : D, _ = some (Ent.own x0) ∧ _); refine ⟨_, rfl, ?_⟩)
  | ((with_reducible show ∃ (j : Int) (ds : List D), Res.d _ = Res.d (D.int j) ∧ _); refine ⟨_, _, rfl, rfl, _, by with_unfolding_all exact rfl, _, rfl, ?_⟩)
  | ((with_reducible show w_law_odd _ _); refine i_law_odd ?_; intro x hx)
  | ((with_reducible show w_law_leaf_spoilt _ _); refine i_law_leaf_spoilt (by assumption) ?_ ?_; intro x hx)
  | ((with_reducible show w_law_node_spoilt _ _); refine i_law_node_spoilt (by assumption) ?_; intro x hx))
theorem pure_law_spoilt {K : PySem.W.Frag} : ∀ ds kk, w_law_spoilt ds kk → XS K (t_law_spoilt K) (iniH 4 ds) { nx := fun _ => kk (.d .non), rt := fun r _ => kk r } := by
  rintro _ kk ⟨h, ls, ns, rfl, G, g⟩
  show XS K (t_law_spoilt K) [.hand, .d (.lst [.int h, .tup ls, .tup ns]), .u, .u] (Fin kk)
  unfold t_law_spoilt
  have h8 := G.small
  have s5 := sz5
  have ih : OkB 300 2 (.int (h : Int)) := okb_le (okb_int (by omega) (by omega)) (by decide)
  have hp : OkB 300 2 (.int ((h : Int) + 1)) := okb_le (okb_int (by omega) (by omega)) (by decide)
  have hm : OkB 300 2 (.int ((h : Int) - 1)) := okb_le (okb_int (by omega) (by omega)) (by decide)
  have oy : OkB 200000 4 (.tup ls) := by
    have hl : ls.length = 2 ^ h := of_decide_eq_true (Bool.and_eq_true_iff.mp (Bool.and_eq_true_iff.mp (show (decide (ls.length = 2 ^ h) && _ && _) = true from G.leaves)).1).1
    have h3 : 2 ^ h ≤ 2 ^ 8 := Nat.pow_le_pow_right (by decide) h8
    exact okb_tup (n := 260) (b := 400) (m := 3) (by omega) (by decide) G.okL (by decide)
  have oyl : OkB 200000 4 (.lst ls) := by
    have hl : ls.length = 2 ^ h := of_decide_eq_true (Bool.and_eq_true_iff.mp (Bool.and_eq_true_iff.mp (show (decide (ls.length = 2 ^ h) && _ && _) = true from G.leaves)).1).1
    have h3 : 2 ^ h ≤ 2 ^ 8 := Nat.pow_le_pow_right (by decide) h8
    exact okb_lst (n := 260) (b := 400) (m := 3) (by omega) (by decide) G.okL (by decide)
  have oz : OkB 7000000 4 (.tup ns) := okb_tup (n := 260) (b := 24000) (m := 3) (by have := G.few; omega) (by decide) G.okN (by decide)
  have odd := odd_okb
  walk_at "pws"
  · rename_i hn0 w hw n hn
    refine o_ixAnyL (by omega) (by show (n : Int) < 3; exact hn) fun d hd => ?_
    have od : OkB 300 2 d := by
      have hd3 := List.mem_of_getElem? hd
      simp only [List.mem_cons, List.not_mem_nil, or_false] at hd3
      rcases hd3 with e | e | e
      · rw [e]; exact hp
      · rw [e]; exact hm
      · rw [e]; exact odd _ hw
    walk_at "pws"
    exact g _ _ _ od oy oz
  · exact g _ _ _ ih (by assumption) oz
  · exact g _ _ _ ih oyl oz
  · rename_i x1 hx1 hn0 x2 hx2 n hn
    rcases Nat.lt_or_ge n 1 with z | z
    · obtain rfl : n = 0 := by omega
      refine ⟨_, _, rfl, rfl, 0, rfl, _, rfl, ?_⟩
      walk_at "pws"
      exact g _ _ _ (odd _ hx2) oy (by assumption)
    · obtain rfl : n = 1 := by omega
      refine ⟨_, _, rfl, rfl, 1, rfl, _, rfl, ?_⟩
      walk_at "pws"
      exact g _ _ _ ih (okb_le (odd _ hx2) (by decide)) (by assumption)
  · exact g _ _ _ ih oy (by assumption)
end

end LawK08
end
section
namespace LawK08
open PySem PySem.Spec PyProof.Rows L2 C8 PW
theorem c_is_integer {P : Program} {w : World} {K : PySem.W.Frag} {mg : Str → Option Value} {base : Heap} (G : Gx K mg) : Cal P w K mg base 1 "is_integer" (spW K w_is_integer) [] := by
  obtain ⟨f, fd, F, hm⟩ := G.f_is_integer
  refine ⟨f, fd, ["thing"], [], F.ok sc_is_integer (fun vs H Q E h => len_w h fun ds k z => (len_is_integer ds k z)) (fun cdv A outer s H vs Q E hr h => ⟨t_is_integer K, PSs.nox ?_, entry_w h pure_is_integer⟩), hm, F.kp, F.bindsN (fun _ _ _ _ _ _ us hl => match us, hl with | [_], _ => rfl), .nil⟩
  exact (pss_one (ps_ret (pe_and (pe_callB call_isi rfl G.b_isinstance (by decide +kernel) (pa_cons (pv 0) (pa_cons (pe_bltn (v := .ty "int") rfl G.b_int (by decide +kernel) rfl) pa_nil))) (pe_one (pe_not (pe_callB call_isi rfl G.b_isinstance (by decide +kernel) (pa_cons (pv 0) (pa_cons (pe_bltn (v := .ty "bool") rfl G.b_bool (by decide +kernel) rfl) pa_nil))))))))
theorem c_is_within {P : Program} {w : World} {K : PySem.W.Frag} {mg : Str → Option Value} {base : Heap} (G : Gx K mg) : Cal P w K mg base 2 "is_within" (spW K w_is_within) [] := by
  obtain ⟨f, fd, F, hm⟩ := G.f_is_within
  refine ⟨f, fd, ["thing", "least", "most"], [], F.ok sc_is_within (fun vs H Q E h => len_w h fun ds k z => (len_is_within ds k z)) (fun cdv A outer s H vs Q E hr h => ⟨t_is_within K, PSs.nox ?_, entry_w h pure_is_within⟩), hm, F.kp, F.bindsN (fun _ _ _ _ _ _ us hl => match us, hl with | [_, _, _], _ => rfl), .nil⟩
  exact (pss_one (ps_ret (pe_and (pe_c (c_is_integer G) hr (by decide) rfl (pa_cons (pv 0) pa_nil)) (pe_one (pe_chain (op_leV (hu0 hr)) (op_leV (hu0 hr)) (pv 1) (pv 0) (pv 2))))))
theorem c_is_tuple_of {P : Program} {w : World} {K : PySem.W.Frag} {mg : Str → Option Value} {base : Heap} (G : Gx K mg) : Cal P w K mg base 1 "is_tuple_of" (spW K w_is_tuple_of) [] := by
  obtain ⟨f, fd, F, hm⟩ := G.f_is_tuple_of
  refine ⟨f, fd, ["thing", "size"], [], F.ok sc_is_tuple_of (fun vs H Q E h => len_w h fun ds k z => (len_is_tuple_of ds k z)) (fun cdv A outer s H vs Q E hr h => ⟨t_is_tuple_of K, PSs.nox ?_, entry_w h pure_is_tuple_of⟩), hm, F.kp, F.bindsN (fun _ _ _ _ _ _ us hl => match us, hl with | [_, _], _ => rfl), .nil⟩
  exact (pss_one (ps_ret (pe_and (pe_callB call_isi rfl G.b_isinstance (by decide +kernel) (pa_cons (pv 0) (pa_cons (pe_bltn (v := .ty "tuple") rfl G.b_tuple (by decide +kernel) rfl) pa_nil))) (pe_one (pe_cmpR (op_eqD (hu64 hr)) (pe_callB call_lenU rfl G.b_len (by decide +kernel) (pa_cons (pv 0) pa_nil)) (pv 1) (nomark _))))))
theorem c_is_name {P : Program} {w : World} {K : PySem.W.Frag} {mg : Str → Option Value} {base : Heap} (G : Gx K mg) : Cal P w K mg base 1 "is_name" (spW K w_is_name) [] := by
  obtain ⟨f, fd, F, hm⟩ := G.f_is_name
  refine ⟨f, fd, ["thing"], [], F.ok sc_is_name (fun vs H Q E h => len_w h fun ds k z => (len_is_name ds k z)) (fun cdv A outer s H vs Q E hr h => ⟨t_is_name K, PSs.nox ?_, entry_w h pure_is_name⟩), hm, F.kp, F.bindsN (fun _ _ _ _ _ _ us hl => match us, hl with | [_], _ => rfl), .nil⟩
  exact (pss_one (ps_ret (pe_and (pe_callB call_isi rfl G.b_isinstance (by decide +kernel) (pa_cons (pv 0) (pa_cons (pe_bltn (v := .ty "str") rfl G.b_str (by decide +kernel) rfl) pa_nil))) (pe_and (pe_chain (op_leV (hu0 hr)) (op_leV (hu0 hr)) pe_int (pe_callB call_lenU rfl G.b_len (by decide +kernel) (pa_cons (pv 0) pa_nil)) (pe_gc rfl G.k_MOST_SIGNS)) (pe_one (pe_callB (cr_all rfl) rfl G.b_all (by decide +kernel) (pa_cons (pe_lc (own := [("sign", 1)]) rfl sc_is_name.nd (pi_seqU (pv 0)) (blkOk_by (N := ["thing", "sign"]) (sc := defScope s_is_name) (by decide +kernel)) (fun _ _ _ _ _ => (pg_name (i := 1) sc_is_name.nd rfl (by first | exact Or.inl rfl | exact Or.inr rfl))) (fun _ _ _ _ _ => pts_nil) (fun _ _ _ _ _ => (pe_cmpR (op_inU (hu65 hr)) (pv 1) (pe_gc rfl G.k_SIGNS) (by with_unfolding_all rfl)))) pa_nil)))))))
theorem c_is_lock {P : Program} {w : World} {K : PySem.W.Frag} {mg : Str → Option Value} {base : Heap} (G : Gx K mg) : Cal P w K mg base 2 "is_lock" (spW K w_is_lock) [] := by
  obtain ⟨f, fd, F, hm⟩ := G.f_is_lock
  refine ⟨f, fd, ["thing"], [], F.ok sc_is_lock (fun vs H Q E h => len_w h fun ds k z => (len_is_lock ds k z)) (fun cdv A outer s H vs Q E hr h => ⟨t_is_lock K, PSs.nox ?_, entry_w h pure_is_lock⟩), hm, F.kp, F.bindsN (fun _ _ _ _ _ _ us hl => match us, hl with | [_], _ => rfl), .nil⟩
  exact (pss_one (ps_ret (pe_and (pe_c (c_is_integer G) hr (by decide) rfl (pa_cons (pv 0) pa_nil)) (pe_one (pe_cmpR op_geU (pv 0) pe_int (nomark _))))))
theorem c_is_member {P : Program} {w : World} {K : PySem.W.Frag} {mg : Str → Option Value} {base : Heap} (G : Gx K mg) : Cal P w K mg base 3 "is_member" (spW K w_is_member) [] := by
  obtain ⟨f, fd, F, hm⟩ := G.f_is_member
  refine ⟨f, fd, ["thing"], [], F.ok sc_is_member (fun vs H Q E h => len_w h fun ds k z => (len_is_member ds k z)) (fun cdv A outer s H vs Q E hr h => ⟨t_is_member K, PSs.nox ?_, entry_w h pure_is_member⟩), hm, F.kp, F.bindsN (fun _ _ _ _ _ _ us hl => match us, hl with | [_], _ => rfl), .nil⟩
  exact (pss_one (ps_ret (pe_and (pe_c (c_is_tuple_of G) hr (by decide) rfl (pa_cons (pv 0) (pa_cons pe_int pa_nil))) (pe_and (pe_c (c_is_name G) hr (by decide) rfl (pa_cons (pe_ix ix_seq (pv 0) pe_int (fun _ _ => rfl)) pa_nil)) (pe_one (pe_c (c_is_lock G) hr (by decide) rfl (pa_cons (pe_ix ix_seq (pv 0) pe_int (fun _ _ => rfl)) pa_nil)))))))
theorem c_are_leaves {P : Program} {w : World} {K : PySem.W.Frag} {mg : Str → Option Value} {base : Heap} (G : Gx K mg) : Cal P w K mg base 4 "are_leaves" (spW K w_are_leaves) [] := by
  obtain ⟨f, fd, F, hm⟩ := G.f_are_leaves
  refine ⟨f, fd, ["thing", "height"], [], F.ok sc_are_leaves (fun vs H Q E h => len_w h fun ds k z => (len_are_leaves ds k z)) (fun cdv A outer s H vs Q E hr h => ⟨t_are_leaves K, PSs.nox ?_, entry_w h pure_are_leaves⟩), hm, F.kp, F.bindsN (fun _ _ _ _ _ _ us hl => match us, hl with | [_, _], _ => rfl), .nil⟩
  exact (pss_cons (ps_if (L2.PW.pt (pw_or (pt_not (pt_val (pe_c (c_is_tuple_of G) hr (by decide) rfl (pa_cons (pv 0) (pa_cons (pe_op op_shlU pe_int (pv 1)) pa_nil))))) (pw_or1 (pt_not (pt_val (pe_callB (cr_all rfl) rfl G.b_all (by decide +kernel) (pa_cons (pe_lc (own := [("leaf", 3)]) rfl sc_are_leaves.nd (pi_seqU (pv 0)) (blkOk_by (N := ["thing", "height", "names", "leaf"]) (sc := defScope s_are_leaves) (by decide +kernel)) (fun _ _ _ _ _ => (pg_name (i := 3) sc_are_leaves.nd rfl (by first | exact Or.inl rfl | exact Or.inr rfl))) (fun _ _ _ _ _ => pts_nil) (fun _ _ _ _ _ => (pe_or (pe_cmpR op_isNo (pv 3) pe_non (nomark _)) (pe_one (pe_c (c_is_member G) hr (by decide) rfl (pa_cons (pv 3) pa_nil)))))) pa_nil)))))))
  (pss_one (ps_ret pe_bl))
  pss_nil)
  (pss_cons (ps_setLc (i := 2) (own := [("leaf", 3)]) rfl sc_are_leaves.nd rfl rfl (sw_true rfl rfl rfl (by decide +kernel)) (pi_seqU (pv 0)) (blkOk_by (N := ["thing", "height", "names", "leaf"]) (sc := defScope s_are_leaves) (by decide +kernel)) (fun _ _ _ _ _ => (pg_name (i := 3) sc_are_leaves.nd rfl (by first | exact Or.inl rfl | exact Or.inr rfl))) (fun _ _ _ _ _ => (pts_one (pt_cmpR op_isNotNo (pv 3) pe_non (nomark _)))) (fun _ _ _ _ _ => (pe_ix ix_seq (pv 3) pe_int (fun _ _ => rfl))))
  (pss_one (ps_ret (pe_cmpR (op_eqD (hu64 hr)) (pe_lenSetS rfl G.b_len rfl G.b_set (pv 2) rfl) (pe_callB call_lenU rfl G.b_len (by decide +kernel) (pa_cons (pv 2) pa_nil)) (nomark _))))))
theorem c_is_node {P : Program} {w : World} {K : PySem.W.Frag} {mg : Str → Option Value} {base : Heap} (G : Gx K mg) : Cal P w K mg base 3 "is_node" (spW K w_is_node) [] := by
  obtain ⟨f, fd, F, hm⟩ := G.f_is_node
  refine ⟨f, fd, ["thing", "height", "least"], [], F.ok sc_is_node (fun vs H Q E h => len_w h fun ds k z => (len_is_node ds k z)) (fun cdv A outer s H vs Q E hr h => ⟨t_is_node K, PSs.nox ?_, entry_w h pure_is_node⟩), hm, F.kp, F.bindsN (fun _ _ _ _ _ _ us hl => match us, hl with | [_, _, _], _ => rfl), .nil⟩
  exact (pss_cons (ps_if (L2.PW.pt (pw_or (pt_not (pt_val (pe_c (c_is_tuple_of G) hr (by decide) rfl (pa_cons (pv 0) (pa_cons pe_int pa_nil))))) (pw_or1 (pt_not (pt_val (pe_c (c_is_within G) hr (by decide) rfl (pa_cons (pe_ix ix_seq (pv 0) pe_int (fun _ _ => rfl)) (pa_cons (pv 2) (pa_cons (pv 1) pa_nil)))))))))
  (pss_one (ps_ret pe_bl))
  pss_nil)
  (pss_one (ps_ret (pe_c (c_is_within G) hr (by decide) rfl (pa_cons (pe_ix ix_seq (pv 0) pe_int (fun _ _ => rfl)) (pa_cons pe_int (pa_cons (pe_op op_subU (pe_op op_shlU pe_int (pe_op op_subU (pv 1) (pe_ix ix_seq (pv 0) pe_int (fun _ _ => rfl)))) pe_int) pa_nil)))))))
theorem c_leaves_beneath {P : Program} {w : World} {K : PySem.W.Frag} {mg : Str → Option Value} {base : Heap} (G : Gx K mg) : Cal P w K mg base 1 "leaves_beneath" (spW K w_leaves_beneath) [] := by
  obtain ⟨f, fd, F, hm⟩ := G.f_leaves_beneath
  refine ⟨f, fd, ["node"], [], F.ok sc_leaves_beneath (fun vs H Q E h => len_w h fun ds k z => (len_leaves_beneath ds k z)) (fun cdv A outer s H vs Q E hr h => ⟨t_leaves_beneath K, PSs.nox ?_, entry_w h pure_leaves_beneath⟩), hm, F.kp, F.bindsN (fun _ _ _ _ _ _ us hl => match us, hl with | [_], _ => rfl), .nil⟩
  exact (pss_cons (ps_set (i := 1) sc_leaves_beneath.nd rfl (by first | exact Or.inl rfl | exact Or.inr rfl) (pe_op op_shlU pe_int (pe_ix ix_seq (pv 0) pe_int (fun _ _ => rfl))))
  (pss_one (ps_ret (pe_listRg rfl rfl G.b_list (prg_2 rfl G.b_range (pe_op op_mulU (pe_ix ix_seq (pv 0) pe_int (fun _ _ => rfl)) (pv 1)) (pe_op op_mulU (pe_op op_addU (pe_ix ix_seq (pv 0) pe_int (fun _ _ => rfl)) pe_int) (pv 1)))))))
theorem c_is_aside {P : Program} {w : World} {K : PySem.W.Frag} {mg : Str → Option Value} {base : Heap} (G : Gx K mg) : Cal P w K mg base 2 "is_aside" (spW K w_is_aside) [] := by
  obtain ⟨f, fd, F, hm⟩ := G.f_is_aside
  refine ⟨f, fd, ["thing", "node", "leaves"], [], F.ok sc_is_aside (fun vs H Q E h => len_w h fun ds k z => (len_is_aside ds k z)) (fun cdv A outer s H vs Q E hr h => ⟨t_is_aside K, PSs.nox ?_, entry_w h pure_is_aside⟩), hm, F.kp, F.bindsN (fun _ _ _ _ _ _ us hl => match us, hl with | [_, _, _], _ => rfl), .nil⟩
  exact (pss_cons (ps_if (L2.PW.pt (pw_or (pt_not (pt_val (pe_callB call_isi rfl G.b_isinstance (by decide +kernel) (pa_cons (pv 0) (pa_cons (pe_bltn (v := .ty "tuple") rfl G.b_tuple (by decide +kernel) rfl) pa_nil))))) (pw_or1 (pt_not (pt_val (pe_callB (cr_all rfl) rfl G.b_all (by decide +kernel) (pa_cons (pe_lc (own := [("leaf", 3)]) rfl sc_is_aside.nd (pi_seqU (pv 0)) (blkOk_by (N := ["thing", "node", "leaves", "leaf", "one", "other"]) (sc := defScope s_is_aside) (by decide +kernel)) (fun _ _ _ _ _ => (pg_name (i := 3) sc_is_aside.nd rfl (by first | exact Or.inl rfl | exact Or.inr rfl))) (fun _ _ _ _ _ => pts_nil) (fun _ _ _ _ _ => (pe_c (c_is_integer G) hr (by decide) rfl (pa_cons (pv 3) pa_nil)))) pa_nil)))))))
  (pss_one (ps_ret pe_bl))
  pss_nil)
  (pss_cons (ps_if (pt_not (pt_val (pe_callB (cr_all rfl) rfl G.b_all (by decide +kernel) (pa_cons (pe_lc (own := [("one", 4), ("other", 5)]) rfl sc_is_aside.nd (RZ.pi_zipA rfl G.b_zip (pa_cons (pv 0) (pa_cons (pe_slice sl_U (pv 0) (po_some pe_int) po_none) pa_nil))) (blkOk_by (N := ["thing", "node", "leaves", "leaf", "one", "other"]) (sc := defScope s_is_aside) (by decide +kernel)) (fun _ _ _ _ _ => (pg_tup rfl (pgs_cons (pg_name (i := 4) sc_is_aside.nd rfl (by first | exact Or.inl rfl | exact Or.inr rfl)) (pgs_cons (pg_name (i := 5) sc_is_aside.nd rfl (by first | exact Or.inl rfl | exact Or.inr rfl)) pgs_nil)))) (fun _ _ _ _ _ => pts_nil) (fun _ _ _ _ _ => (pe_cmpR op_ltU (pv 4) (pv 5) (nomark _)))) pa_nil))))
  (pss_one (ps_ret pe_bl))
  pss_nil)
  (pss_one (ps_ret (pe_callB (cr_all rfl) rfl G.b_all (by decide +kernel) (pa_cons (pe_lc (own := [("leaf", 3)]) rfl sc_is_aside.nd (pi_seqU (pv 0)) (blkOk_by (N := ["thing", "node", "leaves", "leaf", "one", "other"]) (sc := defScope s_is_aside) (by decide +kernel)) (fun _ _ _ _ _ => (pg_name (i := 3) sc_is_aside.nd rfl (by first | exact Or.inl rfl | exact Or.inr rfl))) (fun _ _ _ _ _ => pts_nil) (fun _ _ _ _ _ => (pe_and (pe_cmpR (op_inU (hu65 hr)) (pv 3) (pe_c (c_leaves_beneath G) hr (by decide) rfl (pa_cons (pv 1) pa_nil)) (by with_unfolding_all rfl)) (pe_one (pe_cmpR op_isNotNo (pe_ix ix_seq (pv 2) (pv 3) (fun _ _ => rfl)) pe_non (nomark _)))))) pa_nil))))))
theorem c_are_nodes {P : Program} {w : World} {K : PySem.W.Frag} {mg : Str → Option Value} {base : Heap} (G : Gx K mg) : Cal P w K mg base 4 "are_nodes" (spW K w_are_nodes) [] := by
  obtain ⟨f, fd, F, hm⟩ := G.f_are_nodes
  refine ⟨f, fd, ["thing", "height", "leaves"], [], F.ok sc_are_nodes (fun vs H Q E h => len_w h fun ds k z => (len_are_nodes ds k z)) (fun cdv A outer s H vs Q E hr h => ⟨t_are_nodes K, PSs.nox ?_, entry_w h pure_are_nodes⟩), hm, F.kp, F.bindsN (fun _ _ _ _ _ _ us hl => match us, hl with | [_, _, _], _ => rfl), .nil⟩
  exact (pss_cons (ps_if (pt_not (pt_val (pe_callB call_isi rfl G.b_isinstance (by decide +kernel) (pa_cons (pv 0) (pa_cons (pe_bltn (v := .ty "tuple") rfl G.b_tuple (by decide +kernel) rfl) pa_nil)))))
  (pss_one (ps_ret pe_bl))
  pss_nil)
  (pss_cons (ps_set (i := 3) sc_are_nodes.nd rfl (by first | exact Or.inl rfl | exact Or.inr rfl) (pe_tup (pa_cons pe_int (pa_cons pe_int pa_nil))))
  (pss_cons (ps_for PassesOwn.never rfl (pi_seqU (pv 0)) (pg_name (i := 4) sc_are_nodes.nd rfl (by first | exact Or.inl rfl | exact Or.inr rfl))
  (pss_cons (ps_if (L2.PW.pt (pw_or (pt_not (pt_val (pe_c (c_is_tuple_of G) hr (by decide) rfl (pa_cons (pv 4) (pa_cons pe_int pa_nil))))) (pw_or (pt_not (pt_val (pe_c (c_is_node G) hr (by decide) rfl (pa_cons (pe_ix ix_seq (pv 4) pe_int (fun _ _ => rfl)) (pa_cons (pv 1) (pa_cons pe_int pa_nil)))))) (pw_or1 (pt_cmpR (op_leV (hu0 hr)) (pe_ix ix_seq (pv 4) pe_int (fun _ _ => rfl)) (pv 3) (nomark _))))))
  (pss_one (ps_ret pe_bl))
  pss_nil)
  (pss_cons (ps_if (L2.PW.pt (pw_or (pt_not (pt_val (pe_c (c_is_lock G) hr (by decide) rfl (pa_cons (pe_ix ix_seq (pv 4) pe_int (fun _ _ => rfl)) pa_nil)))) (pw_or1 (pt_not (pt_val (pe_c (c_is_aside G) hr (by decide) rfl (pa_cons (pe_ix ix_seq (pv 4) pe_int (fun _ _ => rfl)) (pa_cons (pe_ix ix_seq (pv 4) pe_int (fun _ _ => rfl)) (pa_cons (pv 2) pa_nil)))))))))
  (pss_one (ps_ret pe_bl))
  pss_nil)
  (pss_one (ps_set (i := 3) sc_are_nodes.nd rfl (by first | exact Or.inl rfl | exact Or.inr rfl) (pe_ix ix_seq (pv 4) pe_int (fun _ _ => rfl)))))))
  (pss_one (ps_ret pe_bl)))))
theorem c_law_mixed {P : Program} {w : World} {K : PySem.W.Frag} {mg : Str → Option Value} {base : Heap} (G : Gx K mg) : Cal P w K mg base 1 "_law_mixed" (spW K w_law_mixed) [] := by
  obtain ⟨f, fd, F, hm⟩ := G.f_law_mixed
  refine ⟨f, fd, ["number", "place"], [], F.ok sc_law_mixed (fun vs H Q E h => len_w h fun ds k z => (len_law_mixed ds k z)) (fun cdv A outer s H vs Q E hr h => ⟨t_law_mixed K, PSs.nox ?_, entry_w h pure_law_mixed⟩), hm, F.kp, F.bindsN (fun _ _ _ _ _ _ us hl => match us, hl with | [_, _], _ => rfl), .nil⟩
  exact (pss_cons (ps_set (i := 0) sc_law_mixed.nd rfl (by first | exact Or.inl rfl | exact Or.inr rfl) (pe_op op_modU (pe_callTy call_intU rfl G.b_int (by decide +kernel) (pa_cons (pe_op op_mulU (pe_op op_addU (pe_op op_addU (pv 0) (pe_op op_mulU pe_int (pv 1))) pe_int) pe_int) pa_nil)) pe_int))
  (pss_cons (ps_set (i := 0) sc_law_mixed.nd rfl (by first | exact Or.inl rfl | exact Or.inr rfl) (pe_op op_modU (pe_callTy call_intU rfl G.b_int (by decide +kernel) (pa_cons (pe_op op_mulU (pv 0) (pe_op op_addU (pe_op op_divU (pv 0) pe_int) pe_int)) pa_nil)) pe_int))
  (pss_one (ps_ret (pe_op op_modU (pe_callTy call_intU rfl G.b_int (by decide +kernel) (pa_cons (pe_op op_mulU (pv 0) (pe_op op_addU (pe_op op_divU (pv 0) pe_int) pe_int)) pa_nil)) pe_int)))))
theorem c_law_refill {P : Program} {w : World} {K : PySem.W.Frag} {mg : Str → Option Value} {base : Heap} (G : Gx K mg) : Cal P w K mg base 2 "_law_refill" (spH K w_law_refill) [] := by
  obtain ⟨f, fd, F, hm⟩ := G.f_law_refill
  refine ⟨f, fd, ["box"], [], F.ok sc_law_refill (fun vs H Q E h => len_h h fun ds k z => (len_law_refill ds k z)) (fun cdv A outer s H vs Q E hr h => ⟨t_law_refill K, PSs.nox ?_, body_law_refill h⟩), hm, F.kp, F.bindsN (fun _ _ _ _ _ _ us hl => match us, hl with | [_], _ => rfl), .nil⟩
  exact (pss_cons (ps_set (i := 1) sc_law_refill.nd rfl (by first | exact Or.inl rfl | exact Or.inr rfl) (pe_dget (hu1 hr) (pv 0) pe_str (fun _ _ => rfl)))
  (pss_cons (ps_if (pt_cmpR op_ltU (pe_dget (hu1 hr) (pv 0) pe_str (fun _ _ => rfl)) (pe_callB call_lenU rfl G.b_len (by decide +kernel) (pa_cons (pe_dget (hu1 hr) (pv 0) pe_str (fun _ _ => rfl)) pa_nil)) (nomark _))
  (pss_one (ps_set (i := 1) sc_law_refill.nd rfl (by first | exact Or.inl rfl | exact Or.inr rfl) (pe_callTy call_intU rfl G.b_int (by decide +kernel) (pa_cons (pe_ix ix_seq (pe_dget (hu1 hr) (pv 0) pe_str (fun _ _ => rfl)) (pe_dget (hu1 hr) (pv 0) pe_str (fun _ _ => rfl)) (fun _ _ => rfl)) pa_nil))))
  pss_nil)
  (pss_cons (ps_daug (hu1 hr) (pv 0) pe_str pe_int ip_add (fun _ _ _ => rfl))
  (pss_cons (ps_dput (hu1 hr) (pv 0) pe_str (pe_cmpR op_geU (pv 1) (pe_op op_powU pe_int pe_int) (nomark _)) rfl)
  (pss_cons (ps_dput (hu1 hr) (pv 0) pe_str (pe_ifExp (pt_val (pe_dget (hu1 hr) (pv 0) pe_str (fun _ _ => rfl))) (pv 1) (pe_c (c_law_mixed G) hr (by decide) rfl (pa_cons (pe_op op_modU (pe_callTy call_intU rfl G.b_int (by decide +kernel) (pa_cons (pv 1) pa_nil)) pe_int) (pa_cons (pe_dget (hu1 hr) (pv 0) pe_str (fun _ _ => rfl)) pa_nil)))) rfl)
  (pss_one (ps_dput (hu1 hr) (pv 0) pe_str (pe_ifExp (pt_val (pe_dget (hu1 hr) (pv 0) pe_str (fun _ _ => rfl))) pe_int pe_int) rfl)))))))
theorem c_law_draw {P : Program} {w : World} {K : PySem.W.Frag} {mg : Str → Option Value} {base : Heap} (G : Gx K mg) : Cal P w K mg base 3 "_law_draw" (spH K w_law_draw) [] := by
  obtain ⟨f, fd, F, hm⟩ := G.f_law_draw
  refine ⟨f, fd, ["box", "menu"], [], F.ok sc_law_draw (fun vs H Q E h => len_h h fun ds k z => (len_law_draw ds k z)) (fun cdv A outer s H vs Q E hr h => ⟨t_law_draw K, PSs.nox ?_, body_law_draw h⟩), hm, F.kp, F.bindsN (fun _ _ _ _ _ _ us hl => match us, hl with | [_, _], _ => rfl), .nil⟩
  exact (pss_cons (ps_if (L2.PW.pt (pw_or (pt_cmpR (op_eqD (hu64 hr)) (pe_dget (hu1 hr) (pv 0) pe_str (fun _ _ => rfl)) pe_int (nomark _)) (pw_or1 (L2.PW.pt (pw_and (pt_val (pe_dget (hu1 hr) (pv 0) pe_str (fun _ _ => rfl))) (pw_and1 (pt_cmpR (op_eqD (hu64 hr)) (pe_dget (hu1 hr) (pv 0) pe_str (fun _ _ => rfl)) pe_int (nomark _))))))))
  (pss_one (ps_expr (pe_c (c_law_refill G) hr (by decide) rfl (pa_cons (pv 0) pa_nil))))
  pss_nil)
  (pss_cons (ps_daug (hu1 hr) (pv 0) pe_str pe_int ip_sub (fun _ _ _ => rfl))
  (pss_cons (ps_daug (hu1 hr) (pv 0) pe_str pe_int ip_add (fun _ _ _ => rfl))
  (pss_cons (ps_set (i := 2) sc_law_draw.nd rfl (by first | exact Or.inl rfl | exact Or.inr rfl) (pe_callTy call_intU rfl G.b_int (by decide +kernel) (pa_cons (pe_dget (hu1 hr) (pv 0) pe_str (fun _ _ => rfl)) pa_nil)))
  (pss_cons (ps_if (pt_val (pe_dget (hu1 hr) (pv 0) pe_str (fun _ _ => rfl)))
  (pss_cons (ps_dput (hu1 hr) (pv 0) pe_str (pe_op op_divW (pv 2) (pv 1)) rfl)
  (pss_one (ps_ret (pe_op op_modU (pe_callTy call_intU rfl G.b_int (by decide +kernel) (pa_cons (pv 2) pa_nil)) (pv 1)))))
  pss_nil)
  (pss_cons (ps_dput (hu1 hr) (pv 0) pe_str (pe_c (c_law_mixed G) hr (by decide) rfl (pa_cons (pv 2) (pa_cons (pe_dget (hu1 hr) (pv 0) pe_str (fun _ _ => rfl)) pa_nil))) rfl)
  (pss_one (ps_ret (pe_op op_modU (pe_callTy call_intU rfl G.b_int (by decide +kernel) (pa_cons (pe_op op_divU (pv 2) pe_int) pa_nil)) (pv 1))))))))))
theorem c_law_name {P : Program} {w : World} {K : PySem.W.Frag} {mg : Str → Option Value} {base : Heap} (G : Gx K mg) : Cal P w K mg base 4 "_law_name" (spH K w_law_name) [] := by
  obtain ⟨f, fd, F, hm⟩ := G.f_law_name
  refine ⟨f, fd, ["box"], [], F.ok sc_law_name (fun vs H Q E h => len_h h fun ds k z => (len_law_name ds k z)) (fun cdv A outer s H vs Q E hr h => ⟨t_law_name K, PSs.nox ?_, entry_h h (by decide) pure_law_name⟩), hm, F.kp, F.bindsN (fun _ _ _ _ _ _ us hl => match us, hl with | [_], _ => rfl), .nil⟩
  exact (pss_cons (ps_set (i := 1) sc_law_name.nd rfl (by first | exact Or.inl rfl | exact Or.inr rfl) (pe_ifExp (pt_cmpR (op_eqD (hu64 hr)) (pe_c (c_law_draw G) hr (by decide) rfl (pa_cons (pv 0) (pa_cons pe_int pa_nil))) pe_int (nomark _)) (pe_op op_addU pe_int (pe_c (c_law_draw G) hr (by decide) rfl (pa_cons (pv 0) (pa_cons pe_int pa_nil)))) pe_int))
  (pss_one (ps_ret (pe_joinU pe_str (pe_lc (own := [("k", 2)]) rfl sc_law_name.nd (pi_range1 rfl G.b_range (pa_cons (pv 1) pa_nil)) (blkOk_by (N := ["box", "many", "k"]) (sc := defScope s_law_name) (by decide +kernel)) (fun _ _ _ _ _ => (pg_name (i := 2) sc_law_name.nd rfl (by first | exact Or.inl rfl | exact Or.inr rfl))) (fun _ _ _ _ _ => pts_nil) (fun _ _ _ _ _ => (pe_ix ix_seq pe_str (pe_c (c_law_draw G) hr (by decide) rfl (pa_cons (pv 0) (pa_cons pe_int pa_nil))) (fun _ _ => rfl))))))))
theorem c_law_lock {P : Program} {w : World} {K : PySem.W.Frag} {mg : Str → Option Value} {base : Heap} (G : Gx K mg) : Cal P w K mg base 4 "_law_lock" (spH K w_law_lock) [] := by
  obtain ⟨f, fd, F, hm⟩ := G.f_law_lock
  refine ⟨f, fd, ["box"], [], F.ok sc_law_lock (fun vs H Q E h => len_h h fun ds k z => (len_law_lock ds k z)) (fun cdv A outer s H vs Q E hr h => ⟨t_law_lock K, PSs.nox ?_, entry_h h (by decide) pure_law_lock⟩), hm, F.kp, F.bindsN (fun _ _ _ _ _ _ us hl => match us, hl with | [_], _ => rfl), .nil⟩
  exact (pss_one (ps_ret (pe_ifExp (pt_cmpR (op_eqD (hu64 hr)) (pe_c (c_law_draw G) hr (by decide) rfl (pa_cons (pv 0) (pa_cons pe_int pa_nil))) pe_int (nomark _)) (pe_c (c_law_draw G) hr (by decide) rfl (pa_cons (pv 0) (pa_cons (pe_op op_powU pe_int pe_int) pa_nil))) (pe_c (c_law_draw G) hr (by decide) rfl (pa_cons (pv 0) (pa_cons pe_int pa_nil))))))
theorem c_law_beneath {P : Program} {w : World} {K : PySem.W.Frag} {mg : Str → Option Value} {base : Heap} (G : Gx K mg) : Cal P w K mg base 1 "_law_beneath" (spW K w_law_beneath) [] := by
  obtain ⟨f, fd, F, hm⟩ := G.f_law_beneath
  refine ⟨f, fd, ["node"], [], F.ok sc_law_beneath (fun vs H Q E h => len_w h fun ds k z => (len_law_beneath ds k z)) (fun cdv A outer s H vs Q E hr h => ⟨t_law_beneath K, PSs.nox ?_, entry_w h pure_law_beneath⟩), hm, F.kp, F.bindsN (fun _ _ _ _ _ _ us hl => match us, hl with | [_], _ => rfl), .nil⟩
  exact (pss_cons (ps_asg (pv 0) (pg_tup rfl (pgs_cons (pg_name (i := 1) sc_law_beneath.nd rfl (by first | exact Or.inl rfl | exact Or.inr rfl)) (pgs_cons (pg_name (i := 2) sc_law_beneath.nd rfl (by first | exact Or.inl rfl | exact Or.inr rfl)) pgs_nil))))
  (pss_cons (ps_asg (pe_tup (pa_cons (pv 2) (pa_cons pe_int pa_nil))) (pg_tup rfl (pgs_cons (pg_name (i := 3) sc_law_beneath.nd rfl (by first | exact Or.inl rfl | exact Or.inr rfl)) (pgs_cons (pg_name (i := 4) sc_law_beneath.nd rfl (by first | exact Or.inl rfl | exact Or.inr rfl)) pgs_nil))))
  (pss_cons (ps_for PassesOwn.never rfl (pi_range1 rfl G.b_range (pa_cons (pv 1) pa_nil)) (pg_name (i := 5) sc_law_beneath.nd rfl (by first | exact Or.inl rfl | exact Or.inr rfl))
  (pss_one (ps_asg (pe_tup (pa_cons (pe_op op_mulU pe_int (pv 3)) (pa_cons (pe_op op_mulU pe_int (pv 4)) pa_nil))) (pg_tup rfl (pgs_cons (pg_name (i := 3) sc_law_beneath.nd rfl (by first | exact Or.inl rfl | exact Or.inr rfl)) (pgs_cons (pg_name (i := 4) sc_law_beneath.nd rfl (by first | exact Or.inl rfl | exact Or.inr rfl)) pgs_nil))))))
  (pss_one (ps_ret (pe_lc (own := [("k", 5)]) rfl sc_law_beneath.nd (pi_range1 rfl G.b_range (pa_cons (pv 4) pa_nil)) (blkOk_by (N := ["node", "level", "index", "first", "many", "k"]) (sc := defScope s_law_beneath) (by decide +kernel)) (fun _ _ _ _ _ => (pg_name (i := 5) sc_law_beneath.nd rfl (by first | exact Or.inl rfl | exact Or.inr rfl))) (fun _ _ _ _ _ => pts_nil) (fun _ _ _ _ _ => (pe_op op_addU (pv 3) (pv 5)))))))))
theorem c_law_int {P : Program} {w : World} {K : PySem.W.Frag} {mg : Str → Option Value} {base : Heap} (G : Gx K mg) : Cal P w K mg base 1 "_law_int" (spW K w_law_int) [] := by
  obtain ⟨f, fd, F, hm⟩ := G.f_law_int
  refine ⟨f, fd, ["thing", "least", "most"], [], F.ok sc_law_int (fun vs H Q E h => len_w h fun ds k z => (len_law_int ds k z)) (fun cdv A outer s H vs Q E hr h => ⟨t_law_int K, PSs.nox ?_, entry_w h pure_law_int⟩), hm, F.kp, F.bindsN (fun _ _ _ _ _ _ us hl => match us, hl with | [_, _, _], _ => rfl), .nil⟩
  exact (pss_one (ps_ret (pe_and (pe_callB call_isi rfl G.b_isinstance (by decide +kernel) (pa_cons (pv 0) (pa_cons (pe_bltn (v := .ty "int") rfl G.b_int (by decide +kernel) rfl) pa_nil))) (pe_and (pe_not (pe_callB call_isi rfl G.b_isinstance (by decide +kernel) (pa_cons (pv 0) (pa_cons (pe_bltn (v := .ty "bool") rfl G.b_bool (by decide +kernel) rfl) pa_nil)))) (pe_one (pe_chain (op_leV (hu0 hr)) (op_leV (hu0 hr)) (pv 1) (pv 0) (pv 2)))))))
theorem c_law_named {P : Program} {w : World} {K : PySem.W.Frag} {mg : Str → Option Value} {base : Heap} (G : Gx K mg) : Cal P w K mg base 1 "_law_named" (spW K w_law_named) [] := by
  obtain ⟨f, fd, F, hm⟩ := G.f_law_named
  refine ⟨f, fd, ["thing"], [], F.ok sc_law_named (fun vs H Q E h => len_w h fun ds k z => (len_law_named ds k z)) (fun cdv A outer s H vs Q E hr h => ⟨t_law_named K, PSs.nox ?_, entry_w h pure_law_named⟩), hm, F.kp, F.bindsN (fun _ _ _ _ _ _ us hl => match us, hl with | [_], _ => rfl), .nil⟩
  exact (pss_cons (ps_if (L2.PW.pt (pw_or (pt_not (pt_val (pe_callB call_isi rfl G.b_isinstance (by decide +kernel) (pa_cons (pv 0) (pa_cons (pe_bltn (v := .ty "str") rfl G.b_str (by decide +kernel) rfl) pa_nil))))) (pw_or1 (pt_not (pt_chain (op_leV (hu0 hr)) (op_leV (hu0 hr)) pe_int (pe_callB call_lenU rfl G.b_len (by decide +kernel) (pa_cons (pv 0) pa_nil)) pe_int)))))
  (pss_one (ps_ret pe_bl))
  pss_nil)
  (pss_one (ps_ret (pe_callB (cr_all rfl) rfl G.b_all (by decide +kernel) (pa_cons (pe_lc (own := [("sign", 1)]) rfl sc_law_named.nd (pi_seqU (pv 0)) (blkOk_by (N := ["thing", "sign"]) (sc := defScope s_law_named) (by decide +kernel)) (fun _ _ _ _ _ => (pg_name (i := 1) sc_law_named.nd rfl (by first | exact Or.inl rfl | exact Or.inr rfl))) (fun _ _ _ _ _ => pts_nil) (fun _ _ _ _ _ => (pe_cmpR (op_inU (hu65 hr)) (pv 1) pe_str (by with_unfolding_all rfl)))) pa_nil)))))
theorem c_law_members {P : Program} {w : World} {K : PySem.W.Frag} {mg : Str → Option Value} {base : Heap} (G : Gx K mg) : Cal P w K mg base 2 "_law_members" (spW K w_law_members) [] := by
  obtain ⟨f, fd, F, hm⟩ := G.f_law_members
  refine ⟨f, fd, ["height", "leaves"], [], F.ok sc_law_members (fun vs H Q E h => len_w h fun ds k z => (len_law_members ds k z)) (fun cdv A outer s H vs Q E hr h => ⟨t_law_members K, PSs.nox ?_, entry_w h pure_law_members⟩), hm, F.kp, F.bindsN (fun _ _ _ _ _ _ us hl => match us, hl with | [_, _], _ => rfl), .nil⟩
  exact (pss_cons (ps_if (L2.PW.pt (pw_or (pt_not (pt_val (pe_callB call_isi rfl G.b_isinstance (by decide +kernel) (pa_cons (pv 1) (pa_cons (pe_bltn (v := .ty "tuple") rfl G.b_tuple (by decide +kernel) rfl) pa_nil))))) (pw_or1 (pt_cmpR (op_neD (hu64 hr)) (pe_callB call_lenU rfl G.b_len (by decide +kernel) (pa_cons (pv 1) pa_nil)) (pe_callB call_lenU rfl G.b_len (by decide +kernel) (pa_cons (pe_c (c_law_beneath G) hr (by decide) rfl (pa_cons (pe_tup (pa_cons (pv 0) (pa_cons pe_int pa_nil))) pa_nil)) pa_nil)) (nomark _)))))
  (pss_one (ps_ret pe_bl))
  pss_nil)
  (pss_cons (ps_set (i := 2) sc_law_members.nd rfl (by first | exact Or.inl rfl | exact Or.inr rfl) (pe_lst pa_nil))
  (pss_cons (ps_for PassesOwn.never rfl (pi_seqU (pv 1)) (pg_name (i := 3) sc_law_members.nd rfl (by first | exact Or.inl rfl | exact Or.inr rfl))
  (pss_one (ps_if (pt_cmpR op_isNotNo (pv 3) pe_non (nomark _))
  (pss_cons (ps_if (L2.PW.pt (pw_or (pt_not (pt_val (pe_callB call_isi rfl G.b_isinstance (by decide +kernel) (pa_cons (pv 3) (pa_cons (pe_bltn (v := .ty "tuple") rfl G.b_tuple (by decide +kernel) rfl) pa_nil))))) (pw_or (pt_cmpR (op_neD (hu64 hr)) (pe_callB call_lenU rfl G.b_len (by decide +kernel) (pa_cons (pv 3) pa_nil)) pe_int (nomark _)) (pw_or1 (pt_not (pt_val (pe_c (c_law_named G) hr (by decide) rfl (pa_cons (pe_ix ix_seq (pv 3) pe_int (fun _ _ => rfl)) pa_nil))))))))
  (pss_one (ps_ret pe_bl))
  pss_nil)
  (pss_cons (ps_if (L2.PW.pt (pw_or (pt_not (pt_val (pe_c (c_law_int G) hr (by decide) rfl (pa_cons (pe_ix ix_seq (pv 3) pe_int (fun _ _ => rfl)) (pa_cons pe_int (pa_cons (pe_op op_powU pe_int pe_int) pa_nil)))))) (pw_or1 (pt_cmpR (op_inU (hu65 hr)) (pe_ix ix_seq (pv 3) pe_int (fun _ _ => rfl)) (pv 2) (by with_unfolding_all rfl)))))
  (pss_one (ps_ret pe_bl))
  pss_nil)
  (pss_one (ps_expr (pe_bm PySem.F.plainAttrs_list PySem.F.slot_list_append PySem.F.type_list_append mt_append (pv 2) (pa_cons (pe_ix ix_seq (pv 3) pe_int (fun _ _ => rfl)) pa_nil))))))
  pss_nil)))
  (pss_one (ps_ret pe_bl)))))
theorem c_law_node {P : Program} {w : World} {K : PySem.W.Frag} {mg : Str → Option Value} {base : Heap} (G : Gx K mg) : Cal P w K mg base 2 "_law_node" (spW K w_law_node) [] := by
  obtain ⟨f, fd, F, hm⟩ := G.f_law_node
  refine ⟨f, fd, ["thing", "height"], [], F.ok sc_law_node (fun vs H Q E h => len_w h fun ds k z => (len_law_node ds k z)) (fun cdv A outer s H vs Q E hr h => ⟨t_law_node K, PSs.nox ?_, entry_w h pure_law_node⟩), hm, F.kp, F.bindsN (fun _ _ _ _ _ _ us hl => match us, hl with | [_, _], _ => rfl), .nil⟩
  exact (pss_cons (ps_if (L2.PW.pt (pw_or (pt_not (pt_val (pe_callB call_isi rfl G.b_isinstance (by decide +kernel) (pa_cons (pv 0) (pa_cons (pe_bltn (v := .ty "tuple") rfl G.b_tuple (by decide +kernel) rfl) pa_nil))))) (pw_or (pt_cmpR (op_neD (hu64 hr)) (pe_callB call_lenU rfl G.b_len (by decide +kernel) (pa_cons (pv 0) pa_nil)) pe_int (nomark _)) (pw_or1 (pt_not (pt_val (pe_c (c_law_int G) hr (by decide) rfl (pa_cons (pe_ix ix_seq (pv 0) pe_int (fun _ _ => rfl)) (pa_cons pe_int (pa_cons (pv 1) pa_nil))))))))))
  (pss_one (ps_ret pe_bl))
  pss_nil)
  (pss_one (ps_ret (pe_c (c_law_int G) hr (by decide) rfl (pa_cons (pe_ix ix_seq (pv 0) pe_int (fun _ _ => rfl)) (pa_cons pe_int (pa_cons (pe_op op_subU (pe_callB call_lenU rfl G.b_len (by decide +kernel) (pa_cons (pe_c (c_law_beneath G) hr (by decide) rfl (pa_cons (pe_tup (pa_cons (pe_op op_subU (pv 1) (pe_ix ix_seq (pv 0) pe_int (fun _ _ => rfl))) (pa_cons pe_int pa_nil))) pa_nil)) pa_nil)) pe_int) pa_nil)))))))
theorem c_law_aside {P : Program} {w : World} {K : PySem.W.Frag} {mg : Str → Option Value} {base : Heap} (G : Gx K mg) : Cal P w K mg base 2 "_law_aside" (spW K w_law_aside) [] := by
  obtain ⟨f, fd, F, hm⟩ := G.f_law_aside
  refine ⟨f, fd, ["thing", "node", "leaves"], [], F.ok sc_law_aside (fun vs H Q E h => len_w h fun ds k z => (len_law_aside ds k z)) (fun cdv A outer s H vs Q E hr h => ⟨t_law_aside K, PSs.nox ?_, entry_w h pure_law_aside⟩), hm, F.kp, F.bindsN (fun _ _ _ _ _ _ us hl => match us, hl with | [_, _, _], _ => rfl), .nil⟩
  exact (pss_cons (ps_if (pt_not (pt_val (pe_callB call_isi rfl G.b_isinstance (by decide +kernel) (pa_cons (pv 0) (pa_cons (pe_bltn (v := .ty "tuple") rfl G.b_tuple (by decide +kernel) rfl) pa_nil)))))
  (pss_one (ps_ret pe_bl))
  pss_nil)
  (pss_cons (ps_set (i := 3) sc_law_aside.nd rfl (by first | exact Or.inl rfl | exact Or.inr rfl) (pe_un un_negU pe_int))
  (pss_cons (ps_set (i := 4) sc_law_aside.nd rfl (by first | exact Or.inl rfl | exact Or.inr rfl) (pe_c (c_law_beneath G) hr (by decide) rfl (pa_cons (pv 1) pa_nil)))
  (pss_cons (ps_for PassesOwn.never rfl (pi_seqU (pv 0)) (pg_name (i := 5) sc_law_aside.nd rfl (by first | exact Or.inl rfl | exact Or.inr rfl))
  (pss_cons (ps_if (L2.PW.pt (pw_or (pt_not (pt_val (pe_c (c_law_int G) hr (by decide) rfl (pa_cons (pv 5) (pa_cons (pe_op op_addU (pv 3) pe_int) (pa_cons (pe_callB call_lenU rfl G.b_len (by decide +kernel) (pa_cons (pv 2) pa_nil)) pa_nil)))))) (pw_or (pt_cmpR (op_notInU (hu65 hr)) (pv 5) (pv 4) (by with_unfolding_all rfl)) (pw_or1 (pt_cmpR op_isNo (pe_ix ix_seq (pv 2) (pv 5) (fun _ _ => rfl)) pe_non (nomark _))))))
  (pss_one (ps_ret pe_bl))
  pss_nil)
  (pss_one (ps_set (i := 3) sc_law_aside.nd rfl (by first | exact Or.inl rfl | exact Or.inr rfl) (pv 5)))))
  (pss_one (ps_ret pe_bl))))))
theorem c_law_nodes {P : Program} {w : World} {K : PySem.W.Frag} {mg : Str → Option Value} {base : Heap} (G : Gx K mg) : Cal P w K mg base 3 "_law_nodes" (spW K w_law_nodes) [] := by
  obtain ⟨f, fd, F, hm⟩ := G.f_law_nodes
  refine ⟨f, fd, ["height", "leaves", "nodes"], [], F.ok sc_law_nodes (fun vs H Q E h => len_w h fun ds k z => (len_law_nodes ds k z)) (fun cdv A outer s H vs Q E hr h => ⟨t_law_nodes K, PSs.nox ?_, entry_w h pure_law_nodes⟩), hm, F.kp, F.bindsN (fun _ _ _ _ _ _ us hl => match us, hl with | [_, _, _], _ => rfl), .nil⟩
  exact (pss_cons (ps_if (pt_not (pt_val (pe_callB call_isi rfl G.b_isinstance (by decide +kernel) (pa_cons (pv 2) (pa_cons (pe_bltn (v := .ty "tuple") rfl G.b_tuple (by decide +kernel) rfl) pa_nil)))))
  (pss_one (ps_ret pe_bl))
  pss_nil)
  (pss_cons (ps_set (i := 3) sc_law_nodes.nd rfl (by first | exact Or.inl rfl | exact Or.inr rfl) (pe_tup (pa_cons pe_int (pa_cons pe_int pa_nil))))
  (pss_cons (ps_for PassesOwn.never rfl (pi_seqU (pv 2)) (pg_name (i := 4) sc_law_nodes.nd rfl (by first | exact Or.inl rfl | exact Or.inr rfl))
  (pss_cons (ps_if (L2.PW.pt (pw_or (pt_not (pt_val (pe_callB call_isi rfl G.b_isinstance (by decide +kernel) (pa_cons (pv 4) (pa_cons (pe_bltn (v := .ty "tuple") rfl G.b_tuple (by decide +kernel) rfl) pa_nil))))) (pw_or (pt_cmpR (op_neD (hu64 hr)) (pe_callB call_lenU rfl G.b_len (by decide +kernel) (pa_cons (pv 4) pa_nil)) pe_int (nomark _)) (pw_or (pt_not (pt_val (pe_c (c_law_node G) hr (by decide) rfl (pa_cons (pe_ix ix_seq (pv 4) pe_int (fun _ _ => rfl)) (pa_cons (pv 0) pa_nil))))) (pw_or1 (pt_cmpR (op_leV (hu0 hr)) (pe_ix ix_seq (pv 4) pe_int (fun _ _ => rfl)) (pv 3) (nomark _)))))))
  (pss_one (ps_ret pe_bl))
  pss_nil)
  (pss_cons (ps_if (L2.PW.pt (pw_or (pt_not (pt_val (pe_c (c_law_int G) hr (by decide) rfl (pa_cons (pe_ix ix_seq (pv 4) pe_int (fun _ _ => rfl)) (pa_cons pe_int (pa_cons (pe_op op_powU pe_int pe_int) pa_nil)))))) (pw_or1 (pt_not (pt_val (pe_c (c_law_aside G) hr (by decide) rfl (pa_cons (pe_ix ix_seq (pv 4) pe_int (fun _ _ => rfl)) (pa_cons (pe_ix ix_seq (pv 4) pe_int (fun _ _ => rfl)) (pa_cons (pv 1) pa_nil)))))))))
  (pss_one (ps_ret pe_bl))
  pss_nil)
  (pss_one (ps_set (i := 3) sc_law_nodes.nd rfl (by first | exact Or.inl rfl | exact Or.inr rfl) (pe_ix ix_seq (pv 4) pe_int (fun _ _ => rfl)))))))
  (pss_one (ps_ret pe_bl)))))
theorem c_law_bad {P : Program} {w : World} {K : PySem.W.Frag} {mg : Str → Option Value} {base : Heap} (G : Gx K mg) : Cal P w K mg base 4 "_law_bad" (spW K w_law_bad) [] := by
  obtain ⟨f, fd, F, hm⟩ := G.f_law_bad
  refine ⟨f, fd, ["parts"], [], F.ok sc_law_bad (fun vs H Q E h => len_w h fun ds k z => (len_law_bad ds k z)) (fun cdv A outer s H vs Q E hr h => ⟨t_law_bad K, PSs.nox ?_, entry_w h pure_law_bad⟩), hm, F.kp, F.bindsN (fun _ _ _ _ _ _ us hl => match us, hl with | [_], _ => rfl), .nil⟩
  exact (pss_cons (ps_if (pt_not (pt_val (pe_c (c_law_int G) hr (by decide) rfl (pa_cons (pe_ix ix_seq (pv 0) pe_int (fun _ _ => rfl)) (pa_cons pe_int (pa_cons pe_int pa_nil))))))
  (pss_one (ps_ret pe_str))
  pss_nil)
  (pss_cons (ps_if (pt_not (pt_val (pe_c (c_law_members G) hr (by decide) rfl (pa_cons (pe_ix ix_seq (pv 0) pe_int (fun _ _ => rfl)) (pa_cons (pe_ix ix_seq (pv 0) pe_int (fun _ _ => rfl)) pa_nil)))))
  (pss_one (ps_ret pe_str))
  pss_nil)
  (pss_one (ps_ret (pe_ifExp (pt_val (pe_c (c_law_nodes G) hr (by decide) rfl (pa_cons (pe_ix ix_seq (pv 0) pe_int (fun _ _ => rfl)) (pa_cons (pe_ix ix_seq (pv 0) pe_int (fun _ _ => rfl)) (pa_cons (pe_ix ix_seq (pv 0) pe_int (fun _ _ => rfl)) pa_nil))))) pe_non pe_str)))))
theorem c_law_set {P : Program} {w : World} {K : PySem.W.Frag} {mg : Str → Option Value} {base : Heap} (G : Gx K mg) : Cal P w K mg base 1 "_law_set" (spW K w_law_set) [] := by
  obtain ⟨f, fd, F, hm⟩ := G.f_law_set
  refine ⟨f, fd, ["things", "at", "thing"], [], F.ok sc_law_set (fun vs H Q E h => len_w h fun ds k z => (len_law_set ds k z)) (fun cdv A outer s H vs Q E hr h => ⟨t_law_set K, PSs.nox ?_, entry_w h pure_law_set⟩), hm, F.kp, F.bindsN (fun _ _ _ _ _ _ us hl => match us, hl with | [_, _, _], _ => rfl), .nil⟩
  exact (pss_one (ps_ret (pe_op op_addU (pe_op op_addU (pe_slice sl_U (pv 0) po_none (po_some (pv 1))) (pe_tup (pa_cons (pv 2) pa_nil))) (pe_slice sl_U (pv 0) (po_some (pe_op op_addU (pv 1) pe_int)) po_none))))
theorem c_law_odd {P : Program} {w : World} {K : PySem.W.Frag} {mg : Str → Option Value} {base : Heap} (G : Gx K mg) : Cal P w K mg base 4 "_law_odd" (spH K w_law_odd) [] := by
  obtain ⟨f, fd, F, hm⟩ := G.f_law_odd
  refine ⟨f, fd, ["box"], [], F.ok sc_law_odd (fun vs H Q E h => len_h h fun ds k z => (len_law_odd ds k z)) (fun cdv A outer s H vs Q E hr h => ⟨t_law_odd K, PSs.nox ?_, entry_h h (by decide) pure_law_odd⟩), hm, F.kp, F.bindsN (fun _ _ _ _ _ _ us hl => match us, hl with | [_], _ => rfl), .nil⟩
  exact (pss_one (ps_ret (pe_ix ix_seq (pe_lst (pa_cons pe_non (pa_cons pe_bl (pa_cons pe_str (pa_cons (pe_tup pa_nil) (pa_cons (pe_lst pa_nil) (pa_cons pe_int (pa_cons (pe_un un_negU pe_int) (pa_cons pe_int (pa_cons (pe_tup (pa_cons pe_str pa_nil)) (pa_cons (pe_tup (pa_cons pe_str (pa_cons pe_int pa_nil))) (pa_cons (pe_tup (pa_cons pe_int (pa_cons pe_int pa_nil))) (pa_cons (pe_tup (pa_cons (pe_tup (pa_cons pe_int (pa_cons pe_int pa_nil))) (pa_cons pe_int (pa_cons (pe_tup pa_nil) pa_nil)))) (pa_cons pe_str (pa_cons pe_str (pa_cons pe_str pa_nil)))))))))))))))) (pe_c (c_law_draw G) hr (by decide) rfl (pa_cons (pv 0) (pa_cons pe_int pa_nil))) (fun _ _ => rfl))))
theorem c_law_leaf_spoilt {P : Program} {w : World} {K : PySem.W.Frag} {mg : Str → Option Value} {base : Heap} (G : Gx K mg) : Cal P w K mg base 5 "_law_leaf_spoilt" (spH K w_law_leaf_spoilt) [] := by
  obtain ⟨f, fd, F, hm⟩ := G.f_law_leaf_spoilt
  refine ⟨f, fd, ["box", "leaves"], [], F.ok sc_law_leaf_spoilt (fun vs H Q E h => len_h h fun ds k z => (len_law_leaf_spoilt ds k z)) (fun cdv A outer s H vs Q E hr h => ⟨t_law_leaf_spoilt K, PSs.nox ?_, entry_h h (by decide) pure_law_leaf_spoilt⟩), hm, F.kp, F.bindsN (fun _ _ _ _ _ _ us hl => match us, hl with | [_, _], _ => rfl), .nil⟩
  exact (pss_cons (ps_set (i := 2) sc_law_leaf_spoilt.nd rfl (by first | exact Or.inl rfl | exact Or.inr rfl) (pe_c (c_law_draw G) hr (by decide) rfl (pa_cons (pv 0) (pa_cons (pe_callB call_lenU rfl G.b_len (by decide +kernel) (pa_cons (pv 1) pa_nil)) pa_nil))))
  (pss_cons (ps_set (i := 3) sc_law_leaf_spoilt.nd rfl (by first | exact Or.inl rfl | exact Or.inr rfl) (pe_c (c_law_draw G) hr (by decide) rfl (pa_cons (pv 0) (pa_cons pe_int pa_nil))))
  (pss_cons (ps_set (i := 4) sc_law_leaf_spoilt.nd rfl (by first | exact Or.inl rfl | exact Or.inr rfl) (pe_ix ix_seq (pv 1) (pe_c (c_law_draw G) hr (by decide) rfl (pa_cons (pv 0) (pa_cons (pe_callB call_lenU rfl G.b_len (by decide +kernel) (pa_cons (pv 1) pa_nil)) pa_nil))) (fun _ _ => rfl)))
  (pss_cons (ps_if (pt_cmpR (op_eqD (hu64 hr)) (pv 3) pe_int (nomark _))
  (pss_one (ps_ret (pe_op op_addU (pv 1) (pe_tup (pa_cons pe_non pa_nil)))))
  pss_nil)
  (pss_cons (ps_if (pt_cmpR (op_eqD (hu64 hr)) (pv 3) pe_int (nomark _))
  (pss_one (ps_ret (pe_slice sl_U (pv 1) (po_some pe_int) po_none)))
  pss_nil)
  (pss_cons (ps_if (pt_cmpR (op_eqD (hu64 hr)) (pv 3) pe_int (nomark _))
  (pss_one (ps_ret (pe_c (c_law_set G) hr (by decide) rfl (pa_cons (pv 1) (pa_cons (pv 2) (pa_cons pe_non pa_nil))))))
  pss_nil)
  (pss_cons (ps_if (pt_cmpR (op_eqD (hu64 hr)) (pv 3) pe_int (nomark _))
  (pss_one (ps_ret (pe_c (c_law_set G) hr (by decide) rfl (pa_cons (pv 1) (pa_cons (pv 2) (pa_cons (pe_ifExp (pt_cmpR op_isNotNo (pv 4) pe_non (nomark _)) (pe_tup (pa_cons (pe_ix ix_seq (pv 4) pe_int (fun _ _ => rfl)) (pa_cons pe_int pa_nil))) (pe_tup (pa_cons pe_str (pa_cons pe_int pa_nil)))) pa_nil))))))
  pss_nil)
  (pss_cons (ps_if (pt_cmpR (op_eqD (hu64 hr)) (pv 3) pe_int (nomark _))
  (pss_one (ps_ret (pe_c (c_law_set G) hr (by decide) rfl (pa_cons (pv 1) (pa_cons (pv 2) (pa_cons (pe_tup (pa_cons (pe_c (c_law_odd G) hr (by decide) rfl (pa_cons (pv 0) pa_nil)) (pa_cons pe_int pa_nil))) pa_nil))))))
  pss_nil)
  (pss_cons (ps_if (pt_cmpR (op_eqD (hu64 hr)) (pv 3) pe_int (nomark _))
  (pss_one (ps_ret (pe_c (c_law_set G) hr (by decide) rfl (pa_cons (pv 1) (pa_cons (pv 2) (pa_cons (pe_tup (pa_cons pe_str (pa_cons (pe_c (c_law_odd G) hr (by decide) rfl (pa_cons (pv 0) pa_nil)) pa_nil))) pa_nil))))))
  pss_nil)
  (pss_one (ps_ret (pe_ifExp (pt_cmpR (op_eqD (hu64 hr)) (pv 3) pe_int (nomark _)) (pe_c (c_law_set G) hr (by decide) rfl (pa_cons (pv 1) (pa_cons (pv 2) (pa_cons (pe_c (c_law_odd G) hr (by decide) rfl (pa_cons (pv 0) pa_nil)) pa_nil)))) (pe_callTy call_lstU rfl G.b_list (by decide +kernel) (pa_cons (pv 1) pa_nil))))))))))))))
theorem c_law_due {P : Program} {w : World} {K : PySem.W.Frag} {mg : Str → Option Value} {base : Heap} (G : Gx K mg) : Cal P w K mg base 5 "_law_due" (spW K w_law_due) [] := by
  obtain ⟨f, fd, F, hm⟩ := G.f_law_due
  refine ⟨f, fd, ["parts"], [], F.ok sc_law_due (fun vs H Q E h => len_w h fun ds k z => (len_law_due ds k z)) (fun cdv A outer s H vs Q E hr h => ⟨t_law_due K, PSs.nox ?_, entry_w h pure_law_due⟩), hm, F.kp, F.bindsN (fun _ _ _ _ _ _ us hl => match us, hl with | [_], _ => rfl), .nil⟩
  exact (pss_cons (ps_set (i := 1) sc_law_due.nd rfl (by first | exact Or.inl rfl | exact Or.inr rfl) (pe_c (c_law_bad G) hr (by decide) rfl (pa_cons (pv 0) pa_nil)))
  (pss_one (ps_ret (pe_ifExp (pt_cmpR op_isNo (pv 1) pe_non (nomark _)) (pe_tup (pa_cons pe_str (pa_cons (pe_ix ix_seq (pv 0) pe_int (fun _ _ => rfl)) (pa_cons (pe_ix ix_seq (pv 0) pe_int (fun _ _ => rfl)) (pa_cons (pe_ix ix_seq (pv 0) pe_int (fun _ _ => rfl)) pa_nil))))) (pe_tup (pa_cons pe_str (pa_cons (pv 1) (pa_cons pe_bl (pa_cons pe_bl pa_nil)))))))))
theorem c_law_tree {P : Program} {w : World} {K : PySem.W.Frag} {mg : Str → Option Value} {base : Heap} (G : Gx K mg) : Cal P w K mg base 5 "_law_tree" (spH K w_law_tree) [] := by
  obtain ⟨f, fd, F, hm⟩ := G.f_law_tree
  refine ⟨f, fd, ["box", "most"], [], F.ok sc_law_tree (fun vs H Q E h => len_h h fun ds k z => (len_law_tree ds k z)) (fun cdv A outer s H vs Q E hr h => ⟨t_law_tree K, PSs.nox ?_, entry_h h (by decide) pure_law_tree⟩), hm, F.kp, F.bindsN (fun _ _ _ _ _ _ us hl => match us, hl with | [_, _], _ => rfl), .nil⟩
  exact (pss_cons (ps_set (i := 2) sc_law_tree.nd rfl (by first | exact Or.inl rfl | exact Or.inr rfl) (pe_c (c_law_draw G) hr (by decide) rfl (pa_cons (pv 0) (pa_cons (pe_op op_addU (pv 1) pe_int) pa_nil))))
  (pss_cons (ps_set (i := 3) sc_law_tree.nd rfl (by first | exact Or.inl rfl | exact Or.inr rfl) (pe_lst pa_nil))
  (pss_cons (ps_set (i := 4) sc_law_tree.nd rfl (by first | exact Or.inl rfl | exact Or.inr rfl) (pe_lst pa_nil))
  (pss_cons (ps_for PassesOwn.never rfl (pi_seqU (pe_c (c_law_beneath G) hr (by decide) rfl (pa_cons (pe_tup (pa_cons (pv 2) (pa_cons pe_int pa_nil))) pa_nil))) (pg_name (i := 5) sc_law_tree.nd rfl (by first | exact Or.inl rfl | exact Or.inr rfl))
  (pss_cons (ps_set (i := 6) sc_law_tree.nd rfl (by first | exact Or.inl rfl | exact Or.inr rfl) (pe_c (c_law_name G) hr (by decide) rfl (pa_cons (pv 0) pa_nil)))
  (pss_one (ps_if (L2.PW.pt (pw_and (pt_cmpR op_gtU (pe_c (c_law_draw G) hr (by decide) rfl (pa_cons (pv 0) (pa_cons pe_int pa_nil))) pe_int (nomark _)) (pw_and1 (pt_cmpR (op_notInU (hu65 hr)) (pv 6) (pv 4) (by with_unfolding_all rfl)))))
  (pss_cons (ps_expr (pe_bm PySem.F.plainAttrs_list PySem.F.slot_list_append PySem.F.type_list_append mt_append (pv 4) (pa_cons (pv 6) pa_nil)))
  (pss_one (ps_expr (pe_bm PySem.F.plainAttrs_list PySem.F.slot_list_append PySem.F.type_list_append mt_append (pv 3) (pa_cons (pe_tup (pa_cons (pv 6) (pa_cons (pe_c (c_law_lock G) hr (by decide) rfl (pa_cons (pv 0) pa_nil)) pa_nil))) pa_nil)))))
  (pss_one (ps_expr (pe_bm PySem.F.plainAttrs_list PySem.F.slot_list_append PySem.F.type_list_append mt_append (pv 3) (pa_cons pe_non pa_nil))))))))
  (pss_cons (ps_set (i := 7) sc_law_tree.nd rfl (by first | exact Or.inl rfl | exact Or.inr rfl) (pe_lst pa_nil))
  (pss_cons (ps_set (i := 8) sc_law_tree.nd rfl (by first | exact Or.inl rfl | exact Or.inr rfl) (pe_callB call_lenU rfl G.b_len (by decide +kernel) (pa_cons (pv 3) pa_nil)))
  (pss_cons (ps_for PassesOwn.never rfl (pi_range2 rfl G.b_range (pa_cons pe_int (pa_cons (pe_op op_addU (pv 2) pe_int) pa_nil))) (pg_name (i := 9) sc_law_tree.nd rfl (by first | exact Or.inl rfl | exact Or.inr rfl))
  (pss_cons (ps_set (i := 8) sc_law_tree.nd rfl (by first | exact Or.inl rfl | exact Or.inr rfl) (pe_op op_divU (pv 8) pe_int))
  (pss_one (ps_for PassesOwn.never rfl (pi_range1 rfl G.b_range (pa_cons (pv 8) pa_nil)) (pg_name (i := 10) sc_law_tree.nd rfl (by first | exact Or.inl rfl | exact Or.inr rfl))
  (pss_one (ps_if (pt_cmpR (op_eqD (hu64 hr)) (pe_c (c_law_draw G) hr (by decide) rfl (pa_cons (pv 0) (pa_cons pe_int pa_nil))) pe_int (nomark _))
  (pss_cons (ps_setLc (i := 11) (own := [("leaf", 5)]) rfl sc_law_tree.nd rfl rfl (sw_true rfl rfl rfl (by decide +kernel)) (pi_seqU (pe_c (c_law_beneath G) hr (by decide) rfl (pa_cons (pe_tup (pa_cons (pv 9) (pa_cons (pv 10) pa_nil))) pa_nil))) (blkOk_by (N := ["box", "most", "height", "leaves", "names", "leaf", "name", "nodes", "many", "level", "index", "beneath", "aside"]) (sc := defScope s_law_tree) (by decide +kernel)) (fun _ _ _ _ _ => (pg_name (i := 5) sc_law_tree.nd rfl (by first | exact Or.inl rfl | exact Or.inr rfl))) (fun _ _ _ _ _ => (pts_one (pt_cmpR op_isNotNo (pe_ix ix_seq (pv 3) (pv 5) (fun _ _ => rfl)) pe_non (nomark _)))) (fun _ _ _ _ _ => (pv 5)))
  (pss_cons (ps_set (i := 12) sc_law_tree.nd rfl (by first | exact Or.inl rfl | exact Or.inr rfl) (pe_callTy call_tupU rfl G.b_tuple (by decide +kernel) (pa_cons (pe_lc (own := [("leaf", 5)]) rfl sc_law_tree.nd (pi_seqU (pv 11)) (blkOk_by (N := ["box", "most", "height", "leaves", "names", "leaf", "name", "nodes", "many", "level", "index", "beneath", "aside"]) (sc := defScope s_law_tree) (by decide +kernel)) (fun _ _ _ _ _ => (pg_name (i := 5) sc_law_tree.nd rfl (by first | exact Or.inl rfl | exact Or.inr rfl))) (fun _ _ _ _ _ => (pts_one (pt_cmpR (op_eqD (hu64 hr)) (pe_c (c_law_draw G) hr (by decide) rfl (pa_cons (pv 0) (pa_cons pe_int pa_nil))) pe_int (nomark _)))) (fun _ _ _ _ _ => (pv 5))) pa_nil)))
  (pss_one (ps_expr (pe_bm PySem.F.plainAttrs_list PySem.F.slot_list_append PySem.F.type_list_append mt_append (pv 7) (pa_cons (pe_tup (pa_cons (pe_tup (pa_cons (pv 9) (pa_cons (pv 10) pa_nil))) (pa_cons (pe_c (c_law_lock G) hr (by decide) rfl (pa_cons (pv 0) pa_nil)) (pa_cons (pv 12) pa_nil)))) pa_nil))))))
  pss_nil))))))
  (pss_one (ps_ret (pe_lst (pa_cons (pv 2) (pa_cons (pe_callTy call_tupU rfl G.b_tuple (by decide +kernel) (pa_cons (pv 3) pa_nil)) (pa_cons (pe_callTy call_tupU rfl G.b_tuple (by decide +kernel) (pa_cons (pv 7) pa_nil)) pa_nil)))))))))))))
theorem c_law_node_spoilt {P : Program} {w : World} {K : PySem.W.Frag} {mg : Str → Option Value} {base : Heap} (G : Gx K mg) : Cal P w K mg base 5 "_law_node_spoilt" (spH K w_law_node_spoilt) [] := by
  obtain ⟨f, fd, F, hm⟩ := G.f_law_node_spoilt
  refine ⟨f, fd, ["box", "height", "leaves", "nodes"], [], F.ok sc_law_node_spoilt (fun vs H Q E h => len_h h fun ds k z => (len_law_node_spoilt ds k z)) (fun cdv A outer s H vs Q E hr h => ⟨t_law_node_spoilt K, PSs.nox ?_, entry_h h (by decide) pure_law_node_spoilt⟩), hm, F.kp, F.bindsN (fun _ _ _ _ _ _ us hl => match us, hl with | [_, _, _, _], _ => rfl), .nil⟩
  exact (pss_cons (ps_set (i := 4) sc_law_node_spoilt.nd rfl (by first | exact Or.inl rfl | exact Or.inr rfl) (pe_c (c_law_draw G) hr (by decide) rfl (pa_cons (pv 0) (pa_cons pe_int pa_nil))))
  (pss_cons (ps_if (L2.PW.pt (pw_or (pt_cmpR (op_eqD (hu64 hr)) (pe_callB call_lenU rfl G.b_len (by decide +kernel) (pa_cons (pv 3) pa_nil)) pe_int (nomark _)) (pw_or1 (pt_cmpR (op_eqD (hu64 hr)) (pv 4) pe_int (nomark _)))))
  (pss_cons (ps_set (i := 5) sc_law_node_spoilt.nd rfl (by first | exact Or.inl rfl | exact Or.inr rfl) (pe_tup (pa_cons (pe_c (c_law_draw G) hr (by decide) rfl (pa_cons (pv 0) (pa_cons (pe_op op_addU (pv 1) pe_int) pa_nil))) (pa_cons (pe_c (c_law_draw G) hr (by decide) rfl (pa_cons (pv 0) (pa_cons (pe_callB call_lenU rfl G.b_len (by decide +kernel) (pa_cons (pv 2) pa_nil)) pa_nil))) pa_nil))))
  (pss_one (ps_ret (pe_op op_addU (pv 3) (pe_tup (pa_cons (pe_tup (pa_cons (pv 5) (pa_cons pe_int (pa_cons (pe_tup pa_nil) pa_nil)))) pa_nil))))))
  pss_nil)
  (pss_cons (ps_set (i := 6) sc_law_node_spoilt.nd rfl (by first | exact Or.inl rfl | exact Or.inr rfl) (pe_c (c_law_draw G) hr (by decide) rfl (pa_cons (pv 0) (pa_cons (pe_callB call_lenU rfl G.b_len (by decide +kernel) (pa_cons (pv 3) pa_nil)) pa_nil))))
  (pss_cons (ps_asg (pe_ix ix_seq (pv 3) (pv 6) (fun _ _ => rfl)) (pg_tup rfl (pgs_cons (pg_name (i := 5) sc_law_node_spoilt.nd rfl (by first | exact Or.inl rfl | exact Or.inr rfl)) (pgs_cons (pg_name (i := 7) sc_law_node_spoilt.nd rfl (by first | exact Or.inl rfl | exact Or.inr rfl)) (pgs_cons (pg_name (i := 8) sc_law_node_spoilt.nd rfl (by first | exact Or.inl rfl | exact Or.inr rfl)) pgs_nil)))))
  (pss_cons (ps_if (pt_cmpR (op_eqD (hu64 hr)) (pv 4) pe_int (nomark _))
  (pss_one (ps_ret (pe_op op_addU (pv 3) (pe_tup (pa_cons (pe_ix ix_seq (pv 3) (pv 6) (fun _ _ => rfl)) pa_nil)))))
  pss_nil)
  (pss_cons (ps_if (pt_cmpR (op_eqD (hu64 hr)) (pv 4) pe_int (nomark _))
  (pss_one (ps_ret (pe_tupRevT rfl rfl G.b_tuple rfl G.b_reversed (pv 3))))
  pss_nil)
  (pss_cons (ps_if (pt_cmpR (op_eqD (hu64 hr)) (pv 4) pe_int (nomark _))
  (pss_one (ps_ret (pe_c (c_law_set G) hr (by decide) rfl (pa_cons (pv 3) (pa_cons (pv 6) (pa_cons (pe_tup (pa_cons (pv 5) (pa_cons (pe_c (c_law_odd G) hr (by decide) rfl (pa_cons (pv 0) pa_nil)) (pa_cons (pv 8) pa_nil)))) pa_nil))))))
  pss_nil)
  (pss_cons (ps_if (pt_cmpR (op_eqD (hu64 hr)) (pv 4) pe_int (nomark _))
  (pss_one (ps_ret (pe_c (c_law_set G) hr (by decide) rfl (pa_cons (pv 3) (pa_cons (pv 6) (pa_cons (pe_tup (pa_cons (pe_c (c_law_odd G) hr (by decide) rfl (pa_cons (pv 0) pa_nil)) (pa_cons (pv 7) (pa_cons (pv 8) pa_nil)))) pa_nil))))))
  pss_nil)
  (pss_cons (ps_if (pt_cmpR (op_eqD (hu64 hr)) (pv 4) pe_int (nomark _))
  (pss_one (ps_ret (pe_c (c_law_set G) hr (by decide) rfl (pa_cons (pv 3) (pa_cons (pv 6) (pa_cons (pe_tup (pa_cons (pv 5) (pa_cons (pv 7) (pa_cons (pe_op op_addU (pv 8) (pe_tup (pa_cons (pe_c (c_law_draw G) hr (by decide) rfl (pa_cons (pv 0) (pa_cons (pe_callB call_lenU rfl G.b_len (by decide +kernel) (pa_cons (pv 2) pa_nil)) pa_nil))) pa_nil))) pa_nil)))) pa_nil))))))
  pss_nil)
  (pss_cons (ps_if (pt_cmpR (op_eqD (hu64 hr)) (pv 4) pe_int (nomark _))
  (pss_one (ps_ret (pe_c (c_law_set G) hr (by decide) rfl (pa_cons (pv 3) (pa_cons (pv 6) (pa_cons (pe_tup (pa_cons (pv 5) (pa_cons (pv 7) (pa_cons (pe_ix ix_seq (pe_lst (pa_cons (pe_c (c_law_odd G) hr (by decide) rfl (pa_cons (pv 0) pa_nil)) (pa_cons (pe_tupRevT rfl rfl G.b_tuple rfl G.b_reversed (pv 8)) (pa_cons (pe_callTy call_lstU rfl G.b_list (by decide +kernel) (pa_cons (pv 8) pa_nil)) (pa_cons (pe_op op_addU (pv 8) (pe_tup (pa_cons pe_bl pa_nil))) pa_nil))))) (pe_c (c_law_draw G) hr (by decide) rfl (pa_cons (pv 0) (pa_cons pe_int pa_nil))) (fun _ _ => rfl)) pa_nil)))) pa_nil))))))
  pss_nil)
  (pss_cons (ps_if (pt_cmpR (op_eqD (hu64 hr)) (pv 4) pe_int (nomark _))
  (pss_one (ps_ret (pe_c (c_law_set G) hr (by decide) rfl (pa_cons (pv 3) (pa_cons (pv 6) (pa_cons (pe_c (c_law_odd G) hr (by decide) rfl (pa_cons (pv 0) pa_nil)) pa_nil))))))
  pss_nil)
  (pss_one (ps_ret (pe_ix ix_seq (pe_lst (pa_cons (pe_callTy call_lstU rfl G.b_list (by decide +kernel) (pa_cons (pv 3) pa_nil)) (pa_cons (pe_slice sl_U (pv 3) po_none (po_some (pv 6))) (pa_cons pe_non pa_nil)))) (pe_c (c_law_draw G) hr (by decide) rfl (pa_cons (pv 0) (pa_cons pe_int pa_nil))) (fun _ _ => rfl)))))))))))))))
theorem c_law_spoilt {P : Program} {w : World} {K : PySem.W.Frag} {mg : Str → Option Value} {base : Heap} (G : Gx K mg) : Cal P w K mg base 6 "_law_spoilt" (spH K w_law_spoilt) [] := by
  obtain ⟨f, fd, F, hm⟩ := G.f_law_spoilt
  refine ⟨f, fd, ["box", "parts"], [], F.ok sc_law_spoilt (fun vs H Q E h => len_h h fun ds k z => (len_law_spoilt ds k z)) (fun cdv A outer s H vs Q E hr h => ⟨t_law_spoilt K, PSs.nox ?_, entry_h h (by decide) pure_law_spoilt⟩), hm, F.kp, F.bindsN (fun _ _ _ _ _ _ us hl => match us, hl with | [_, _], _ => rfl), .nil⟩
  exact (pss_cons (ps_set (i := 2) sc_law_spoilt.nd rfl (by first | exact Or.inl rfl | exact Or.inr rfl) (pe_callTy call_lstU rfl G.b_list (by decide +kernel) (pa_cons (pv 1) pa_nil)))
  (pss_cons (ps_set (i := 3) sc_law_spoilt.nd rfl (by first | exact Or.inl rfl | exact Or.inr rfl) (pe_c (c_law_draw G) hr (by decide) rfl (pa_cons (pv 0) (pa_cons pe_int pa_nil))))
  (pss_cons (ps_if (pt_cmpR (op_eqD (hu64 hr)) (pv 3) pe_int (nomark _))
  (pss_one (ps_asg (pe_ix ix_seq (pe_lst (pa_cons (pe_op op_addU (pe_ix ix_seq (pv 2) pe_int (fun _ _ => rfl)) pe_int) (pa_cons (pe_op op_subU (pe_ix ix_seq (pv 2) pe_int (fun _ _ => rfl)) pe_int) (pa_cons (pe_c (c_law_odd G) hr (by decide) rfl (pa_cons (pv 0) pa_nil)) pa_nil)))) (pe_c (c_law_draw G) hr (by decide) rfl (pa_cons (pv 0) (pa_cons pe_int pa_nil))) (fun _ _ => rfl)) (pg_sub (pv 2) pe_int set_list)))
  (pss_one (ps_if (pt_cmpR op_ltU (pv 3) pe_int (nomark _))
  (pss_one (ps_asg (pe_c (c_law_leaf_spoilt G) hr (by decide) rfl (pa_cons (pv 0) (pa_cons (pe_ix ix_seq (pv 2) pe_int (fun _ _ => rfl)) pa_nil))) (pg_sub (pv 2) pe_int set_list)))
  (pss_one (ps_asg (pe_c (c_law_node_spoilt G) hr (by decide) rfl (pa_cons (pv 0) (pa_cons (pe_ix ix_seq (pv 2) pe_int (fun _ _ => rfl)) (pa_cons (pe_ix ix_seq (pv 2) pe_int (fun _ _ => rfl)) (pa_cons (pe_ix ix_seq (pv 2) pe_int (fun _ _ => rfl)) pa_nil))))) (pg_sub (pv 2) pe_int set_list))))))
  (pss_cons (ps_if (pt_cmpR (op_eqD (hu64 hr)) (pv 3) pe_int (nomark _))
  (pss_one (ps_asg (pe_c (c_law_odd G) hr (by decide) rfl (pa_cons (pv 0) pa_nil)) (pg_sub (pv 2) (pe_c (c_law_draw G) hr (by decide) rfl (pa_cons (pv 0) (pa_cons pe_int pa_nil))) set_list)))
  pss_nil)
  (pss_one (ps_ret (pv 2)))))))
end LawK08
end
section
/-! PWRepr: repr of plain data, called with no repr under way. -/
namespace LawK08
open PySem PySem.Spec PyProof.Rows L2 PW
section
variable {X : Cx}
/-- repr(x), x a tuple or a list of plain data -/
def rRepr (K : PySem.W.Frag) : List V → Hp → VK → Prop := fun xs H Q => ∃ a d, xs = [.ref a] ∧ Dp K H (.ref a) d ∧ d.showable = true ∧ d.hasDict = false ∧ d.depth ≤ 6700 ∧ d.shown.length ≤ sizeLine ∧ Q (.str d.shown) H
theorem call_reprG (hg : X.A.guards = some []) (hu : X.A.units ≤ 1000) : CallR X (.builtin "repr") (rRepr X.K) := by
  intro pins s σ H xs us Q I r h
  obtain ⟨a, d, rfl, hd, h1, h2, h3, h4, q⟩ := h
  obtain ⟨u, rfl, ru⟩ := vals1 r
  cases ru
  obtain ⟨as, rd⟩ := Dp.reads I d (.ref a) (.ref a) hd rfl
  exact repr_of_reads' rd h1 (PyData.noDict_hsm h2) hg (by show X.A.units + (d.depth + 1) < 9900; omega) (fun _ _ e => e) (fun h' u tk k => ⟨.str _, H, I.kept (t' := tk) k, ⟨u, rfl⟩, q⟩) h4
end
theorem int_len {i : Int} (h : i.natAbs < 10 ^ 61) : (((toString i : String) : Str)).length ≤ 66 := by
  have h1 := int_text_length_le10 (a := i) (k := 61) (by decide) h
  rw [PySem.ofString_length]
  omega
theorem piled_tup (ts : List Str) : (tupleText ts).length ≤ piled ts + 2 := fmt_text ts
theorem piled_lst (ts : List Str) : (listText ts).length ≤ piled ts + 3 := by
  have h := listText_len_le ts
  have e : piled ts = (ts.map (·.length)).sum + 2 * ts.length := by
    induction ts with
    | nil => rfl
    | cons t r ih =>
      rw [piled_cons, List.map_cons, List.sum_cons, List.length_cons]
      have := ih (listText_len_le r)
      omega
  omega
mutual
theorem shown_wt : ∀ x : D, dSm x = true → (D.py x).shown.length ≤ wt x
  | .non, _ => by decide
  | .bl b, _ => by cases b <;> decide
  | .int i, h => by
    rw [show D.py (.int i) = .int i from rfl, PyData.shown_int]
    exact int_len (of_decide_eq_true h)
  | .str s, h => by
    rw [show D.py (.str s) = .str s from rfl, PyData.shown_str]
    have := StrLaws.reprText_len s fun c hc => of_decide_eq_true (List.all_eq_true.mp (Bool.and_eq_true_iff.mp h).2 c hc)
    show _ ≤ 10 * s.length + 4
    omega
  | .tup xs, h => by
    have h1 := shownL_wt xs h
    have h2 := piled_tup (PyData.shownAll (D.pyL xs))
    show (PyData.shown (.tuple (D.pyL xs))).length ≤ 4 + wtL xs
    rw [show PyData.shown (.tuple (D.pyL xs)) = tupleText (PyData.shownAll (D.pyL xs)) by simp only [PyData.shown]]
    omega
  | .lst xs, h => by
    have h1 := shownL_wt xs h
    have h2 := piled_lst (PyData.shownAll (D.pyL xs))
    show (PyData.shown (.list (D.pyL xs))).length ≤ 4 + wtL xs
    rw [show PyData.shown (.list (D.pyL xs)) = listText (PyData.shownAll (D.pyL xs)) by simp only [PyData.shown]]
    omega
  | .emp, h => by cases h
  | .obj _ _ _, h => by cases h
  | .dct _ _, h => by cases h
theorem shownL_wt : ∀ xs : List D, dSmL xs = true → piled (PyData.shownAll (D.pyL xs)) ≤ wtL xs
  | [], _ => by
    rw [show D.pyL [] = [] from rfl, PyData.shownAll_nil]
    exact Nat.le_refl _
  | y :: ys, h => by
    obtain ⟨h1, h2⟩ := Bool.and_eq_true_iff.mp (show (dSm y && dSmL ys) = true from h)
    have h3 := shown_wt y h1
    have h4 := shownL_wt ys h2
    rw [show D.pyL (y :: ys) = D.py y :: D.pyL ys from rfl, PyData.shownAll_cons, piled_cons]
    show _ ≤ wt y + 2 + wtL ys
    omega
end
mutual
theorem show_ok : ∀ x : D, dSm x = true → D.pln x = true ∧ (D.py x).showable = true ∧ (D.py x).hasDict = false ∧ (D.py x).depth ≤ dpt x
  | .non, _ => ⟨rfl, by decide, by decide, by decide⟩
  | .bl b, _ => by cases b <;> exact ⟨rfl, by decide, by decide, by decide⟩
  | .int i, h => by
    refine ⟨rfl, ?_, rfl, Nat.le_refl _⟩
    have h1 : i.natAbs < 10 ^ 61 := of_decide_eq_true h
    show decide (i.natAbs.log2 < 1920) = true
    refine decide_eq_true ?_
    by_cases z : i.natAbs = 0
    · rw [z]; decide
    · exact (Nat.log2_lt z).mpr (Nat.lt_of_lt_of_le (Nat.lt_trans h1 (by decide : 10 ^ 61 < 2 ^ 210)) (Nat.pow_le_pow_right (by decide) (by decide)))
  | .str s, h => ⟨rfl, rfl, rfl, Nat.le_refl _⟩
  | .tup xs, h => by
    obtain ⟨h1, h2, h3, h4⟩ := showL_ok xs h
    refine ⟨h1, ?_, ?_, ?_⟩
    · show PyData.showable (.tuple (D.pyL xs)) = true
      simpa only [PyData.showable] using h2
    · show PyData.hasDict (.tuple (D.pyL xs)) = false
      simpa only [PyData.hasDict] using h3
    · show PyData.depth (.tuple (D.pyL xs)) ≤ 1 + dptL xs
      simp only [PyData.depth]
      omega
  | .lst xs, h => by
    obtain ⟨h1, h2, h3, h4⟩ := showL_ok xs h
    refine ⟨h1, ?_, ?_, ?_⟩
    · show PyData.showable (.list (D.pyL xs)) = true
      simpa only [PyData.showable] using h2
    · show PyData.hasDict (.list (D.pyL xs)) = false
      simpa only [PyData.hasDict] using h3
    · show PyData.depth (.list (D.pyL xs)) ≤ 1 + dptL xs
      simp only [PyData.depth]
      omega
  | .emp, h => by cases h
  | .obj _ _ _, h => by cases h
  | .dct _ _, h => by cases h
theorem showL_ok : ∀ xs : List D, dSmL xs = true → D.plnL xs = true ∧ PyData.showableAll (D.pyL xs) = true ∧ PyData.hasDictAll (D.pyL xs) = false ∧ PyData.depthAll (D.pyL xs) ≤ dptL xs
  | [], _ => ⟨rfl, by simp only [D.pyL, PyData.showableAll], by simp only [D.pyL, PyData.hasDictAll], by simp only [D.pyL, PyData.depthAll]; exact Nat.zero_le _⟩
  | y :: ys, h => by
    obtain ⟨h1, h2⟩ := Bool.and_eq_true_iff.mp (show (dSm y && dSmL ys) = true from h)
    obtain ⟨a1, a2, a3, a4⟩ := show_ok y h1
    obtain ⟨b1, b2, b3, b4⟩ := showL_ok ys h2
    refine ⟨Bool.and_eq_true_iff.mpr ⟨a1, b1⟩, ?_, ?_, ?_⟩
    · simp only [D.pyL, PyData.showableAll, a2, b2, Bool.and_self]
    · simp only [D.pyL, PyData.hasDictAll, a3, b3, Bool.or_self]
    · simp only [D.pyL, PyData.depthAll]
      show max _ _ ≤ max (dpt y) (dptL ys)
      omega
end
/-- the text of plain data -/
def reprD (x : D) : Str := (D.py x).shown
theorem c_repr {K : PySem.W.Frag} {xs : List D} {kk : Res → Prop} (h1 : dSm (.tup xs) = true) (h2 : wt (.tup xs) ≤ 16000000) (h3 : dpt (.tup xs) ≤ 6700) (g : kk (.d (.str (reprD (.tup xs))))) : CaD K (rRepr K) [.tup xs] kk := by
  intro M H us Q tr hl hp q
  match us, hl with
  | [u], _ =>
    have pk := hp 0 u (.tup xs) rfl rfl
    obtain ⟨a1, a2, a3, a4⟩ := show_ok (.tup xs) h1
    have sw := shown_wt (.tup xs) h1
    obtain ⟨a, vs, e, c1, d1⟩ := pk.tup
    subst e
    exact ⟨a, _, rfl, Dp.tup c1 (DaAll.dp d1 a1), a2, a3, Nat.le_trans a4 h3, by rw [sizeLine_eq]; exact Nat.le_trans sw (by omega), q _ H (.d (.str (reprD (.tup xs)))) (PW.Ext.refl H) rfl g⟩
end LawK08
end
section
namespace LawK08
open PySem PySem.Spec PyProof.Rows L2 C8 PW
local macro_rules | `(tactic| walk_at "env") => `(tactic| (first | (dsimp only [sto, stoE, frz, frzE, frzAll, wipeE, Res.ent, List.set, List.getElem?_cons_zero, List.getElem?_cons_succ]; done) | (dsimp only [sto, stoE, frz, frzE, frzAll, wipeE, Res.ent, List.set, List.getElem?_cons_zero, List.getElem?_cons_succ]; rfl) | rfl))
local macro_rules | `(tactic| walk_at "mem") => `(tactic| first | assumption | exact cut_sub (by assumption) | exact List.mem_cons_of_mem _ (by assumption) | (simp only [List.mem_cons, true_or, or_true]; done))
local macro_rules | `(tactic| walk_at "jn") => `(tactic| first | assumption | with_unfolding_all exact rfl | exact jnTr (by assumption) (by assumption) | exact jnTr (cut_sub (by assumption)) (by assumption) | exact jnTr (List.mem_cons_of_mem _ (by assumption)) (by assumption) | exact jnT (by assumption) (by walk_at "mem") | exact jnL' (by assumption) (by walk_at "mem") | exact jnT2 (by assumption) (by assumption) (by walk_at "mem"))
local macro_rules | `(tactic| walk_at "sz") => `(tactic| first | with_unfolding_all exact Nat.le_of_ble_eq_true rfl | assumption | exact szl (by assumption) | exact szS (by walk_at "jn") | exact szT (by walk_at "jn") | exact szTl (by assumption) | exact szL (by walk_at "jn") | exact szG (by walk_at "jn") | ((with_reducible show (PW.cutD _ _ _).length ≤ _); refine szC ?_; walk_at "sz") | with_unfolding_all exact szl (Nat.le_of_ble_eq_true rfl))
local macro_rules | `(tactic| walk_at "bi") => `(tactic| first | with_unfolding_all exact rfl | assumption | exact jn_bi (by walk_at "jn"))
local macro_rules | `(tactic| walk_at "pw") => `(tactic| first
  | ((with_reducible show PW.XE _ _ _ _); first | with_reducible refine xe_var_d (by with_unfolding_all exact rfl) ?_ | with_reducible refine xe_var_o (by with_unfolding_all exact rfl) ?_ | with_reducible refine xe_int ?_ | with_reducible refine xe_str ?_ | with_reducible refine xe_bl ?_ | with_reducible refine xe_non ?_ | with_reducible refine ye_emp ?_ | with_reducible refine xe_op ?_ | with_reducible refine xe_un ?_ | with_reducible refine xe_if ?_ | with_reducible refine xe_andV ?_ | with_reducible refine xe_orV ?_ | with_reducible refine xe_notV ?_ | with_reducible refine xe_chain ?_ | with_reducible refine xe_isi D.isTup isi_tuple ?_ | with_reducible refine xe_isi D.isLst isi_list ?_ | with_reducible refine xe_isi D.isStr isi_str ?_ | with_reducible refine xe_isi D.isInt isi_int ?_ | with_reducible refine xe_isi D.isBool isi_bool ?_ | with_reducible refine xe_isi D.isDct isi_dict ?_ | with_reducible refine xe_isi2 D.isTup D.isLst isi_tuple isi_list ?_ | with_reducible refine ye_lenSet ?_ | with_reducible refine ye_join ?_ | with_reducible refine xe_cb ?_ | with_reducible refine xe_callS ?_ | with_reducible refine ye_callH (by with_unfolding_all exact rfl) ?_ | with_reducible refine ye_call ?_ | with_reducible refine ye_tup ?_ | with_reducible refine ye_lst ?_ | with_reducible refine xe_sl ?_ | with_reducible refine ye_revT ?_ | with_reducible refine ye_rg1 ?_ | with_reducible refine ye_rg2 ?_ | with_reducible refine ye_meth (by with_unfolding_all exact rfl) (fun _ _ _ h => ty_list h) ?_ | with_reducible refine ye_meth0 (by with_unfolding_all exact rfl) (fun _ _ _ h => ty_list h) ?_)
  | ((with_reducible show PW.XA _ _ _ _); first | with_reducible refine xa_nil ?_ | with_reducible refine xa_cons ?_)
  | ((with_reducible show PW.XT _ _ _ _); first | with_reducible refine xt_yes ?_ | with_reducible refine xt_test ?_ | with_reducible refine xt_B ?_ | with_reducible refine xt_not ?_ | with_reducible refine xt_and ?_ | with_reducible refine xt_or ?_)
  | ((with_reducible show PW.XS _ _ _ _); first | with_reducible refine xs_seq ?_ | with_reducible refine xs_next ?_ | with_reducible refine ys_asg ?_ | with_reducible refine xs_if ?_ | with_reducible refine ys_ret ?_ | with_reducible refine xs_retN ?_ | with_reducible refine xs_drop ?_ | with_reducible refine xs_break ?_ | with_reducible refine xs_cont ?_ | with_reducible refine ys_par (by with_unfolding_all decide) ?_ | with_reducible refine ys_par3 (by with_unfolding_all decide) (by with_unfolding_all decide) (by with_unfolding_all decide) ?_ | with_reducible refine ys_unp2 (by with_unfolding_all decide) ?_ | with_reducible refine ys_unp3 (by with_unfolding_all decide) (by with_unfolding_all decide) (by with_unfolding_all decide) ?_ | with_reducible refine ys_setix ?_ | with_reducible refine ys_asgG ?_ | with_reducible refine xs_for ?_)
  | ((with_reducible show PW.OpD _ _ _ _ _); first | with_reducible refine o_addI ?_ | with_reducible refine o_subI ?_ | with_reducible refine o_mulI (by first | with_unfolding_all exact .inl ⟨by decide, by decide⟩ | with_unfolding_all exact .inr ⟨by decide, by decide⟩) ?_ | with_reducible refine o_mulI (cmulL (by omega) (by omega)) ?_ | with_reducible refine o_mulI (cmulR (by omega) (by omega)) ?_ | with_reducible refine o_divI (by with_unfolding_all exact ⟨by decide, by decide⟩) ?_ | with_reducible refine o_modI (by with_unfolding_all decide) ?_ | with_reducible refine o_powI (by with_unfolding_all exact ⟨by decide, by decide, by decide⟩) ?_ | with_reducible refine o_ltI ?_ | with_reducible refine o_leI ?_ | with_reducible refine o_leUI ?_ | with_reducible refine o_leP ?_ | with_reducible refine o_shlI (cpow1 (by omega) (by omega)) ?_ | with_reducible refine o_gtI ?_ | with_reducible refine o_geI ?_ | with_reducible refine o_eqI ?_ | with_reducible refine o_neI ?_ | with_reducible refine o_eqB ?_ | with_reducible refine o_neB ?_ | with_reducible refine o_isNo ?_ | with_reducible refine o_isNotNo ?_ | with_reducible refine o_isBo ?_ | with_reducible refine o_isNotBo ?_ | with_reducible refine o_inC ?_ | with_reducible refine o_notInC ?_ | with_reducible refine o_ix0 ?_ | with_reducible refine o_ix1 ?_ | with_reducible refine o_ix2 ?_ | ((with_reducible show PW.OpD _ (rIx _) (.tup _) (.int 0) _); refine o_ix0e (ne_len (by omega)) ?_; intro y ys e; subst e) | with_reducible refine o_ixT (by with_unfolding_all exact rfl) ?_ | with_reducible refine o_ixL (by with_unfolding_all exact rfl) ?_)
  | ((with_reducible show PW.CaD _ _ _ _); first | with_reducible refine c_lenT ?_ | with_reducible refine c_lenL ?_ | with_reducible refine c_intI ?_ | with_reducible refine c_intB ?_ | with_reducible refine c_absI ?_ | with_reducible refine c_allM ?_ | with_reducible refine c_anyM ?_ | with_reducible refine c_tupL ?_ | with_reducible refine c_tupT ?_ | with_reducible refine c_lstL ?_ | with_reducible refine c_lstT ?_ | ((with_reducible show CaD _ (rLenU _) [.str _] _); with_reducible refine c_lenS (by walk_at "sz") ?_))
  | ((with_reducible show PW.XI _ _ _ _); first | with_reducible refine yi_seqU ?_ | with_reducible refine yi_enum ?_ | with_reducible refine yi_zip ?_ | with_reducible refine xi_range1 ?_ | with_reducible refine xi_range2 ?_)
  | ((with_reducible show PW.XG _ _ _ _ _); first | with_reducible refine yg_name ?_ | with_reducible refine xg_tup (by with_unfolding_all exact rfl) ?_)
  | ((with_reducible show PW.XGs _ _ _ _ _); first | with_reducible refine xgs_nil ?_ | with_reducible refine xgs_cons ?_)
  | ((with_reducible show PW.XM _ _ _ _ _); first | with_reducible refine xm_nil ?_ | with_reducible refine xm_cons ?_)
  | ((with_reducible show PW.XO _ _ _ _); first | with_reducible refine xo_none ?_ | with_reducible refine xo_some ?_)
  | ((with_reducible show PW.SlD _ _ _ _ _ _); first | with_reducible refine sl_tail ?_ | with_reducible refine sl_T ?_ | with_reducible refine sl_L ?_)
  | ((with_reducible show PW.UnD _ _ _ _); first | with_reducible refine u_neg ?_)
  | ((with_reducible show PW.back _ _ _); first | with_reducible refine back_d ?_ | with_reducible refine back_nw ?_ | with_reducible refine back_v (by with_unfolding_all exact rfl) ?_)
  | walk_at "cnt"
  | walk_at "br")
local macro_rules | `(tactic| walk_at "cnt") => `(tactic| first
  | with_reducible refine ex_env (by walk_at "env") ?_
  | ((with_reducible show ∃ x : List D, _ = some x ∧ x.length ≤ _ ∧ _); with_reducible refine ex_pks2 (by with_unfolding_all exact rfl) (by walk_at "sz") ?_)
  | with_reducible refine ex_pks (by with_unfolding_all exact rfl) ?_
  | ((with_reducible show ∃ x : D, _ = some x ∧ x.isBuiltin = true ∧ _); with_reducible refine ex_pk2 (by with_unfolding_all exact rfl) (by walk_at "bi") ?_)
  | with_reducible refine lc_fin (by with_unfolding_all exact rfl) (by with_unfolding_all exact rfl) ?_
  | with_reducible refine lcf_fin (by with_unfolding_all exact rfl) (by with_unfolding_all exact rfl) ?_
  | with_reducible refine ex_pk (by with_unfolding_all exact rfl) ?_
  | with_reducible refine ex_op (by with_unfolding_all exact rfl) (by with_unfolding_all exact rfl) ?_
  | with_reducible refine ex_it (by with_unfolding_all exact rfl) (by with_unfolding_all exact rfl) ?_
  | with_reducible refine ex_its (by with_unfolding_all exact rfl) (by with_unfolding_all exact rfl) ?_
  | with_reducible refine ex_zip (by with_unfolding_all exact rfl) (by with_unfolding_all exact rfl) ?_
  | with_reducible refine ex_bl ?_
  | with_reducible refine ex_int ?_
  | with_reducible refine ex_sc (by with_unfolding_all exact rfl) ?_
  | with_reducible refine and_brT ?_
  | with_reducible refine and_brF ?_
  | with_reducible refine and_rbT ?_
  | with_reducible refine and_rbF ?_
  | with_reducible refine and_nT ?_
  | with_reducible refine and_nF ?_
  | with_reducible refine and_mT ?_
  | with_reducible refine and_mF ?_
  | with_reducible refine and_br ?_ ?_
  | with_reducible refine and_rb ?_ ?_
  | with_reducible refine ⟨nv_d, ?_⟩
  | with_reducible refine ⟨nv_nw, ?_⟩)
local macro_rules | `(tactic| walk_at "br") => `(tactic| first
  | (with_reducible refine br_tup ?_; intro xs e; subst e)
  | (with_reducible refine br_tupN ?_; intro xs e; subst e)
  | (with_reducible refine br_lst ?_; intro xs e; subst e)
  | (with_reducible refine br_lstN ?_; intro xs e; subst e)
  | (with_reducible refine br_str ?_; intro xs e; subst e)
  | (with_reducible refine br_strN ?_; intro xs e; subst e)
  | (with_reducible refine br_non ?_; intro e; subst e)
  | (with_reducible refine br_nonN ?_; intro e; subst e)
  | (with_reducible refine br_t ?_; intro h; first | (cases h; done) | (simp only [lenc, List.length_nil, decide_eq_true_eq, decide_eq_false_iff_not] at h; omega) | exact absurd (show true = false from h) (by decide) | exact absurd (show false = true from h) (by decide) | (simp only [lenc, List.length_nil, Bool.not_eq_true', Bool.not_eq_false', decide_eq_true_eq, decide_eq_false_iff_not] at h) | skip)
  | (with_reducible refine br_f ?_; intro h; first | (cases h; done) | (simp only [lenc, List.length_nil, decide_eq_true_eq, decide_eq_false_iff_not] at h; omega) | exact absurd (show true = false from h) (by decide) | exact absurd (show false = true from h) (by decide) | (simp only [lenc, List.length_nil, Bool.not_eq_true', Bool.not_eq_false', decide_eq_true_eq, decide_eq_false_iff_not] at h) | skip)
  | (with_reducible refine signs_one ?_; intro c)
  | (with_reducible refine fa_mem ?_; intro d hd)
  | ((with_reducible show _ ≤ sizeLine ∧ _); with_reducible refine lc_split (by walk_at "sz") (by walk_at "env") ?_ ?_)
  | ((with_reducible show wipeE _ _ = _ ∧ _); with_reducible refine lc_env (by walk_at "env") ?_)
  | ((with_reducible show (_ : D) = _); exact rfl))
local macro_rules | `(tactic| walk_at "pws") => `(tactic| repeat' walk_at "pw")
local macro_rules | `(tactic| walk_at "pw") => `(tactic| first
  | ((with_reducible show w_is_integer _ _); with_reducible refine i_is_integer (by walk_at "bi") ?_) | ((with_reducible show w_is_within _ _); with_reducible refine i_is_within (by walk_at "bi") ?_) | ((with_reducible show w_is_tuple_of _ _); with_reducible refine i_is_tuple_of (by walk_at "bi") ?_)
  | ((with_reducible show w_is_name _ _); with_reducible refine i_is_name (by walk_at "jn") ?_) | ((with_reducible show w_is_lock _ _); with_reducible refine i_is_lock (by walk_at "bi") ?_) | ((with_reducible show w_is_member _ _); with_reducible refine i_is_member (by walk_at "jn") ?_)
  | (with_reducible refine br_two ?_; intro a b e; subst e) | (with_reducible refine br_twoN ?_; intro a b e; subst e) | (with_reducible refine br_thr ?_; intro a b c e; subst e) | (with_reducible refine br_thrN ?_; intro a b c e; subst e)
  | (with_reducible refine br_int ?_; intro i e; subst e) | (with_reducible refine br_win ?_; intro i e h1 h2; subst e) | (with_reducible refine br_winN ?_; intro i e h1 h2; subst e))
local macro_rules | `(tactic| walk_at "pw") => `(tactic| first
  | ((with_reducible show w_law_int _ _); with_reducible refine i_law_int (by walk_at "bi") ?_) | ((with_reducible show w_law_named _ _); with_reducible refine i_law_named (by walk_at "jn") ?_) | ((with_reducible show w_law_node _ _); with_reducible refine i_law_node (by walk_at "jn") (by assumption) ?_))
local macro_rules | `(tactic| walk_at "pw") => `(tactic| first
  | (with_reducible refine br_l2 ?_; intro a b e; subst e) | (with_reducible refine br_l3 ?_; intro a b c e; subst e))
abbrev CT (K : PySem.W.Frag) : Addr := He.ga K "Tree"
abbrev CB (K : PySem.W.Frag) : Addr := He.ga K "BadTree"
/-- what the top says of the classes -/
structure Gt (P : Program) (K : PySem.W.Frag) (mg : Str → Option Value) : Prop where
  g : Gx K mg
  cT : Cls K (CT K)
  mkT : Mk K (CT K) (He.ma K (CT K) "__init__")
  n1 : NoAttr K (CT K) "height"
  n2 : NoAttr K (CT K) "leaves"
  n3 : NoAttr K (CT K) "nodes"
  fI : ∃ fd, FunD K "__init__" "Tree.__init__" (defArgs s_Tree_init) (defBody s_Tree_init) (defScope s_Tree_init) [] [] (He.ma K (CT K) "__init__") fd
  eqF : PySem.W.findIn K (.ref (CT K)) "__eq__" = some (some (.ref (He.ma K (CT K) "__eq__")))
  eqN : PySem.W.isFn K (.ref (He.ma K (CT K) "__eq__")) = true
  fE : ∃ fd, FunD K "__eq__" "Tree.__eq__" (defArgs s_Tree_eq) (defBody s_Tree_eq) (defScope s_Tree_eq) [] [] (He.ma K (CT K) "__eq__") fd
  nt : PySem.W.notFirst K (CT K) (.type "tuple") = true
  bad : PySem.SupX.SupC P K (CB K) (He.ma K (CB K) "__init__") "part" "BadTree.__init__"
  exc : ExcC K (CB K)
  kL : PySem.W.kitOne K (.ref (CB K)) (.ref (He.ga K "NoLeaf")) = some false
  kN : PySem.W.kitOne K (.ref (CB K)) (.ref (He.ga K "NoNode")) = some false
  kP : PySem.W.kitOne K (.ref (CB K)) (.ref (He.ga K "PostError")) = some true
  kT : PySem.W.kitOne K (.type "tuple") (.ref (CT K)) = some false
  tCl : PySem.W.findIn K (.ref (CT K)) "__class__" = some (some (.builtin "object.__class__"))
  tSp : PySem.W.specialIn K (.builtin "object.__class__") "__get__" = some (some (.builtin "getset_descriptor.__get__"))
  tTk : PySem.W.takesIn K (.builtin "object.__class__") = some true
  tMr : PySem.W.mroIn K (CT K) (.type "object") = some true
/-- Tree.__init__ at an instance of its own -/
def spTree (K : PySem.W.Frag) : Sp := fun vs H Q E => ∃ (M : Addr → Prop) (p dx : Addr) (x y z : D) (vx vy vz : V), vs = [.ref p, vx, vy, vz] ∧ Tr M H ∧ H p = some (.ins (CT K) dx []) ∧ DaAll M K H [vx, vy, vz] [x, y, z] ∧ x.jn = true ∧ y.jn = true ∧ z.jn = true ∧
  (badOf x y z = .non → ∀ H', (∀ b o, b ≠ p → H b = some o → H' b = some o) → H' p = some (.ins (CT K) dx [("height", vx), ("leaves", vy), ("nodes", vz)]) → Q .non H') ∧
  (∀ s, badOf x y z = .str s → ∀ H' d, PW.Ext H H' → H d = none → H' d = some (.xd [("part", .str s)]) → E (.ref (CB K)) (some d) H')
def c1 (K : PySem.W.Frag) : TT := (tNot (tB (PW.tCallS (spW K w_is_within) L2.E0 (tCons (tVar 1) (tCons (tC (.int 0)) (tCons (tC (.int 8)) tNil))))))
def c2 (K : PySem.W.Frag) : TT := (tNot (tB (PW.tCallS (spW K w_are_leaves) L2.E0 (tCons (tVar 2) (tCons (tVar 1) tNil)))))
def c3 (K : PySem.W.Frag) : TT := (tNot (tB (PW.tCallS (spW K w_are_nodes) L2.E0 (tCons (tVar 3) (tCons (tVar 1) (tCons (tVar 2) tNil))))))
def tEnd (K : PySem.W.Frag) : TS := tSeq (sFld K (tVar 0) (tVar 1) "height") (tSeq (sFld K (tVar 0) (tVar 2) "leaves") (sFld K (tVar 0) (tVar 3) "nodes"))
def tBad (K : PySem.W.Frag) (E : XK) (m : Str) : TS := tRaiseSup (CB K) "part" (fun cls d _ H => E cls d H) (tCons (tC (.str m)) tNil)
def t_Tree_init (K : PySem.W.Frag) (E : XK) : TS := tSeq (tIfS (c1 K) (tBad K E "height") tNext) (tSeq (tIfS (c2 K) (tBad K E "leaves") tNext) (tSeq (tIfS (c3 K) (tBad K E "nodes") tNext) (tEnd K)))
section
variable {K : PySem.W.Frag} {x y z : D}
theorem xt_c1 (hx : x.jn = true) : XT K (c1 K) [.u, .d x, .d y, .d z] fun b ρ => ρ = [.u, .d x, .d y, .d z] ∧ b = !isWithin x 0 8 := by
  unfold c1
  have hb := jn_bi hx
  walk_at "pws"
  exact ⟨rfl, rfl⟩
theorem xt_c2 {h : Nat} (hy : y.jn = true) (h8 : h ≤ 8) : XT K (c2 K) [.u, .d (.int h), .d y, .d z] fun b ρ => ρ = [.u, .d (.int h), .d y, .d z] ∧ b = !areLeaves y h := by
  unfold c2
  walk_at "pws"
  exact ⟨y, h, rfl, hy, h8, _, rfl, rfl, _, rfl, rfl, rfl⟩
theorem xt_c3 {h : Nat} {ls : List D} (hz : z.jn = true) (h8 : h ≤ 8) (hl : ls.length = 2 ^ h) : XT K (c3 K) [.u, .d (.int h), .d (.tup ls), .d z] fun b ρ => ρ = [.u, .d (.int h), .d (.tup ls), .d z] ∧ b = !areNodes z h ls := by
  unfold c3
  walk_at "pws"
  exact ⟨z, h, ls, rfl, hz, h8, hl, _, rfl, rfl, _, rfl, rfl, rfl⟩
end

theorem env_self {K : PySem.W.Frag} {M : Addr → Prop} {H : Hp} {u vx vy vz : V} {x y z : D} (tr : Tr M H) (d : DaAll M K H [vx, vy, vz] [x, y, z]) : Env K ⟨M, H, none⟩ H [some u, some vx, some vy, some vz] [.u, .d x, .d y, .d z] := by
  obtain ⟨_, _, e1, d1, _, _, e2, d2, _, _, e3, d3, _⟩ := d
  cases e1
  cases e2
  cases e3
  have own : ∀ (i : Nat) (w : D), ([Ent.u, .d x, .d y, .d z] : List Ent)[i]? = some (.own w) → False := fun i w h => by
    match i, h with
    | 0, h => cases h
    | 1, h => cases h
    | 2, h => cases h
    | 3, h => cases h
    | _ + 4, h => cases h
  have less : ∀ b, hot ⟨M, H, none⟩ [some u, some vx, some vy, some vz] [.u, .d x, .d y, .d z] b → M b := fun b hb => by
    rcases hb with hb | ⟨j, w, h1, _⟩
    · exact hb
    · exact (own j w h1).elim
  refine ⟨rfl, fun b o _ e => e, tr, fun a e => (nomatch e), fun i w b h => (own i w h).elim, fun i j w w2 b h => (own i w h).elim, fun i e he => ?_⟩
  match i, he with
  | 0, he => cases he; trivial
  | 1, he => cases he; exact ⟨vx, rfl, d1.less less⟩
  | 2, he => cases he; exact ⟨vy, rfl, d2.less less⟩
  | 3, he => cases he; exact ⟨vz, rfl, d3.less less⟩
  | _ + 4, he => cases he
theorem badOf_int {n : Nat} {y z : D} (i8 : (n : Int) ≤ 8) : badOf (.int (n : Int)) y z = (match y with
    | .tup ls => if areLeaves (.tup ls) n = true then (if areNodes z n ls = true then .non else .str "nodes") else .str "leaves"
    | _ => .str "leaves") := by
  unfold badOf
  show (if 0 ≤ (n : Int) ∧ (n : Int) ≤ 8 then _ else _) = _
  rw [if_pos ⟨by omega, i8⟩, Int.toNat_natCast]
  first
    | done
    | (cases y <;> rfl)
theorem pure_Tree_init {P : Program} {K : PySem.W.Frag} {mg : Str → Option Value} (G : Gt P K mg) {vs : List V} {H : Hp} {Q : VK} {E : XK} (h : spTree K vs H Q E) : t_Tree_init K E { nx := fun _ H' => Q .non H', rt := Q } (L2.start ["self", "height", "leaves", "nodes"] vs) H := by
  obtain ⟨M, p, dx, x, y, z, vx, vy, vz, rfl, tr, hp, d, jx, jy, jz, good, bad⟩ := h
  have E0 := env_self (u := .ref p) tr d
  have es : L2.start ["self", "height", "leaves", "nodes"] [.ref p, vx, vy, vz] = [some (.ref p), some vx, some vy, some vz] := rfl
  rw [es]
  unfold t_Tree_init
  refine r_seq (r_if ?_)
  refine xt_c1 jx _ H _ _ E0 fun b H1 ρ1 k1 E1 ⟨e1, eb⟩ => ?_
  subst e1 eb
  have go1 : PW.Ext H H1 := fun b o e => E1.go b o (fun z => nomatch z) e
  have raise : ∀ {Dn : Ends} {H3 : Hp} {s : Str}, PW.Ext H H3 → badOf x y z = .str s → tBad K E s Dn [some (.ref p), some vx, some vy, some vz] H3 := fun {Dn H3 s} ex e =>
    ⟨.str s, rfl, fun dd hd => bad s e _ dd (ex.trans (PW.Ext.new hd)) (ex.back hd) upd_same⟩
  cases w1 : isWithin x 0 8 with
  | false =>
    refine ⟨fun _ => raise (s := "height") go1 ?_, fun z => nomatch z⟩
    unfold badOf
    cases x with
    | int i =>
      have w1 : (decide (0 ≤ i) && decide (i ≤ 8)) = false := w1
      show (if 0 ≤ i ∧ i ≤ 8 then _ else _) = _
      rw [if_neg]
      intro ⟨h1, h2⟩
      rw [decide_eq_true h1, decide_eq_true h2] at w1
      cases w1
    | _ => rfl
  | true =>
    refine ⟨fun z => (nomatch z), fun _ => ?_⟩
    cases x with
    | int i =>
      have w1 : (decide (0 ≤ i) && decide (i ≤ 8)) = true := w1
      obtain ⟨w2, w3⟩ := Bool.and_eq_true_iff.mp w1
      have i0 := of_decide_eq_true w2
      have i8 := of_decide_eq_true w3
      obtain ⟨n, rfl⟩ := Int.eq_ofNat_of_zero_le i0
      have eB := badOf_int (y := y) (z := z) i8
      show (tSeq (tIfS (c2 K) (tBad K E "leaves") tNext) (tSeq (tIfS (c3 K) (tBad K E "nodes") tNext) (tEnd K))) { nx := fun _ H' => Q .non H', rt := Q } [some (.ref p), some vx, some vy, some vz] H1
      refine r_seq (r_if ?_)
      refine xt_c2 jy (by omega) _ H1 _ _ E1 fun b H2 ρ2 k2 E2 ⟨e2, eb2⟩ => ?_
      subst e2 eb2
      have go2 : PW.Ext H H2 := fun b o e => E2.go b o (fun z => nomatch z) e
      cases w4 : areLeaves y n with
      | false =>
        refine ⟨fun _ => raise (s := "leaves") go2 ?_, fun z => nomatch z⟩
        rw [eB]
        cases y with
        | tup ls => show (if areLeaves (.tup ls) n = true then _ else _) = _; rw [if_neg (by rw [w4]; exact Bool.false_ne_true)]
        | _ => rfl
      | true =>
        refine ⟨fun z => (nomatch z), fun _ => ?_⟩
        cases y with
        | tup ls =>
          have hl : ls.length = 2 ^ n := of_decide_eq_true (Bool.and_eq_true_iff.mp (Bool.and_eq_true_iff.mp (show (decide (ls.length = 2 ^ n) && _ && _) = true from w4)).1).1
          have eB : badOf (.int (n : Int)) (.tup ls) z = if areNodes z n ls = true then .non else .str "nodes" := by
            rw [eB]
            show (if areLeaves (.tup ls) n = true then _ else _) = _
            rw [if_pos w4]
          show (tSeq (tIfS (c3 K) (tBad K E "nodes") tNext) (tEnd K)) { nx := fun _ H' => Q .non H', rt := Q } [some (.ref p), some vx, some vy, some vz] H2
          refine r_seq (r_if ?_)
          refine xt_c3 jz (by omega) hl _ H2 _ _ E2 fun b H3 ρ3 k3 E3 ⟨e3, eb3⟩ => ?_
          subst e3 eb3
          have go3 : PW.Ext H H3 := fun b o e => E3.go b o (fun z => nomatch z) e
          cases w5 : areNodes z n ls with
          | false =>
            refine ⟨fun _ => raise (s := "nodes") go3 ?_, fun z => nomatch z⟩
            rw [eB, if_neg (by rw [w5]; exact Bool.false_ne_true)]
          | true =>
            refine ⟨fun z => (nomatch z), fun _ => ?_⟩
            have hp3 := go3 _ _ hp
            refine ⟨vx, rfl, .ref p, rfl, p, CT K, dx, [], rfl, hp3, G.cT, G.n1, by decide, ?_⟩
            refine ⟨vy, rfl, .ref p, rfl, p, CT K, dx, [("height", vx)], rfl, upd_same, G.cT, G.n2, by show 1 < 1000; decide, ?_⟩
            refine ⟨vz, rfl, .ref p, rfl, p, CT K, dx, [("height", vx), ("leaves", vy)], rfl, upd_same, G.cT, G.n3, by show 2 < 1000; decide, ?_⟩
            refine good (by rw [eB, if_pos w5]) _ (fun b o n e => ?_) upd_same
            rw [upd_ne n, upd_ne n, upd_ne n]
            exact go3 b o e
        | _ => cases w4
    | _ => cases w1

end LawK08
end
section
namespace LawK08
open PySem PySem.Spec PyProof.Rows L2 C8 PW
local macro_rules | `(tactic| walk_at "env") => `(tactic| (first | (dsimp only [sto, stoE, frz, frzE, frzAll, wipeE, Res.ent, List.set, List.getElem?_cons_zero, List.getElem?_cons_succ]; done) | (dsimp only [sto, stoE, frz, frzE, frzAll, wipeE, Res.ent, List.set, List.getElem?_cons_zero, List.getElem?_cons_succ]; rfl) | rfl))
local macro_rules | `(tactic| walk_at "mem") => `(tactic| first | assumption | exact cut_sub (by assumption) | exact List.mem_cons_of_mem _ (by assumption) | (simp only [List.mem_cons, true_or, or_true]; done))
local macro_rules | `(tactic| walk_at "jn") => `(tactic| first | assumption | with_unfolding_all exact rfl | exact jnTr (by assumption) (by assumption) | exact jnTr (cut_sub (by assumption)) (by assumption) | exact jnTr (List.mem_cons_of_mem _ (by assumption)) (by assumption) | exact jnT (by assumption) (by walk_at "mem") | exact jnL' (by assumption) (by walk_at "mem") | exact jnT2 (by assumption) (by assumption) (by walk_at "mem"))
local macro_rules | `(tactic| walk_at "sz") => `(tactic| first | with_unfolding_all exact Nat.le_of_ble_eq_true rfl | assumption | exact szl (by assumption) | exact szS (by walk_at "jn") | exact szT (by walk_at "jn") | exact szTl (by assumption) | exact szL (by walk_at "jn") | exact szG (by walk_at "jn") | ((with_reducible show (PW.cutD _ _ _).length ≤ _); refine szC ?_; walk_at "sz") | with_unfolding_all exact szl (Nat.le_of_ble_eq_true rfl))
local macro_rules | `(tactic| walk_at "bi") => `(tactic| first | with_unfolding_all exact rfl | assumption | exact jn_bi (by walk_at "jn"))
local macro_rules | `(tactic| walk_at "pw") => `(tactic| first
  | ((with_reducible show PW.XE _ _ _ _); first | with_reducible refine xe_var_d (by with_unfolding_all exact rfl) ?_ | with_reducible refine xe_var_o (by with_unfolding_all exact rfl) ?_ | with_reducible refine xe_int ?_ | with_reducible refine xe_str ?_ | with_reducible refine xe_bl ?_ | with_reducible refine xe_non ?_ | with_reducible refine ye_emp ?_ | with_reducible refine xe_op ?_ | with_reducible refine xe_un ?_ | with_reducible refine xe_if ?_ | with_reducible refine xe_andV ?_ | with_reducible refine xe_orV ?_ | with_reducible refine xe_notV ?_ | with_reducible refine xe_chain ?_ | with_reducible refine xe_isi D.isTup isi_tuple ?_ | with_reducible refine xe_isi D.isLst isi_list ?_ | with_reducible refine xe_isi D.isStr isi_str ?_ | with_reducible refine xe_isi D.isInt isi_int ?_ | with_reducible refine xe_isi D.isBool isi_bool ?_ | with_reducible refine xe_isi D.isDct isi_dict ?_ | with_reducible refine xe_isi2 D.isTup D.isLst isi_tuple isi_list ?_ | with_reducible refine ye_lenSet ?_ | with_reducible refine ye_join ?_ | with_reducible refine xe_cb ?_ | with_reducible refine xe_callS ?_ | with_reducible refine ye_callH (by with_unfolding_all exact rfl) ?_ | with_reducible refine ye_call ?_ | with_reducible refine ye_tup ?_ | with_reducible refine ye_lst ?_ | with_reducible refine xe_sl ?_ | with_reducible refine ye_revT ?_ | with_reducible refine ye_rg1 ?_ | with_reducible refine ye_rg2 ?_ | with_reducible refine ye_meth (by with_unfolding_all exact rfl) (fun _ _ _ h => ty_list h) ?_ | with_reducible refine ye_meth0 (by with_unfolding_all exact rfl) (fun _ _ _ h => ty_list h) ?_)
  | ((with_reducible show PW.XA _ _ _ _); first | with_reducible refine xa_nil ?_ | with_reducible refine xa_cons ?_)
  | ((with_reducible show PW.XT _ _ _ _); first | with_reducible refine xt_yes ?_ | with_reducible refine xt_test ?_ | with_reducible refine xt_B ?_ | with_reducible refine xt_not ?_ | with_reducible refine xt_and ?_ | with_reducible refine xt_or ?_)
  | ((with_reducible show PW.XS _ _ _ _); first | with_reducible refine xs_seq ?_ | with_reducible refine xs_next ?_ | with_reducible refine ys_asg ?_ | with_reducible refine xs_if ?_ | with_reducible refine ys_ret ?_ | with_reducible refine xs_retN ?_ | with_reducible refine xs_drop ?_ | with_reducible refine xs_break ?_ | with_reducible refine xs_cont ?_ | with_reducible refine ys_par (by with_unfolding_all decide) ?_ | with_reducible refine ys_par3 (by with_unfolding_all decide) (by with_unfolding_all decide) (by with_unfolding_all decide) ?_ | with_reducible refine ys_unp2 (by with_unfolding_all decide) ?_ | with_reducible refine ys_unp3 (by with_unfolding_all decide) (by with_unfolding_all decide) (by with_unfolding_all decide) ?_ | with_reducible refine ys_setix ?_ | with_reducible refine ys_asgG ?_ | with_reducible refine xs_for ?_)
  | ((with_reducible show PW.OpD _ _ _ _ _); first | with_reducible refine o_addI ?_ | with_reducible refine o_subI ?_ | with_reducible refine o_mulI (by first | with_unfolding_all exact .inl ⟨by decide, by decide⟩ | with_unfolding_all exact .inr ⟨by decide, by decide⟩) ?_ | with_reducible refine o_mulI (cmulL (by omega) (by omega)) ?_ | with_reducible refine o_mulI (cmulR (by omega) (by omega)) ?_ | with_reducible refine o_divI (by with_unfolding_all exact ⟨by decide, by decide⟩) ?_ | with_reducible refine o_modI (by with_unfolding_all decide) ?_ | with_reducible refine o_powI (by with_unfolding_all exact ⟨by decide, by decide, by decide⟩) ?_ | with_reducible refine o_ltI ?_ | with_reducible refine o_leI ?_ | with_reducible refine o_leUI ?_ | with_reducible refine o_leP ?_ | with_reducible refine o_shlI (cpow1 (by omega) (by omega)) ?_ | with_reducible refine o_gtI ?_ | with_reducible refine o_geI ?_ | with_reducible refine o_eqI ?_ | with_reducible refine o_neI ?_ | with_reducible refine o_eqB ?_ | with_reducible refine o_neB ?_ | with_reducible refine o_isNo ?_ | with_reducible refine o_isNotNo ?_ | with_reducible refine o_isBo ?_ | with_reducible refine o_isNotBo ?_ | with_reducible refine o_inC ?_ | with_reducible refine o_notInC ?_ | with_reducible refine o_ix0 ?_ | with_reducible refine o_ix1 ?_ | with_reducible refine o_ix2 ?_ | ((with_reducible show PW.OpD _ (rIx _) (.tup _) (.int 0) _); refine o_ix0e (ne_len (by omega)) ?_; intro y ys e; subst e) | with_reducible refine o_ixT (by with_unfolding_all exact rfl) ?_ | with_reducible refine o_ixL (by with_unfolding_all exact rfl) ?_)
  | ((with_reducible show PW.CaD _ _ _ _); first | with_reducible refine c_lenT ?_ | with_reducible refine c_lenL ?_ | with_reducible refine c_intI ?_ | with_reducible refine c_intB ?_ | with_reducible refine c_absI ?_ | with_reducible refine c_allM ?_ | with_reducible refine c_anyM ?_ | with_reducible refine c_tupL ?_ | with_reducible refine c_tupT ?_ | with_reducible refine c_lstL ?_ | with_reducible refine c_lstT ?_ | ((with_reducible show CaD _ (rLenU _) [.str _] _); with_reducible refine c_lenS (by walk_at "sz") ?_))
  | ((with_reducible show PW.XI _ _ _ _); first | with_reducible refine yi_seqU ?_ | with_reducible refine yi_enum ?_ | with_reducible refine yi_zip ?_ | with_reducible refine xi_range1 ?_ | with_reducible refine xi_range2 ?_)
  | ((with_reducible show PW.XG _ _ _ _ _); first | with_reducible refine yg_name ?_ | with_reducible refine xg_tup (by with_unfolding_all exact rfl) ?_)
  | ((with_reducible show PW.XGs _ _ _ _ _); first | with_reducible refine xgs_nil ?_ | with_reducible refine xgs_cons ?_)
  | ((with_reducible show PW.XM _ _ _ _ _); first | with_reducible refine xm_nil ?_ | with_reducible refine xm_cons ?_)
  | ((with_reducible show PW.XO _ _ _ _); first | with_reducible refine xo_none ?_ | with_reducible refine xo_some ?_)
  | ((with_reducible show PW.SlD _ _ _ _ _ _); first | with_reducible refine sl_tail ?_ | with_reducible refine sl_T ?_ | with_reducible refine sl_L ?_)
  | ((with_reducible show PW.UnD _ _ _ _); first | with_reducible refine u_neg ?_)
  | ((with_reducible show PW.back _ _ _); first | with_reducible refine back_d ?_ | with_reducible refine back_nw ?_ | with_reducible refine back_v (by with_unfolding_all exact rfl) ?_)
  | walk_at "cnt"
  | walk_at "br")
local macro_rules | `(tactic| walk_at "cnt") => `(tactic| first
  | with_reducible refine ex_env (by walk_at "env") ?_
  | ((with_reducible show ∃ x : List D, _ = some x ∧ x.length ≤ _ ∧ _); with_reducible refine ex_pks2 (by with_unfolding_all exact rfl) (by walk_at "sz") ?_)
  | with_reducible refine ex_pks (by with_unfolding_all exact rfl) ?_
  | ((with_reducible show ∃ x : D, _ = some x ∧ x.isBuiltin = true ∧ _); with_reducible refine ex_pk2 (by with_unfolding_all exact rfl) (by walk_at "bi") ?_)
  | with_reducible refine lc_fin (by with_unfolding_all exact rfl) (by with_unfolding_all exact rfl) ?_
  | with_reducible refine lcf_fin (by with_unfolding_all exact rfl) (by with_unfolding_all exact rfl) ?_
  | with_reducible refine ex_pk (by with_unfolding_all exact rfl) ?_
  | with_reducible refine ex_op (by with_unfolding_all exact rfl) (by with_unfolding_all exact rfl) ?_
  | with_reducible refine ex_it (by with_unfolding_all exact rfl) (by with_unfolding_all exact rfl) ?_
  | with_reducible refine ex_its (by with_unfolding_all exact rfl) (by with_unfolding_all exact rfl) ?_
  | with_reducible refine ex_zip (by with_unfolding_all exact rfl) (by with_unfolding_all exact rfl) ?_
  | with_reducible refine ex_bl ?_
  | with_reducible refine ex_int ?_
  | with_reducible refine ex_sc (by with_unfolding_all exact rfl) ?_
  | with_reducible refine and_brT ?_
  | with_reducible refine and_brF ?_
  | with_reducible refine and_rbT ?_
  | with_reducible refine and_rbF ?_
  | with_reducible refine and_nT ?_
  | with_reducible refine and_nF ?_
  | with_reducible refine and_mT ?_
  | with_reducible refine and_mF ?_
  | with_reducible refine and_br ?_ ?_
  | with_reducible refine and_rb ?_ ?_
  | with_reducible refine ⟨nv_d, ?_⟩
  | with_reducible refine ⟨nv_nw, ?_⟩)
local macro_rules | `(tactic| walk_at "br") => `(tactic| first
  | (with_reducible refine br_tup ?_; intro xs e; subst e)
  | (with_reducible refine br_tupN ?_; intro xs e; subst e)
  | (with_reducible refine br_lst ?_; intro xs e; subst e)
  | (with_reducible refine br_lstN ?_; intro xs e; subst e)
  | (with_reducible refine br_str ?_; intro xs e; subst e)
  | (with_reducible refine br_strN ?_; intro xs e; subst e)
  | (with_reducible refine br_non ?_; intro e; subst e)
  | (with_reducible refine br_nonN ?_; intro e; subst e)
  | (with_reducible refine br_t ?_; intro h; first | (cases h; done) | (simp only [lenc, List.length_nil, decide_eq_true_eq, decide_eq_false_iff_not] at h; omega) | exact absurd (show true = false from h) (by decide) | exact absurd (show false = true from h) (by decide) | (simp only [lenc, List.length_nil, Bool.not_eq_true', Bool.not_eq_false', decide_eq_true_eq, decide_eq_false_iff_not] at h) | skip)
  | (with_reducible refine br_f ?_; intro h; first | (cases h; done) | (simp only [lenc, List.length_nil, decide_eq_true_eq, decide_eq_false_iff_not] at h; omega) | exact absurd (show true = false from h) (by decide) | exact absurd (show false = true from h) (by decide) | (simp only [lenc, List.length_nil, Bool.not_eq_true', Bool.not_eq_false', decide_eq_true_eq, decide_eq_false_iff_not] at h) | skip)
  | (with_reducible refine signs_one ?_; intro c)
  | (with_reducible refine fa_mem ?_; intro d hd)
  | ((with_reducible show _ ≤ sizeLine ∧ _); with_reducible refine lc_split (by walk_at "sz") (by walk_at "env") ?_ ?_)
  | ((with_reducible show wipeE _ _ = _ ∧ _); with_reducible refine lc_env (by walk_at "env") ?_)
  | ((with_reducible show (_ : D) = _); exact rfl))
local macro_rules | `(tactic| walk_at "pws") => `(tactic| repeat' walk_at "pw")
local macro_rules | `(tactic| walk_at "pw") => `(tactic| first
  | ((with_reducible show w_is_integer _ _); with_reducible refine i_is_integer (by walk_at "bi") ?_) | ((with_reducible show w_is_within _ _); with_reducible refine i_is_within (by walk_at "bi") ?_) | ((with_reducible show w_is_tuple_of _ _); with_reducible refine i_is_tuple_of (by walk_at "bi") ?_)
  | ((with_reducible show w_is_name _ _); with_reducible refine i_is_name (by walk_at "jn") ?_) | ((with_reducible show w_is_lock _ _); with_reducible refine i_is_lock (by walk_at "bi") ?_) | ((with_reducible show w_is_member _ _); with_reducible refine i_is_member (by walk_at "jn") ?_)
  | (with_reducible refine br_two ?_; intro a b e; subst e) | (with_reducible refine br_twoN ?_; intro a b e; subst e) | (with_reducible refine br_thr ?_; intro a b c e; subst e) | (with_reducible refine br_thrN ?_; intro a b c e; subst e)
  | (with_reducible refine br_int ?_; intro i e; subst e) | (with_reducible refine br_win ?_; intro i e h1 h2; subst e) | (with_reducible refine br_winN ?_; intro i e h1 h2; subst e))
local macro_rules | `(tactic| walk_at "pw") => `(tactic| first
  | ((with_reducible show w_law_int _ _); with_reducible refine i_law_int (by walk_at "bi") ?_) | ((with_reducible show w_law_named _ _); with_reducible refine i_law_named (by walk_at "jn") ?_) | ((with_reducible show w_law_node _ _); with_reducible refine i_law_node (by walk_at "jn") (by assumption) ?_))
local macro_rules | `(tactic| walk_at "pw") => `(tactic| first
  | (with_reducible refine br_l2 ?_; intro a b e; subst e) | (with_reducible refine br_l3 ?_; intro a b c e; subst e))
section
variable {P : Program} {w : World} {K : PySem.W.Frag} {mg : Str → Option Value} {base : Heap}
theorem c_Tree_init (G : Gt P K mg) : ∃ fd, FnOk P w K mg base (L2.CX P w) 8 (He.ma K (CT K) "__init__") fd ["self", "height", "leaves", "nodes"] (spTree K) ∧ Binds K fd ["self", "height", "leaves", "nodes"] [] := by
  obtain ⟨fd, F⟩ := G.fI
  refine ⟨fd, F.ok sc_Tree_init (fun vs H Q E h => ?_) (fun cdv A outer s H vs Q E hr h => ⟨t_Tree_init K E, ?_, pure_Tree_init G h⟩), F.bindsN (fun _ _ _ _ _ _ us hl => match us, hl with | [_, _, _, _], _ => rfl)⟩
  · obtain ⟨_, _, _, _, _, _, _, _, _, rfl, _⟩ := h
    rfl
  · exact pss_cons (ps_if (pt_not (pt_val (pe_c (c_is_within G.g) hr (by decide) rfl (pa_cons (pv 1) (pa_cons pe_int (pa_cons (pe_gc rfl G.g.k_MOST_HIGH) pa_nil)))))) (pss_one (ps_raiseSup rfl G.bad G.g.c_BadTree hr (takes_of rfl rfl rfl rfl) rfl (pa_cons pe_str pa_nil))) pss_nil)
      (pss_cons (ps_if (pt_not (pt_val (pe_c (c_are_leaves G.g) hr (by decide) rfl (pa_cons (pv 2) (pa_cons (pv 1) pa_nil))))) (pss_one (ps_raiseSup rfl G.bad G.g.c_BadTree hr (takes_of rfl rfl rfl rfl) rfl (pa_cons pe_str pa_nil))) pss_nil)
      (pss_cons (ps_if (pt_not (pt_val (pe_c (c_are_nodes G.g) hr (by decide) rfl (pa_cons (pv 3) (pa_cons (pv 1) (pa_cons (pv 2) pa_nil)))))) (pss_one (ps_raiseSup rfl G.bad G.g.c_BadTree hr (takes_of rfl rfl rfl rfl) rfl (pa_cons pe_str pa_nil))) pss_nil)
      (pss_cons (ps_fld (pv 0) (pv 1) rfl) (pss_cons (ps_fld (pv 0) (pv 2) rfl) (pss_one (ps_fld (pv 0) (pv 3) rfl))))))
/-! ### == of trees -/
def spTEq (K : PySem.W.Frag) : Sp := fun vs H Q _ => ∃ (a b dx : Addr) (x y z : D) (vx vy vz : V), vs = [.ref a, .ref b] ∧ H a = some (.ins (CT K) dx [("height", vx), ("leaves", vy), ("nodes", vz)]) ∧ DaAll (fun _ => False) K H [vx, vy, vz] [x, y, z] ∧
  ((∃ (dy : Addr) (x' y' z' : D) (wx wy wz : V), H b = some (.ins (CT K) dy [("height", wx), ("leaves", wy), ("nodes", wz)]) ∧ DaAll (fun _ => False) K H [wx, wy, wz] [x', y', z'] ∧ (D.tup [x, y, z]).sh = true ∧ (D.tup [x', y', z']).sh = true ∧
    ∀ H', PW.Ext H H' → Q (.bl (PyData.eqv (D.tup [x, y, z]).py (D.tup [x', y', z']).py)) H') ∨ (∃ ys, SqT K H b ys ∧ Q (.bl false) H))
def t_eqRet (K : PySem.W.Frag) : TS := (tRet (tOp (rEqD K) (tTup (tCons (tFld K (tVar 0) "height") (tCons (tFld K (tVar 0) "leaves") (tCons (tFld K (tVar 0) "nodes") tNil)))) (tTup (tCons (tFld K (tVar 1) "height") (tCons (tFld K (tVar 1) "leaves") (tCons (tFld K (tVar 1) "nodes") tNil))))))
def t_Tree_eq (K : PySem.W.Frag) : TS := (tSeq (tIfS (tNot (tB (tCB (rIsi K) (tCons (tVar 1) (tCons (tC (.ref (He.ga K "Tree"))) tNil)))))
  (tRet (tC (.bl false)))
  tNext)
  (t_eqRet K))
theorem sqt_ty {H : Hp} {b : Addr} {ys : List V} (h : SqT K H b ys) : TyX K H (.ref b) (.type "tuple") := by
  rcases h with h | ⟨o, its, n, hk, hc, _⟩
  · rcases h with h | ⟨o, h⟩
    · exact .base (.tup h)
    · exact .fTuple h
  · exact .kTuple hk hc
theorem dp_of {H H' : Hp} {p : Addr} {vs : List V} {xs : List D} (hp : H' p = some (.tup vs)) (d : DaAll (fun _ => False) K H vs xs) (e : PW.Ext H H') (s : (D.tup xs).sh = true) : Dp K H' (.ref p) (D.tup xs).py :=
  Dp.tup (SqT.of hp) (DaAll.dp (d.mono (M' := fun _ => False) fun b o _ h => ⟨fun z => z, e b o h⟩) (Bool.and_eq_true_iff.mp s).1)
theorem pure_Tree_eq (G : Gt P K mg) {vs : List V} {H : Hp} {Q : VK} {E : XK} (h : spTEq K vs H Q E) : t_Tree_eq K { nx := fun _ H' => Q .non H', rt := Q } (L2.start ["self", "other"] vs) H := by
  obtain ⟨a, b, dx, x, y, z, vx, vy, vz, rfl, ha, da, h⟩ := h
  have es : L2.start ["self", "other"] [.ref a, .ref b] = [some (.ref a), some (.ref b)] := rfl
  rw [es]
  unfold t_Tree_eq
  refine r_seq (r_if ?_)
  rcases h with ⟨dy, x', y', z', wx, wy, wz, hb, db, s1, s2, q⟩ | ⟨ys, hb, q⟩
  · refine ⟨.ref b, rfl, .ref b, .ref (CT K), .ref (CT K), .ref (CT K), true, rfl, .own _, .base (.ins hb G.cT G.tCl G.tSp G.tTk G.tMr), ?_, true, rfl, fun z => (nomatch z), fun _ => ?_⟩
    · show (if (Value.ref (CT K) == Value.ref (CT K)) = true then some true else _) = some true
      rw [if_pos (by simp)]
    · show t_eqRet K { nx := fun _ H' => Q .non H', rt := Q } [some (.ref a), some (.ref b)] H
      refine ⟨.ref a, rfl, a, CT K, dx, _, vx, rfl, ha, G.cT, G.n1, rfl, .ref a, rfl, a, CT K, dx, _, vy, rfl, ha, G.cT, G.n2, rfl, .ref a, rfl, a, CT K, dx, _, vz, rfl, ha, G.cT, G.n3, rfl, by show 3 ≤ sizeLine; decide, fun p hp => ?_⟩
      have hb' : upd H p (.tup [vx, vy, vz]) b = some (.ins (CT K) dy [("height", wx), ("leaves", wy), ("nodes", wz)]) := by rw [upd_ne (ne_of_none hb hp)]; exact hb
      refine ⟨.ref b, rfl, b, CT K, dy, _, wx, rfl, hb', G.cT, G.n1, rfl, .ref b, rfl, b, CT K, dy, _, wy, rfl, hb', G.cT, G.n2, rfl, .ref b, rfl, b, CT K, dy, _, wz, rfl, hb', G.cT, G.n3, rfl, by show 3 ≤ sizeLine; decide, fun p2 hp2 => ?_⟩
      have e1 : PW.Ext H (upd H p (.tup [vx, vy, vz])) := PW.Ext.new hp
      have e2 : PW.Ext (upd H p (.tup [vx, vy, vz])) (upd (upd H p (.tup [vx, vy, vz])) p2 (.tup [wx, wy, wz])) := PW.Ext.new hp2
      exact ⟨_, _, dp_of (e2 _ _ upd_same) da (e1.trans e2) s1, dp_of upd_same db (e1.trans e2) s2, (Bool.and_eq_true_iff.mp s1).2, (Bool.and_eq_true_iff.mp s2).2, q _ (e1.trans e2)⟩
  · refine ⟨.ref b, rfl, .ref b, .ref (CT K), .type "tuple", .ref (CT K), false, rfl, .own _, sqt_ty hb, G.kT, false, rfl, fun _ => q, fun z => (nomatch z)⟩
theorem c_Tree_eq (G : Gt P K mg) : ∃ fd, FnOk P w K mg base L2.CX0 8 (He.ma K (CT K) "__eq__") fd ["self", "other"] (spTEq K) ∧ Binds K fd ["self", "other"] [] := by
  obtain ⟨fd, F⟩ := G.fE
  refine ⟨fd, F.ok sc_Tree_eq (fun vs H Q E h => ?_) (fun cdv A outer s H vs Q E hr h => ⟨t_Tree_eq K, PSs.nox ?_, pure_Tree_eq G (E := E) h⟩), F.bindsN (fun _ _ _ _ _ _ us hl => match us, hl with | [_, _], _ => rfl)⟩
  · obtain ⟨_, _, _, _, _, _, _, _, _, rfl, _⟩ := h
    rfl
  · exact (pss_cons (ps_if (pt_not (pt_val (pe_callB call_isi rfl G.g.b_isinstance (by decide +kernel) (pa_cons (pv 1) (pa_cons (pe_gc rfl ⟨_, G.g.c_Tree, rfl⟩) pa_nil)))))
      (pss_one (ps_ret pe_bl))
      pss_nil)
      (pss_one (ps_ret (pe_cmpR (op_eqD (hu64 hr)) (pe_tup (pa_cons (pe_fld (pv 0) rfl) (pa_cons (pe_fld (pv 0) rfl) (pa_cons (pe_fld (pv 0) rfl) pa_nil)))) (pe_tup (pa_cons (pe_fld (pv 1) rfl) (pa_cons (pe_fld (pv 1) rfl) (pa_cons (pe_fld (pv 1) rfl) pa_nil)))) (nomark _)))))
end
/-! ### trees as data -/
def NS : List Str := ["height", "leaves", "nodes"]
section
variable {K : PySem.W.Frag} {ρ : List Ent} {k : PW.KE} {ta : TA} {x y z x' y' z' : D}
theorem ye_tree (h : XA K ta ρ fun rs ρ1 => ∃ x y z, peekAll ρ1 rs = some [x, y, z] ∧ x.jn = true ∧ y.jn = true ∧ z.jn = true ∧ badOf x y z = .non ∧ ∃ ρ2, frzAll ρ1 rs = ρ2 ∧ k (.nw (.obj (CT K) NS [x, y, z])) ρ2) : PW.XE K (tMake (CT K) (spTree K) [] (fun _ _ _ => False) ta) ρ k := fun F H σ Q E0 q =>
  h F H σ _ E0 fun vs H1 rs ρ1 kp E1 hs ⟨x, y, z, px, jx, jy, jz, hb, ρ2, e, g⟩ => by
    subst e
    obtain ⟨E2, d2, k2⟩ := HeldAll.frz E1 hs px
    intro p dx hp hdx hne
    obtain ⟨vx, _, e1, d3, vy, _, e2, d4, vz, _, e3, d5, e4⟩ := id d2
    cases e4
    cases e3
    cases e2
    cases e1
    have x1 : PW.Ext H1 (upd H1 dx (.own p)) := PW.Ext.new hdx
    have hp2 : upd H1 dx (.own p) p = none := by rw [upd_ne (Ne.symm hne)]; exact hp
    have x2 : PW.Ext (upd H1 dx (.own p)) (upd (upd H1 dx (.own p)) p (.ins (CT K) dx [])) := PW.Ext.new hp2
    have x12 := x1.trans x2
    refine ⟨hot F σ (frzAll ρ1 rs), p, dx, x, y, z, vx, vy, vz, rfl, fun b hb => ?_, upd_same, d2.mono fun b o n e => ⟨n, x12 b o e⟩, jx, jy, jz, fun _ H' st hn => ?_, fun s es => ?_⟩
    · obtain ⟨o, ho⟩ := Option.ne_none_iff_exists'.mp (E2.hotTrk b hb)
      rw [x12 b o ho]
      exact fun z => nomatch z
    · have x3 : PW.Ext H1 H' := fun b o e => st b o (ne_of_none e hp) (x12 b o e)
      have rz : ResV (hot F σ (frzAll ρ1 rs)) K H1 H' (.ref p) (.nw (.obj (CT K) NS [x, y, z])) := ⟨p, rfl, hp, dx, _, hn, rfl, (d2.push hp).mono fun b o n e => ⟨n, x3 b o e⟩⟩
      exact ⟨rfl, q _ _ _ _ (hotR.res (kp.trans k2) x3 rz) (ResV.rv E2 x3 rz) g⟩
    · rw [hb] at es
      cases es
theorem pk_obj {M : Addr → Prop} {H : Hp} {u : V} (h : Pk M K H u (.obj (CT K) NS [x, y, z])) : ∃ p dx va vb vc, u = .ref p ∧ H p = some (.ins (CT K) dx [("height", va), ("leaves", vb), ("nodes", vc)]) ∧ DaAll (fun _ => False) K H [va, vb, vc] [x, y, z] := by
  have key : ∀ {M : Addr → Prop} {p dx : Addr} {fs : List (Str × V)}, H p = some (.ins (CT K) dx fs) → fs.map (·.1) = NS → DaAll M K H (fs.map (·.2)) [x, y, z] → ∃ va vb vc, fs = [(("height" : Str), va), (("leaves" : Str), vb), (("nodes" : Str), vc)] ∧ DaAll (fun _ => False) K H [va, vb, vc] [x, y, z] := fun {M p dx fs} _ hn hd => by
    match fs, hn, hd with
    | [(n1, va), (n2, vb), (n3, vc)], hn, hd =>
      have h1 : n1 = "height" := (List.cons.inj hn).1
      have h2 : n2 = "leaves" := (List.cons.inj (List.cons.inj hn).2).1
      have h3 : n3 = "nodes" := (List.cons.inj (List.cons.inj (List.cons.inj hn).2).2).1
      subst h1 h2 h3
      exact ⟨va, vb, vc, rfl, hd.now⟩
  rcases h with h | ⟨p, rfl, _, h⟩
  · obtain ⟨p, dx, fs, rfl, _, h1, h2, h3⟩ := h
    obtain ⟨va, vb, vc, e, h4⟩ := key h1 h2 h3
    exact ⟨p, dx, va, vb, vc, rfl, by rw [h1, e], h4⟩
  · obtain ⟨dx, fs, h1, h2, h3⟩ := h
    obtain ⟨va, vb, vc, e, h4⟩ := key h1 h2 h3
    exact ⟨p, dx, va, vb, vc, rfl, by rw [h1, e], h4⟩
/-- an own tree == a tree -/
theorem o_eqT {kk : Res → Prop} (h1 : (D.tup [x, y, z]).sh = true) (h2 : (D.tup [x', y', z']).sh = true) (g : kk (.d (.bl (PyData.eqv (D.tup [x, y, z]).py (D.tup [x', y', z']).py)))) : OpD K (rEqOwn K (CT K) (spTEq K)) (.obj (CT K) NS [x, y, z]) (.obj (CT K) NS [x', y', z']) kk := by
  intro M H u v Q tr hu hv q
  obtain ⟨p, dx, vx, vy, vz, rfl, hp, dp⟩ := pk_obj hu
  obtain ⟨p2, dy, wx, wy, wz, rfl, hp2, dp2⟩ := pk_obj hv
  exact ⟨p, dx, _, p2, rfl, hp, rfl, .inl ⟨dy, _, hp2⟩, p, p2, dx, x, y, z, vx, vy, vz, rfl, hp, dp, .inl ⟨dy, x', y', z', wx, wy, wz, hp2, dp2, h1, h2, fun H' e => ⟨_, rfl, q _ H' (.d (.bl _)) e rfl g⟩⟩⟩
/-- an own tree == a tuple -/
theorem o_eqTT {kk : Res → Prop} {ts : List D} (g : kk (.d (.bl false))) : OpD K (rEqOwn K (CT K) (spTEq K)) (.obj (CT K) NS [x, y, z]) (.tup ts) kk := by
  intro M H u v Q tr hu hv q
  obtain ⟨p, dx, vx, vy, vz, rfl, hp, dp⟩ := pk_obj hu
  obtain ⟨p2, ys, rfl, hq, _⟩ := hv.tup
  exact ⟨p, dx, _, p2, rfl, hp, rfl, .inr ⟨ys, hq⟩, p, p2, dx, x, y, z, vx, vy, vz, rfl, hp, dp, .inr ⟨ys, hq, _, rfl, q _ H (.d (.bl false)) (PW.Ext.refl H) rfl g⟩⟩
end

end LawK08
end
section
namespace LawK08
open PySem PySem.Spec PyProof.Rows L2 C8 PW
local macro_rules | `(tactic| walk_at "env") => `(tactic| (first | (dsimp only [sto, stoE, frz, frzE, frzAll, wipeE, Res.ent, List.set, List.getElem?_cons_zero, List.getElem?_cons_succ]; done) | (dsimp only [sto, stoE, frz, frzE, frzAll, wipeE, Res.ent, List.set, List.getElem?_cons_zero, List.getElem?_cons_succ]; rfl) | rfl))
local macro_rules | `(tactic| walk_at "mem") => `(tactic| first | assumption | exact cut_sub (by assumption) | exact List.mem_cons_of_mem _ (by assumption) | (simp only [List.mem_cons, true_or, or_true]; done))
local macro_rules | `(tactic| walk_at "jn") => `(tactic| first | assumption | with_unfolding_all exact rfl | exact jnTr (by assumption) (by assumption) | exact jnTr (cut_sub (by assumption)) (by assumption) | exact jnTr (List.mem_cons_of_mem _ (by assumption)) (by assumption) | exact jnT (by assumption) (by walk_at "mem") | exact jnL' (by assumption) (by walk_at "mem") | exact jnT2 (by assumption) (by assumption) (by walk_at "mem"))
local macro_rules | `(tactic| walk_at "sz") => `(tactic| first | with_unfolding_all exact Nat.le_of_ble_eq_true rfl | assumption | exact szl (by assumption) | exact szS (by walk_at "jn") | exact szT (by walk_at "jn") | exact szTl (by assumption) | exact szL (by walk_at "jn") | exact szG (by walk_at "jn") | ((with_reducible show (PW.cutD _ _ _).length ≤ _); refine szC ?_; walk_at "sz") | with_unfolding_all exact szl (Nat.le_of_ble_eq_true rfl))
local macro_rules | `(tactic| walk_at "bi") => `(tactic| first | with_unfolding_all exact rfl | assumption | exact jn_bi (by walk_at "jn"))
local macro_rules | `(tactic| walk_at "pw") => `(tactic| first
  | ((with_reducible show PW.XE _ _ _ _); first | with_reducible refine xe_var_d (by with_unfolding_all exact rfl) ?_ | with_reducible refine xe_var_o (by with_unfolding_all exact rfl) ?_ | with_reducible refine xe_int ?_ | with_reducible refine xe_str ?_ | with_reducible refine xe_bl ?_ | with_reducible refine xe_non ?_ | with_reducible refine ye_emp ?_ | with_reducible refine xe_op ?_ | with_reducible refine xe_un ?_ | with_reducible refine xe_if ?_ | with_reducible refine xe_andV ?_ | with_reducible refine xe_orV ?_ | with_reducible refine xe_notV ?_ | with_reducible refine xe_chain ?_ | with_reducible refine xe_isi D.isTup isi_tuple ?_ | with_reducible refine xe_isi D.isLst isi_list ?_ | with_reducible refine xe_isi D.isStr isi_str ?_ | with_reducible refine xe_isi D.isInt isi_int ?_ | with_reducible refine xe_isi D.isBool isi_bool ?_ | with_reducible refine xe_isi D.isDct isi_dict ?_ | with_reducible refine xe_isi2 D.isTup D.isLst isi_tuple isi_list ?_ | with_reducible refine ye_lenSet ?_ | with_reducible refine ye_join ?_ | with_reducible refine xe_cb ?_ | with_reducible refine xe_callS ?_ | with_reducible refine ye_callH (by with_unfolding_all exact rfl) ?_ | with_reducible refine ye_call ?_ | with_reducible refine ye_tup ?_ | with_reducible refine ye_lst ?_ | with_reducible refine xe_sl ?_ | with_reducible refine ye_revT ?_ | with_reducible refine ye_rg1 ?_ | with_reducible refine ye_rg2 ?_ | with_reducible refine ye_meth (by with_unfolding_all exact rfl) (fun _ _ _ h => ty_list h) ?_ | with_reducible refine ye_meth0 (by with_unfolding_all exact rfl) (fun _ _ _ h => ty_list h) ?_)
  | ((with_reducible show PW.XA _ _ _ _); first | with_reducible refine xa_nil ?_ | with_reducible refine xa_cons ?_)
  | ((with_reducible show PW.XT _ _ _ _); first | with_reducible refine xt_yes ?_ | with_reducible refine xt_test ?_ | with_reducible refine xt_B ?_ | with_reducible refine xt_not ?_ | with_reducible refine xt_and ?_ | with_reducible refine xt_or ?_)
  | ((with_reducible show PW.XS _ _ _ _); first | with_reducible refine xs_seq ?_ | with_reducible refine xs_next ?_ | with_reducible refine ys_asg ?_ | with_reducible refine xs_if ?_ | with_reducible refine ys_ret ?_ | with_reducible refine xs_retN ?_ | with_reducible refine xs_drop ?_ | with_reducible refine xs_break ?_ | with_reducible refine xs_cont ?_ | with_reducible refine ys_par (by with_unfolding_all decide) ?_ | with_reducible refine ys_par3 (by with_unfolding_all decide) (by with_unfolding_all decide) (by with_unfolding_all decide) ?_ | with_reducible refine ys_unp2 (by with_unfolding_all decide) ?_ | with_reducible refine ys_unp3 (by with_unfolding_all decide) (by with_unfolding_all decide) (by with_unfolding_all decide) ?_ | with_reducible refine ys_setix ?_ | with_reducible refine ys_asgG ?_ | with_reducible refine xs_for ?_)
  | ((with_reducible show PW.OpD _ _ _ _ _); first | with_reducible refine o_addI ?_ | with_reducible refine o_subI ?_ | with_reducible refine o_mulI (by first | with_unfolding_all exact .inl ⟨by decide, by decide⟩ | with_unfolding_all exact .inr ⟨by decide, by decide⟩) ?_ | with_reducible refine o_mulI (cmulL (by omega) (by omega)) ?_ | with_reducible refine o_mulI (cmulR (by omega) (by omega)) ?_ | with_reducible refine o_divI (by with_unfolding_all exact ⟨by decide, by decide⟩) ?_ | with_reducible refine o_modI (by with_unfolding_all decide) ?_ | with_reducible refine o_powI (by with_unfolding_all exact ⟨by decide, by decide, by decide⟩) ?_ | with_reducible refine o_ltI ?_ | with_reducible refine o_leI ?_ | with_reducible refine o_leUI ?_ | with_reducible refine o_leP ?_ | with_reducible refine o_shlI (cpow1 (by omega) (by omega)) ?_ | with_reducible refine o_gtI ?_ | with_reducible refine o_geI ?_ | with_reducible refine o_eqI ?_ | with_reducible refine o_neI ?_ | with_reducible refine o_eqB ?_ | with_reducible refine o_neB ?_ | with_reducible refine o_isNo ?_ | with_reducible refine o_isNotNo ?_ | with_reducible refine o_isBo ?_ | with_reducible refine o_isNotBo ?_ | with_reducible refine o_inC ?_ | with_reducible refine o_notInC ?_ | with_reducible refine o_ix0 ?_ | with_reducible refine o_ix1 ?_ | with_reducible refine o_ix2 ?_ | ((with_reducible show PW.OpD _ (rIx _) (.tup _) (.int 0) _); refine o_ix0e (ne_len (by omega)) ?_; intro y ys e; subst e) | with_reducible refine o_ixT (by with_unfolding_all exact rfl) ?_ | with_reducible refine o_ixL (by with_unfolding_all exact rfl) ?_)
  | ((with_reducible show PW.CaD _ _ _ _); first | with_reducible refine c_lenT ?_ | with_reducible refine c_lenL ?_ | with_reducible refine c_intI ?_ | with_reducible refine c_intB ?_ | with_reducible refine c_absI ?_ | with_reducible refine c_allM ?_ | with_reducible refine c_anyM ?_ | with_reducible refine c_tupL ?_ | with_reducible refine c_tupT ?_ | with_reducible refine c_lstL ?_ | with_reducible refine c_lstT ?_ | ((with_reducible show CaD _ (rLenU _) [.str _] _); with_reducible refine c_lenS (by walk_at "sz") ?_))
  | ((with_reducible show PW.XI _ _ _ _); first | with_reducible refine yi_seqU ?_ | with_reducible refine yi_enum ?_ | with_reducible refine yi_zip ?_ | with_reducible refine xi_range1 ?_ | with_reducible refine xi_range2 ?_)
  | ((with_reducible show PW.XG _ _ _ _ _); first | with_reducible refine yg_name ?_ | with_reducible refine xg_tup (by with_unfolding_all exact rfl) ?_)
  | ((with_reducible show PW.XGs _ _ _ _ _); first | with_reducible refine xgs_nil ?_ | with_reducible refine xgs_cons ?_)
  | ((with_reducible show PW.XM _ _ _ _ _); first | with_reducible refine xm_nil ?_ | with_reducible refine xm_cons ?_)
  | ((with_reducible show PW.XO _ _ _ _); first | with_reducible refine xo_none ?_ | with_reducible refine xo_some ?_)
  | ((with_reducible show PW.SlD _ _ _ _ _ _); first | with_reducible refine sl_tail ?_ | with_reducible refine sl_T ?_ | with_reducible refine sl_L ?_)
  | ((with_reducible show PW.UnD _ _ _ _); first | with_reducible refine u_neg ?_)
  | ((with_reducible show PW.back _ _ _); first | with_reducible refine back_d ?_ | with_reducible refine back_nw ?_ | with_reducible refine back_v (by with_unfolding_all exact rfl) ?_)
  | walk_at "cnt"
  | walk_at "br")
local macro_rules | `(tactic| walk_at "cnt") => `(tactic| first
  | with_reducible refine ex_env (by walk_at "env") ?_
  | ((with_reducible show ∃ x : List D, _ = some x ∧ x.length ≤ _ ∧ _); with_reducible refine ex_pks2 (by with_unfolding_all exact rfl) (by walk_at "sz") ?_)
  | with_reducible refine ex_pks (by with_unfolding_all exact rfl) ?_
  | ((with_reducible show ∃ x : D, _ = some x ∧ x.isBuiltin = true ∧ _); with_reducible refine ex_pk2 (by with_unfolding_all exact rfl) (by walk_at "bi") ?_)
  | with_reducible refine lc_fin (by with_unfolding_all exact rfl) (by with_unfolding_all exact rfl) ?_
  | with_reducible refine lcf_fin (by with_unfolding_all exact rfl) (by with_unfolding_all exact rfl) ?_
  | with_reducible refine ex_pk (by with_unfolding_all exact rfl) ?_
  | with_reducible refine ex_op (by with_unfolding_all exact rfl) (by with_unfolding_all exact rfl) ?_
  | with_reducible refine ex_it (by with_unfolding_all exact rfl) (by with_unfolding_all exact rfl) ?_
  | with_reducible refine ex_its (by with_unfolding_all exact rfl) (by with_unfolding_all exact rfl) ?_
  | with_reducible refine ex_zip (by with_unfolding_all exact rfl) (by with_unfolding_all exact rfl) ?_
  | with_reducible refine ex_bl ?_
  | with_reducible refine ex_int ?_
  | with_reducible refine ex_sc (by with_unfolding_all exact rfl) ?_
  | with_reducible refine and_brT ?_
  | with_reducible refine and_brF ?_
  | with_reducible refine and_rbT ?_
  | with_reducible refine and_rbF ?_
  | with_reducible refine and_nT ?_
  | with_reducible refine and_nF ?_
  | with_reducible refine and_mT ?_
  | with_reducible refine and_mF ?_
  | with_reducible refine and_br ?_ ?_
  | with_reducible refine and_rb ?_ ?_
  | with_reducible refine ⟨nv_d, ?_⟩
  | with_reducible refine ⟨nv_nw, ?_⟩)
local macro_rules | `(tactic| walk_at "br") => `(tactic| first
  | (with_reducible refine br_tup ?_; intro xs e; subst e)
  | (with_reducible refine br_tupN ?_; intro xs e; subst e)
  | (with_reducible refine br_lst ?_; intro xs e; subst e)
  | (with_reducible refine br_lstN ?_; intro xs e; subst e)
  | (with_reducible refine br_str ?_; intro xs e; subst e)
  | (with_reducible refine br_strN ?_; intro xs e; subst e)
  | (with_reducible refine br_non ?_; intro e; subst e)
  | (with_reducible refine br_nonN ?_; intro e; subst e)
  | (with_reducible refine br_t ?_; intro h; first | (cases h; done) | (simp only [lenc, List.length_nil, decide_eq_true_eq, decide_eq_false_iff_not] at h; omega) | exact absurd (show true = false from h) (by decide) | exact absurd (show false = true from h) (by decide) | (simp only [lenc, List.length_nil, Bool.not_eq_true', Bool.not_eq_false', decide_eq_true_eq, decide_eq_false_iff_not] at h) | skip)
  | (with_reducible refine br_f ?_; intro h; first | (cases h; done) | (simp only [lenc, List.length_nil, decide_eq_true_eq, decide_eq_false_iff_not] at h; omega) | exact absurd (show true = false from h) (by decide) | exact absurd (show false = true from h) (by decide) | (simp only [lenc, List.length_nil, Bool.not_eq_true', Bool.not_eq_false', decide_eq_true_eq, decide_eq_false_iff_not] at h) | skip)
  | (with_reducible refine signs_one ?_; intro c)
  | (with_reducible refine fa_mem ?_; intro d hd)
  | ((with_reducible show _ ≤ sizeLine ∧ _); with_reducible refine lc_split (by walk_at "sz") (by walk_at "env") ?_ ?_)
  | ((with_reducible show wipeE _ _ = _ ∧ _); with_reducible refine lc_env (by walk_at "env") ?_)
  | ((with_reducible show (_ : D) = _); exact rfl))
local macro_rules | `(tactic| walk_at "pws") => `(tactic| repeat' walk_at "pw")
local macro_rules | `(tactic| walk_at "pw") => `(tactic| first
  | ((with_reducible show w_is_integer _ _); with_reducible refine i_is_integer (by walk_at "bi") ?_) | ((with_reducible show w_is_within _ _); with_reducible refine i_is_within (by walk_at "bi") ?_) | ((with_reducible show w_is_tuple_of _ _); with_reducible refine i_is_tuple_of (by walk_at "bi") ?_)
  | ((with_reducible show w_is_name _ _); with_reducible refine i_is_name (by walk_at "jn") ?_) | ((with_reducible show w_is_lock _ _); with_reducible refine i_is_lock (by walk_at "bi") ?_) | ((with_reducible show w_is_member _ _); with_reducible refine i_is_member (by walk_at "jn") ?_)
  | (with_reducible refine br_two ?_; intro a b e; subst e) | (with_reducible refine br_twoN ?_; intro a b e; subst e) | (with_reducible refine br_thr ?_; intro a b c e; subst e) | (with_reducible refine br_thrN ?_; intro a b c e; subst e)
  | (with_reducible refine br_int ?_; intro i e; subst e) | (with_reducible refine br_win ?_; intro i e h1 h2; subst e) | (with_reducible refine br_winN ?_; intro i e h1 h2; subst e))
local macro_rules | `(tactic| walk_at "pw") => `(tactic| first
  | ((with_reducible show w_law_int _ _); with_reducible refine i_law_int (by walk_at "bi") ?_) | ((with_reducible show w_law_named _ _); with_reducible refine i_law_named (by walk_at "jn") ?_) | ((with_reducible show w_law_node _ _); with_reducible refine i_law_node (by walk_at "jn") (by assumption) ?_))
local macro_rules | `(tactic| walk_at "pw") => `(tactic| first
  | (with_reducible refine br_l2 ?_; intro a b e; subst e) | (with_reducible refine br_l3 ?_; intro a b c e; subst e))
def w_law_told : WF := fun ds k => ∃ x y z : D, ds = [.lst [x, y, z]] ∧ x.jn = true ∧ y.jn = true ∧ z.jn = true ∧ k (.d (dueOf x y z))
theorem len_law_told : ∀ ds k, w_law_told ds k → ds.length = 1 := fun _ _ ⟨_, _, _, e, _⟩ => by rw [e]; rfl
def tA3 (K : PySem.W.Frag) (i : Nat) : TA := tCons (tOp (rIx K) (tVar i) (tC (.int 0))) (tCons (tOp (rIx K) (tVar i) (tC (.int 1))) (tCons (tOp (rIx K) (tVar i) (tC (.int 2))) tNil))
def tMade (K : PySem.W.Frag) : TS := tAsg (tTup (tCons (tC (.str "made")) (tCons (tFld K (tVar 2) "height") (tCons (tFld K (tVar 2) "leaves") (tCons (tFld K (tVar 2) "nodes") tNil))))) (gName 1)
def tBody (K : PySem.W.Frag) (W : WX) : TS := tSeq (tAsg (tMakeS (CT K) (spTree K) (WE W) (tA3 K 0)) (gName 2)) (tMade K)
def tIsE (K : PySem.W.Frag) (a : Addr) (cls : Value) (d : Option Addr) (c : Str) : TE := tCB (rIsX K (CB K) a cls d) (tCons (tVar 3) (tCons (tC (.ref (He.ga K c))) tNil))
def tSuite (K : PySem.W.Frag) (a : Addr) (cls : Value) (d : Option Addr) : TS :=
  tAsg (tTup (tCons (tC (.str "bad")) (tCons (tXf a cls d (CB K) "part" (tVar 3)) (tCons (tOrV (tIsE K a cls d "NoLeaf") (tIsE K a cls d "NoNode")) (tCons (tIsE K a cls d "PostError") tNil))))) (gName 1)
def tTry (K : PySem.W.Frag) : TS := fun D σ H => tBody K (wFirst K (.ref (CB K)) 3 (tSuite K) D) D σ H
def t_law_told (K : PySem.W.Frag) : TS := tSeq (tAsg (tTup (tCons (tC (.str "other")) tNil)) (gName 1)) (tSeq (tTry K) (tRet (tVar 1)))
section
variable {P : Program} {w : World} {K : PySem.W.Frag} {mg : Str → Option Value} {base : Heap}
theorem xa_a3 {x y z : D} : XA K (tA3 K 0) [.d (.lst [x, y, z]), .u, .u, .u] fun rs ρ => ρ = [.d (.lst [x, y, z]), .u, .u, .u] ∧ rs = [.d x, .d y, .d z] := by
  unfold tA3
  walk_at "pws"
  all_goals exact ⟨rfl, rfl⟩
theorem env_one {M : Addr → Prop} {H : Hp} {v : V} {a b c : Option V} {x : D} (tr : Tr M H) (d : Da M K H v x) : Env K ⟨M, H, none⟩ H [some v, a, b, c] [.d x, .u, .u, .u] := by
  have own : ∀ (i : Nat) (w : D), ([Ent.d x, .u, .u, .u] : List Ent)[i]? = some (.own w) → False := fun i w h => by
    match i, h with
    | 0, h => cases h
    | 1, h => cases h
    | 2, h => cases h
    | 3, h => cases h
    | _ + 4, h => cases h
  have less : ∀ e, hot ⟨M, H, none⟩ [some v, a, b, c] [.d x, .u, .u, .u] e → M e := fun e he => by
    rcases he with he | ⟨j, w, h1, _⟩
    · exact he
    · exact (own j w h1).elim
  refine ⟨rfl, fun b o _ e => e, tr, fun a e => (nomatch e), fun i w b h => (own i w h).elim, fun i j w w2 b h => (own i w h).elim, fun i e he => ?_⟩
  match i, he with
  | 0, he => cases he; exact ⟨v, rfl, d.less less⟩
  | 1, he => cases he; trivial
  | 2, he => cases he; trivial
  | 3, he => cases he; trivial
  | _ + 4, he => cases he
theorem badOf_str {x y z : D} : badOf x y z = .non ∨ ∃ s, badOf x y z = .str s := by
  unfold badOf
  repeat' first
    | exact .inl rfl
    | exact .inr ⟨_, rfl⟩
    | split
theorem pure_law_told (G : Gt P K mg) {vs : List V} {H : Hp} {Q : VK} {E : XK} (h : spW K w_law_told vs H Q E) : t_law_told K { nx := fun _ H' => Q .non H', rt := Q } (L2.start ["parts", "found", "one", "error"] vs) H := by
  obtain ⟨M, ds, kk, tr, da, ⟨x, y, z, rfl, jx, jy, jz, hk⟩, fin⟩ := h
  obtain ⟨v, _, e1, dv, e2⟩ := da
  cases e2
  cases e1
  have es : L2.start ["parts", "found", "one", "error"] [v] = [some v, none, none, none] := rfl
  rw [es]
  unfold t_law_told
  refine r_seq ?_
  refine ⟨by show 1 ≤ sizeLine; decide, fun p1 hp1 => ?_⟩
  show (tSeq (tTry K) (tRet (tVar 1))) { nx := fun _ H' => Q .non H', rt := Q } [some v, some (.ref p1), none, none] (upd H p1 (.tup [.str "other"]))
  generalize hH1 : upd H p1 (.tup [.str "other"]) = H1
  have x1 : PW.Ext H H1 := by rw [← hH1]; exact PW.Ext.new hp1
  have tr1 : Tr M H1 := fun b hb => by
    obtain ⟨o, ho⟩ := Option.ne_none_iff_exists'.mp (tr b hb)
    rw [x1 b o ho]
    exact fun z => nomatch z
  have dv1 : Da M K H1 v (.lst [x, y, z]) := dv.mono fun b o n e => ⟨n, x1 b o e⟩
  have E1 := env_one (a := some (.ref p1)) (b := none) (c := none) tr1 dv1
  refine r_seq ?_
  show (tBody K (wFirst K (.ref (CB K)) 3 (tSuite K) _)) _ [some v, some (.ref p1), none, none] H1
  refine r_seq (r_asg ?_)
  show tA3 K 0 [some v, some (.ref p1), none, none] H1 _
  refine xa_a3 _ H1 _ _ E1 fun vs2 H2 rs ρ2 k2 E2 hs ⟨er, ers⟩ => ?_
  subst er ers
  have d2 : DaAll (hot ⟨M, H1, none⟩ [some v, some (.ref p1), none, none] [.d (.lst [x, y, z]), .u, .u, .u]) K H2 vs2 [x, y, z] := hs
  obtain ⟨vx, _, f1, d3, vy, _, f2, d4, vz, _, f3, d5, f4⟩ := id d2
  cases f4
  cases f3
  cases f2
  cases f1
  have x2 : PW.Ext H1 H2 := fun b o e => E2.go b o (fun z => nomatch z) e
  intro p dx hp hdx hne
  have y1 : PW.Ext H2 (upd H2 dx (.own p)) := PW.Ext.new hdx
  have hp2 : upd H2 dx (.own p) p = none := by rw [upd_ne (Ne.symm hne)]; exact hp
  have y2 : PW.Ext (upd H2 dx (.own p)) (upd (upd H2 dx (.own p)) p (.ins (CT K) dx [])) := PW.Ext.new hp2
  have y12 := y1.trans y2
  refine ⟨_, p, dx, x, y, z, vx, vy, vz, rfl, fun b hb => ?_, upd_same, d2.mono fun b o n e => ⟨n, y12 b o e⟩, jx, jy, jz, fun hb H3 st hn => ⟨rfl, _, rfl, ?_⟩, fun s hb H3 d ex hd hn => ?_⟩
  · obtain ⟨o, ho⟩ := Option.ne_none_iff_exists'.mp (E2.hotTrk b hb)
    rw [y12 b o ho]
    exact fun z => nomatch z
  · -- it was made
    have x3 : PW.Ext H2 H3 := fun b o e => st b o (ne_of_none e hp) (y12 b o e)
    show tMade K _ [some v, some (.ref p1), some (.ref p), none] H3
    refine ⟨.ref p, rfl, p, CT K, dx, _, vx, rfl, hn, G.cT, G.n1, rfl, .ref p, rfl, p, CT K, dx, _, vy, rfl, hn, G.cT, G.n2, rfl, .ref p, rfl, p, CT K, dx, _, vz, rfl, hn, G.cT, G.n3, rfl, by show 4 ≤ sizeLine; decide, fun p4 hp4 => ?_⟩
    have x4 : PW.Ext H3 (upd H3 p4 (.tup [.str "made", vx, vy, vz])) := PW.Ext.new hp4
    refine ⟨.ref p4, rfl, fin (.ref p4) _ (.d (dueOf x y z)) (x1.trans (x2.trans (x3.trans x4))) ?_ hk⟩
    have e : dueOf x y z = .tup [.str "made", x, y, z] := by
      unfold dueOf
      rw [hb]
      exact if_pos rfl
    show Da M K _ _ (dueOf x y z)
    rw [e]
    have nM : ¬ M p4 := fun z => tr p4 z (x1.back (x2.back (x3.back hp4)))
    exact ⟨p4, _, rfl, .inl ⟨nM, .inl upd_same⟩, .str "made", _, rfl, rfl, (d2.less fun b hb => .inl hb).mono fun b o n e => ⟨n, x4 b o (x3 b o e)⟩⟩
  · -- it was refused
    have x3 : PW.Ext H2 H3 := y12.trans ex
    refine ⟨G.bad.te, fun a na => ?_⟩
    show tSuite K a (.ref (CB K)) (some d) _ [some v, some (.ref p1), none, some (.ref a)] H3
    refine ⟨.ref a, rfl, rfl, rfl, d, _, .str s, rfl, hn, rfl, .ref a, rfl, .ref (He.ga K "NoLeaf"), .ref (He.ga K "NoLeaf"), false, d, _, rfl, rfl, fun u r => r, G.kL, rfl, hn, false, rfl, iteF ?_⟩
    refine ⟨.ref a, rfl, .ref (He.ga K "NoNode"), .ref (He.ga K "NoNode"), false, d, _, rfl, rfl, fun u r => r, G.kN, rfl, hn, .ref a, rfl, .ref (He.ga K "PostError"), .ref (He.ga K "PostError"), true, d, _, rfl, rfl, fun u r => r, G.kP, rfl, hn, by show 4 ≤ sizeLine; decide, fun p4 hp4 => ?_⟩
    have x4 : PW.Ext H3 (upd H3 p4 (.tup [.str "bad", .str s, .bl false, .bl true])) := PW.Ext.new hp4
    refine ⟨.ref p4, rfl, fin (.ref p4) _ (.d (dueOf x y z)) (x1.trans (x2.trans (x3.trans x4))) ?_ hk⟩
    have e : dueOf x y z = .tup [.str "bad", .str s, .bl false, .bl true] := by
      unfold dueOf
      rw [hb]
      exact if_neg Bool.false_ne_true
    show Da M K _ _ (dueOf x y z)
    rw [e]
    have nM : ¬ M p4 := fun z => tr p4 z (x1.back (x2.back (x3.back hp4)))
    exact ⟨p4, _, rfl, .inl ⟨nM, .inl upd_same⟩, .str "bad", _, rfl, rfl, .str s, _, rfl, rfl, .bl false, _, rfl, rfl, .bl true, _, rfl, rfl, rfl⟩
theorem c_law_told (G : Gt P K mg) : Cal P w K mg base 11 "_law_told" (spW K w_law_told) [] := by
  obtain ⟨f, fd, F, hm⟩ := G.g.f_law_told
  obtain ⟨fdI, FI, bI⟩ := c_Tree_init (P := P) (w := w) (base := base) G
  refine ⟨f, fd, ["parts"], [], F.ok sc_law_told (fun vs H Q E h => len_w h fun ds k z => (len_law_told ds k z)) (fun cdv A outer s H vs Q E hr h => ⟨t_law_told K, PSs.nox ?_, pure_law_told G h⟩), hm, F.kp, F.bindsN (fun _ _ _ _ _ _ us hl => match us, hl with | [_], _ => rfl), .nil⟩
  refine pss_cons (ps_set (i := 1) sc_law_told.nd rfl (by first | exact Or.inl rfl | exact Or.inr rfl) (pe_tup (pa_cons pe_str pa_nil))) (pss_cons ?_ (pss_one (ps_ret (pv 1))))
  refine ps_try_first (i := 3) (tb := tBody K) (ts := tSuite K) rfl rfl sc_law_told.nd rfl rfl ⟨rfl, by decide, .inl G.g.c_BadTree⟩ (fun W pn xe tk _ => ?_) (fun a oe cls d pn hz hf => ?_)
  · exact pss_cons (ps_set (i := 2) sc_law_told.nd rfl (by first | exact Or.inl rfl | exact Or.inr rfl) (pe_makeS G.mkT FI (hr.mono (by decide)) rfl G.g.c_Tree bI (fun σ => passAt tk σ) (pa_cons (pe_ix ix_seq (pv 0) pe_int (fun _ _ => rfl)) (pa_cons (pe_ix ix_seq (pv 0) pe_int (fun _ _ => rfl)) (pa_cons (pe_ix ix_seq (pv 0) pe_int (fun _ _ => rfl)) pa_nil)))))
      (pss_one (ps_set (i := 1) sc_law_told.nd rfl (by first | exact Or.inl rfl | exact Or.inr rfl) (pe_tup (pa_cons pe_str (pa_cons (pe_fld (pv 2) rfl) (pa_cons (pe_fld (pv 2) rfl) (pa_cons (pe_fld (pv 2) rfl) pa_nil)))))))
  · exact pss_one (ps_set (i := 1) sc_law_told.nd rfl (by first | exact Or.inl rfl | exact Or.inr rfl) (pe_tup (pa_cons pe_str (pa_cons (pe_xf ⟨G.bad.ga, G.bad.gg, G.bad.exC, G.bad.hdC⟩ G.bad.noN hz hf (pv 3)) (pa_cons
      (pe_or (pe_callB (call_isX G.exc hz hf) rfl G.g.b_isinstance (by decide +kernel) (pa_cons (pv 3) (pa_cons (pe_gc rfl ⟨_, G.g.c_NoLeaf, rfl⟩) pa_nil))) (pe_one (pe_callB (call_isX G.exc hz hf) rfl G.g.b_isinstance (by decide +kernel) (pa_cons (pv 3) (pa_cons (pe_gc rfl ⟨_, G.g.c_NoNode, rfl⟩) pa_nil)))))
      (pa_cons (pe_callB (call_isX G.exc hz hf) rfl G.g.b_isinstance (by decide +kernel) (pa_cons (pv 3) (pa_cons (pe_gc rfl ⟨_, G.g.c_PostError, rfl⟩) pa_nil))) pa_nil))))))
end

end LawK08
end
section
namespace LawK08
open PySem PySem.Spec PyProof.Rows L2 C8 PW
local macro_rules | `(tactic| walk_at "env") => `(tactic| (first | (dsimp only [sto, stoE, frz, frzE, frzAll, wipeE, Res.ent, List.set, List.getElem?_cons_zero, List.getElem?_cons_succ]; done) | (dsimp only [sto, stoE, frz, frzE, frzAll, wipeE, Res.ent, List.set, List.getElem?_cons_zero, List.getElem?_cons_succ]; rfl) | rfl))
local macro_rules | `(tactic| walk_at "mem") => `(tactic| first | assumption | exact cut_sub (by assumption) | exact List.mem_cons_of_mem _ (by assumption) | (simp only [List.mem_cons, true_or, or_true]; done))
local macro_rules | `(tactic| walk_at "jn") => `(tactic| first | assumption | with_unfolding_all exact rfl | exact jnTr (by assumption) (by assumption) | exact jnTr (cut_sub (by assumption)) (by assumption) | exact jnTr (List.mem_cons_of_mem _ (by assumption)) (by assumption) | exact jnT (by assumption) (by walk_at "mem") | exact jnL' (by assumption) (by walk_at "mem") | exact jnT2 (by assumption) (by assumption) (by walk_at "mem"))
local macro_rules | `(tactic| walk_at "sz") => `(tactic| first | with_unfolding_all exact Nat.le_of_ble_eq_true rfl | assumption | exact szl (by assumption) | exact szS (by walk_at "jn") | exact szT (by walk_at "jn") | exact szTl (by assumption) | exact szL (by walk_at "jn") | exact szG (by walk_at "jn") | ((with_reducible show (PW.cutD _ _ _).length ≤ _); refine szC ?_; walk_at "sz") | with_unfolding_all exact szl (Nat.le_of_ble_eq_true rfl))
local macro_rules | `(tactic| walk_at "bi") => `(tactic| first | with_unfolding_all exact rfl | assumption | exact jn_bi (by walk_at "jn"))
local macro_rules | `(tactic| walk_at "pw") => `(tactic| first
  | ((with_reducible show PW.XE _ _ _ _); first | with_reducible refine xe_var_d (by with_unfolding_all exact rfl) ?_ | with_reducible refine xe_var_o (by with_unfolding_all exact rfl) ?_ | with_reducible refine xe_int ?_ | with_reducible refine xe_str ?_ | with_reducible refine xe_bl ?_ | with_reducible refine xe_non ?_ | with_reducible refine ye_emp ?_ | with_reducible refine xe_op ?_ | with_reducible refine xe_un ?_ | with_reducible refine xe_if ?_ | with_reducible refine xe_andV ?_ | with_reducible refine xe_orV ?_ | with_reducible refine xe_notV ?_ | with_reducible refine xe_chain ?_ | with_reducible refine xe_isi D.isTup isi_tuple ?_ | with_reducible refine xe_isi D.isLst isi_list ?_ | with_reducible refine xe_isi D.isStr isi_str ?_ | with_reducible refine xe_isi D.isInt isi_int ?_ | with_reducible refine xe_isi D.isBool isi_bool ?_ | with_reducible refine xe_isi D.isDct isi_dict ?_ | with_reducible refine xe_isi2 D.isTup D.isLst isi_tuple isi_list ?_ | with_reducible refine ye_lenSet ?_ | with_reducible refine ye_join ?_ | with_reducible refine xe_cb ?_ | with_reducible refine xe_callS ?_ | with_reducible refine ye_callH (by with_unfolding_all exact rfl) ?_ | with_reducible refine ye_call ?_ | with_reducible refine ye_tup ?_ | with_reducible refine ye_lst ?_ | with_reducible refine xe_sl ?_ | with_reducible refine ye_revT ?_ | with_reducible refine ye_rg1 ?_ | with_reducible refine ye_rg2 ?_ | with_reducible refine ye_meth (by with_unfolding_all exact rfl) (fun _ _ _ h => ty_list h) ?_ | with_reducible refine ye_meth0 (by with_unfolding_all exact rfl) (fun _ _ _ h => ty_list h) ?_)
  | ((with_reducible show PW.XA _ _ _ _); first | with_reducible refine xa_nil ?_ | with_reducible refine xa_cons ?_)
  | ((with_reducible show PW.XT _ _ _ _); first | with_reducible refine xt_yes ?_ | with_reducible refine xt_test ?_ | with_reducible refine xt_B ?_ | with_reducible refine xt_not ?_ | with_reducible refine xt_and ?_ | with_reducible refine xt_or ?_)
  | ((with_reducible show PW.XS _ _ _ _); first | with_reducible refine xs_seq ?_ | with_reducible refine xs_next ?_ | with_reducible refine ys_asg ?_ | with_reducible refine xs_if ?_ | with_reducible refine ys_ret ?_ | with_reducible refine xs_retN ?_ | with_reducible refine xs_drop ?_ | with_reducible refine xs_break ?_ | with_reducible refine xs_cont ?_ | with_reducible refine ys_par (by with_unfolding_all decide) ?_ | with_reducible refine ys_par3 (by with_unfolding_all decide) (by with_unfolding_all decide) (by with_unfolding_all decide) ?_ | with_reducible refine ys_unp2 (by with_unfolding_all decide) ?_ | with_reducible refine ys_unp3 (by with_unfolding_all decide) (by with_unfolding_all decide) (by with_unfolding_all decide) ?_ | with_reducible refine ys_setix ?_ | with_reducible refine ys_asgG ?_ | with_reducible refine xs_for ?_)
  | ((with_reducible show PW.OpD _ _ _ _ _); first | with_reducible refine o_addI ?_ | with_reducible refine o_subI ?_ | with_reducible refine o_mulI (by first | with_unfolding_all exact .inl ⟨by decide, by decide⟩ | with_unfolding_all exact .inr ⟨by decide, by decide⟩) ?_ | with_reducible refine o_mulI (cmulL (by omega) (by omega)) ?_ | with_reducible refine o_mulI (cmulR (by omega) (by omega)) ?_ | with_reducible refine o_divI (by with_unfolding_all exact ⟨by decide, by decide⟩) ?_ | with_reducible refine o_modI (by with_unfolding_all decide) ?_ | with_reducible refine o_powI (by with_unfolding_all exact ⟨by decide, by decide, by decide⟩) ?_ | with_reducible refine o_ltI ?_ | with_reducible refine o_leI ?_ | with_reducible refine o_leUI ?_ | with_reducible refine o_leP ?_ | with_reducible refine o_shlI (cpow1 (by omega) (by omega)) ?_ | with_reducible refine o_gtI ?_ | with_reducible refine o_geI ?_ | with_reducible refine o_eqI ?_ | with_reducible refine o_neI ?_ | with_reducible refine o_eqB ?_ | with_reducible refine o_neB ?_ | with_reducible refine o_isNo ?_ | with_reducible refine o_isNotNo ?_ | with_reducible refine o_isBo ?_ | with_reducible refine o_isNotBo ?_ | with_reducible refine o_inC ?_ | with_reducible refine o_notInC ?_ | with_reducible refine o_ix0 ?_ | with_reducible refine o_ix1 ?_ | with_reducible refine o_ix2 ?_ | ((with_reducible show PW.OpD _ (rIx _) (.tup _) (.int 0) _); refine o_ix0e (ne_len (by omega)) ?_; intro y ys e; subst e) | with_reducible refine o_ixT (by with_unfolding_all exact rfl) ?_ | with_reducible refine o_ixL (by with_unfolding_all exact rfl) ?_)
  | ((with_reducible show PW.CaD _ _ _ _); first | with_reducible refine c_lenT ?_ | with_reducible refine c_lenL ?_ | with_reducible refine c_intI ?_ | with_reducible refine c_intB ?_ | with_reducible refine c_absI ?_ | with_reducible refine c_allM ?_ | with_reducible refine c_anyM ?_ | with_reducible refine c_tupL ?_ | with_reducible refine c_tupT ?_ | with_reducible refine c_lstL ?_ | with_reducible refine c_lstT ?_ | ((with_reducible show CaD _ (rLenU _) [.str _] _); with_reducible refine c_lenS (by walk_at "sz") ?_))
  | ((with_reducible show PW.XI _ _ _ _); first | with_reducible refine yi_seqU ?_ | with_reducible refine yi_enum ?_ | with_reducible refine yi_zip ?_ | with_reducible refine xi_range1 ?_ | with_reducible refine xi_range2 ?_)
  | ((with_reducible show PW.XG _ _ _ _ _); first | with_reducible refine yg_name ?_ | with_reducible refine xg_tup (by with_unfolding_all exact rfl) ?_)
  | ((with_reducible show PW.XGs _ _ _ _ _); first | with_reducible refine xgs_nil ?_ | with_reducible refine xgs_cons ?_)
  | ((with_reducible show PW.XM _ _ _ _ _); first | with_reducible refine xm_nil ?_ | with_reducible refine xm_cons ?_)
  | ((with_reducible show PW.XO _ _ _ _); first | with_reducible refine xo_none ?_ | with_reducible refine xo_some ?_)
  | ((with_reducible show PW.SlD _ _ _ _ _ _); first | with_reducible refine sl_tail ?_ | with_reducible refine sl_T ?_ | with_reducible refine sl_L ?_)
  | ((with_reducible show PW.UnD _ _ _ _); first | with_reducible refine u_neg ?_)
  | ((with_reducible show PW.back _ _ _); first | with_reducible refine back_d ?_ | with_reducible refine back_nw ?_ | with_reducible refine back_v (by with_unfolding_all exact rfl) ?_)
  | walk_at "cnt"
  | walk_at "br")
local macro_rules | `(tactic| walk_at "cnt") => `(tactic| first
  | with_reducible refine ex_env (by walk_at "env") ?_
  | ((with_reducible show ∃ x : List D, _ = some x ∧ x.length ≤ _ ∧ _); with_reducible refine ex_pks2 (by with_unfolding_all exact rfl) (by walk_at "sz") ?_)
  | with_reducible refine ex_pks (by with_unfolding_all exact rfl) ?_
  | ((with_reducible show ∃ x : D, _ = some x ∧ x.isBuiltin = true ∧ _); with_reducible refine ex_pk2 (by with_unfolding_all exact rfl) (by walk_at "bi") ?_)
  | with_reducible refine lc_fin (by with_unfolding_all exact rfl) (by with_unfolding_all exact rfl) ?_
  | with_reducible refine lcf_fin (by with_unfolding_all exact rfl) (by with_unfolding_all exact rfl) ?_
  | with_reducible refine ex_pk (by with_unfolding_all exact rfl) ?_
  | with_reducible refine ex_op (by with_unfolding_all exact rfl) (by with_unfolding_all exact rfl) ?_
  | with_reducible refine ex_it (by with_unfolding_all exact rfl) (by with_unfolding_all exact rfl) ?_
  | with_reducible refine ex_its (by with_unfolding_all exact rfl) (by with_unfolding_all exact rfl) ?_
  | with_reducible refine ex_zip (by with_unfolding_all exact rfl) (by with_unfolding_all exact rfl) ?_
  | with_reducible refine ex_bl ?_
  | with_reducible refine ex_int ?_
  | with_reducible refine ex_sc (by with_unfolding_all exact rfl) ?_
  | with_reducible refine and_brT ?_
  | with_reducible refine and_brF ?_
  | with_reducible refine and_rbT ?_
  | with_reducible refine and_rbF ?_
  | with_reducible refine and_nT ?_
  | with_reducible refine and_nF ?_
  | with_reducible refine and_mT ?_
  | with_reducible refine and_mF ?_
  | with_reducible refine and_br ?_ ?_
  | with_reducible refine and_rb ?_ ?_
  | with_reducible refine ⟨nv_d, ?_⟩
  | with_reducible refine ⟨nv_nw, ?_⟩)
local macro_rules | `(tactic| walk_at "br") => `(tactic| first
  | (with_reducible refine br_tup ?_; intro xs e; subst e)
  | (with_reducible refine br_tupN ?_; intro xs e; subst e)
  | (with_reducible refine br_lst ?_; intro xs e; subst e)
  | (with_reducible refine br_lstN ?_; intro xs e; subst e)
  | (with_reducible refine br_str ?_; intro xs e; subst e)
  | (with_reducible refine br_strN ?_; intro xs e; subst e)
  | (with_reducible refine br_non ?_; intro e; subst e)
  | (with_reducible refine br_nonN ?_; intro e; subst e)
  | (with_reducible refine br_t ?_; intro h; first | (cases h; done) | (simp only [lenc, List.length_nil, decide_eq_true_eq, decide_eq_false_iff_not] at h; omega) | exact absurd (show true = false from h) (by decide) | exact absurd (show false = true from h) (by decide) | (simp only [lenc, List.length_nil, Bool.not_eq_true', Bool.not_eq_false', decide_eq_true_eq, decide_eq_false_iff_not] at h) | skip)
  | (with_reducible refine br_f ?_; intro h; first | (cases h; done) | (simp only [lenc, List.length_nil, decide_eq_true_eq, decide_eq_false_iff_not] at h; omega) | exact absurd (show true = false from h) (by decide) | exact absurd (show false = true from h) (by decide) | (simp only [lenc, List.length_nil, Bool.not_eq_true', Bool.not_eq_false', decide_eq_true_eq, decide_eq_false_iff_not] at h) | skip)
  | (with_reducible refine signs_one ?_; intro c)
  | (with_reducible refine fa_mem ?_; intro d hd)
  | ((with_reducible show _ ≤ sizeLine ∧ _); with_reducible refine lc_split (by walk_at "sz") (by walk_at "env") ?_ ?_)
  | ((with_reducible show wipeE _ _ = _ ∧ _); with_reducible refine lc_env (by walk_at "env") ?_)
  | ((with_reducible show (_ : D) = _); exact rfl))
local macro_rules | `(tactic| walk_at "pws") => `(tactic| repeat' walk_at "pw")
local macro_rules | `(tactic| walk_at "pw") => `(tactic| first
  | ((with_reducible show w_is_integer _ _); with_reducible refine i_is_integer (by walk_at "bi") ?_) | ((with_reducible show w_is_within _ _); with_reducible refine i_is_within (by walk_at "bi") ?_) | ((with_reducible show w_is_tuple_of _ _); with_reducible refine i_is_tuple_of (by walk_at "bi") ?_)
  | ((with_reducible show w_is_name _ _); with_reducible refine i_is_name (by walk_at "jn") ?_) | ((with_reducible show w_is_lock _ _); with_reducible refine i_is_lock (by walk_at "bi") ?_) | ((with_reducible show w_is_member _ _); with_reducible refine i_is_member (by walk_at "jn") ?_)
  | (with_reducible refine br_two ?_; intro a b e; subst e) | (with_reducible refine br_twoN ?_; intro a b e; subst e) | (with_reducible refine br_thr ?_; intro a b c e; subst e) | (with_reducible refine br_thrN ?_; intro a b c e; subst e)
  | (with_reducible refine br_int ?_; intro i e; subst e) | (with_reducible refine br_win ?_; intro i e h1 h2; subst e) | (with_reducible refine br_winN ?_; intro i e h1 h2; subst e))
local macro_rules | `(tactic| walk_at "pw") => `(tactic| first
  | ((with_reducible show w_law_int _ _); with_reducible refine i_law_int (by walk_at "bi") ?_) | ((with_reducible show w_law_named _ _); with_reducible refine i_law_named (by walk_at "jn") ?_) | ((with_reducible show w_law_node _ _); with_reducible refine i_law_node (by walk_at "jn") (by assumption) ?_))
local macro_rules | `(tactic| walk_at "pw") => `(tactic| first
  | (with_reducible refine br_l2 ?_; intro a b e; subst e) | (with_reducible refine br_l3 ?_; intro a b c e; subst e))
mutual
theorem lay_ok : ∀ x : D, dSm x = true → (D.py x).canLay0 = true
  | .non, _ => rfl
  | .bl b, _ => rfl
  | .int i, _ => rfl
  | .str s, h => (Bool.and_eq_true_iff.mp h).1
  | .tup xs, h => by
    show PyData.canLay0 (.tuple (D.pyL xs)) = true
    simpa only [PyData.canLay0] using layL_ok xs h
  | .lst xs, h => by
    show PyData.canLay0 (.list (D.pyL xs)) = true
    simpa only [PyData.canLay0] using layL_ok xs h
  | .emp, h => by cases h
  | .obj _ _ _, h => by cases h
  | .dct _ _, h => by cases h
theorem layL_ok : ∀ xs : List D, dSmL xs = true → PyData.canLayAll0 (D.pyL xs) = true
  | [], _ => rfl
  | y :: ys, h => by
    obtain ⟨h1, h2⟩ := Bool.and_eq_true_iff.mp (show (dSm y && dSmL ys) = true from h)
    simp only [D.pyL, PyData.canLayAll0, lay_ok y h1, layL_ok ys h2, Bool.and_self]
end
theorem sh_of {x : D} (h : dSm x = true) (hd : dpt x ≤ 64) : x.sh = true := by
  obtain ⟨h1, _, _, h4⟩ := show_ok x h
  refine Bool.and_eq_true_iff.mpr ⟨h1, ?_⟩
  show (PyData.canLay0 (D.py x) && decide (PyData.depth (D.py x) ≤ 64)) = true
  rw [lay_ok x h, decide_eq_true (Nat.le_trans h4 hd)]
  rfl
theorem sm3 {a b c k l m : Nat} {x y z : D} (h1 : OkB a k x) (h2 : OkB b l y) (h3 : OkB c m z) : dSm (.tup [x, y, z]) = true := by
  show (dSm x && (dSm y && (dSm z && true))) = true
  rw [h1.2.1, h2.2.1, h3.2.1]
  rfl
theorem sh3 {a b c : Nat} {x y z : D} (h1 : OkB a 4 x) (h2 : OkB b 4 y) (h3 : OkB c 4 z) : (D.tup [x, y, z]).sh = true ∧ (D.lst [x, y, z]).sh = true := by
  have h4 := h1.2.2.2
  have h5 := h2.2.2.2
  have h6 := h3.2.2.2
  exact ⟨sh_of (sm3 h1 h2 h3) (by show 1 + max (dpt x) (max (dpt y) (max (dpt z) 0)) ≤ 64; omega), sh_of (x := .lst [x, y, z]) (sm3 h1 h2 h3) (by show 1 + max (dpt x) (max (dpt y) (max (dpt z) 0)) ≤ 64; omega)⟩
theorem eqv_refl3 {x : D} (h : x.sh = true) : PyData.eqv x.py x.py = true := SeqAt.eqv_refl _ (Bool.and_eq_true_iff.mp (Bool.and_eq_true_iff.mp h).2).1
theorem eqv_swap {xs ys : List D} : PyData.eqv (D.tup xs).py (D.tup ys).py = PyData.eqv (D.lst ys).py (D.lst xs).py := by
  rw [W.eqv_comm]
  show PyData.eqv (.tuple (D.pyL ys)) (.tuple (D.pyL xs)) = PyData.eqv (.list (D.pyL ys)) (.list (D.pyL xs))
  simp only [PyData.eqv]
theorem good_bad {h : Nat} {ls ns : List D} (G : Good h ls ns) : badOf (.int (h : Int)) (.tup ls) (.tup ns) = .non := by
  have h8 := G.small
  rw [badOf_int (by omega)]
  show (if areLeaves (.tup ls) h = true then (if areNodes (.tup ns) h ls = true then D.non else _) else _) = _
  rw [if_pos G.leaves, if_pos G.nodes]
theorem good_ok {h : Nat} {ls ns : List D} (G : Good h ls ns) : OkB 300 2 (.int (h : Int)) ∧ OkB 200000 4 (.tup ls) ∧ OkB 7000000 4 (.tup ns) := by
  have h8 := G.small
  have hl : ls.length = 2 ^ h := of_decide_eq_true (Bool.and_eq_true_iff.mp (Bool.and_eq_true_iff.mp (show (decide (ls.length = 2 ^ h) && _ && _) = true from G.leaves)).1).1
  have h3 : 2 ^ h ≤ 2 ^ 8 := Nat.pow_le_pow_right (by decide) h8
  exact ⟨okb_le (okb_int (by omega) (by omega)) (by decide), okb_tup (n := 260) (b := 400) (m := 3) (by omega) (by decide) G.okL (by decide), okb_tup (n := 260) (b := 24000) (m := 3) (by have := G.few; omega) (by decide) G.okN (by decide)⟩
def w_law_equal : WF := fun ds k => ∃ (h : Nat) (ls ns : List D), ds = [.lst [.int h, .tup ls, .tup ns]] ∧ Good h ls ns ∧ k (.d (.bl true))
theorem len_law_equal : ∀ ds k, w_law_equal ds k → ds.length + 1 = 2 := fun _ _ ⟨_, _, _, e, _⟩ => by rw [e]; rfl
abbrev tMk (K : PySem.W.Frag) (i : Nat) : TE := tMake (CT K) (spTree K) [] (fun _ _ _ => False) (tA3 K i)
def t_law_equal (K : PySem.W.Frag) : TS :=
  tSeq (tAsg (tMk K 1) (gName 2))
  (tSeq (tIfS (tOr (tNot (tTest (tOp (rEqOwn K (CT K) (spTEq K)) (tVar 2) (tMk K 1)))) (tOr (tTest (tOp (rEqOwn K (CT K) (spTEq K)) (tVar 2) (tCB (rTupU K) (tCons (tVar 1) tNil)))) (tTest (tOp (rEqOwn K (CT K) (spTEq K)) (tVar 2) (tTup (tA3 K 1))))))
    (tRet (tC (.bl false))) tNext)
  (tSeq (tAsg (PW.tCallH (spH K w_law_spoilt) L2.E0 0 (tCons (tVar 1) tNil)) (gName 3))
  (tSeq (tIfS (tTest (tOp rIsNotNo (tCall (spW K w_law_bad) [] L2.E0 (tCons (tVar 3) tNil)) (tC .non))) (tRet (tC (.bl true))) tNext)
  (tRet (tOp (rEqD K) (tOp (rEqOwn K (CT K) (spTEq K)) (tVar 2) (tMk K 3)) (tOp (rEqD K) (tVar 3) (tCB (rLstU K) (tCons (tVar 1) tNil))))))))
section
variable {P : Program} {w : World} {K : PySem.W.Frag} {mg : Str → Option Value} {base : Heap}
theorem i_law_spoilt {h : Nat} {ls ns : List D} {k : Res → Prop} (G : Good h ls ns) (q : ∀ x y z, OkB 300 2 x → OkB 200000 4 y → OkB 7000000 4 z → k (.nw (.lst [x, y, z]))) : w_law_spoilt [.lst [.int h, .tup ls, .tup ns]] k := ⟨h, ls, ns, rfl, G, q⟩
section
local macro_rules | `(tactic| walk_at "pw") => `(tactic| first
  | (with_reducible refine ye_tree ?_)
  | ((with_reducible show ∃ x y z : D, peekAll _ _ = some [x, y, z] ∧ _); refine ⟨_, _, _, rfl, by assumption, by assumption, by assumption, by assumption, _, rfl, ?_⟩)
  | ((with_reducible show OpD _ (rEqOwn _ _ _) (.obj _ _ _) (.obj _ _ _) _); refine o_eqT (by assumption) (by assumption) ?_)
  | ((with_reducible show OpD _ (rEqOwn _ _ _) (.obj _ _ _) (.tup _) _); refine o_eqTT ?_)
  | ((with_reducible show w_law_spoilt _ _); refine i_law_spoilt (by assumption) ?_; intro x y z ox oy oz)
  | ((with_reducible show w_law_bad _ _); refine i_law_bad (by assumption) (by assumption) (by assumption) (by assumption) (by assumption) ?_)
  | ((with_reducible show OpD _ (rEqD _) (.lst _) (.lst _) _); refine o_eq (by assumption) (by assumption) ?_)
  | (with_reducible refine o_ixL (by with_unfolding_all exact rfl) ?_))
theorem pure_law_equal : ∀ ds kk, w_law_equal ds kk → XS K (t_law_equal K) (iniH 4 ds) { nx := fun _ => kk (.d .non), rt := fun r _ => kk r } := by
  rintro _ kk ⟨h, ls, ns, rfl, G, g⟩
  show XS K (t_law_equal K) [.hand, .d (.lst [.int h, .tup ls, .tup ns]), .u, .u] (Fin kk)
  unfold t_law_equal tMk tA3
  obtain ⟨o1, o2, o3⟩ := good_ok G
  have j1 := o1.1.1
  have j2 := o2.1.1
  have j3 := o3.1.1
  have hb := good_bad G
  obtain ⟨s1, s2⟩ := sh3 (okb_le o1 (Nat.le_refl _)) o2 o3
  have er := eqv_refl3 s1
  walk_at "pws"
  · rename_i x y z ox oy oz
    have k1 := ox.1.1
    have k2 := oy.1.1
    have k3 := oz.1.1
    refine i_law_bad k1 k2 k3 oy.1.2 oz.1.2 ?_
    obtain ⟨s3, s4⟩ := sh3 (okb_le ox (Nat.le_refl _)) oy oz
    rcases badOf_str (x := x) (y := y) (z := z) with e | ⟨s, e⟩
    · rw [e]
      walk_at "pws"
      have g2 : kk (.d (.bl (decide (PyData.eqv (D.tup [.int h, .tup ls, .tup ns]).py (D.tup [x, y, z]).py = PyData.eqv (D.lst [x, y, z]).py (D.lst [.int h, .tup ls, .tup ns]).py)))) := by
        rw [decide_eq_true eqv_swap]
        exact g
      exact g2
    · rw [e]
      walk_at "pws"
      exact g
  · rename_i q
    rw [er] at q
    cases q
end
theorem pass_none {X : Cx} : Passes (L2.CX X.prog X.w) X (fun _ _ _ => False) := fun _ _ _ _ _ _ _ c => by
  obtain ⟨_, _, _, _, _, _, _, _, _, _, _, _, z⟩ := c
  exact z.elim
theorem c_law_equal (G : Gt P K mg) : Cal P w K mg base 11 "_law_equal" (spH K w_law_equal) [] := by
  obtain ⟨f, fd, F, hm⟩ := G.g.f_law_equal
  obtain ⟨fdI, FI, bI⟩ := c_Tree_init (P := P) (w := w) (base := base) G
  obtain ⟨fdE, FE, bE⟩ := c_Tree_eq (P := P) (w := w) (base := base) G
  refine ⟨f, fd, ["box", "parts"], [], F.ok sc_law_equal (fun vs H Q E h => len_h h fun ds k z => (len_law_equal ds k z)) (fun cdv A outer s H vs Q E hr h => ⟨t_law_equal K, PSs.nox ?_, entry_h h (by decide) pure_law_equal⟩), hm, F.kp, F.bindsN (fun _ _ _ _ _ _ us hl => match us, hl with | [_, _], _ => rfl), .nil⟩
  refine pss_cons (ps_set (i := 2) sc_law_equal.nd rfl (by first | exact Or.inl rfl | exact Or.inr rfl) (pe_make (dvs := []) (ds := []) G.mkT FI (hr.mono (by decide)) rfl G.g.c_Tree bI .nil pass_none (pa_cons (pe_ix ix_seq (pv 1) pe_int (fun _ _ => rfl)) (pa_cons (pe_ix ix_seq (pv 1) pe_int (fun _ _ => rfl)) (pa_cons (pe_ix ix_seq (pv 1) pe_int (fun _ _ => rfl)) pa_nil))))) ?_
  refine pss_cons (ps_if (L2.PW.pt (pw_or (pt_not (pt_cmpR (op_eqOwn FE (hr.mono (by decide)) G.eqF G.eqN bE G.nt) (pv 2) (pe_make (dvs := []) (ds := []) G.mkT FI (hr.mono (by decide)) rfl G.g.c_Tree bI .nil pass_none (pa_cons (pe_ix ix_seq (pv 1) pe_int (fun _ _ => rfl)) (pa_cons (pe_ix ix_seq (pv 1) pe_int (fun _ _ => rfl)) (pa_cons (pe_ix ix_seq (pv 1) pe_int (fun _ _ => rfl)) pa_nil)))) (nomark _)))
    (pw_or (pt_cmpR (op_eqOwn FE (hr.mono (by decide)) G.eqF G.eqN bE G.nt) (pv 2) (pe_callTy call_tupU rfl G.g.b_tuple (by decide +kernel) (pa_cons (pv 1) pa_nil)) (nomark _))
    (pw_or1 (pt_cmpR (op_eqOwn FE (hr.mono (by decide)) G.eqF G.eqN bE G.nt) (pv 2) (pe_tup (pa_cons (pe_ix ix_seq (pv 1) pe_int (fun _ _ => rfl)) (pa_cons (pe_ix ix_seq (pv 1) pe_int (fun _ _ => rfl)) (pa_cons (pe_ix ix_seq (pv 1) pe_int (fun _ _ => rfl)) pa_nil)))) (nomark _)))))) (pss_one (ps_ret pe_bl)) pss_nil) ?_
  refine pss_cons (ps_set (i := 3) sc_law_equal.nd rfl (by first | exact Or.inl rfl | exact Or.inr rfl) (pe_c (c_law_spoilt G.g) hr (by decide) rfl (pa_cons (pv 0) (pa_cons (pv 1) pa_nil)))) ?_
  refine pss_cons (ps_if (pt_cmpR op_isNotNo (pe_c (c_law_bad G.g) hr (by decide) rfl (pa_cons (pv 3) pa_nil)) pe_non (nomark _)) (pss_one (ps_ret pe_bl)) pss_nil) ?_
  exact pss_one (ps_ret (pe_cmpR (op_eqD (hu64 hr)) (pe_cmpR (op_eqOwn FE (hr.mono (by decide)) G.eqF G.eqN bE G.nt) (pv 2) (pe_make (dvs := []) (ds := []) G.mkT FI (hr.mono (by decide)) rfl G.g.c_Tree bI .nil pass_none (pa_cons (pe_ix ix_seq (pv 3) pe_int (fun _ _ => rfl)) (pa_cons (pe_ix ix_seq (pv 3) pe_int (fun _ _ => rfl)) (pa_cons (pe_ix ix_seq (pv 3) pe_int (fun _ _ => rfl)) pa_nil)))) (nomark _))
    (pe_cmpR (op_eqD (hu64 hr)) (pv 3) (pe_callTy call_lstU rfl G.g.b_list (by decide +kernel) (pa_cons (pv 1) pa_nil)) (nomark _)) (nomark _)))
end

end LawK08
end
section
namespace LawK08
open PySem PySem.Spec PyProof.Rows L2 C8 PW
local macro_rules | `(tactic| walk_at "env") => `(tactic| (first | (dsimp only [sto, stoE, frz, frzE, frzAll, wipeE, Res.ent, List.set, List.getElem?_cons_zero, List.getElem?_cons_succ]; done) | (dsimp only [sto, stoE, frz, frzE, frzAll, wipeE, Res.ent, List.set, List.getElem?_cons_zero, List.getElem?_cons_succ]; rfl) | rfl))
local macro_rules | `(tactic| walk_at "mem") => `(tactic| first | assumption | exact cut_sub (by assumption) | exact List.mem_cons_of_mem _ (by assumption) | (simp only [List.mem_cons, true_or, or_true]; done))
local macro_rules | `(tactic| walk_at "jn") => `(tactic| first | assumption | with_unfolding_all exact rfl | exact jnTr (by assumption) (by assumption) | exact jnTr (cut_sub (by assumption)) (by assumption) | exact jnTr (List.mem_cons_of_mem _ (by assumption)) (by assumption) | exact jnT (by assumption) (by walk_at "mem") | exact jnL' (by assumption) (by walk_at "mem") | exact jnT2 (by assumption) (by assumption) (by walk_at "mem"))
local macro_rules | `(tactic| walk_at "sz") => `(tactic| first | with_unfolding_all exact Nat.le_of_ble_eq_true rfl | assumption | exact szl (by assumption) | exact szS (by walk_at "jn") | exact szT (by walk_at "jn") | exact szTl (by assumption) | exact szL (by walk_at "jn") | exact szG (by walk_at "jn") | ((with_reducible show (PW.cutD _ _ _).length ≤ _); refine szC ?_; walk_at "sz") | with_unfolding_all exact szl (Nat.le_of_ble_eq_true rfl))
local macro_rules | `(tactic| walk_at "bi") => `(tactic| first | with_unfolding_all exact rfl | assumption | exact jn_bi (by walk_at "jn"))
local macro_rules | `(tactic| walk_at "pw") => `(tactic| first
  | ((with_reducible show PW.XE _ _ _ _); first | with_reducible refine xe_var_d (by with_unfolding_all exact rfl) ?_ | with_reducible refine xe_var_o (by with_unfolding_all exact rfl) ?_ | with_reducible refine xe_int ?_ | with_reducible refine xe_str ?_ | with_reducible refine xe_bl ?_ | with_reducible refine xe_non ?_ | with_reducible refine ye_emp ?_ | with_reducible refine xe_op ?_ | with_reducible refine xe_un ?_ | with_reducible refine xe_if ?_ | with_reducible refine xe_andV ?_ | with_reducible refine xe_orV ?_ | with_reducible refine xe_notV ?_ | with_reducible refine xe_chain ?_ | with_reducible refine xe_isi D.isTup isi_tuple ?_ | with_reducible refine xe_isi D.isLst isi_list ?_ | with_reducible refine xe_isi D.isStr isi_str ?_ | with_reducible refine xe_isi D.isInt isi_int ?_ | with_reducible refine xe_isi D.isBool isi_bool ?_ | with_reducible refine xe_isi D.isDct isi_dict ?_ | with_reducible refine xe_isi2 D.isTup D.isLst isi_tuple isi_list ?_ | with_reducible refine ye_lenSet ?_ | with_reducible refine ye_join ?_ | with_reducible refine xe_cb ?_ | with_reducible refine xe_callS ?_ | with_reducible refine ye_callH (by with_unfolding_all exact rfl) ?_ | with_reducible refine ye_call ?_ | with_reducible refine ye_tup ?_ | with_reducible refine ye_lst ?_ | with_reducible refine xe_sl ?_ | with_reducible refine ye_revT ?_ | with_reducible refine ye_rg1 ?_ | with_reducible refine ye_rg2 ?_ | with_reducible refine ye_meth (by with_unfolding_all exact rfl) (fun _ _ _ h => ty_list h) ?_ | with_reducible refine ye_meth0 (by with_unfolding_all exact rfl) (fun _ _ _ h => ty_list h) ?_)
  | ((with_reducible show PW.XA _ _ _ _); first | with_reducible refine xa_nil ?_ | with_reducible refine xa_cons ?_)
  | ((with_reducible show PW.XT _ _ _ _); first | with_reducible refine xt_yes ?_ | with_reducible refine xt_test ?_ | with_reducible refine xt_B ?_ | with_reducible refine xt_not ?_ | with_reducible refine xt_and ?_ | with_reducible refine xt_or ?_)
  | ((with_reducible show PW.XS _ _ _ _); first | with_reducible refine xs_seq ?_ | with_reducible refine xs_next ?_ | with_reducible refine ys_asg ?_ | with_reducible refine xs_if ?_ | with_reducible refine ys_ret ?_ | with_reducible refine xs_retN ?_ | with_reducible refine xs_drop ?_ | with_reducible refine xs_break ?_ | with_reducible refine xs_cont ?_ | with_reducible refine ys_par (by with_unfolding_all decide) ?_ | with_reducible refine ys_par3 (by with_unfolding_all decide) (by with_unfolding_all decide) (by with_unfolding_all decide) ?_ | with_reducible refine ys_unp2 (by with_unfolding_all decide) ?_ | with_reducible refine ys_unp3 (by with_unfolding_all decide) (by with_unfolding_all decide) (by with_unfolding_all decide) ?_ | with_reducible refine ys_setix ?_ | with_reducible refine ys_asgG ?_ | with_reducible refine xs_for ?_)
  | ((with_reducible show PW.OpD _ _ _ _ _); first | with_reducible refine o_addI ?_ | with_reducible refine o_subI ?_ | with_reducible refine o_mulI (by first | with_unfolding_all exact .inl ⟨by decide, by decide⟩ | with_unfolding_all exact .inr ⟨by decide, by decide⟩) ?_ | with_reducible refine o_mulI (cmulL (by omega) (by omega)) ?_ | with_reducible refine o_mulI (cmulR (by omega) (by omega)) ?_ | with_reducible refine o_divI (by with_unfolding_all exact ⟨by decide, by decide⟩) ?_ | with_reducible refine o_modI (by with_unfolding_all decide) ?_ | with_reducible refine o_powI (by with_unfolding_all exact ⟨by decide, by decide, by decide⟩) ?_ | with_reducible refine o_ltI ?_ | with_reducible refine o_leI ?_ | with_reducible refine o_leUI ?_ | with_reducible refine o_leP ?_ | with_reducible refine o_shlI (cpow1 (by omega) (by omega)) ?_ | with_reducible refine o_gtI ?_ | with_reducible refine o_geI ?_ | with_reducible refine o_eqI ?_ | with_reducible refine o_neI ?_ | with_reducible refine o_eqB ?_ | with_reducible refine o_neB ?_ | with_reducible refine o_isNo ?_ | with_reducible refine o_isNotNo ?_ | with_reducible refine o_isBo ?_ | with_reducible refine o_isNotBo ?_ | with_reducible refine o_inC ?_ | with_reducible refine o_notInC ?_ | with_reducible refine o_ix0 ?_ | with_reducible refine o_ix1 ?_ | with_reducible refine o_ix2 ?_ | ((with_reducible show PW.OpD _ (rIx _) (.tup _) (.int 0) _); refine o_ix0e (ne_len (by omega)) ?_; intro y ys e; subst e) | with_reducible refine o_ixT (by with_unfolding_all exact rfl) ?_ | with_reducible refine o_ixL (by with_unfolding_all exact rfl) ?_)
  | ((with_reducible show PW.CaD _ _ _ _); first | with_reducible refine c_lenT ?_ | with_reducible refine c_lenL ?_ | with_reducible refine c_intI ?_ | with_reducible refine c_intB ?_ | with_reducible refine c_absI ?_ | with_reducible refine c_allM ?_ | with_reducible refine c_anyM ?_ | with_reducible refine c_tupL ?_ | with_reducible refine c_tupT ?_ | with_reducible refine c_lstL ?_ | with_reducible refine c_lstT ?_ | ((with_reducible show CaD _ (rLenU _) [.str _] _); with_reducible refine c_lenS (by walk_at "sz") ?_))
  | ((with_reducible show PW.XI _ _ _ _); first | with_reducible refine yi_seqU ?_ | with_reducible refine yi_enum ?_ | with_reducible refine yi_zip ?_ | with_reducible refine xi_range1 ?_ | with_reducible refine xi_range2 ?_)
  | ((with_reducible show PW.XG _ _ _ _ _); first | with_reducible refine yg_name ?_ | with_reducible refine xg_tup (by with_unfolding_all exact rfl) ?_)
  | ((with_reducible show PW.XGs _ _ _ _ _); first | with_reducible refine xgs_nil ?_ | with_reducible refine xgs_cons ?_)
  | ((with_reducible show PW.XM _ _ _ _ _); first | with_reducible refine xm_nil ?_ | with_reducible refine xm_cons ?_)
  | ((with_reducible show PW.XO _ _ _ _); first | with_reducible refine xo_none ?_ | with_reducible refine xo_some ?_)
  | ((with_reducible show PW.SlD _ _ _ _ _ _); first | with_reducible refine sl_tail ?_ | with_reducible refine sl_T ?_ | with_reducible refine sl_L ?_)
  | ((with_reducible show PW.UnD _ _ _ _); first | with_reducible refine u_neg ?_)
  | ((with_reducible show PW.back _ _ _); first | with_reducible refine back_d ?_ | with_reducible refine back_nw ?_ | with_reducible refine back_v (by with_unfolding_all exact rfl) ?_)
  | walk_at "cnt"
  | walk_at "br")
local macro_rules | `(tactic| walk_at "cnt") => `(tactic| first
  | with_reducible refine ex_env (by walk_at "env") ?_
  | ((with_reducible show ∃ x : List D, _ = some x ∧ x.length ≤ _ ∧ _); with_reducible refine ex_pks2 (by with_unfolding_all exact rfl) (by walk_at "sz") ?_)
  | with_reducible refine ex_pks (by with_unfolding_all exact rfl) ?_
  | ((with_reducible show ∃ x : D, _ = some x ∧ x.isBuiltin = true ∧ _); with_reducible refine ex_pk2 (by with_unfolding_all exact rfl) (by walk_at "bi") ?_)
  | with_reducible refine lc_fin (by with_unfolding_all exact rfl) (by with_unfolding_all exact rfl) ?_
  | with_reducible refine lcf_fin (by with_unfolding_all exact rfl) (by with_unfolding_all exact rfl) ?_
  | with_reducible refine ex_pk (by with_unfolding_all exact rfl) ?_
  | with_reducible refine ex_op (by with_unfolding_all exact rfl) (by with_unfolding_all exact rfl) ?_
  | with_reducible refine ex_it (by with_unfolding_all exact rfl) (by with_unfolding_all exact rfl) ?_
  | with_reducible refine ex_its (by with_unfolding_all exact rfl) (by with_unfolding_all exact rfl) ?_
  | with_reducible refine ex_zip (by with_unfolding_all exact rfl) (by with_unfolding_all exact rfl) ?_
  | with_reducible refine ex_bl ?_
  | with_reducible refine ex_int ?_
  | with_reducible refine ex_sc (by with_unfolding_all exact rfl) ?_
  | with_reducible refine and_brT ?_
  | with_reducible refine and_brF ?_
  | with_reducible refine and_rbT ?_
  | with_reducible refine and_rbF ?_
  | with_reducible refine and_nT ?_
  | with_reducible refine and_nF ?_
  | with_reducible refine and_mT ?_
  | with_reducible refine and_mF ?_
  | with_reducible refine and_br ?_ ?_
  | with_reducible refine and_rb ?_ ?_
  | with_reducible refine ⟨nv_d, ?_⟩
  | with_reducible refine ⟨nv_nw, ?_⟩)
local macro_rules | `(tactic| walk_at "br") => `(tactic| first
  | (with_reducible refine br_tup ?_; intro xs e; subst e)
  | (with_reducible refine br_tupN ?_; intro xs e; subst e)
  | (with_reducible refine br_lst ?_; intro xs e; subst e)
  | (with_reducible refine br_lstN ?_; intro xs e; subst e)
  | (with_reducible refine br_str ?_; intro xs e; subst e)
  | (with_reducible refine br_strN ?_; intro xs e; subst e)
  | (with_reducible refine br_non ?_; intro e; subst e)
  | (with_reducible refine br_nonN ?_; intro e; subst e)
  | (with_reducible refine br_t ?_; intro h; first | (cases h; done) | (simp only [lenc, List.length_nil, decide_eq_true_eq, decide_eq_false_iff_not] at h; omega) | exact absurd (show true = false from h) (by decide) | exact absurd (show false = true from h) (by decide) | (simp only [lenc, List.length_nil, Bool.not_eq_true', Bool.not_eq_false', decide_eq_true_eq, decide_eq_false_iff_not] at h) | skip)
  | (with_reducible refine br_f ?_; intro h; first | (cases h; done) | (simp only [lenc, List.length_nil, decide_eq_true_eq, decide_eq_false_iff_not] at h; omega) | exact absurd (show true = false from h) (by decide) | exact absurd (show false = true from h) (by decide) | (simp only [lenc, List.length_nil, Bool.not_eq_true', Bool.not_eq_false', decide_eq_true_eq, decide_eq_false_iff_not] at h) | skip)
  | (with_reducible refine signs_one ?_; intro c)
  | (with_reducible refine fa_mem ?_; intro d hd)
  | ((with_reducible show _ ≤ sizeLine ∧ _); with_reducible refine lc_split (by walk_at "sz") (by walk_at "env") ?_ ?_)
  | ((with_reducible show wipeE _ _ = _ ∧ _); with_reducible refine lc_env (by walk_at "env") ?_)
  | ((with_reducible show (_ : D) = _); exact rfl))
local macro_rules | `(tactic| walk_at "pws") => `(tactic| repeat' walk_at "pw")
local macro_rules | `(tactic| walk_at "pw") => `(tactic| first
  | ((with_reducible show w_is_integer _ _); with_reducible refine i_is_integer (by walk_at "bi") ?_) | ((with_reducible show w_is_within _ _); with_reducible refine i_is_within (by walk_at "bi") ?_) | ((with_reducible show w_is_tuple_of _ _); with_reducible refine i_is_tuple_of (by walk_at "bi") ?_)
  | ((with_reducible show w_is_name _ _); with_reducible refine i_is_name (by walk_at "jn") ?_) | ((with_reducible show w_is_lock _ _); with_reducible refine i_is_lock (by walk_at "bi") ?_) | ((with_reducible show w_is_member _ _); with_reducible refine i_is_member (by walk_at "jn") ?_)
  | (with_reducible refine br_two ?_; intro a b e; subst e) | (with_reducible refine br_twoN ?_; intro a b e; subst e) | (with_reducible refine br_thr ?_; intro a b c e; subst e) | (with_reducible refine br_thrN ?_; intro a b c e; subst e)
  | (with_reducible refine br_int ?_; intro i e; subst e) | (with_reducible refine br_win ?_; intro i e h1 h2; subst e) | (with_reducible refine br_winN ?_; intro i e h1 h2; subst e))
local macro_rules | `(tactic| walk_at "pw") => `(tactic| first
  | ((with_reducible show w_law_int _ _); with_reducible refine i_law_int (by walk_at "bi") ?_) | ((with_reducible show w_law_named _ _); with_reducible refine i_law_named (by walk_at "jn") ?_) | ((with_reducible show w_law_node _ _); with_reducible refine i_law_node (by walk_at "jn") (by assumption) ?_))
local macro_rules | `(tactic| walk_at "pw") => `(tactic| first
  | (with_reducible refine br_l2 ?_; intro a b e; subst e) | (with_reducible refine br_l3 ?_; intro a b c e; subst e))
/-! _law_box, law -/
theorem sql_mono {K : PySem.W.Frag} {H H' : Hp} {a : Addr} {xs : List V} (h : SqL K H a xs) (e : PW.Ext H H') : SqL K H' a xs := by
  rcases h with (h | ⟨o, h⟩) | h
  · exact .inl (.inl (e _ _ h))
  · exact .inl (.inr ⟨o, e _ _ h⟩)
  · exact .inr h
def spBox (K : PySem.W.Frag) : Sp := fun vs H Q _ => ∃ (a : Addr) (ns : List Int), vs = [.ref a] ∧ SqL K H a (ns.map V.int) ∧
  ∀ p c H', PW.Ext H H' → H p = none → H c = none → c ≠ p → H' p = some (.dK (boxK c 0 0 0 false 0)) → H' c = some (.lst (ns.map V.int)) → Q (.ref p) H'
def t_law_box (K : PySem.W.Frag) : TS := tRet (tDisp [(tC (.str "cells"), tCB (rLstU K) (tCons (tVar 0) tNil)), (tC (.str "at"), tC (.int 0)), (tC (.str "rest"), tC (.int 0)), (tC (.str "many"), tC (.int 0)), (tC (.str "great"), tC (.bl false)), (tC (.str "all"), tC (.int 0))])
theorem body_law_box {K : PySem.W.Frag} {vs : List V} {H : Hp} {Q : VK} {E : XK} (h : spBox K vs H Q E) : t_law_box K { nx := fun _ H' => Q .non H', rt := Q } (L2.start ["script"] vs) H := by
  obtain ⟨a, ns, rfl, hs, fin⟩ := h
  intro p hp
  have x1 : PW.Ext H (upd H p (.dK [])) := PW.Ext.new hp
  refine ⟨.ref a, rfl, a, ns.map V.int, rfl, .inl (sql_mono hs x1), fun c hc => ?_⟩
  have hcp : c ≠ p := fun z => by rw [z, upd_same] at hc; cases hc
  have hc0 : H c = none := by rw [upd_ne hcp] at hc; exact hc
  refine ⟨by rw [upd_ne (Ne.symm hcp)]; exact upd_same, [(.inr "cells", .ref c), (.inr "at", .int 0), (.inr "rest", .int 0), (.inr "many", .int 0), (.inr "great", .bl false), (.inr "all", .int 0)], rfl, (by show 6 ≤ 15; decide), ?_⟩
  refine fin p c _ ?_ hp hc0 hcp ?_ ?_
  · intro b o e
    rw [upd_ne (ne_of_none e hp), upd_ne (ne_of_none e hc0), upd_ne (ne_of_none e hp)]
    exact e
  · rw [upd_same]
    rfl
  · rw [upd_ne hcp, upd_same]
section
variable {P : Program} {w : World} {K : PySem.W.Frag} {mg : Str → Option Value} {base : Heap}
theorem c_law_box (G : Gt P K mg) : Cal P w K mg base 1 "_law_box" (spBox K) [] := by
  obtain ⟨f, fd, F, hm⟩ := G.g.f_law_box
  refine ⟨f, fd, ["script"], [], F.ok sc_law_box (fun vs H Q E h => by obtain ⟨_, _, e, _⟩ := h; rw [e]; rfl) (fun cdv A outer s H vs Q E hr h => ⟨t_law_box K, PSs.nox ?_, body_law_box h⟩), hm, F.kp, F.bindsN (fun _ _ _ _ _ _ us hl => match us, hl with | [_], _ => rfl), .nil⟩
  exact pss_one (ps_ret (pe_disp (pps_cons pe_str (pe_callTy call_lstU rfl G.g.b_list (by decide +kernel) (pa_cons (pv 0) pa_nil)) (pps_cons pe_str pe_int (pps_cons pe_str pe_int (pps_cons pe_str pe_int (pps_cons pe_str pe_bl (pps_cons pe_str pe_int pps_nil)))))) (by rfl) (by rfl) (fun z => by cases z) (by decide)))
end
def tRp (K : PySem.W.Frag) (wf : WF) (i : Nat) : TE := tCB (rRepr K) (tCons (tCall (spW K wf) [] L2.E0 (tCons (tVar i) tNil)) tNil)
def tNeq (K : PySem.W.Frag) (i : Nat) : TT := tTest (tOp L2.rNe (tRp K w_law_told i) (tRp K w_law_due i))
def t_turn (K : PySem.W.Frag) : TS :=
  tSeq (tAsg (PW.tCallH (spH K w_law_tree) L2.E0 1 (tCons (tIf (tTest (tOp (rEqD K) (PW.tCallH (spH K w_law_draw) L2.E0 1 (tCons (tC (.int 40)) tNil)) (tC (.int 0)))) (tC (.int 8)) (tC (.int 4))) tNil)) (gName 3))
  (tSeq (tIfS (tOr (tNeq K 3) (tTest (tOp (rNeD K) (tOp (rIx K) (tCall (spW K w_law_told) [] L2.E0 (tCons (tVar 3) tNil)) (tC (.int 0))) (tC (.str "made"))))) (tRet (tC (.bl false))) tNext)
  (tSeq (tFor (iRng1 (tCons (tC (.int 5)) tNil)) (gName 4) (tSeq (tAsg (PW.tCallH (spH K w_law_spoilt) L2.E0 1 (tCons (tVar 3) tNil)) (gName 5)) (tIfS (tNeq K 5) (tRet (tC (.bl false))) tNext)))
  (tIfS (tNot (tB (PW.tCallH (spH K w_law_equal) L2.E0 1 (tCons (tVar 3) tNil)))) (tRet (tC (.bl false))) tNext)))
def t_rest (K : PySem.W.Frag) : TS := tSeq (tFor (iRng1 (tCons (tC (.int 3)) tNil)) (gName 2) (t_turn K)) (tRet (tC (.bl true)))
def t_law_main (K : PySem.W.Frag) : TS := tSeq (tAsg (tCall (spBox K) [] L2.E0 (tCons (tVar 0) tNil)) (gName 1)) (t_rest K)
section
variable {K : PySem.W.Frag} {x y z : D} {k : Res → Prop}
theorem i_law_told (h1 : x.jn = true) (h2 : y.jn = true) (h3 : z.jn = true) (q : k (.d (dueOf x y z))) : w_law_told [.lst [x, y, z]] k := ⟨x, y, z, rfl, h1, h2, h3, q⟩
theorem i_law_due (h1 : x.jn = true) (h2 : y.jn = true) (h3 : z.jn = true) (h4 : dIm y = true) (h5 : dIm z = true) (q : k (.d (dueOf x y z))) : w_law_due [.lst [x, y, z]] k := ⟨x, y, z, rfl, h1, h2, h3, h4, h5, q⟩
theorem i_law_tree {m : Int} (h0 : 0 ≤ m) (h8 : m ≤ 8) (q : ∀ (h : Nat) (ls ns : List D), Good h ls ns → k (.nw (.lst [.int h, .tup ls, .tup ns]))) : w_law_tree [.int m] k := ⟨m, rfl, h0, h8, q⟩
theorem i_law_equal {h : Nat} {ls ns : List D} (G : Good h ls ns) (q : k (.d (.bl true))) : w_law_equal [.lst [.int h, .tup ls, .tup ns]] k := ⟨h, ls, ns, rfl, G, q⟩
theorem o_neSame {s : Str} (g : k (.d (.bl false))) : OpD K L2.rNe (.str s) (.str s) k := opd_val (z := .bl false) (fun M H u v Q h1 h2 q => by
  have e1 : u = .str s := h1.str
  have e2 : v = .str s := h2.str
  subst e1 e2
  exact ⟨rfl, q _ (by rw [decide_eq_true rfl]; rfl)⟩) g
theorem o_neStr {s : Str} (hs : (D.str s).sh = true) (g : k (.d (.bl false))) : OpD K (rNeD K) (.str s) (.str s) k := o_ne hs hs (by rw [eqv_str, decide_eq_true rfl]; exact g)
theorem due_good {h : Nat} {ls ns : List D} (G : Good h ls ns) : dueOf (.int h) (.tup ls) (.tup ns) = .tup [.str "made", .int h, .tup ls, .tup ns] := by
  unfold dueOf
  rw [good_bad G]
  exact if_pos rfl
theorem badOf_part : badOf x y z = .non ∨ ∃ s : Str, badOf x y z = .str s ∧ (D.str s = .str "height" ∨ D.str s = .str "leaves" ∨ D.str s = .str "nodes") := by
  unfold badOf
  repeat' first
    | exact .inl rfl
    | exact .inr ⟨_, rfl, .inl rfl⟩
    | exact .inr ⟨_, rfl, .inr (.inl rfl)⟩
    | exact .inr ⟨_, rfl, .inr (.inr rfl)⟩
    | split
theorem due_ok (h1 : OkB 300 2 x) (h2 : OkB 200000 4 y) (h3 : OkB 7000000 4 z) : ∃ xs, dueOf x y z = .tup xs ∧ dSm (.tup xs) = true ∧ wt (.tup xs) ≤ 16000000 ∧ dpt (.tup xs) ≤ 6700 := by
  rcases badOf_part (x := x) (y := y) (z := z) with e | ⟨s, e, es⟩
  · refine ⟨[.str "made", x, y, z], by unfold dueOf; rw [e]; exact if_pos rfl, ?_, ?_, ?_⟩
    · show (dSm (.str "made") && (dSm x && (dSm y && (dSm z && true)))) = true
      rw [h1.2.1, h2.2.1, h3.2.1]
      decide +kernel
    · have a1 := h1.2.2.1
      have a2 := h2.2.2.1
      have a3 := h3.2.2.1
      have a4 : wt (.str "made") ≤ 100 := by decide
      show 4 + (wt (.str "made") + 2 + (wt x + 2 + (wt y + 2 + (wt z + 2 + 0)))) ≤ _
      omega
    · have a1 := h1.2.2.2
      have a2 := h2.2.2.2
      have a3 := h3.2.2.2
      have a4 : dpt (.str "made") ≤ 1 := by decide
      show 1 + max (dpt (.str "made")) (max (dpt x) (max (dpt y) (max (dpt z) 0))) ≤ _
      omega
  · refine ⟨[.str "bad", .str s, .bl false, .bl true], by unfold dueOf; rw [e]; exact if_neg Bool.false_ne_true, ?_⟩
    rcases es with es | es | es <;> (rw [es]; decide +kernel)
theorem c_reprDue (h1 : OkB 300 2 x) (h2 : OkB 200000 4 y) (h3 : OkB 7000000 4 z) (g : ∀ s : Str, s = reprD (dueOf x y z) → k (.d (.str s))) : CaD K (rRepr K) [dueOf x y z] k := by
  obtain ⟨xs, e, a1, a2, a3⟩ := due_ok h1 h2 h3
  have g2 := g _ rfl
  rw [e] at g2 ⊢
  exact c_repr a1 a2 a3 g2
theorem ok_jn {b m : Nat} (h : OkB b m x) : x.jn = true := h.1.1
section
local macro_rules | `(tactic| walk_at "pw") => `(tactic| first
  | ((with_reducible show w_law_told _ _); refine i_law_told (ok_jn (by assumption)) (ok_jn (by assumption)) (ok_jn (by assumption)) ?_)
  | ((with_reducible show w_law_due _ _); refine i_law_due (ok_jn (by assumption)) (ok_jn (by assumption)) (ok_jn (by assumption)) (And.right (And.left (by assumption : OkB 200000 4 _))) (And.right (And.left (by assumption : OkB 7000000 4 _))) ?_)
  | ((with_reducible show CaD _ (rRepr _) _ _); refine c_reprDue (by assumption) (by assumption) (by assumption) ?_; intro s es; subst es)
  | ((with_reducible show OpD _ L2.rNe _ _ _); refine o_neSame ?_)
  | ((with_reducible show w_law_tree _ _); refine i_law_tree (by decide) (by decide) ?_; intro h ls ns G; obtain ⟨o1, o2, o3⟩ := good_ok G)
  | ((with_reducible show OpD _ (rIx _) (dueOf _ _ _) _ _); rw [due_good (by assumption)]; refine o_ixT (by with_unfolding_all exact rfl) ?_)
  | ((with_reducible show OpD _ (rNeD _) (.str _) (.str _) _); refine o_neStr (by decide +kernel) ?_)
  | ((with_reducible show w_law_spoilt _ _); refine i_law_spoilt (by assumption) ?_; intro x y z ox oy oz)
  | ((with_reducible show w_law_equal _ _); refine i_law_equal (by assumption) ?_)
  | ((with_reducible show w_law_draw _ _); refine i_law_draw (by decide) (by decide) ?_; intro r h0 h1))
theorem turn_pure {a b c d : Ent} : XS K (t_turn K) [.u, .hand, a, b, c, d] { nx := fun ρ => ∃ a b c d, ρ = [.u, .hand, a, b, c, d], rt := fun r _ => r = .d (.bl true) } := by
  unfold t_turn tNeq tRp
  walk_at "pws"
  all_goals
    refine ⟨5, rfl, by decide, by decide, fun _ ρ => ∃ e f, ρ = [.u, .hand, a, .d (.lst [_, .tup _, .tup _]), e, f], ⟨_, _, rfl⟩, fun i dd ρ' hd hI => ?_, fun ρ' hI => ?_⟩
    · obtain ⟨e, f, rfl⟩ := hI
      walk_at "pws"
      exact ⟨_, _, rfl⟩
    · obtain ⟨e, f, rfl⟩ := hI
      show XS K (tIfS _ _ _) _ _
      walk_at "pws"
      exact ⟨_, _, _, _, rfl⟩
theorem xs_up {t : TS} {ρ : List Ent} {Φ Ψ : Post} (h : XS K t ρ Φ) (g1 : ∀ ρ', Φ.nx ρ' → Ψ.nx ρ') (g2 : ∀ r ρ', Φ.rt r ρ' → Ψ.rt r ρ') (g3 : ∀ ρ', Φ.bk ρ' → Ψ.bk ρ') (g4 : ∀ ρ', Φ.ct ρ' → Ψ.ct ρ') : XS K t ρ Ψ := fun F H σ Dn E I =>
  h F H σ Dn E ⟨fun H σ ρ k E p => I.nx H σ ρ k E (g1 _ p), fun v H σ ρ r k R n p => I.rt v H σ ρ r k R n (g2 _ _ p), fun H σ ρ k E p => I.bk H σ ρ k E (g3 _ p), fun H σ ρ k E p => I.ct H σ ρ k E (g4 _ p)⟩
theorem rest_pure {a b c d : Ent} : XS K (t_rest K) [.u, .hand, a, b, c, d] { nx := fun _ => False, rt := fun r _ => r = .d (.bl true) } := by
  unfold t_rest
  walk_at "pws"
  refine ⟨3, rfl, by decide, by decide, fun _ ρ => ∃ a b c d, ρ = [.u, .hand, a, b, c, d], ⟨_, _, _, _, rfl⟩, fun i dd ρ' hd hI => ?_, fun ρ' hI => ?_⟩
  · obtain ⟨a, b, c, d, rfl⟩ := hI
    walk_at "pws"
    exact xs_up turn_pure (fun _ z => z) (fun _ _ z => z) (fun _ z => z.elim) (fun _ z => z.elim)
  · obtain ⟨a, b, c, d, rfl⟩ := hI
    show XS K (tRet _) _ _
    walk_at "pws"
    rfl
end
end
def spLaw (K : PySem.W.Frag) : Sp := fun vs H Q _ => ∃ (a : Addr) (ns : List Int), vs = [.ref a] ∧ SqL K H a (ns.map V.int) ∧ ∀ H', Q (.bl true) H'
theorem body_law {K : PySem.W.Frag} {v : V} {H : Hp} {Q : VK} {E : XK} (h : spLaw K [v] H Q E) : t_law_main K { nx := fun _ H' => Q .non H', rt := Q } (L2.start ["script", "box", "turn", "parts", "k", "other"] [v]) H := by
  obtain ⟨a, ns, e, hs, fin⟩ := h
  cases e
  refine ⟨.ref a, rfl, ?_⟩
  refine ⟨a, ns, rfl, hs, fun p c H' ex hp hc hcp h1 h2 => ?_⟩
  show t_rest K _ [some (.ref a), some (.ref p), none, none, none, none] H'
  have own : ∀ (i : Nat) (w : D), ([Ent.u, .hand, .u, .u, .u, .u] : List Ent)[i]? = some (.own w) → False := fun i w h => by
    match i, h with
    | 0, h => cases h
    | 1, h => cases h
    | 2, h => cases h
    | 3, h => cases h
    | 4, h => cases h
    | 5, h => cases h
    | _ + 6, h => cases h
  have less : ∀ b, hot ⟨fun b => b = p, H', some p⟩ [some (.ref a), some (.ref p), none, none, none, none] [.u, .hand, .u, .u, .u, .u] b → b = p := fun b hb => by
    rcases hb with hb | ⟨j, w, h1, _⟩
    · exact hb
    · exact (own j w h1).elim
  have E1 : Env K ⟨fun b => b = p, H', some p⟩ H' [some (.ref a), some (.ref p), none, none, none, none] [.u, .hand, .u, .u, .u, .u] := by
    refine ⟨rfl, fun b o _ e => e, fun b hb => ?_, fun b hb => ?_, fun i w b h => (own i w h).elim, fun i j w w2 b h => (own i w h).elim, fun i e he => ?_⟩
    · have hb : b = p := hb
      rw [hb, h1]
      exact fun z => nomatch z
    · cases hb
      exact ⟨rfl, by show H' p ≠ none; rw [h1]; exact (fun z => nomatch z), c, ns, 0, 0, 0, false, 0, h1, ⟨fun z => hcp (less c z), h2⟩, Int.le_refl 0⟩
    · match i, he with
      | 0, he => cases he; trivial
      | 1, he => cases he; exact ⟨p, rfl, rfl⟩
      | 2, he => cases he; trivial
      | 3, he => cases he; trivial
      | 4, he => cases he; trivial
      | 5, he => cases he; trivial
      | _ + 6, he => cases he
  refine rest_pure _ H' _ _ E1 ⟨fun _ _ _ _ _ z => z.elim, fun v H2 σ ρ r _ R n g => ?_, fun _ _ _ _ _ g => g.elim, fun _ _ _ _ _ g => g.elim⟩
  subst g
  rw [show v = .bl true from R.held]
  exact fin H2
section
variable {P : Program} {w : World} {K : PySem.W.Frag} {mg : Str → Option Value} {base : Heap}
theorem run_law (G : Gt P K mg) : ∃ f fd, mg "law" = some (.ref f) ∧ (∀ (s : Shared) (u : Value), BindsTo s fd ⟨[u], []⟩ [("script", u)]) ∧ ∀ base : Heap, PW.RunC P w K mg base f fd "script" (spLaw K) := by
  obtain ⟨f, fd, F, hm⟩ := G.g.f_law_main
  have b := FunD.bindsA (ps := ["script"]) F fun _ _ _ _ _ _ us hl => match us, hl with | [_], _ => rfl
  refine ⟨f, fd, hm, fun s u => b s [u] rfl, fun base => PW.runC_of (k := 20) F sc_law_main ⟨rfl, by decide, by decide⟩ fun cdv s H v Q hr h => ⟨t_law_main K, PSs.nox ?_, body_law h⟩⟩
  refine pss_cons (ps_set (i := 1) sc_law_main.nd rfl (by first | exact Or.inl rfl | exact Or.inr rfl) (pe_c (c_law_box G) hr (by decide) rfl (pa_cons (pv 0) pa_nil))) ?_
  refine pss_cons (ps_for PassesOwn.never rfl (pi_range1 rfl G.g.b_range (pa_cons pe_int pa_nil)) (pg_name (i := 2) sc_law_main.nd rfl (by first | exact Or.inl rfl | exact Or.inr rfl)) ?_) (pss_one (ps_ret pe_bl))
  refine pss_cons (ps_set (i := 3) sc_law_main.nd rfl (by first | exact Or.inl rfl | exact Or.inr rfl) (pe_c (c_law_tree G.g) hr (by decide) rfl (pa_cons (pv 1) (pa_cons (pe_ifExp (pt_cmpR (op_eqD (hu64 hr)) (pe_c (c_law_draw G.g) hr (by decide) rfl (pa_cons (pv 1) (pa_cons pe_int pa_nil))) pe_int (nomark _)) pe_int pe_int) pa_nil)))) ?_
  refine pss_cons (ps_if (L2.PW.pt (pw_or (pt_cmpR op_ne (pe_callB (call_reprG rfl (by show callerA.units + 3 ≤ 1000; decide)) rfl G.g.b_repr (by decide +kernel) (pa_cons (pe_c (c_law_told G) hr (by decide) rfl (pa_cons (pv 3) pa_nil)) pa_nil)) (pe_callB (call_reprG rfl (by show callerA.units + 3 ≤ 1000; decide)) rfl G.g.b_repr (by decide +kernel) (pa_cons (pe_c (c_law_due G.g) hr (by decide) rfl (pa_cons (pv 3) pa_nil)) pa_nil)) (nomark _))
    (pw_or1 (pt_cmpR (op_neD (hu64 hr)) (pe_ix ix_seq (pe_c (c_law_told G) hr (by decide) rfl (pa_cons (pv 3) pa_nil)) pe_int (fun _ _ => rfl)) pe_str (nomark _))))) (pss_one (ps_ret pe_bl)) pss_nil) ?_
  refine pss_cons (ps_for PassesOwn.never rfl (pi_range1 rfl G.g.b_range (pa_cons pe_int pa_nil)) (pg_name (i := 4) sc_law_main.nd rfl (by first | exact Or.inl rfl | exact Or.inr rfl)) ?_) ?_
  · refine pss_cons (ps_set (i := 5) sc_law_main.nd rfl (by first | exact Or.inl rfl | exact Or.inr rfl) (pe_c (c_law_spoilt G.g) hr (by decide) rfl (pa_cons (pv 1) (pa_cons (pv 3) pa_nil)))) ?_
    exact pss_one (ps_if (pt_cmpR op_ne (pe_callB (call_reprG rfl (by show callerA.units + 3 ≤ 1000; decide)) rfl G.g.b_repr (by decide +kernel) (pa_cons (pe_c (c_law_told G) hr (by decide) rfl (pa_cons (pv 5) pa_nil)) pa_nil)) (pe_callB (call_reprG rfl (by show callerA.units + 3 ≤ 1000; decide)) rfl G.g.b_repr (by decide +kernel) (pa_cons (pe_c (c_law_due G.g) hr (by decide) rfl (pa_cons (pv 5) pa_nil)) pa_nil)) (nomark _)) (pss_one (ps_ret pe_bl)) pss_nil)
  · exact pss_one (ps_if (pt_not (pt_val (pe_c (c_law_equal G) hr (by decide) rfl (pa_cons (pv 1) (pa_cons (pv 3) pa_nil))))) (pss_one (ps_ret pe_bl)) pss_nil)
end

end LawK08
end
section
set_option maxHeartbeats 0
namespace LawK08
open PySem PySem.Spec PyProof.Rows L2 C8 PW
def s_BadTree_init : Stmt := inClass (top 6) 0
def hfa : List He.Fa := [.free "all", .free "bool", .free "int", .free "isinstance", .free "len", .free "list", .free "range", .free "reversed", .free "set", .free "str", .free "tuple", .free "zip", .free "repr", .free "super", .int "MOST_SIGNS" 12, .int "MOST_HIGH" 8, .str "SIGNS" "abcdefghijklmnopqrstuvwxyz", .glo "is_integer", .glo "is_within", .glo "is_tuple_of", .glo "is_name", .glo "is_lock", .glo "is_member", .glo "are_leaves", .glo "is_node", .glo "leaves_beneath", .glo "is_aside", .glo "are_nodes", .glo "_law_mixed", .glo "_law_refill", .glo "_law_draw", .glo "_law_name", .glo "_law_lock", .glo "_law_beneath", .glo "_law_int", .glo "_law_named", .glo "_law_members", .glo "_law_node", .glo "_law_aside", .glo "_law_nodes", .glo "_law_bad", .glo "_law_set", .glo "_law_odd", .glo "_law_leaf_spoilt", .glo "_law_due", .glo "_law_tree", .glo "_law_node_spoilt", .glo "_law_spoilt", .glo "_law_told", .glo "_law_equal", .glo "law", .glo "_law_box", .glo "Tree", .glo "BadTree", .glo "NoLeaf", .glo "NoNode", .glo "PostError", .cls "Tree", .mkr "Tree", .noat "Tree" "height", .noat "Tree" "leaves", .noat "Tree" "nodes"]
def hd0 : He.DefD := ⟨(("is_integer" : Str), (none : Option Str)), "is_integer", "is_integer", defArgs s_is_integer, defBody s_is_integer, defScope s_is_integer, [], []⟩
def hd1 : He.DefD := ⟨(("is_within" : Str), (none : Option Str)), "is_within", "is_within", defArgs s_is_within, defBody s_is_within, defScope s_is_within, [], []⟩
def hd2 : He.DefD := ⟨(("is_tuple_of" : Str), (none : Option Str)), "is_tuple_of", "is_tuple_of", defArgs s_is_tuple_of, defBody s_is_tuple_of, defScope s_is_tuple_of, [], []⟩
def hd3 : He.DefD := ⟨(("is_name" : Str), (none : Option Str)), "is_name", "is_name", defArgs s_is_name, defBody s_is_name, defScope s_is_name, [], []⟩
def hd4 : He.DefD := ⟨(("is_lock" : Str), (none : Option Str)), "is_lock", "is_lock", defArgs s_is_lock, defBody s_is_lock, defScope s_is_lock, [], []⟩
def hd5 : He.DefD := ⟨(("is_member" : Str), (none : Option Str)), "is_member", "is_member", defArgs s_is_member, defBody s_is_member, defScope s_is_member, [], []⟩
def hd6 : He.DefD := ⟨(("are_leaves" : Str), (none : Option Str)), "are_leaves", "are_leaves", defArgs s_are_leaves, defBody s_are_leaves, defScope s_are_leaves, [], []⟩
def hd7 : He.DefD := ⟨(("is_node" : Str), (none : Option Str)), "is_node", "is_node", defArgs s_is_node, defBody s_is_node, defScope s_is_node, [], []⟩
def hd8 : He.DefD := ⟨(("leaves_beneath" : Str), (none : Option Str)), "leaves_beneath", "leaves_beneath", defArgs s_leaves_beneath, defBody s_leaves_beneath, defScope s_leaves_beneath, [], []⟩
def hd9 : He.DefD := ⟨(("is_aside" : Str), (none : Option Str)), "is_aside", "is_aside", defArgs s_is_aside, defBody s_is_aside, defScope s_is_aside, [], []⟩
def hd10 : He.DefD := ⟨(("are_nodes" : Str), (none : Option Str)), "are_nodes", "are_nodes", defArgs s_are_nodes, defBody s_are_nodes, defScope s_are_nodes, [], []⟩
def hd11 : He.DefD := ⟨(("_law_mixed" : Str), (none : Option Str)), "_law_mixed", "_law_mixed", defArgs s_law_mixed, defBody s_law_mixed, defScope s_law_mixed, [], []⟩
def hd12 : He.DefD := ⟨(("_law_refill" : Str), (none : Option Str)), "_law_refill", "_law_refill", defArgs s_law_refill, defBody s_law_refill, defScope s_law_refill, [], []⟩
def hd13 : He.DefD := ⟨(("_law_draw" : Str), (none : Option Str)), "_law_draw", "_law_draw", defArgs s_law_draw, defBody s_law_draw, defScope s_law_draw, [], []⟩
def hd14 : He.DefD := ⟨(("_law_name" : Str), (none : Option Str)), "_law_name", "_law_name", defArgs s_law_name, defBody s_law_name, defScope s_law_name, [], []⟩
def hd15 : He.DefD := ⟨(("_law_lock" : Str), (none : Option Str)), "_law_lock", "_law_lock", defArgs s_law_lock, defBody s_law_lock, defScope s_law_lock, [], []⟩
def hd16 : He.DefD := ⟨(("_law_beneath" : Str), (none : Option Str)), "_law_beneath", "_law_beneath", defArgs s_law_beneath, defBody s_law_beneath, defScope s_law_beneath, [], []⟩
def hd17 : He.DefD := ⟨(("_law_int" : Str), (none : Option Str)), "_law_int", "_law_int", defArgs s_law_int, defBody s_law_int, defScope s_law_int, [], []⟩
def hd18 : He.DefD := ⟨(("_law_named" : Str), (none : Option Str)), "_law_named", "_law_named", defArgs s_law_named, defBody s_law_named, defScope s_law_named, [], []⟩
def hd19 : He.DefD := ⟨(("_law_members" : Str), (none : Option Str)), "_law_members", "_law_members", defArgs s_law_members, defBody s_law_members, defScope s_law_members, [], []⟩
def hd20 : He.DefD := ⟨(("_law_node" : Str), (none : Option Str)), "_law_node", "_law_node", defArgs s_law_node, defBody s_law_node, defScope s_law_node, [], []⟩
def hd21 : He.DefD := ⟨(("_law_aside" : Str), (none : Option Str)), "_law_aside", "_law_aside", defArgs s_law_aside, defBody s_law_aside, defScope s_law_aside, [], []⟩
def hd22 : He.DefD := ⟨(("_law_nodes" : Str), (none : Option Str)), "_law_nodes", "_law_nodes", defArgs s_law_nodes, defBody s_law_nodes, defScope s_law_nodes, [], []⟩
def hd23 : He.DefD := ⟨(("_law_bad" : Str), (none : Option Str)), "_law_bad", "_law_bad", defArgs s_law_bad, defBody s_law_bad, defScope s_law_bad, [], []⟩
def hd24 : He.DefD := ⟨(("_law_set" : Str), (none : Option Str)), "_law_set", "_law_set", defArgs s_law_set, defBody s_law_set, defScope s_law_set, [], []⟩
def hd25 : He.DefD := ⟨(("_law_odd" : Str), (none : Option Str)), "_law_odd", "_law_odd", defArgs s_law_odd, defBody s_law_odd, defScope s_law_odd, [], []⟩
def hd26 : He.DefD := ⟨(("_law_leaf_spoilt" : Str), (none : Option Str)), "_law_leaf_spoilt", "_law_leaf_spoilt", defArgs s_law_leaf_spoilt, defBody s_law_leaf_spoilt, defScope s_law_leaf_spoilt, [], []⟩
def hd27 : He.DefD := ⟨(("_law_due" : Str), (none : Option Str)), "_law_due", "_law_due", defArgs s_law_due, defBody s_law_due, defScope s_law_due, [], []⟩
def hd28 : He.DefD := ⟨(("_law_tree" : Str), (none : Option Str)), "_law_tree", "_law_tree", defArgs s_law_tree, defBody s_law_tree, defScope s_law_tree, [], []⟩
def hd29 : He.DefD := ⟨(("_law_node_spoilt" : Str), (none : Option Str)), "_law_node_spoilt", "_law_node_spoilt", defArgs s_law_node_spoilt, defBody s_law_node_spoilt, defScope s_law_node_spoilt, [], []⟩
def hd30 : He.DefD := ⟨(("_law_spoilt" : Str), (none : Option Str)), "_law_spoilt", "_law_spoilt", defArgs s_law_spoilt, defBody s_law_spoilt, defScope s_law_spoilt, [], []⟩
def hd31 : He.DefD := ⟨(("_law_told" : Str), (none : Option Str)), "_law_told", "_law_told", defArgs s_law_told, defBody s_law_told, defScope s_law_told, [], []⟩
def hd32 : He.DefD := ⟨(("_law_equal" : Str), (none : Option Str)), "_law_equal", "_law_equal", defArgs s_law_equal, defBody s_law_equal, defScope s_law_equal, [], []⟩
def hd33 : He.DefD := ⟨(("law" : Str), (none : Option Str)), "law", "law", defArgs s_law_main, defBody s_law_main, defScope s_law_main, [], []⟩
def hd34 : He.DefD := ⟨(("_law_box" : Str), (none : Option Str)), "_law_box", "_law_box", defArgs s_law_box, defBody s_law_box, defScope s_law_box, [], []⟩
def hd35 : He.DefD := ⟨(("Tree" : Str), some ("__init__" : Str)), "__init__", "Tree.__init__", defArgs s_Tree_init, defBody s_Tree_init, defScope s_Tree_init, [], []⟩
def hd36 : He.DefD := ⟨(("Tree" : Str), some ("__eq__" : Str)), "__eq__", "Tree.__eq__", defArgs s_Tree_eq, defBody s_Tree_eq, defScope s_Tree_eq, [], []⟩
def hfn : List He.DefD := [hd0, hd1, hd2, hd3, hd4, hd5, hd6, hd7, hd8, hd9, hd10, hd11, hd12, hd13, hd14, hd15, hd16, hd17, hd18, hd19, hd20, hd21, hd22, hd23, hd24, hd25, hd26, hd27, hd28, hd29, hd30, hd31, hd32, hd33, hd34, hd35, hd36]
def xbs (K : PySem.W.Frag) : List Bool := [PySem.SupX.clsB K (CB K),
  PySem.SupX.fnB K (He.ma K (CB K) "__init__") (CB K) "BadTree.__init__" "/claim/cut.py",
  PySem.SupX.eqV (PySem.W.findIn K (.ref (CB K)) "__setattr__") (some (some (.builtin "object.__setattr__"))),
  PySem.SupX.eqV (PySem.W.findIn K (.ref (CB K)) "__getattribute__") (some (some (.builtin "BaseException.__getattribute__"))),
  PySem.SupX.eqV (PySem.W.findIn K (.ref (CB K)) "__getattr__") (some none),
  PySem.SupX.eqV (PySem.W.findIn K (.ref (CB K)) "part") (some none),
  PySem.SupX.eqV (PySem.W.findIn K (.ref (CB K)) "__init__") (some (some (.ref (He.ma K (CB K) "__init__")))),
  decide (PySem.W.typeIn K (.ref (He.ma K (CB K) "__init__")) = some (.type "function")),
  PySem.W.keepIn K (.ref (CB K)),
  decide (PySem.W.subIn K (.ref (CB K)) (.type "BaseException") = some true),
  decide (PySem.W.subIn K (.ref (CB K)) (.type "ValueError") = some true),
  decide (PySem.W.mroIn K (CB K) (.ref (CB K)) = some true),
  decide (PySem.W.typeIn K (.ref (CB K)) = some (.type "type")),
  PySem.W.hasDictIn K (CB K),
  decide (PySem.W.exmOne K (.ref (CB K)) (.ref (CB K)) = some true),
  PySem.SupX.eqV (PySem.W.nsIn K mainGlobals "super") (some none),
  PySem.SupX.eqV (PySem.W.nsIn K cStatics "thirdparty.any") (some none),
  PySem.SupX.eqV (PySem.W.findIn K (.ref (CT K)) "__eq__") (some (some (.ref (He.ma K (CT K) "__eq__")))),
  PySem.W.isFn K (.ref (He.ma K (CT K) "__eq__")),
  PySem.W.notFirst K (CT K) (.type "tuple"),
  PySem.SupX.eqV (PySem.W.findIn K (.ref (CB K)) "__class__") (some (some (.builtin "object.__class__"))),
  PySem.SupX.eqV (PySem.W.specialIn K (.builtin "object.__class__") "__get__") (some (some (.builtin "getset_descriptor.__get__"))),
  decide (PySem.W.takesIn K (.builtin "object.__class__") = some true),
  decide (PySem.W.mroIn K (CB K) (.type "object") = some true),
  decide (PySem.W.kitOne K (.ref (CB K)) (.ref (He.ga K "NoLeaf")) = some false),
  decide (PySem.W.kitOne K (.ref (CB K)) (.ref (He.ga K "NoNode")) = some false),
  decide (PySem.W.kitOne K (.ref (CB K)) (.ref (He.ga K "PostError")) = some true),
  decide (PySem.W.kitOne K (.type "tuple") (.ref (CT K)) = some false),
  PySem.SupX.eqV (PySem.W.findIn K (.ref (CT K)) "__class__") (some (some (.builtin "object.__class__"))),
  decide (PySem.W.mroIn K (CT K) (.type "object") = some true)]
def xb (K : PySem.W.Frag) : Bool := (xbs K).all id
theorem xb_at {K : PySem.W.Frag} (h : xb K = true) (i : Nat) {b : Bool} (e : (xbs K)[i]? = some b) : b = true := List.all_eq_true.mp h b (List.mem_of_getElem? e)
def xf (K : PySem.W.Frag) : PySem.SupX.FnY := PySem.SupX.fnY K (He.ma K (CB K) "__init__")
def xv : PySem.SupX.FnY := some (("__init__" : Str), ("BadTree.__init__" : Str), defArgs s_BadTree_init, .stmts (defBody s_BadTree_init), defScope s_BadTree_init, mainGlobals, [("__class__" : Str)], builtinsNs)
def loose0 : List PySem.Str := ["is_integer", "is_within", "is_tuple_of", "PostError", "BadTree", "NoLeaf", "NoNode", "MOST_HIGH", "MOST_SIGNS", "SIGNS", "is_name", "is_lock", "is_member", "are_leaves", "is_node", "leaves_beneath", "is_aside", "are_nodes", "Tree", "_law_mixed"]
def loose1 : List PySem.Str := ["_law_box", "_law_refill", "_law_draw", "_law_name", "_law_lock", "_law_beneath", "_law_tree", "_law_int", "_law_named", "_law_members", "_law_node", "_law_aside", "_law_nodes", "_law_bad", "_law_odd", "_law_set", "_law_leaf_spoilt", "_law_node_spoilt", "_law_spoilt", "_law_told"]
def loose2 : List PySem.Str := ["_law_due", "_law_equal"]
def loose : List PySem.Str := loose0 ++ loose1 ++ loose2
abbrev hR : PySem.W.OpenRow := PySem.W.OpenLaw.row PySem.Challenge.rw_strangerspost_k08_whole_trees_judged
abbrev hk : PySem.W.Hook := HeX.hookX 4 hfa hfn xb xf xv
def ob (s : PySem.W.SharedT) : HeX.AlX := HeX.obsXG 4 hfa hfn xb xf (HandSHeadRun.getT s)
theorem ob_eq (s : PySem.W.SharedT) : ob s = hk.obs s.abs := HeX.obsX_eq (HandSHeadRun.getT_eq s)
theorem run (w : World) : HandSHeadRun.RunEq hR (PySem.W.view hR.prog [46]) hk ob 6000 loose w := by
  intro os
  kernel_rfl
theorem st_args : defArgs s_BadTree_init = PySem.SupX.sArg "part" ⟨13, 17, 13, 21⟩ ⟨13, 23, 13, 27⟩ := by kernel_rfl
theorem st_body : defBody s_BadTree_init = [PySem.SupX.sExp "part" ⟨14, 8, 14, 13⟩ ⟨14, 8, 14, 15⟩ ⟨14, 8, 14, 24⟩ ⟨14, 25, 14, 29⟩ ⟨14, 8, 14, 30⟩ ⟨14, 8, 14, 30⟩, PySem.SupX.sAsg "part" ⟨15, 8, 15, 12⟩ ⟨15, 8, 15, 17⟩ ⟨15, 20, 15, 24⟩ ⟨15, 8, 15, 24⟩] := by kernel_rfl
theorem st_scope : defScope s_BadTree_init = PySem.SupX.sSc "part" := by kernel_rfl
abbrev hP : Program := PySem.Challenge.rw_strangerspost_k08_whole_trees_judged.prog
theorem sup_of {K : PySem.W.Frag} (x : xb K = true) (e : xf K = xv) : PySem.SupX.SupC hP K (CB K) (He.ma K (CB K) "__init__") "part" "BadTree.__init__" := by
  have e2 : PySem.SupX.fnY K (He.ma K (CB K) "__init__") = some (("__init__" : Str), ("BadTree.__init__" : Str), PySem.SupX.sArg "part" ⟨13, 17, 13, 21⟩ ⟨13, 23, 13, 27⟩, FuncBody.stmts [PySem.SupX.sExp "part" ⟨14, 8, 14, 13⟩ ⟨14, 8, 14, 15⟩ ⟨14, 8, 14, 24⟩ ⟨14, 25, 14, 29⟩ ⟨14, 8, 14, 30⟩ ⟨14, 8, 14, 30⟩, PySem.SupX.sAsg "part" ⟨15, 8, 15, 12⟩ ⟨15, 8, 15, 17⟩ ⟨15, 20, 15, 24⟩ ⟨15, 8, 15, 24⟩], PySem.SupX.sSc "part", mainGlobals, [("__class__" : Str)], builtinsNs) := by
    rw [← st_args, ← st_body, ← st_scope]
    exact e
  obtain ⟨oc, od, doc, pm, an, cda, ct, cc, osl, ccl, cdd, vs, ccs, tf, cl, cld, csl, h1, h2, h3, h4, h5⟩ := PySem.SupX.fnB_ok e2 (xb_at x 1 rfl)
  exact {
    cls := PySem.SupX.clsB_ok (xb_at x 0 rfl)
    sa := of_decide_eq_true (xb_at x 2 rfl)
    ga := of_decide_eq_true (xb_at x 3 rfl)
    gg := of_decide_eq_true (xb_at x 4 rfl)
    noN := of_decide_eq_true (xb_at x 5 rfl)
    iC := of_decide_eq_true (xb_at x 6 rfl)
    tC := of_decide_eq_true (xb_at x 7 rfl)
    kC := xb_at x 8 rfl
    hdC := xb_at x 13 rfl
    exC := of_decide_eq_true (xb_at x 9 rfl)
    veC := of_decide_eq_true (xb_at x 10 rfl)
    sub := of_decide_eq_true (xb_at x 11 rfl)
    tyC := of_decide_eq_true (xb_at x 12 rfl)
    te := of_decide_eq_true (xb_at x 14 rfl)
    sup := of_decide_eq_true (xb_at x 15 rfl)
    opq := of_decide_eq_true (xb_at x 16 rfl)
    top := by decide +kernel
    lk1 := by decide +kernel
    lk2 := by decide +kernel
    lk3 := by decide +kernel
    lk4 := by decide +kernel
    nf := ⟨by decide +kernel, by decide +kernel⟩
    fn := ⟨oc, od, doc, pm, an, cda, ct, cc, osl, _, _, ⟨14, 8, 14, 13⟩, ⟨14, 8, 14, 15⟩, ⟨14, 8, 14, 24⟩, ⟨14, 25, 14, 29⟩, ⟨14, 8, 14, 30⟩, ⟨14, 8, 14, 30⟩, ⟨15, 8, 15, 12⟩, ⟨15, 8, 15, 17⟩, ⟨15, 20, 15, 24⟩, ⟨15, 8, 15, 24⟩, ccl, cdd, vs, ccs, _, tf, cl, cld, csl, h1, h2, h3, h4, by decide +kernel, h5, _, fun _ => rfl⟩
    bnd := fun _ _ _ _ _ _ _ _ _ _ _ => rfl }
theorem gx_of {K : PySem.W.Frag} {h : Heap} {mg : Str → Option Value} (X : K.In h) (G : h.Ns mainGlobals mg) (c : He.SaysD hfa hfn K) : Gx K mg := {
  b_all := He.free_ok X G (c.fact 0 (f := .free "all") rfl)
  b_bool := He.free_ok X G (c.fact 1 (f := .free "bool") rfl)
  b_int := He.free_ok X G (c.fact 2 (f := .free "int") rfl)
  b_isinstance := He.free_ok X G (c.fact 3 (f := .free "isinstance") rfl)
  b_len := He.free_ok X G (c.fact 4 (f := .free "len") rfl)
  b_list := He.free_ok X G (c.fact 5 (f := .free "list") rfl)
  b_range := He.free_ok X G (c.fact 6 (f := .free "range") rfl)
  b_reversed := He.free_ok X G (c.fact 7 (f := .free "reversed") rfl)
  b_set := He.free_ok X G (c.fact 8 (f := .free "set") rfl)
  b_str := He.free_ok X G (c.fact 9 (f := .free "str") rfl)
  b_tuple := He.free_ok X G (c.fact 10 (f := .free "tuple") rfl)
  b_zip := He.free_ok X G (c.fact 11 (f := .free "zip") rfl)
  k_MOST_SIGNS := by obtain ⟨t, e⟩ := He.int_ok X G (c.fact 14 (f := .int "MOST_SIGNS" 12) rfl); exact ⟨_, e, t, rfl⟩
  k_SIGNS := by obtain ⟨t, e⟩ := He.str_ok X G (c.fact 16 (f := .str "SIGNS" "abcdefghijklmnopqrstuvwxyz") rfl); exact ⟨_, e, t, rfl⟩
  f_is_integer := by obtain ⟨fd, F⟩ := c.def_ 0 (d := hd0) rfl; exact ⟨_, fd, F, He.glo_ok X G (c.fact 17 (f := .glo "is_integer") rfl)⟩
  f_is_within := by obtain ⟨fd, F⟩ := c.def_ 1 (d := hd1) rfl; exact ⟨_, fd, F, He.glo_ok X G (c.fact 18 (f := .glo "is_within") rfl)⟩
  f_is_tuple_of := by obtain ⟨fd, F⟩ := c.def_ 2 (d := hd2) rfl; exact ⟨_, fd, F, He.glo_ok X G (c.fact 19 (f := .glo "is_tuple_of") rfl)⟩
  f_is_name := by obtain ⟨fd, F⟩ := c.def_ 3 (d := hd3) rfl; exact ⟨_, fd, F, He.glo_ok X G (c.fact 20 (f := .glo "is_name") rfl)⟩
  f_is_lock := by obtain ⟨fd, F⟩ := c.def_ 4 (d := hd4) rfl; exact ⟨_, fd, F, He.glo_ok X G (c.fact 21 (f := .glo "is_lock") rfl)⟩
  f_is_member := by obtain ⟨fd, F⟩ := c.def_ 5 (d := hd5) rfl; exact ⟨_, fd, F, He.glo_ok X G (c.fact 22 (f := .glo "is_member") rfl)⟩
  f_are_leaves := by obtain ⟨fd, F⟩ := c.def_ 6 (d := hd6) rfl; exact ⟨_, fd, F, He.glo_ok X G (c.fact 23 (f := .glo "are_leaves") rfl)⟩
  f_is_node := by obtain ⟨fd, F⟩ := c.def_ 7 (d := hd7) rfl; exact ⟨_, fd, F, He.glo_ok X G (c.fact 24 (f := .glo "is_node") rfl)⟩
  f_leaves_beneath := by obtain ⟨fd, F⟩ := c.def_ 8 (d := hd8) rfl; exact ⟨_, fd, F, He.glo_ok X G (c.fact 25 (f := .glo "leaves_beneath") rfl)⟩
  f_is_aside := by obtain ⟨fd, F⟩ := c.def_ 9 (d := hd9) rfl; exact ⟨_, fd, F, He.glo_ok X G (c.fact 26 (f := .glo "is_aside") rfl)⟩
  f_are_nodes := by obtain ⟨fd, F⟩ := c.def_ 10 (d := hd10) rfl; exact ⟨_, fd, F, He.glo_ok X G (c.fact 27 (f := .glo "are_nodes") rfl)⟩
  f_law_mixed := by obtain ⟨fd, F⟩ := c.def_ 11 (d := hd11) rfl; exact ⟨_, fd, F, He.glo_ok X G (c.fact 28 (f := .glo "_law_mixed") rfl)⟩
  f_law_refill := by obtain ⟨fd, F⟩ := c.def_ 12 (d := hd12) rfl; exact ⟨_, fd, F, He.glo_ok X G (c.fact 29 (f := .glo "_law_refill") rfl)⟩
  f_law_draw := by obtain ⟨fd, F⟩ := c.def_ 13 (d := hd13) rfl; exact ⟨_, fd, F, He.glo_ok X G (c.fact 30 (f := .glo "_law_draw") rfl)⟩
  f_law_name := by obtain ⟨fd, F⟩ := c.def_ 14 (d := hd14) rfl; exact ⟨_, fd, F, He.glo_ok X G (c.fact 31 (f := .glo "_law_name") rfl)⟩
  f_law_lock := by obtain ⟨fd, F⟩ := c.def_ 15 (d := hd15) rfl; exact ⟨_, fd, F, He.glo_ok X G (c.fact 32 (f := .glo "_law_lock") rfl)⟩
  f_law_beneath := by obtain ⟨fd, F⟩ := c.def_ 16 (d := hd16) rfl; exact ⟨_, fd, F, He.glo_ok X G (c.fact 33 (f := .glo "_law_beneath") rfl)⟩
  f_law_int := by obtain ⟨fd, F⟩ := c.def_ 17 (d := hd17) rfl; exact ⟨_, fd, F, He.glo_ok X G (c.fact 34 (f := .glo "_law_int") rfl)⟩
  f_law_named := by obtain ⟨fd, F⟩ := c.def_ 18 (d := hd18) rfl; exact ⟨_, fd, F, He.glo_ok X G (c.fact 35 (f := .glo "_law_named") rfl)⟩
  f_law_members := by obtain ⟨fd, F⟩ := c.def_ 19 (d := hd19) rfl; exact ⟨_, fd, F, He.glo_ok X G (c.fact 36 (f := .glo "_law_members") rfl)⟩
  f_law_node := by obtain ⟨fd, F⟩ := c.def_ 20 (d := hd20) rfl; exact ⟨_, fd, F, He.glo_ok X G (c.fact 37 (f := .glo "_law_node") rfl)⟩
  f_law_aside := by obtain ⟨fd, F⟩ := c.def_ 21 (d := hd21) rfl; exact ⟨_, fd, F, He.glo_ok X G (c.fact 38 (f := .glo "_law_aside") rfl)⟩
  f_law_nodes := by obtain ⟨fd, F⟩ := c.def_ 22 (d := hd22) rfl; exact ⟨_, fd, F, He.glo_ok X G (c.fact 39 (f := .glo "_law_nodes") rfl)⟩
  f_law_bad := by obtain ⟨fd, F⟩ := c.def_ 23 (d := hd23) rfl; exact ⟨_, fd, F, He.glo_ok X G (c.fact 40 (f := .glo "_law_bad") rfl)⟩
  f_law_set := by obtain ⟨fd, F⟩ := c.def_ 24 (d := hd24) rfl; exact ⟨_, fd, F, He.glo_ok X G (c.fact 41 (f := .glo "_law_set") rfl)⟩
  f_law_odd := by obtain ⟨fd, F⟩ := c.def_ 25 (d := hd25) rfl; exact ⟨_, fd, F, He.glo_ok X G (c.fact 42 (f := .glo "_law_odd") rfl)⟩
  f_law_leaf_spoilt := by obtain ⟨fd, F⟩ := c.def_ 26 (d := hd26) rfl; exact ⟨_, fd, F, He.glo_ok X G (c.fact 43 (f := .glo "_law_leaf_spoilt") rfl)⟩
  f_law_due := by obtain ⟨fd, F⟩ := c.def_ 27 (d := hd27) rfl; exact ⟨_, fd, F, He.glo_ok X G (c.fact 44 (f := .glo "_law_due") rfl)⟩
  f_law_tree := by obtain ⟨fd, F⟩ := c.def_ 28 (d := hd28) rfl; exact ⟨_, fd, F, He.glo_ok X G (c.fact 45 (f := .glo "_law_tree") rfl)⟩
  f_law_node_spoilt := by obtain ⟨fd, F⟩ := c.def_ 29 (d := hd29) rfl; exact ⟨_, fd, F, He.glo_ok X G (c.fact 46 (f := .glo "_law_node_spoilt") rfl)⟩
  f_law_spoilt := by obtain ⟨fd, F⟩ := c.def_ 30 (d := hd30) rfl; exact ⟨_, fd, F, He.glo_ok X G (c.fact 47 (f := .glo "_law_spoilt") rfl)⟩
  f_law_told := by obtain ⟨fd, F⟩ := c.def_ 31 (d := hd31) rfl; exact ⟨_, fd, F, He.glo_ok X G (c.fact 48 (f := .glo "_law_told") rfl)⟩
  f_law_equal := by obtain ⟨fd, F⟩ := c.def_ 32 (d := hd32) rfl; exact ⟨_, fd, F, He.glo_ok X G (c.fact 49 (f := .glo "_law_equal") rfl)⟩
  f_law_main := by obtain ⟨fd, F⟩ := c.def_ 33 (d := hd33) rfl; exact ⟨_, fd, F, He.glo_ok X G (c.fact 50 (f := .glo "law") rfl)⟩
  f_law_box := by obtain ⟨fd, F⟩ := c.def_ 34 (d := hd34) rfl; exact ⟨_, fd, F, He.glo_ok X G (c.fact 51 (f := .glo "_law_box") rfl)⟩
  k_MOST_HIGH := by obtain ⟨t, e⟩ := He.int_ok X G (c.fact 15 (f := .int "MOST_HIGH" 8) rfl); exact ⟨_, e, t, rfl⟩
  b_repr := He.free_ok X G (c.fact 12 (f := .free "repr") rfl)
  b_super := He.free_ok X G (c.fact 13 (f := .free "super") rfl)
  c_Tree := He.glo_ok X G (c.fact 52 (f := .glo "Tree") rfl)
  c_BadTree := He.glo_ok X G (c.fact 53 (f := .glo "BadTree") rfl)
  c_NoLeaf := He.glo_ok X G (c.fact 54 (f := .glo "NoLeaf") rfl)
  c_NoNode := He.glo_ok X G (c.fact 55 (f := .glo "NoNode") rfl)
  c_PostError := He.glo_ok X G (c.fact 56 (f := .glo "PostError") rfl)
}
theorem gt_of {K : PySem.W.Frag} {h : Heap} {mg : Str → Option Value} (X : K.In h) (G : h.Ns mainGlobals mg) (c : HeX.obsX hfa hfn xb xf K = (He.valD hfn, true, xv)) : Gt hP K mg := by
  have c1 : He.SaysD hfa hfn K := congrArg (fun z : HeX.AlX => z.1) c
  have x : xb K = true := congrArg (fun z : HeX.AlX => z.2.1) c
  have e : xf K = xv := congrArg (fun z : HeX.AlX => z.2.2) c
  have S := sup_of x e
  exact {
    g := gx_of X G c1
    cT := He.cls_ok (c1.fact 57 (f := .cls "Tree") rfl)
    mkT := He.mkr_ok (c1.fact 58 (f := .mkr "Tree") rfl)
    n1 := He.noat_ok (c1.fact 59 (f := .noat "Tree" "height") rfl)
    n2 := He.noat_ok (c1.fact 60 (f := .noat "Tree" "leaves") rfl)
    n3 := He.noat_ok (c1.fact 61 (f := .noat "Tree" "nodes") rfl)
    fI := c1.def_ 35 (d := hd35) rfl
    fE := c1.def_ 36 (d := hd36) rfl
    eqF := of_decide_eq_true (xb_at x 17 rfl)
    kL := of_decide_eq_true (xb_at x 24 rfl)
    kN := of_decide_eq_true (xb_at x 25 rfl)
    kP := of_decide_eq_true (xb_at x 26 rfl)
    kT := of_decide_eq_true (xb_at x 27 rfl)
    tCl := of_decide_eq_true (xb_at x 28 rfl)
    tMr := of_decide_eq_true (xb_at x 29 rfl)
    tSp := of_decide_eq_true (xb_at x 21 rfl)
    tTk := of_decide_eq_true (xb_at x 22 rfl)
    eqN := xb_at x 18 rfl
    nt := xb_at x 19 rfl
    bad := S
    exc := { hg := S.ga, hk := S.gg, hs := S.exC, hd := S.hdC, ha := of_decide_eq_true (xb_at x 20 rfl), hn := of_decide_eq_true (xb_at x 21 rfl), ht := of_decide_eq_true (xb_at x 22 rfl), hm := of_decide_eq_true (xb_at x 23 rfl) } }
end LawK08
end
set_option maxHeartbeats 0
open PySem PySem.W PySem.Calls PyProof.Rows
theorem PySem.Challenge.cw_strangerspost_k08_whole_trees_judged_holds : PySem.Challenge.rw_strangerspost_k08_whole_trees_judged.Holds := by
  w_on; o_law
  refine HandSHeadRun.head_any (r := OpenLaw.row PySem.Challenge.rw_strangerspost_k08_whole_trees_judged) (q := view (OpenLaw.row PySem.Challenge.rw_strangerspost_k08_whole_trees_judged).prog [46]) (H := LawK08.hk) (ob := LawK08.ob) (M := 6000) (loose := LawK08.loose) (d := HandSHeadRun.topDef (OpenLaw.row PySem.Challenge.rw_strangerspost_k08_whole_trees_judged).prog 46) (kwd := []) LawK08.ob_eq
    (by kernel_rfl) (fun s => by kernel_rfl) LawK08.run (by kernel_rfl) (by kernel_rfl) (by kernel_rfl) (by rfl) (by first | assumption | decide +kernel) (by decide +kernel) ⟨rfl, rfl, rfl, rfl, rfl, by decide +kernel⟩ ?hw ?hc
  case hw => w_witness2
  case hc =>
    refine PW.walk_ofG (l := PySem.Challenge.rw_strangerspost_k08_whole_trees_judged) (n := 63) (x := "script") rfl (by decide) (by kernel_rfl) ?F
    intro w mg fa h Y G hmg0
    obtain ⟨K, KX, c⟩ := Y
    have hmg : mg ("law" : PySem.Str) = some (.ref fa) := by
      have e : (HandSHeadRun.topDef (OpenLaw.row PySem.Challenge.rw_strangerspost_k08_whole_trees_judged).prog 46).name = ("law" : PySem.Str) := by kernel_rfl
      rw [← e]
      exact hmg0
    have T := LawK08.gt_of KX G c
    obtain ⟨f, fd, hf, hb, hr⟩ := LawK08.run_law (w := w) T
    obtain rfl : fa = f := by
      have e := hmg.symm.trans hf
      cases e
      rfl
    refine ⟨K, fd, LawK08.spLaw K, KX, hb, fun H a ns hl _ hS => ⟨a, ns, rfl, hS, fun _ => rfl⟩, fun base _ _ => hr base⟩
