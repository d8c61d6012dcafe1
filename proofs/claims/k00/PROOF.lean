import PyProof.Rows.All
import Wide.All
import OpenK.AllK
import Wide.FinOn
import HandS.ForMost
import HandS.IsInst
import HandS.Deep
import HandS.TupAny
import HandS.TupMul
import HandS.TupLe
import HandS.Conv
import HandS.Codes
import HandS.Defaults
import HandS.Zip
import HandS.Style
import KE.GoesMore
import KE.GoesEnum
import PyProof.Draws
import PyProof.Rows.SetFrom
import HandS.Wide
import HandS.Text
import PyProof.EqAt
import PyProof.EqKinds
import PyProof.TupleCall
import KE.KExcSuper
import HandS.ForExc
import HandS.ExcIs
import HandS.ExcSuper
import HandS.ExcOwn
import HandS.TryMany
import KE.KExcIs
import HandS.ExcField
import HandS.ExcValue
import HandS.Base
import HandS.Call
import HandS.Exc
import HandS.HeadHook1
import HandS.HeadHook2
import KE.KStateDown
import Lean
import HandS.Words
import HandS.TryOnly
import PySem.Challenge.RW_strangerspost_k00_errors_and_their_field
import HandS.DictComp
import HandS.Walk
import HandS.Head0
import HandS.Head1
import HandS.Head2
import HandS.HeadEnd
set_option Elab.async false
set_option linter.all false
set_option maxRecDepth 100000
set_option maxHeartbeats 4000000
section
/-! PW: a layer of my own over the hand layer: plain data, environments of data, judgements in continuation style. -/
namespace PW
open PySem PySem.Spec PyProof.Rows L2

/-! ### plain data -/
inductive D where
  | non | bl (b : Bool) | int (i : Int) | str (x : Str)
  | tup (xs : List D) | lst (xs : List D) | emp
  | obj (C : Addr) (ns : List Str) (xs : List D)
  | dct (ks : List (List Key)) (xs : List D)

/-- a list | a tuple that is read, at no hot address -/
def ColdL (M : Addr → Prop) (K : PySem.W.Frag) (H : Hp) (a : Addr) (xs : List V) : Prop := ¬ M a ∧ H a = some (.lst xs)
def ColdT (M : Addr → Prop) (K : PySem.W.Frag) (H : Hp) (a : Addr) (xs : List V) : Prop :=
  (¬ M a ∧ Rd H a (.tup xs)) ∨
    ∃ (o : Obj) (its : Array Value) (n : Nat), K.lookup a = some o ∧ o.cls = .type "tuple" ∧ o.data = .seq its n ∧ its.size ≤ sizeLine ∧ Vals xs its.toList

mutual
/-- in the heap H the value v is the data d, none of it at a hot address -/
def Da (M : Addr → Prop) (K : PySem.W.Frag) (H : Hp) (v : V) : D → Prop
  | .non => v = .non
  | .bl b => v = .bl b
  | .int i => v = .int i
  | .str x => v = .str x
  | .tup ds => ∃ a vs, v = .ref a ∧ ColdT M K H a vs ∧ DaAll M K H vs ds
  | .lst ds => ∃ a vs, v = .ref a ∧ ColdL M K H a vs ∧ DaAll M K H vs ds
  | .emp => ∃ a, v = .ref a ∧ ¬ M a ∧ H a = some (.dK [])
  | .obj C ns ds => ∃ a dx fs, v = .ref a ∧ ¬ M a ∧ H a = some (.ins C dx fs) ∧ fs.map (·.1) = ns ∧ DaAll M K H (fs.map (·.2)) ds
  | .dct ks ds => ∃ a kvs, v = .ref a ∧ ¬ M a ∧ H a = some (.dT kvs) ∧ kvs.map (·.1) = ks ∧ DaAll M K H (kvs.map (·.2)) ds
def DaAll (M : Addr → Prop) (K : PySem.W.Frag) (H : Hp) (vs : List V) : List D → Prop
  | [] => vs = []
  | d :: ds => ∃ v r, vs = v :: r ∧ Da M K H v d ∧ DaAll M K H r ds
end

section
variable {M M' : Addr → Prop} {K : PySem.W.Frag} {H H' : Hp} {a p : Addr} {xs : List V} {v : V} {vs : List V} {d : D} {ds : List D}
theorem ColdL.sq (h : ColdL M K H a xs) : SqL K H a xs := SqL.of h.2
theorem ColdT.sq (h : ColdT M K H a xs) : SqT K H a xs := by
  rcases h with h | h
  · exact .inl h.2
  · exact .inr h
theorem rd_mono {u : HO} (h : Rd H a u) (g : ∀ o, H a = some o → H' a = some o) : Rd H' a u := by
  rcases h with h | ⟨o, h⟩
  · exact .inl (g _ h)
  · exact .inr ⟨o, g _ h⟩
theorem rd_some {u : HO} (h : Rd H a u) : H a ≠ none := by
  rcases h with h | ⟨o, h⟩ <;> (rw [h]; exact fun e => nomatch e)
theorem ColdL.mono (h : ColdL M K H a xs) (g : ∀ b o, ¬ M b → H b = some o → ¬ M' b ∧ H' b = some o) : ColdL M' K H' a xs := g a _ h.1 h.2
theorem ColdT.mono (h : ColdT M K H a xs) (g : ∀ b o, ¬ M b → H b = some o → ¬ M' b ∧ H' b = some o) : ColdT M' K H' a xs := by
  rcases h with ⟨h1, h2⟩ | h
  · obtain ⟨o, ho⟩ := Option.ne_none_iff_exists'.mp (rd_some h2)
    exact .inl ⟨(g a o h1 ho).1, rd_mono h2 fun o' e => (g a o' h1 e).2⟩
  · exact .inr h
mutual
theorem Da.mono : ∀ {d : D} {v : V}, Da M K H v d → (∀ b o, ¬ M b → H b = some o → ¬ M' b ∧ H' b = some o) → Da M' K H' v d
  | .non, _, h, _ => h
  | .bl _, _, h, _ => h
  | .int _, _, h, _ => h
  | .str _, _, h, _ => h
  | .tup ds, _, h, g => by
    obtain ⟨a, vs, e, h1, h2⟩ := h
    exact ⟨a, vs, e, h1.mono g, DaAll.mono h2 g⟩
  | .lst ds, _, h, g => by
    obtain ⟨a, vs, e, h1, h2⟩ := h
    exact ⟨a, vs, e, h1.mono g, DaAll.mono h2 g⟩
  | .emp, _, h, g => by
    obtain ⟨a, e, h1, h2⟩ := h
    exact ⟨a, e, (g a _ h1 h2).1, (g a _ h1 h2).2⟩
  | .obj C ns ds, _, h, g => by
    obtain ⟨a, dx, fs, e, h1, h2, h3, h4⟩ := h
    exact ⟨a, dx, fs, e, (g a _ h1 h2).1, (g a _ h1 h2).2, h3, DaAll.mono h4 g⟩
  | .dct ks ds, _, h, g => by
    obtain ⟨a, kvs, e, h1, h2, h3, h4⟩ := h
    exact ⟨a, kvs, e, (g a _ h1 h2).1, (g a _ h1 h2).2, h3, DaAll.mono h4 g⟩
theorem DaAll.mono : ∀ {ds : List D} {vs : List V}, DaAll M K H vs ds → (∀ b o, ¬ M b → H b = some o → ¬ M' b ∧ H' b = some o) → DaAll M' K H' vs ds
  | [], _, h, _ => h
  | d :: ds, _, h, g => by
    obtain ⟨v, r, e, h1, h2⟩ := h
    exact ⟨v, r, e, Da.mono h1 g, DaAll.mono h2 g⟩
end
theorem DaAll.length : ∀ {ds : List D} {vs : List V}, DaAll M K H vs ds → vs.length = ds.length
  | [], _, h => by
    rw [show _ = [] from h] <;> rfl
  | d :: ds, _, h => by
    obtain ⟨v, r, e, _, h2⟩ := h
    rw [e, List.length_cons, List.length_cons, DaAll.length h2]
theorem DaAll.append : ∀ {ds es : List D} {vs ws : List V}, DaAll M K H vs ds → DaAll M K H ws es → DaAll M K H (vs ++ ws) (ds ++ es)
  | [], _, _, _, h, g => by
    rw [show _ = [] from h]
    exact g
  | d :: ds, es, _, ws, h, g => by
    obtain ⟨v, r, e, h1, h2⟩ := h
    rw [e]
    exact ⟨v, r ++ ws, rfl, h1, DaAll.append h2 g⟩
theorem DaAll.get : ∀ {ds : List D} {vs : List V} {i : Nat} {v : V}, DaAll M K H vs ds → vs[i]? = some v → ∃ d, ds[i]? = some d ∧ Da M K H v d
  | [], _, _, _, h, e => by
    rw [show _ = [] from h] at e
    cases e
  | d :: ds, _, 0, _, h, e => by
    obtain ⟨v, r, e1, h1, h2⟩ := h
    rw [e1] at e
    cases e
    exact ⟨d, rfl, h1⟩
  | d :: ds, _, i + 1, _, h, e => by
    obtain ⟨v, r, e1, h1, h2⟩ := h
    rw [e1] at e
    exact DaAll.get (i := i) h2 e
theorem DaAll.at : ∀ {ds : List D} {vs : List V} {i : Nat} {d : D}, DaAll M K H vs ds → ds[i]? = some d → ∃ v, vs[i]? = some v ∧ Da M K H v d
  | [], _, _, _, h, e => by cases e
  | d :: ds, _, 0, _, h, e => by
    obtain ⟨v, r, e1, h1, h2⟩ := h
    cases e
    exact ⟨v, by rw [e1]; rfl, h1⟩
  | d :: ds, _, i + 1, _, h, e => by
    obtain ⟨v, r, e1, h1, h2⟩ := h
    obtain ⟨w, q1, q2⟩ := DaAll.at (i := i) h2 e
    exact ⟨w, by rw [e1]; exact q1, q2⟩
theorem DaAll.set : ∀ {ds : List D} {vs : List V} {i : Nat} {v : V} {d : D}, DaAll M K H vs ds → Da M K H v d → DaAll M K H (vs.set i v) (ds.set i d)
  | [], _, _, _, _, h, _ => by
    rw [show _ = [] from h]
    exact rfl
  | d :: ds, _, 0, v, e, h, g => by
    obtain ⟨w, r, e1, h1, h2⟩ := h
    rw [e1]
    exact ⟨v, r, rfl, g, h2⟩
  | d :: ds, _, i + 1, v, e, h, g => by
    obtain ⟨w, r, e1, h1, h2⟩ := h
    rw [e1]
    exact ⟨w, r.set i v, rfl, h1, DaAll.set h2 g⟩
theorem DaAll.drop : ∀ {ds : List D} {vs : List V} (n : Nat), DaAll M K H vs ds → DaAll M K H (vs.drop n) (ds.drop n)
  | _, _, 0, h => h
  | [], _, _ + 1, h => by
    rw [show _ = [] from h]
    exact rfl
  | d :: ds, _, n + 1, h => by
    obtain ⟨w, r, e1, h1, h2⟩ := h
    rw [e1]
    exact DaAll.drop n h2
theorem DaAll.take : ∀ {ds : List D} {vs : List V} (n : Nat), DaAll M K H vs ds → DaAll M K H (vs.take n) (ds.take n)
  | _, _, 0, h => rfl
  | [], _, _ + 1, h => by
    rw [show _ = [] from h]
    exact rfl
  | d :: ds, _, n + 1, h => by
    obtain ⟨w, r, e1, h1, h2⟩ := h
    rw [e1]
    exact ⟨w, _, rfl, h1, DaAll.take n h2⟩
theorem DaAll.eraseIdx : ∀ {ds : List D} {vs : List V} (n : Nat), DaAll M K H vs ds → DaAll M K H (vs.eraseIdx n) (ds.eraseIdx n)
  | [], _, _, h => by
    rw [show _ = [] from h]
    exact rfl
  | d :: ds, _, 0, h => by
    obtain ⟨w, r, e1, h1, h2⟩ := h
    rw [e1]
    exact h2
  | d :: ds, _, n + 1, h => by
    obtain ⟨w, r, e1, h1, h2⟩ := h
    rw [e1]
    exact ⟨w, _, rfl, h1, DaAll.eraseIdx n h2⟩
theorem DaAll.reverse : ∀ {ds : List D} {vs : List V}, DaAll M K H vs ds → DaAll M K H vs.reverse ds.reverse
  | [], _, h => by
    rw [show _ = [] from h]
    exact rfl
  | d :: ds, _, h => by
    obtain ⟨w, r, e1, h1, h2⟩ := h
    rw [e1, List.reverse_cons, List.reverse_cons]
    exact DaAll.append (DaAll.reverse h2) ⟨w, [], rfl, h1, rfl⟩
theorem DaAll.one (h : Da M K H v d) : DaAll M K H [v] [d] := ⟨v, [], rfl, h, rfl⟩
theorem DaAll.ints : ∀ {is : List Int}, DaAll M K H (is.map V.int) (is.map D.int)
  | [] => rfl
  | i :: is => ⟨_, _, rfl, rfl, DaAll.ints⟩
/-- the weaker claim: at this heap, nothing said of hot ones -/
abbrev D0 (K : PySem.W.Frag) (H : Hp) (v : V) (d : D) : Prop := Da (fun _ => False) K H v d
theorem Da.now (h : Da M K H v d) : D0 K H v d := h.mono fun b o _ e => ⟨fun z => z, e⟩
theorem DaAll.now (h : DaAll M K H vs ds) : DaAll (fun _ => False) K H vs ds := h.mono fun b o _ e => ⟨fun z => z, e⟩
/-- one more hot address, that is not tracked yet -/
theorem Da.push (h : Da M K H v d) (hp : H p = none) : Da (fun b => M b ∨ b = p) K H v d := h.mono fun b o n e => ⟨fun z => z.elim n fun z => (by rw [z, hp] at e; cases e), e⟩
theorem DaAll.push (h : DaAll M K H vs ds) (hp : H p = none) : DaAll (fun b => M b ∨ b = p) K H vs ds := h.mono fun b o n e => ⟨fun z => z.elim n fun z => (by rw [z, hp] at e; cases e), e⟩
theorem Da.less (h : Da M K H v d) (g : ∀ b, M' b → M b) : Da M' K H v d := h.mono fun b o n e => ⟨fun z => n (g b z), e⟩
theorem DaAll.less (h : DaAll M K H vs ds) (g : ∀ b, M' b → M b) : DaAll M' K H vs ds := h.mono fun b o n e => ⟨fun z => n (g b z), e⟩
theorem Da.newT (h : DaAll M K H vs ds) (hp : H p = none) (hM : ¬ M p) : Da M K (upd H p (.tup vs)) (.ref p) (.tup ds) :=
  ⟨p, vs, rfl, .inl ⟨hM, .inl upd_same⟩, h.mono fun b o n e => ⟨n, by rw [upd_ne (ne_of_none e hp)]; exact e⟩⟩
end

/-! data without objects and dicts: what == speaks of -/
mutual
def D.py : D → PyData
  | .non => .none
  | .bl b => .bool b
  | .int i => .int i
  | .str x => .str x
  | .tup xs => .tuple (D.pyL xs)
  | .lst xs => .list (D.pyL xs)
  | .emp => .dict []
  | .obj _ _ _ => .none
  | .dct _ _ => .none
def D.pyL : List D → List PyData
  | [] => []
  | d :: ds => D.py d :: D.pyL ds
end
mutual
def D.pln : D → Bool
  | .tup xs => D.plnL xs
  | .lst xs => D.plnL xs
  | .emp => false
  | .obj _ _ _ => false
  | .dct _ _ => false
  | _ => true
def D.plnL : List D → Bool
  | [] => true
  | d :: ds => D.pln d && D.plnL ds
end
section
variable {M : Addr → Prop} {K : PySem.W.Frag} {H : Hp}
mutual
theorem Da.dp : ∀ {d : D} {v : V}, Da M K H v d → d.pln = true → Dp K H v d.py
  | .non, _, h, _ => by rw [show _ = V.non from h]; exact .non
  | .bl b, _, h, _ => by rw [show _ = V.bl b from h]; exact .bl b
  | .int i, _, h, _ => by rw [show _ = V.int i from h]; exact .int i
  | .str x, _, h, _ => by rw [show _ = V.str x from h]; exact .str x
  | .tup ds, _, h, p => by
    obtain ⟨a, vs, e, h1, h2⟩ := h
    rw [e]
    exact .tup h1.sq (DaAll.dp h2 p)
  | .lst ds, _, h, p => by
    obtain ⟨a, vs, e, h1, h2⟩ := h
    rw [e]
    exact .lst h1.sq (DaAll.dp h2 p)
  | .emp, _, _, p => by cases p
  | .obj _ _ _, _, _, p => by cases p
  | .dct _ _, _, _, p => by cases p
theorem DaAll.dp : ∀ {ds : List D} {vs : List V}, DaAll M K H vs ds → D.plnL ds = true → DpAll K H vs (D.pyL ds)
  | [], _, h, _ => by rw [show _ = [] from h]; exact .nil
  | d :: ds, _, h, p => by
    obtain ⟨v, r, e, h1, h2⟩ := h
    obtain ⟨p1, p2⟩ := Bool.and_eq_true_iff.mp (show (D.pln d && D.plnL ds) = true from p)
    rw [e]
    exact .cons (Da.dp h1 p1) (DaAll.dp h2 p2)
end
end
def D.scalar : D → Bool
  | .non => true | .bl _ => true | .int _ => true | .str _ => true | _ => false
theorem Da.scal {M M' : Addr → Prop} {K : PySem.W.Frag} {H H' : Hp} {v : V} : ∀ {d : D}, Da M K H v d → d.scalar = true → Da M' K H' v d
  | .non, h, _ => h
  | .bl _, h, _ => h
  | .int _, h, _ => h
  | .str _, h, _ => h
  | .tup _, _, p => by cases p
  | .lst _, _, p => by cases p
  | .emp, _, p => by cases p
  | .obj _ _ _, _, p => by cases p
  | .dct _ _, _, p => by cases p

/-! ### environments of data -/
/-- what a slot holds: nothing known; data; an object of its own (a list, a dict, an instance that only this slot knows); the hand of the draws -/
inductive Ent where
  | u | d (x : D) | own (x : D) | hand
/-- an object at p whose content is x, p itself being hot -/
def OwnAt (M : Addr → Prop) (K : PySem.W.Frag) (H : Hp) (p : Addr) : D → Prop
  | .lst ds => ∃ vs, H p = some (.lst vs) ∧ DaAll M K H vs ds
  | .dct ks ds => ∃ kvs, H p = some (.dT kvs) ∧ kvs.map (·.1) = ks ∧ DaAll M K H (kvs.map (·.2)) ds
  | .obj C ns ds => ∃ dx fs, H p = some (.ins C dx fs) ∧ fs.map (·.1) = ns ∧ DaAll M K H (fs.map (·.2)) ds
  | _ => False
/-- the box: a dict of the cells, four numbers and a mark -/
def boxK (c : Addr) (i r m : Int) (g : Bool) (n : Int) : List (Key × V) :=
  [(.inr "cells", .ref c), (.inr "at", .int i), (.inr "rest", .int r), (.inr "many", .int m), (.inr "great", .bl g), (.inr "all", .int n)]
def HandOk (M : Addr → Prop) (K : PySem.W.Frag) (H : Hp) (a : Addr) : Prop :=
  ∃ (c : Addr) (cs : List Int) (i r m : Int) (g : Bool) (n : Int), H a = some (.dK (boxK c i r m g n)) ∧ ColdL M K H c (cs.map V.int) ∧ 0 ≤ i
structure Fr where
  M : Addr → Prop
  H0 : Hp
  hd : Option Addr
abbrev Fr.push (F : Fr) (p : Addr) : Fr := { F with M := fun b => F.M b ∨ b = p }
def hot (F : Fr) (σ : L2.St) (ρ : List Ent) (b : Addr) : Prop := F.M b ∨ ∃ (i : Nat) (x : D), ρ[i]? = some (Ent.own x) ∧ σ[i]? = some (some (.ref b))
def SlotOk (K : PySem.W.Frag) (F : Fr) (M : Addr → Prop) (H : Hp) (o : Option (Option V)) : Ent → Prop
  | .u => True
  | .d x => ∃ v, o = some (some v) ∧ Da M K H v x
  | .own x => ∃ p, o = some (some (.ref p)) ∧ OwnAt M K H p x
  | .hand => ∃ a, F.hd = some a ∧ o = some (some (.ref a))
structure Env (K : PySem.W.Frag) (F : Fr) (H : Hp) (σ : L2.St) (ρ : List Ent) : Prop where
  len : σ.length = ρ.length
  go : ∀ b o, F.hd ≠ some b → F.H0 b = some o → H b = some o
  trk : ∀ b, F.M b → H b ≠ none
  hand : ∀ a, F.hd = some a → F.M a ∧ F.H0 a ≠ none ∧ HandOk (hot F σ ρ) K H a
  new : ∀ (i : Nat) (x : D) (b : Addr), ρ[i]? = some (.own x) → σ[i]? = some (some (.ref b)) → F.H0 b = none ∧ ¬ F.M b
  inj : ∀ (i j : Nat) (x y : D) (b : Addr), ρ[i]? = some (.own x) → ρ[j]? = some (.own y) → σ[i]? = some (some (.ref b)) → σ[j]? = some (some (.ref b)) → i = j
  slot : ∀ (i : Nat) (e : Ent), ρ[i]? = some e → SlotOk K F (hot F σ ρ) H σ[i]? e

section
variable {M M' : Addr → Prop} {K : PySem.W.Frag} {F : Fr} {H H' : Hp} {σ : L2.St} {ρ : List Ent} {p : Addr} {x y : D} {v : V} {i : Nat}
theorem OwnAt.mono (h : OwnAt M K H p x) (g : ∀ b o, ¬ M b → H b = some o → ¬ M' b ∧ H' b = some o) (hp : ∀ o, H p = some o → H' p = some o) : OwnAt M' K H' p x := by
  cases x with
  | lst ds => obtain ⟨vs, h1, h2⟩ := h; exact ⟨vs, hp _ h1, h2.mono g⟩
  | dct ks ds => obtain ⟨kvs, h1, h2, h3⟩ := h; exact ⟨kvs, hp _ h1, h2, h3.mono g⟩
  | obj C ns ds => obtain ⟨dx, fs, h1, h2, h3⟩ := h; exact ⟨dx, fs, hp _ h1, h2, h3.mono g⟩
  | _ => exact (show False from h).elim
theorem OwnAt.there (h : OwnAt M K H p x) : H p ≠ none := by
  cases x with
  | lst ds => obtain ⟨vs, h1, h2⟩ := h; rw [h1]; exact fun e => nomatch e
  | dct ks ds => obtain ⟨kvs, h1, h2, h3⟩ := h; rw [h1]; exact fun e => nomatch e
  | obj C ns ds => obtain ⟨dx, fs, h1, h2, h3⟩ := h; rw [h1]; exact fun e => nomatch e
  | _ => exact (show False from h).elim
/-- let go: it is data now -/
theorem OwnAt.da (h : OwnAt M K H p x) (g : ∀ b, M' b → M b) (n : ¬ M' p) : Da M' K H (.ref p) x := by
  cases x with
  | lst ds => obtain ⟨vs, h1, h2⟩ := h; exact ⟨p, vs, rfl, ⟨n, h1⟩, h2.less g⟩
  | dct ks ds => obtain ⟨kvs, h1, h2, h3⟩ := h; exact ⟨p, kvs, rfl, n, h1, h2, h3.less g⟩
  | obj C ns ds => obtain ⟨dx, fs, h1, h2, h3⟩ := h; exact ⟨p, dx, fs, rfl, n, h1, h2, h3.less g⟩
  | _ => exact (show False from h).elim
theorem OwnAt.now (h : OwnAt M K H p x) : D0 K H (.ref p) x := h.da (fun _ z => z.elim) fun z => z
theorem HandOk.there (h : HandOk M K H p) : H p ≠ none := by
  obtain ⟨c, cs, i, r, m, g, n, h1, _⟩ := h
  rw [h1]
  exact fun e => nomatch e
theorem HandOk.mono (h : HandOk M K H p) (g : ∀ b o, ¬ M b → H b = some o → ¬ M' b ∧ H' b = some o) (hp : ∀ o, H p = some o → H' p = some o) : HandOk M' K H' p := by
  obtain ⟨c, cs, i, r, m, g', n, h1, h2, h3⟩ := h
  exact ⟨c, cs, i, r, m, g', n, hp _ h1, h2.mono g, h3⟩
theorem Env.hotTrk (E : Env K F H σ ρ) : ∀ b, hot F σ ρ b → H b ≠ none := fun b h => by
  rcases h with h | ⟨i, x, h1, h2⟩
  · exact E.trk b h
  · obtain ⟨q, e, ho⟩ := E.slot i _ h1
    rw [h2] at e
    cases e
    exact ho.there
theorem SlotOk.mono {o : Option (Option V)} {e : Ent} {F' : Fr} (h : SlotOk K F M H o e) (g : ∀ b o, ¬ M b → H b = some o → ¬ M' b ∧ H' b = some o) (hp : ∀ p x, e = .own x → o = some (some (.ref p)) → ∀ o, H p = some o → H' p = some o) (hd : F'.hd = F.hd) : SlotOk K F' M' H' o e := by
  cases e with
  | u => trivial
  | d x => obtain ⟨v, e, h1⟩ := h; exact ⟨v, e, h1.mono g⟩
  | own x => obtain ⟨p, e, h1⟩ := h; exact ⟨p, e, h1.mono g (hp p x rfl e)⟩
  | hand => obtain ⟨a, e, h1⟩ := h; exact ⟨a, hd.trans e, h1⟩
/-- the heap goes on: all is kept but the hand, that is a hand still -/
theorem Env.step (E : Env K F H σ ρ) (g : ∀ b o, F.hd ≠ some b → H b = some o → H' b = some o) (hh : ∀ a, F.hd = some a → HandOk (hot F σ ρ) K H' a) : Env K F H' σ ρ := by
  have cold : ∀ b o, ¬ hot F σ ρ b → H b = some o → ¬ hot F σ ρ b ∧ H' b = some o := fun b o n e => ⟨n, g b o (fun z => n (.inl (E.hand b z).1)) e⟩
  refine ⟨E.len, fun b o n e => g b o n (E.go b o n e), fun b hb => ?_, fun a e => ⟨(E.hand a e).1, (E.hand a e).2.1, hh a e⟩, E.new, E.inj, fun i e he => ?_⟩
  · by_cases z : F.hd = some b
    · exact (hh b z).there
    · obtain ⟨o, ho⟩ := Option.ne_none_iff_exists'.mp (E.trk b hb)
      rw [g b o z ho]
      exact fun e => nomatch e
  · refine (E.slot i e he).mono cold (fun p x ee eo o ho => ?_) rfl
    subst ee
    exact g p o (fun z => (E.new i x p he eo).2 (E.hand p z).1) ho
theorem Env.ex (E : Env K F H σ ρ) (g : ∀ b o, H b = some o → H' b = some o) : Env K F H' σ ρ :=
  E.step (fun b o _ e => g b o e) fun a e => HandOk.mono (E.hand a e).2.2 (fun b o n e => ⟨n, g b o e⟩) fun o e => g a o e
theorem ex_new {o : HO} (hp : H p = none) : ∀ b u, H b = some u → upd H p o b = some u := fun b u e => by
  rw [upd_ne (ne_of_none e hp)]
  exact e
/-- a new object at p, hot from now on -/
theorem Env.push (E : Env K F H σ ρ) (hp : H p = none) (g : ∀ b o, H b = some o → H' b = some o) (h1 : H' p ≠ none) : Env K (F.push p) H' σ ρ := by
  have E1 := E.ex g
  have np : ∀ b, H b ≠ none → b ≠ p := fun b hb z => hb (by rw [z]; exact hp)
  have old : ∀ b, hot (F.push p) σ ρ b → hot F σ ρ b ∨ b = p := fun b h => by
    rcases h with h | h
    · rcases h with h | h
      · exact .inl (.inl h)
      · exact .inr h
    · exact .inl (.inr h)
  have cold : ∀ b o, ¬ hot F σ ρ b → H b = some o → ¬ hot (F.push p) σ ρ b ∧ H' b = some o := fun b o n e => ⟨fun z => (old b z).elim n fun z => (by rw [z, hp] at e; cases e), g b o e⟩
  refine ⟨E.len, E1.go, fun b hb => ?_, fun a e => ?_, fun i x b h2 h3 => ?_, E.inj, fun i e he => ?_⟩
  · rcases hb with hb | hb
    · exact E1.trk b hb
    · rw [hb]; exact h1
  · obtain ⟨q1, q2, q3⟩ := E.hand a e
    exact ⟨.inl q1, q2, HandOk.mono q3 cold fun o z => g a o z⟩
  · obtain ⟨q1, q2⟩ := E.new i x b h2 h3
    refine ⟨q1, fun z => z.elim q2 fun z => ?_⟩
    exact E.hotTrk b (.inr ⟨i, x, h2, h3⟩) (by rw [z]; exact hp)
  · refine (E.slot i e he).mono cold (fun p x _ _ o ho => g _ o ho) rfl
/-- it is hot no more -/
theorem Env.pop (E : Env K (F.push p) H σ ρ) (h0 : F.H0 p = none) : Env K F H σ ρ := by
  have up : ∀ b, hot F σ ρ b → hot (F.push p) σ ρ b := fun b h => by
    rcases h with h | h
    · exact .inl (.inl h)
    · exact .inr h
  have cold : ∀ b o, ¬ hot (F.push p) σ ρ b → H b = some o → ¬ hot F σ ρ b ∧ H b = some o := fun b o n e => ⟨fun z => n (up b z), e⟩
  refine ⟨E.len, E.go, fun b hb => E.trk b (.inl hb), fun a e => ?_, fun i x b h2 h3 => ⟨(E.new i x b h2 h3).1, fun z => (E.new i x b h2 h3).2 (.inl z)⟩, E.inj, fun i e he => (E.slot i e he).mono cold (fun _ _ _ _ _ z => z) rfl⟩
  obtain ⟨q1, q2, q3⟩ := E.hand a e
  refine ⟨?_, q2, HandOk.mono q3 cold fun _ z => z⟩
  rcases q1 with q | q
  · exact q
  · rw [q] at q2
    exact absurd h0 q2

theorem set_get {α : Type} {l : List α} {i j : Nat} {a b : α} (h : (l.set i a)[j]? = some b) : (j = i ∧ b = a ∧ i < l.length) ∨ (j ≠ i ∧ l[j]? = some b) := by
  by_cases e : j = i
  · subst e
    by_cases hl : j < l.length
    · rw [List.getElem?_set_self hl] at h
      exact .inl ⟨rfl, (Option.some.inj h).symm, hl⟩
    · rw [List.set_eq_of_length_le (by omega)] at h
      rw [List.getElem?_eq_none (by omega)] at h
      cases h
  · rw [List.getElem?_set_ne (Ne.symm e)] at h
    exact .inr ⟨e, h⟩
/-- name = data -/
theorem Env.setD (E : Env K F H σ ρ) (hv : Da (hot F σ ρ) K H v x) : Env K F H (σ.set i (some v)) (ρ.set i (.d x)) := by
  have own : ∀ (j : Nat) (y : D), (ρ.set i (.d x))[j]? = some (.own y) → j ≠ i ∧ ρ[j]? = some (.own y) := fun j y h => by
    rcases set_get h with ⟨_, e, _⟩ | h
    · cases e
    · exact h
  have at_ : ∀ (j : Nat), j ≠ i → (σ.set i (some v))[j]? = σ[j]? := fun j n => List.getElem?_set_ne (Ne.symm n)
  have less : ∀ b, hot F (σ.set i (some v)) (ρ.set i (.d x)) b → hot F σ ρ b := fun b h => by
    rcases h with h | ⟨j, y, h1, h2⟩
    · exact .inl h
    · obtain ⟨n, h3⟩ := own j y h1
      rw [at_ j n] at h2
      exact .inr ⟨j, y, h3, h2⟩
  have cold : ∀ b o, ¬ hot F σ ρ b → H b = some o → ¬ hot F (σ.set i (some v)) (ρ.set i (.d x)) b ∧ H b = some o := fun b o n e => ⟨fun z => n (less b z), e⟩
  refine ⟨by rw [List.length_set, List.length_set]; exact E.len, E.go, E.trk, fun a e => ?_, fun j y b h1 h2 => ?_, fun j k y z b h1 h2 h3 h4 => ?_, fun j e he => ?_⟩
  · obtain ⟨q1, q2, q3⟩ := E.hand a e
    exact ⟨q1, q2, HandOk.mono q3 cold fun _ z => z⟩
  · obtain ⟨n, h3⟩ := own j y h1
    rw [at_ j n] at h2
    exact E.new j y b h3 h2
  · obtain ⟨n, h5⟩ := own j y h1
    obtain ⟨n', h6⟩ := own k z h2
    rw [at_ j n] at h3
    rw [at_ k n'] at h4
    exact E.inj j k y z b h5 h6 h3 h4
  · rcases set_get he with ⟨e1, e2, hl⟩ | ⟨n, h⟩
    · subst e1 e2
      exact ⟨v, List.getElem?_set_self (by rw [E.len]; exact hl), hv.mono cold⟩
    · rw [at_ j n]
      exact (E.slot j e h).mono cold (fun _ _ _ _ _ z => z) rfl
/-- name = a new object -/
theorem Env.setNew (E : Env K (F.push p) H σ ρ) (h0 : F.H0 p = none) (nh : ¬ hot F σ ρ p) (ho : OwnAt (hot (F.push p) σ ρ) K H p x) : Env K F H (σ.set i (some (.ref p))) (ρ.set i (.own x)) := by
  have E0 := E.pop h0
  have own : ∀ (j : Nat) (y : D), (ρ.set i (.own x))[j]? = some (.own y) → (j = i ∧ y = x ∧ i < ρ.length) ∨ (j ≠ i ∧ ρ[j]? = some (.own y)) := fun j y h => by
    rcases set_get h with ⟨e1, e2, e3⟩ | h
    · cases e2
      exact .inl ⟨e1, rfl, e3⟩
    · exact .inr h
  have at_ : ∀ (j : Nat), j ≠ i → (σ.set i (some (V.ref p)))[j]? = σ[j]? := fun j n => List.getElem?_set_ne (Ne.symm n)
  have less : ∀ b, hot F (σ.set i (some (.ref p))) (ρ.set i (.own x)) b → hot (F.push p) σ ρ b := fun b h => by
    rcases h with h | ⟨j, y, h1, h2⟩
    · exact .inl (.inl h)
    · rcases own j y h1 with ⟨e1, e2, e3⟩ | ⟨n, h3⟩
      · subst e1
        rw [List.getElem?_set_self (by rw [E.len]; exact e3)] at h2
        cases h2
        exact .inl (.inr rfl)
      · rw [at_ j n] at h2
        exact .inr ⟨j, y, h3, h2⟩
  have cold : ∀ b o, ¬ hot (F.push p) σ ρ b → H b = some o → ¬ hot F (σ.set i (some (.ref p))) (ρ.set i (.own x)) b ∧ H b = some o := fun b o n e => ⟨fun z => n (less b z), e⟩
  refine ⟨by rw [List.length_set, List.length_set]; exact E.len, E0.go, E0.trk, fun a e => ?_, fun j y b h1 h2 => ?_, fun j k y z b h1 h2 h3 h4 => ?_, fun j e he => ?_⟩
  · obtain ⟨q1, q2, q3⟩ := E.hand a e
    exact ⟨(E0.hand a e).1, q2, HandOk.mono q3 cold fun _ z => z⟩
  · rcases own j y h1 with ⟨e1, e2, e3⟩ | ⟨n, h3⟩
    · subst e1
      rw [List.getElem?_set_self (by rw [E.len]; exact e3)] at h2
      cases h2
      exact ⟨h0, fun z => nh (.inl z)⟩
    · rw [at_ j n] at h2
      exact E0.new j y b h3 h2
  · rcases own j y h1 with ⟨e1, e2, e3⟩ | ⟨n, h5⟩
    · rcases own k z h2 with ⟨e4, e5, e6⟩ | ⟨n', h6⟩
      · rw [e1, e4]
      · subst e1
        rw [List.getElem?_set_self (by rw [E.len]; exact e3)] at h3
        cases h3
        rw [at_ k n'] at h4
        exact absurd (show hot F σ ρ p from .inr ⟨k, z, h6, h4⟩) nh
    · rcases own k z h2 with ⟨e4, e5, e6⟩ | ⟨n', h6⟩
      · subst e4
        rw [List.getElem?_set_self (by rw [E.len]; exact e6)] at h4
        cases h4
        rw [at_ j n] at h3
        exact absurd (show hot F σ ρ p from .inr ⟨j, y, h5, h3⟩) nh
      · rw [at_ j n] at h3
        rw [at_ k n'] at h4
        exact E.inj j k y z b h5 h6 h3 h4
  · rcases set_get he with ⟨e1, e2, hl⟩ | ⟨n, h⟩
    · subst e1 e2
      exact ⟨p, List.getElem?_set_self (by rw [E.len]; exact hl), ho.mono cold fun _ z => z⟩
    · rw [at_ j n]
      exact (E.slot j e h).mono cold (fun _ _ _ _ _ z => z) rfl
/-- an own object is changed -/
theorem Env.write {o' : HO} (E : Env K F H σ ρ) (he : ρ[i]? = some (.own x)) (hs : σ[i]? = some (some (.ref p))) (ho : OwnAt (hot F σ ρ) K (upd H p o') p y) : Env K F (upd H p o') σ (ρ.set i (.own y)) := by
  obtain ⟨h0, nM⟩ := E.new i x p he hs
  have hp : hot F σ ρ p := .inr ⟨i, x, he, hs⟩
  have il : i < ρ.length := (List.getElem?_eq_some_iff.mp he).1
  have own : ∀ (j : Nat) (z : D), (ρ.set i (.own y))[j]? = some (.own z) → ∃ z', ρ[j]? = some (.own z') := fun j z h => by
    rcases set_get h with ⟨e1, e2, e3⟩ | h
    · rw [e1]; exact ⟨x, he⟩
    · exact ⟨z, h.2⟩
  have less : ∀ b, hot F σ (ρ.set i (.own y)) b → hot F σ ρ b := fun b h => by
    rcases h with h | ⟨j, z, h1, h2⟩
    · exact .inl h
    · obtain ⟨z', h3⟩ := own j z h1
      exact .inr ⟨j, z', h3, h2⟩
  have up : ∀ b o, b ≠ p → H b = some o → upd H p o' b = some o := fun b o n e => by rw [upd_ne n]; exact e
  have cold : ∀ b o, ¬ hot F σ ρ b → H b = some o → ¬ hot F σ (ρ.set i (.own y)) b ∧ upd H p o' b = some o := fun b o n e => ⟨fun z => n (less b z), up b o (fun z => n (by rw [z]; exact hp)) e⟩
  refine ⟨by rw [List.length_set]; exact E.len, fun b o n e => up b o (fun z => by rw [z, h0] at e; cases e) (E.go b o n e), fun b hb => ?_, fun a e => ?_, fun j z b h1 h2 => ?_, fun j k z z2 b h1 h2 h3 h4 => ?_, fun j e hj => ?_⟩
  · rw [upd_ne (fun z => nM (by rw [← z]; exact hb))]
    exact E.trk b hb
  · obtain ⟨q1, q2, q3⟩ := E.hand a e
    exact ⟨q1, q2, HandOk.mono q3 cold fun o z => up a o (fun z => nM (by rw [← z]; exact q1)) z⟩
  · obtain ⟨z', h3⟩ := own j z h1
    exact E.new j z' b h3 h2
  · obtain ⟨z', h5⟩ := own j z h1
    obtain ⟨z'', h6⟩ := own k z2 h2
    exact E.inj j k z' z'' b h5 h6 h3 h4
  · rcases set_get hj with ⟨e1, e2, hl⟩ | ⟨n, h⟩
    · subst e1 e2
      refine ⟨p, hs, ho.mono (fun b o n e => ⟨fun z => n (less b z), e⟩) fun _ z => z⟩
    · refine (E.slot j e h).mono cold (fun q z ee eo o hq => up q o (fun zz => ?_) hq) rfl
      subst ee zz
      exact n (E.inj j i z x _ h he eo hs)
/-- an own object is let go: it is data now -/
theorem Env.freeze (E : Env K F H σ ρ) (he : ρ[i]? = some (.own x)) : ∃ p, σ[i]? = some (some (.ref p)) ∧ Da (hot F σ (ρ.set i (.d x))) K H (.ref p) x ∧ Env K F H σ (ρ.set i (.d x)) := by
  obtain ⟨p, hs, ho⟩ := E.slot i _ he
  obtain ⟨h0, nM⟩ := E.new i x p he hs
  have il : i < ρ.length := (List.getElem?_eq_some_iff.mp he).1
  have own : ∀ (j : Nat) (z : D), (ρ.set i (.d x))[j]? = some (.own z) → j ≠ i ∧ ρ[j]? = some (.own z) := fun j z h => by
    rcases set_get h with ⟨e1, e2, e3⟩ | h
    · cases e2
    · exact h
  have less : ∀ b, hot F σ (ρ.set i (.d x)) b → hot F σ ρ b ∧ b ≠ p := fun b h => by
    rcases h with h | ⟨j, z, h1, h2⟩
    · exact ⟨.inl h, fun z => nM (by rw [← z]; exact h)⟩
    · obtain ⟨n, h3⟩ := own j z h1
      refine ⟨.inr ⟨j, z, h3, h2⟩, fun zz => ?_⟩
      subst zz
      exact n (E.inj j i z x _ h3 he h2 hs)
  have da : Da (hot F σ (ρ.set i (.d x))) K H (.ref p) x := ho.da (fun b z => (less b z).1) fun z => (less p z).2 rfl
  have cold : ∀ b o, ¬ hot F σ ρ b → H b = some o → ¬ hot F σ (ρ.set i (.d x)) b ∧ H b = some o := fun b o n e => ⟨fun z => n (less b z).1, e⟩
  refine ⟨p, hs, da, by rw [List.length_set]; exact E.len, E.go, E.trk, fun a e => ?_, fun j z b h1 h2 => E.new j z b (own j z h1).2 h2, fun j k z z2 b h1 h2 h3 h4 => E.inj j k z z2 b (own j z h1).2 (own k z2 h2).2 h3 h4, fun j e hj => ?_⟩
  · obtain ⟨q1, q2, q3⟩ := E.hand a e
    exact ⟨q1, q2, HandOk.mono q3 cold fun _ z => z⟩
  · rcases set_get hj with ⟨e1, e2, hl⟩ | ⟨n, h⟩
    · subst e1 e2
      exact ⟨.ref p, hs, da⟩
    · exact (E.slot j e h).mono cold (fun _ _ _ _ _ z => z) rfl
end
end PW
end
section
/-! PW: judgements in continuation style over environments of data, and their rules. -/
namespace PW
open PySem PySem.Spec PyProof.Rows L2

/-- what an expression gives: data; a new object that nobody knows; the object that is slot i's own -/
inductive Res where
  | d (x : D) | nw (x : D) | v (i : Nat)
def Tr (M : Addr → Prop) (H : Hp) : Prop := ∀ b, M b → H b ≠ none
def Ext (H H' : Hp) : Prop := ∀ b o, H b = some o → H' b = some o
theorem Ext.refl (H : Hp) : Ext H H := fun _ _ h => h
theorem Ext.trans {H H1 H2 : Hp} (a : Ext H H1) (b : Ext H1 H2) : Ext H H2 := fun x o h => b x o (a x o h)
theorem Ext.new {H : Hp} {p : Addr} {o : HO} (h : H p = none) : Ext H (upd H p o) := ex_new h
theorem Ext.back {H H' : Hp} {p : Addr} (e : Ext H H') (h : H' p = none) : H p = none := by
  cases q : H p with
  | none => rfl
  | some o => rw [e p o q] at h; cases h
/-- in an environment -/
def RV (K : PySem.W.Frag) (F : Fr) (H : Hp) (σ : L2.St) (ρ : List Ent) (v : V) : Res → Prop
  | .d x => Env K F H σ ρ ∧ Da (hot F σ ρ) K H v x
  | .nw x => ∃ p, v = .ref p ∧ F.H0 p = none ∧ ¬ hot F σ ρ p ∧ Env K (F.push p) H σ ρ ∧ OwnAt (hot (F.push p) σ ρ) K H p x
  | .v i => Env K F H σ ρ ∧ σ[i]? = some (some v) ∧ ∃ x, ρ[i]? = some (.own x)
/-- of a quiet operation: the heap grew from H to H' -/
def ResV (M : Addr → Prop) (K : PySem.W.Frag) (H H' : Hp) (v : V) : Res → Prop
  | .d x => Da M K H' v x
  | .nw x => ∃ p, v = .ref p ∧ H p = none ∧ OwnAt (fun b => M b ∨ b = p) K H' p x
  | .v _ => False
/-- a value that may be read: data, or an own object -/
def Pk (M : Addr → Prop) (K : PySem.W.Frag) (H : Hp) (v : V) (x : D) : Prop := Da M K H v x ∨ ∃ p, v = .ref p ∧ M p ∧ OwnAt M K H p x
/-- the content of what was given, as the environment now is -/
def peekE : Option Ent → Option D
  | some (.own x) => some x
  | some (.d x) => some x
  | _ => none
def peek (ρ : List Ent) : Res → Option D
  | .d x => some x
  | .nw x => some x
  | .v i => peekE ρ[i]?
/-- let go of it: data from now on -/
def frzE (ρ : List Ent) (i : Nat) : Option Ent → List Ent
  | some (.own x) => ρ.set i (.d x)
  | _ => ρ
def frz (ρ : List Ent) : Res → List Ent
  | .v i => frzE ρ i ρ[i]?
  | _ => ρ
def Res.ent : Res → Ent
  | .d x => .d x
  | .nw x => .own x
  | .v _ => .u

section
variable {K : PySem.W.Frag} {F : Fr} {H H' : Hp} {σ : L2.St} {ρ : List Ent} {v : V} {r : Res} {x y : D} {i : Nat} {M : Addr → Prop}
theorem hot_tr (E : Env K F H σ ρ) : Tr (hot F σ ρ) H := E.hotTrk
theorem h0_none {p : Addr} (E : Env K F H σ ρ) (hp : H p = none) : F.H0 p = none := by
  cases q : F.H0 p with
  | none => rfl
  | some o =>
    by_cases z : F.hd = some p
    · exact absurd hp (E.hand p z).2.2.there
    · rw [E.go p o z q] at hp; cases hp
theorem ResV.rv (E : Env K F H σ ρ) (e : Ext H H') (h : ResV (hot F σ ρ) K H H' v r) : RV K F H' σ ρ v r := by
  cases r with
  | d x => exact ⟨E.ex e, h⟩
  | nw x =>
    obtain ⟨p, rfl, hp, ho⟩ := h
    refine ⟨p, rfl, h0_none E hp, fun z => E.hotTrk p z hp, E.push hp e ho.there, ho.mono (fun b o n ee => ⟨fun z => n ?_, ee⟩) fun _ z => z⟩
    rcases z with z | z
    · rcases z with z | z
      · exact .inl (.inl z)
      · exact .inr z
    · exact .inl (.inr z)
  | v i => exact h.elim
theorem Env.slotOwn (E : Env K F H σ ρ) (he : ρ[i]? = some (.own x)) : ∃ p, σ[i]? = some (some (.ref p)) ∧ hot F σ ρ p ∧ OwnAt (hot F σ ρ) K H p x := by
  obtain ⟨p, e, ho⟩ := E.slot i _ he
  exact ⟨p, e, .inr ⟨i, x, he, e⟩, ho⟩
theorem RV.env (h : RV K F H σ ρ v r) : Env K F H σ ρ := by
  cases r with
  | d x => exact h.1
  | nw x => obtain ⟨p, _, h0, _, E, _⟩ := h; exact E.pop h0
  | v i => exact h.1
theorem RV.pk (h : RV K F H σ ρ v r) (hp : peek ρ r = some x) : Pk (hot F σ ρ) K H v x := by
  cases r with
  | d y => cases hp; exact .inl h.2
  | nw y =>
    cases hp
    obtain ⟨p, rfl, h0, nh, E, ho⟩ := h
    refine .inl (ho.da (fun b z => ?_) nh)
    rcases z with z | z
    · exact .inl (.inl z)
    · exact .inr z
  | v i =>
    obtain ⟨E, hs, y, hy⟩ := h
    have hp : peekE ρ[i]? = some x := hp
    rw [hy] at hp
    cases hp
    obtain ⟨p, e, hh, ho⟩ := E.slotOwn hy
    rw [hs] at e
    cases e
    exact .inr ⟨p, rfl, hh, ho⟩
theorem RV.frz (h : RV K F H σ ρ v r) (hp : peek ρ r = some x) : Env K F H σ (frz ρ r) ∧ Da (hot F σ (frz ρ r)) K H v x := by
  cases r with
  | d y => cases hp; exact h
  | nw y =>
    cases hp
    obtain ⟨p, rfl, h0, nh, E, ho⟩ := h
    refine ⟨E.pop h0, ho.da (fun b z => ?_) nh⟩
    rcases z with z | z
    · exact .inl (.inl z)
    · exact .inr z
  | v i =>
    obtain ⟨E, hs, y, hy⟩ := h
    have hp : peekE ρ[i]? = some x := hp
    rw [hy] at hp
    cases hp
    obtain ⟨p, e, hd, E'⟩ := E.freeze hy
    rw [hs] at e
    cases e
    show Env K F H σ (frzE ρ i ρ[i]?) ∧ Da (hot F σ (frzE ρ i ρ[i]?)) K H _ _
    rw [hy]
    exact ⟨E', hd⟩
/-- name = value -/
theorem RV.set {j : Nat} (h : RV K F H σ ρ v r) (hr : ∀ i, r ≠ .v i) : Env K F H (σ.set j (some v)) (ρ.set j r.ent) := by
  cases r with
  | d y => exact h.1.setD h.2
  | nw y =>
    obtain ⟨p, rfl, h0, nh, E, ho⟩ := h
    exact E.setNew h0 nh ho
  | v i => exact absurd rfl (hr i)
theorem Pk.now (h : Pk M K H v x) : D0 K H v x := by
  rcases h with h | ⟨p, rfl, _, h⟩
  · exact h.now
  · exact h.now
theorem Pk.ex (h : Pk M K H v x) (e : Ext H H') : Pk M K H' v x := by
  rcases h with h | ⟨p, rfl, m, h⟩
  · exact .inl (h.mono fun b o n z => ⟨n, e b o z⟩)
  · exact .inr ⟨p, rfl, m, h.mono (fun b o n z => ⟨n, e b o z⟩) fun o z => e p o z⟩
theorem Pk.lst {ds : List D} (h : Pk M K H v (.lst ds)) : ∃ a vs, v = .ref a ∧ H a = some (.lst vs) ∧ DaAll M K H vs ds := by
  rcases h with h | ⟨p, rfl, _, h⟩
  · obtain ⟨a, vs, e, h1, h2⟩ := h
    exact ⟨a, vs, e, h1.2, h2⟩
  · obtain ⟨vs, h1, h2⟩ := h
    exact ⟨p, vs, rfl, h1, h2⟩
theorem Pk.tup {ds : List D} (h : Pk M K H v (.tup ds)) : ∃ a vs, v = .ref a ∧ SqT K H a vs ∧ DaAll M K H vs ds := by
  rcases h with h | ⟨p, rfl, _, h⟩
  · obtain ⟨a, vs, e, h1, h2⟩ := h
    exact ⟨a, vs, e, h1.sq, h2⟩
  · exact (show False from h).elim
theorem Pk.int {i : Int} (h : Pk M K H v (.int i)) : v = .int i := by
  rcases h with h | ⟨p, rfl, _, h⟩
  · exact h
  · exact (show False from h).elim
theorem Pk.bl {b : Bool} (h : Pk M K H v (.bl b)) : v = .bl b := by
  rcases h with h | ⟨p, rfl, _, h⟩
  · exact h
  · exact (show False from h).elim
theorem Pk.str {z : Str} (h : Pk M K H v (.str z)) : v = .str z := by
  rcases h with h | ⟨p, rfl, _, h⟩
  · exact h
  · exact (show False from h).elim
theorem Pk.non (h : Pk M K H v .non) : v = .non := by
  rcases h with h | ⟨p, rfl, _, h⟩
  · exact h
  · exact (show False from h).elim
end

/-! ### what stays -/
/-- from (M, H) to (M', H'): what was cold is cold, and as it was -/
def Keep (M : Addr → Prop) (H : Hp) (M' : Addr → Prop) (H' : Hp) : Prop := ∀ b o, ¬ M b → H b = some o → ¬ M' b ∧ H' b = some o
theorem Keep.refl (M : Addr → Prop) (H : Hp) : Keep M H M H := fun _ _ n h => ⟨n, h⟩
theorem Keep.trans {M M1 M2 : Addr → Prop} {H H1 H2 : Hp} (a : Keep M H M1 H1) (b : Keep M1 H1 M2 H2) : Keep M H M2 H2 := fun x o n h => b x o (a x o n h).1 (a x o n h).2
theorem Keep.ext {M : Addr → Prop} {H H' : Hp} (e : Ext H H') : Keep M H M H' := fun b o n h => ⟨n, e b o h⟩
/-- a value that was given is held while others are reckoned -/
def Held (K : PySem.W.Frag) (F : Fr) (H : Hp) (σ : L2.St) (ρ : List Ent) (v : V) : Res → Prop
  | .d x => Da (hot F σ ρ) K H v x
  | .nw x => Da (hot F σ ρ) K H v x
  | .v i => σ[i]? = some (some v)
def HeldAll (K : PySem.W.Frag) (F : Fr) (H : Hp) (σ : L2.St) (ρ : List Ent) (vs : List V) : List Res → Prop
  | [] => vs = []
  | r :: rs => ∃ v ws, vs = v :: ws ∧ Held K F H σ ρ v r ∧ HeldAll K F H σ ρ ws rs
section
variable {K : PySem.W.Frag} {F : Fr} {H H' : Hp} {σ : L2.St} {ρ ρ' : List Ent} {v : V} {r : Res} {x y : D} {i : Nat} {M : Addr → Prop}
theorem RV.held (h : RV K F H σ ρ v r) : Held K F H σ ρ v r := by
  cases r with
  | d y => exact h.2
  | nw y =>
    obtain ⟨p, rfl, h0, nh, E, ho⟩ := h
    refine ho.da (fun b z => ?_) nh
    rcases z with z | z
    · exact .inl (.inl z)
    · exact .inr z
  | v i => exact h.2.1
theorem Held.keep (h : Held K F H σ ρ v r) (g : Keep (hot F σ ρ) H (hot F σ ρ') H') : Held K F H' σ ρ' v r := by
  cases r with
  | d y => exact Da.mono h g
  | nw y => exact Da.mono h g
  | v i => exact h
theorem HeldAll.keep : ∀ {rs : List Res} {vs : List V}, HeldAll K F H σ ρ vs rs → Keep (hot F σ ρ) H (hot F σ ρ') H' → HeldAll K F H' σ ρ' vs rs
  | [], _, h, _ => h
  | r :: rs, _, h, g => by
    obtain ⟨v, ws, e, h1, h2⟩ := h
    exact ⟨v, ws, e, h1.keep g, HeldAll.keep h2 g⟩
theorem Held.pk (E : Env K F H σ ρ) (h : Held K F H σ ρ v r) (hp : peek ρ r = some x) : Pk (hot F σ ρ) K H v x := by
  cases r with
  | d y => cases hp; exact .inl h
  | nw y => cases hp; exact .inl h
  | v i =>
    have h : σ[i]? = some (some v) := h
    have hp : peekE ρ[i]? = some x := hp
    cases e : ρ[i]? with
    | none => rw [e] at hp; cases hp
    | some en =>
      rw [e] at hp
      cases en with
      | own y =>
        cases hp
        obtain ⟨p, e2, hh, ho⟩ := E.slotOwn e
        rw [h] at e2
        cases e2
        exact .inr ⟨p, rfl, hh, ho⟩
      | d y =>
        cases hp
        obtain ⟨w, e2, hd⟩ := E.slot i _ e
        rw [h] at e2
        cases e2
        exact .inl hd
      | _ => cases hp
theorem keep_frz (E : Env K F H σ ρ) : Keep (hot F σ ρ) H (hot F σ (frz ρ r)) H := by
  cases r with
  | v i =>
    show Keep (hot F σ ρ) H (hot F σ (frzE ρ i ρ[i]?)) H
    cases e : ρ[i]? with
    | none => exact Keep.refl _ _
    | some en =>
      cases en with
      | own y =>
        intro b o n ho
        refine ⟨fun z => n ?_, ho⟩
        rcases z with z | ⟨j, w, h1, h2⟩
        · exact .inl z
        · rcases set_get h1 with ⟨_, q, _⟩ | ⟨_, q⟩
          · cases q
          · exact .inr ⟨j, w, q, h2⟩
      | _ => exact Keep.refl _ _
  | _ => exact Keep.refl _ _
theorem Held.frz (E : Env K F H σ ρ) (h : Held K F H σ ρ v r) (hp : peek ρ r = some x) : Env K F H σ (frz ρ r) ∧ Da (hot F σ (frz ρ r)) K H v x := by
  cases r with
  | d y => cases hp; exact ⟨E, h⟩
  | nw y => cases hp; exact ⟨E, h⟩
  | v i =>
    have h : σ[i]? = some (some v) := h
    have hp : peekE ρ[i]? = some x := hp
    show Env K F H σ (frzE ρ i ρ[i]?) ∧ Da (hot F σ (frzE ρ i ρ[i]?)) K H _ _
    cases e : ρ[i]? with
    | none => rw [e] at hp; cases hp
    | some en =>
      rw [e] at hp
      cases en with
      | own y =>
        cases hp
        obtain ⟨p, e2, hd, E'⟩ := E.freeze e
        rw [h] at e2
        cases e2
        exact ⟨E', hd⟩
      | d y =>
        cases hp
        obtain ⟨w, e2, hd⟩ := E.slot i _ e
        rw [h] at e2
        cases e2
        exact ⟨E, hd⟩
      | _ => cases hp
def peekAll (ρ : List Ent) : List Res → Option (List D)
  | [] => some []
  | r :: rs => match peek ρ r, peekAll ρ rs with
    | some x, some xs => some (x :: xs)
    | _, _ => none
def frzAll (ρ : List Ent) : List Res → List Ent
  | [] => ρ
  | r :: rs => frzAll (PW.frz ρ r) rs
theorem peek_frz {s : Res} (h : peek ρ s = some x) : peek (frz ρ r) s = some x := by
  cases s with
  | d y => exact h
  | nw y => exact h
  | v j =>
    cases r with
    | v i =>
      have h : peekE ρ[j]? = some x := h
      show peekE (frzE ρ i ρ[i]?)[j]? = some x
      cases e : ρ[i]? with
      | none => exact h
      | some en =>
        cases en with
        | own y =>
          show peekE (ρ.set i (.d y))[j]? = some x
          by_cases q : j = i
          · subst q
            rw [e] at h
            cases h
            have hl : j < ρ.length := (List.getElem?_eq_some_iff.mp e).1
            rw [List.getElem?_set_self hl]
            rfl
          · rw [List.getElem?_set_ne (Ne.symm q)]
            exact h
        | _ => exact h
    | _ => exact h
theorem HeldAll.pk (E : Env K F H σ ρ) : ∀ {rs : List Res} {vs : List V} {xs : List D}, HeldAll K F H σ ρ vs rs → peekAll ρ rs = some xs → vs.length = xs.length ∧ ∀ (i : Nat) (v : V) (x : D), vs[i]? = some v → xs[i]? = some x → Pk (hot F σ ρ) K H v x
  | [], _, _, h, hp => by
    cases hp
    rw [show _ = [] from h]
    exact ⟨rfl, fun i v x e => by cases e⟩
  | r :: rs, _, xs, h, hp => by
    obtain ⟨v, ws, e, h1, h2⟩ := h
    unfold peekAll at hp
    cases p1 : peek ρ r with
    | none => rw [p1] at hp; cases hp
    | some x =>
      cases p2 : peekAll ρ rs with
      | none => rw [p1, p2] at hp; cases hp
      | some ys =>
        rw [p1, p2] at hp
        cases hp
        obtain ⟨q1, q2⟩ := HeldAll.pk E h2 p2
        subst e
        refine ⟨by rw [List.length_cons, List.length_cons, q1], fun i w z e1 e2 => ?_⟩
        cases i with
        | zero => cases e1; cases e2; exact h1.pk E p1
        | succ i => exact q2 i w z e1 e2
theorem HeldAll.now (E : Env K F H σ ρ) : ∀ {rs : List Res} {vs : List V} {xs : List D}, HeldAll K F H σ ρ vs rs → peekAll ρ rs = some xs → DaAll (fun _ => False) K H vs xs
  | [], _, _, h, hp => by
    cases hp
    exact h
  | r :: rs, _, xs, h, hp => by
    obtain ⟨v, ws, e, h1, h2⟩ := h
    unfold peekAll at hp
    cases p1 : peek ρ r with
    | none => rw [p1] at hp; cases hp
    | some x =>
      cases p2 : peekAll ρ rs with
      | none => rw [p1, p2] at hp; cases hp
      | some ys =>
        rw [p1, p2] at hp
        cases hp
        exact ⟨v, ws, e, (h1.pk E p1).now, HeldAll.now E h2 p2⟩
theorem peekAll_frz : ∀ {rs : List Res} {xs : List D}, peekAll ρ rs = some xs → peekAll (frz ρ r) rs = some xs
  | [], _, h => h
  | s :: rs, xs, hp => by
    unfold peekAll at hp ⊢
    cases p1 : peek ρ s with
    | none => rw [p1] at hp; cases hp
    | some x =>
      cases p2 : peekAll ρ rs with
      | none => rw [p1, p2] at hp; cases hp
      | some ys =>
        rw [p1, p2] at hp
        rw [peek_frz p1, peekAll_frz p2]
        exact hp
theorem HeldAll.frz : ∀ {rs : List Res} {ρ : List Ent} {vs : List V} {xs : List D}, Env K F H σ ρ → HeldAll K F H σ ρ vs rs → peekAll ρ rs = some xs →
    Env K F H σ (frzAll ρ rs) ∧ DaAll (hot F σ (frzAll ρ rs)) K H vs xs ∧ Keep (hot F σ ρ) H (hot F σ (frzAll ρ rs)) H
  | [], ρ, _, _, E, h, hp => by
    cases hp
    exact ⟨E, h, Keep.refl _ _⟩
  | r :: rs, ρ, _, xs, E, h, hp => by
    obtain ⟨v, ws, e, h1, h2⟩ := h
    unfold peekAll at hp
    cases p1 : peek ρ r with
    | none => rw [p1] at hp; cases hp
    | some x =>
      cases p2 : peekAll ρ rs with
      | none => rw [p1, p2] at hp; cases hp
      | some ys =>
        rw [p1, p2] at hp
        cases hp
        obtain ⟨E1, d1⟩ := h1.frz E p1
        have k1 : Keep (hot F σ ρ) H (hot F σ (PW.frz ρ r)) H := keep_frz E
        obtain ⟨E2, d2, k2⟩ := HeldAll.frz E1 (h2.keep k1) (peekAll_frz p2)
        exact ⟨E2, ⟨v, ws, e, d1.mono k2, d2⟩, k1.trans k2⟩
end

/-- hot behind an expression: also what it made -/
def hotR (F : Fr) (σ : L2.St) (ρ : List Ent) (v : V) (r : Res) (b : Addr) : Prop := hot F σ ρ b ∨ ((∃ x, r = .nw x) ∧ v = .ref b)
theorem hotR.hot {F : Fr} {σ : L2.St} {ρ : List Ent} {v : V} {r : Res} {M : Addr → Prop} {H H' : Hp} (g : Keep M H (hotR F σ ρ v r) H') : Keep M H (PW.hot F σ ρ) H' := fun b o n h => ⟨fun z => (g b o n h).1 (.inl z), (g b o n h).2⟩
theorem hotR.d {F : Fr} {σ : L2.St} {ρ : List Ent} {v : V} {x : D} {M : Addr → Prop} {H H' : Hp} (g : Keep M H (PW.hot F σ ρ) H') : Keep M H (hotR F σ ρ v (.d x)) H' := fun b o n h => ⟨fun z => z.elim (g b o n h).1 (fun z => by obtain ⟨⟨_, z⟩, _⟩ := z; cases z), (g b o n h).2⟩
theorem hotR.v {F : Fr} {σ : L2.St} {ρ : List Ent} {v : V} {i : Nat} {M : Addr → Prop} {H H' : Hp} (g : Keep M H (PW.hot F σ ρ) H') : Keep M H (hotR F σ ρ v (.v i)) H' := fun b o n h => ⟨fun z => z.elim (g b o n h).1 (fun z => by obtain ⟨⟨_, z⟩, _⟩ := z; cases z), (g b o n h).2⟩
/-- behind a quiet operation -/
theorem hotR.res {K : PySem.W.Frag} {F : Fr} {σ : L2.St} {ρ : List Ent} {v : V} {r : Res} {M : Addr → Prop} {H0 H H' : Hp} (g : Keep M H0 (PW.hot F σ ρ) H) (e : Ext H H') (h : ResV (PW.hot F σ ρ) K H H' v r) : Keep M H0 (hotR F σ ρ v r) H' := fun b o n h0 => by
  obtain ⟨g1, g2⟩ := g b o n h0
  refine ⟨fun z => z.elim g1 fun z => ?_, e b o g2⟩
  obtain ⟨⟨x, ex⟩, zz⟩ := z
  subst ex
  obtain ⟨p, e2, hp, _⟩ := h
  have z' : p = b := by injection (e2.symm.trans zz)
  rw [z', g2] at hp
  cases hp

/-! ### the judgements -/
abbrev KE := Res → List Ent → Prop
def XE (K : PySem.W.Frag) (te : TE) (ρ : List Ent) (k : KE) : Prop := ∀ (F : Fr) (H : Hp) (σ : L2.St) (Q : VK), Env K F H σ ρ →
  (∀ v H' r ρ', Keep (hot F σ ρ) H (hotR F σ ρ' v r) H' → RV K F H' σ ρ' v r → k r ρ' → Q v H') → te σ H Q
def XT (K : PySem.W.Frag) (tt : TT) (ρ : List Ent) (k : Bool → List Ent → Prop) : Prop := ∀ (F : Fr) (H : Hp) (σ : L2.St) (Q : Bool → Hp → Prop), Env K F H σ ρ →
  (∀ b H' ρ', Keep (hot F σ ρ) H (hot F σ ρ') H' → Env K F H' σ ρ' → k b ρ' → Q b H') → tt σ H Q
def XA (K : PySem.W.Frag) (ta : TA) (ρ : List Ent) (k : List Res → List Ent → Prop) : Prop := ∀ (F : Fr) (H : Hp) (σ : L2.St) (Q : List V → Hp → Prop), Env K F H σ ρ →
  (∀ vs H' rs ρ', Keep (hot F σ ρ) H (hot F σ ρ') H' → Env K F H' σ ρ' → HeldAll K F H' σ ρ' vs rs → k rs ρ' → Q vs H') → ta σ H Q
/-- what is wanted behind a statement -/
structure Post where
  nx : List Ent → Prop
  rt : Res → List Ent → Prop
  bk : List Ent → Prop := fun _ => False
  ct : List Ent → Prop := fun _ => False
structure Impl (K : PySem.W.Frag) (F : Fr) (M : Addr → Prop) (H0 : Hp) (Dn : Ends) (Φ : Post) : Prop where
  nx : ∀ H σ ρ, Keep M H0 (hot F σ ρ) H → Env K F H σ ρ → Φ.nx ρ → Dn.nx σ H
  rt : ∀ v H σ ρ r, Keep M H0 (hotR F σ ρ v r) H → RV K F H σ ρ v r → (∀ i, r ≠ .v i) → Φ.rt r ρ → Dn.rt v H
  bk : ∀ H σ ρ, Keep M H0 (hot F σ ρ) H → Env K F H σ ρ → Φ.bk ρ → Dn.bk σ H
  ct : ∀ H σ ρ, Keep M H0 (hot F σ ρ) H → Env K F H σ ρ → Φ.ct ρ → Dn.ct σ H
theorem Impl.later {K : PySem.W.Frag} {F : Fr} {M M1 : Addr → Prop} {H H1 : Hp} {Dn : Ends} {Φ : Post} (I : Impl K F M H Dn Φ) (k : Keep M H M1 H1) : Impl K F M1 H1 Dn Φ :=
  ⟨fun H σ ρ g E p => I.nx H σ ρ (k.trans g) E p, fun v H σ ρ r g R n p => I.rt v H σ ρ r (k.trans g) R n p, fun H σ ρ g E p => I.bk H σ ρ (k.trans g) E p, fun H σ ρ g E p => I.ct H σ ρ (k.trans g) E p⟩
def XS (K : PySem.W.Frag) (ts : TS) (ρ : List Ent) (Φ : Post) : Prop := ∀ (F : Fr) (H : Hp) (σ : L2.St) (Dn : Ends), Env K F H σ ρ → Impl K F (hot F σ ρ) H Dn Φ → ts Dn σ H

section
variable {K : PySem.W.Frag} {ρ : List Ent} {k : KE} {ta tb tc te : TE} {i : Nat} {x : D}
theorem xe_mono {k' : KE} (h : XE K te ρ k) (g : ∀ r ρ', k r ρ' → k' r ρ') : XE K te ρ k' := fun F H σ Q E q => h F H σ Q E fun v H' r ρ' kp a b => q v H' r ρ' kp a (g r ρ' b)
/-! names, constants -/
theorem xe_var_d (h : ρ[i]? = some (.d x)) (g : k (.d x) ρ) : XE K (tVar i) ρ k := fun F H σ Q E q => by
  obtain ⟨v, e, hd⟩ := E.slot i _ h
  exact ⟨v, e, q v H (.d x) ρ (hotR.d (Keep.refl _ _)) ⟨E, hd⟩ g⟩
theorem xe_var_o (h : ρ[i]? = some (.own x)) (g : k (.v i) ρ) : XE K (tVar i) ρ k := fun F H σ Q E q => by
  obtain ⟨p, e, hd⟩ := E.slot i _ h
  exact ⟨_, e, q _ H (.v i) ρ (hotR.v (Keep.refl _ _)) ⟨E, e, x, h⟩ g⟩
theorem xe_val {v : V} (hv : ∀ M H, Da M K H v x) (g : k (.d x) ρ) : XE K (tC v) ρ k := fun F H σ Q E q => q _ H (.d x) ρ (hotR.d (Keep.refl _ _)) ⟨E, hv _ H⟩ g
theorem xe_int {n : Int} (g : k (.d (.int n)) ρ) : XE K (tC (.int n)) ρ k := xe_val (x := .int n) (fun _ _ => rfl) g
theorem xe_bl {n : Bool} (g : k (.d (.bl n)) ρ) : XE K (tC (.bl n)) ρ k := xe_val (x := .bl n) (fun _ _ => rfl) g
theorem xe_str {n : Str} (g : k (.d (.str n)) ρ) : XE K (tC (.str n)) ρ k := xe_val (x := .str n) (fun _ _ => rfl) g
theorem xe_non (g : k (.d .non) ρ) : XE K (tC .non) ρ k := xe_val (x := .non) (fun _ _ => rfl) g

/-! quiet operations on values -/
def OpD (K : PySem.W.Frag) (r : R2) (x y : D) (k : Res → Prop) : Prop := ∀ (M : Addr → Prop) (H : Hp) (u v : V) (Q : VK), Tr M H → Pk M K H u x → Pk M K H v y → (∀ w H' z, Ext H H' → ResV M K H H' w z → k z → Q w H') → r u v H Q
def UnD (K : PySem.W.Frag) (r : V → Hp → VK → Prop) (x : D) (k : Res → Prop) : Prop := ∀ (M : Addr → Prop) (H : Hp) (u : V) (Q : VK), Tr M H → Pk M K H u x → (∀ w H' z, Ext H H' → ResV M K H H' w z → k z → Q w H') → r u H Q
theorem xe_un {r : V → Hp → VK → Prop} (h : XE K ta ρ fun r1 ρ1 => ∃ x1, peek ρ1 r1 = some x1 ∧ UnD K r x1 fun z => k z ρ1) : XE K (tUn r ta) ρ k := fun F H σ Q E q =>
  h F H σ _ E fun v H1 r1 ρ1 kp R1 ⟨x1, p1, g⟩ => g _ H1 v Q (hot_tr R1.env) (R1.held.pk R1.env p1) fun w H' z e hz kz => q w H' z ρ1 (hotR.res (hotR.hot kp) e hz) (ResV.rv R1.env e hz) kz
theorem xe_op {r : R2} (h : XE K ta ρ fun r1 ρ1 => XE K tb ρ1 fun r2 ρ2 => ∃ x1 x2, peek ρ2 r1 = some x1 ∧ peek ρ2 r2 = some x2 ∧ OpD K r x1 x2 fun z => k z ρ2) : XE K (tOp r ta tb) ρ k := fun F H σ Q E q =>
  h F H σ _ E fun v H1 r1 ρ1 kp R1 h2 => h2 F H1 σ _ R1.env fun u H2 r2 ρ2 kp2 R2 ⟨x1, x2, p1, p2, g⟩ =>
    g _ H2 v u Q (hot_tr R2.env) ((R1.held.keep (hotR.hot kp2)).pk R2.env p1) (R2.held.pk R2.env p2) fun w H' z e hz kz => q w H' z ρ2 (hotR.res ((hotR.hot kp).trans (hotR.hot kp2)) e hz) (ResV.rv R2.env e hz) kz
/-- a quiet operation that gives one datum (no part of the operands' own lists), the heap as it was -/
theorem opd_val {r : R2} {x y z : D} {kk : Res → Prop} (hz : ∀ (M : Addr → Prop) (H : Hp) (u v : V) (Q : VK), Pk M K H u x → Pk M K H v y → (∀ w, Da M K H w z → Q w H) → r u v H Q) (g : kk (.d z)) : OpD K r x y kk :=
  fun M H u v Q _ h1 h2 q => hz M H u v Q h1 h2 fun w hw => q w H (.d z) (Ext.refl H) hw g

/-! tests -/
theorem xt_test {kb : Bool → List Ent → Prop} (h : XE K te ρ fun r ρ' => ∃ b, r = .d (.bl b) ∧ kb b ρ') : XT K (tTest te) ρ kb := fun F H σ Q E q =>
  h F H σ _ E fun v H' r ρ' kp R ⟨b, e, g⟩ => by
    subst e
    obtain ⟨E', hv⟩ := R
    exact ⟨b, hv, q b H' ρ' (hotR.hot kp) E' g⟩
theorem xt_B {kb : Bool → List Ent → Prop} (h : XE K te ρ fun r ρ' => ∃ b, r = .d (.bl b) ∧ kb b ρ') : XT K (tB te) ρ kb := xt_test h
theorem xt_not {tt : TT} {kb : Bool → List Ent → Prop} (h : XT K tt ρ fun b ρ' => kb (!b) ρ') : XT K (tNot tt) ρ kb := fun F H σ Q E q => h F H σ _ E fun b H' ρ' kp E' g => q (!b) H' ρ' kp E' g
theorem xt_and {t u : TT} {kb : Bool → List Ent → Prop} (h : XT K t ρ fun b ρ' => (b = true → XT K u ρ' kb) ∧ (b = false → kb false ρ')) : XT K (tAnd t u) ρ kb := fun F H σ Q E q =>
  h F H σ _ E fun b H' ρ' kp E' g => by
    cases b with
    | true => exact g.1 rfl F H' σ Q E' fun b2 H2 ρ2 kp2 E2 g2 => q b2 H2 ρ2 (kp.trans kp2) E2 g2
    | false => exact q false H' ρ' kp E' (g.2 rfl)
theorem xt_or {t u : TT} {kb : Bool → List Ent → Prop} (h : XT K t ρ fun b ρ' => (b = false → XT K u ρ' kb) ∧ (b = true → kb true ρ')) : XT K (tOr t u) ρ kb := fun F H σ Q E q =>
  h F H σ _ E fun b H' ρ' kp E' g => by
    cases b with
    | false => exact g.1 rfl F H' σ Q E' fun b2 H2 ρ2 kp2 E2 g2 => q b2 H2 ρ2 (kp.trans kp2) E2 g2
    | true => exact q true H' ρ' kp E' (g.2 rfl)
theorem xe_if {tt : TT} (h : XT K tt ρ fun b ρ' => (b = true → XE K ta ρ' k) ∧ (b = false → XE K tb ρ' k)) : XE K (tIf tt ta tb) ρ k := fun F H σ Q E q =>
  h F H σ _ E fun b H' ρ' kp E' g => by
    cases b with
    | true => exact g.1 rfl F H' σ Q E' fun v H2 r ρ2 kp2 R g2 => q v H2 r ρ2 (kp.trans kp2) R g2
    | false => exact g.2 rfl F H' σ Q E' fun v H2 r ρ2 kp2 R g2 => q v H2 r ρ2 (kp.trans kp2) R g2
theorem xe_andV (h : XE K ta ρ fun r ρ' => ∃ b, r = .d (.bl b) ∧ (b = true → XE K tb ρ' k) ∧ (b = false → k (.d (.bl false)) ρ')) : XE K (tAndV ta tb) ρ k := fun F H σ Q E q =>
  h F H σ _ E fun v H' r ρ' kp R ⟨b, e, g1, g2⟩ => by
    subst e
    obtain ⟨E', hv⟩ := R
    refine ⟨b, hv, ?_⟩
    cases b with
    | true => exact g1 rfl F H' σ Q E' fun v H2 r ρ2 kp2 R g2 => q v H2 r ρ2 ((hotR.hot kp).trans kp2) R g2
    | false => exact q _ H' (.d (.bl false)) ρ' (hotR.d (hotR.hot kp)) ⟨E', rfl⟩ (g2 rfl)
theorem xe_orV (h : XE K ta ρ fun r ρ' => ∃ b, r = .d (.bl b) ∧ (b = false → XE K tb ρ' k) ∧ (b = true → k (.d (.bl true)) ρ')) : XE K (tOrV ta tb) ρ k := fun F H σ Q E q =>
  h F H σ _ E fun v H' r ρ' kp R ⟨b, e, g1, g2⟩ => by
    subst e
    obtain ⟨E', hv⟩ := R
    refine ⟨b, hv, ?_⟩
    cases b with
    | false => exact g1 rfl F H' σ Q E' fun v H2 r ρ2 kp2 R g2 => q v H2 r ρ2 ((hotR.hot kp).trans kp2) R g2
    | true => exact q _ H' (.d (.bl true)) ρ' (hotR.d (hotR.hot kp)) ⟨E', rfl⟩ (g2 rfl)
theorem xe_notV (h : XE K ta ρ fun r ρ' => ∃ b, r = .d (.bl b) ∧ k (.d (.bl (!b))) ρ') : XE K (tNotV ta) ρ k := fun F H σ Q E q =>
  h F H σ _ E fun v H' r ρ' kp R ⟨b, e, g⟩ => by
    subst e
    obtain ⟨E', hv⟩ := R
    exact ⟨b, hv, q _ H' (.d (.bl (!b))) ρ' (hotR.d (hotR.hot kp)) ⟨E', rfl⟩ g⟩
theorem xe_chain {r r' : R2} (h : XE K ta ρ fun r1 ρ1 => XE K tb ρ1 fun r2 ρ2 => ∃ x1 x2, peek ρ2 r1 = some x1 ∧ peek ρ2 r2 = some x2 ∧ OpD K r x1 x2 fun z => ∃ b, z = .d (.bl b) ∧
    (b = true → XE K tc ρ2 fun r3 ρ3 => ∃ x2' x3, peek ρ3 r2 = some x2' ∧ peek ρ3 r3 = some x3 ∧ OpD K r' x2' x3 fun z => k z ρ3) ∧ (b = false → k (.d (.bl false)) ρ2)) : XE K (tChain r r' ta tb tc) ρ k := fun F H σ Q E q =>
  h F H σ _ E fun v H1 r1 ρ1 kp R1 h2 => h2 F H1 σ _ R1.env fun u H2 r2 ρ2 kp2 R2 ⟨x1, x2, p1, p2, g⟩ =>
    g _ H2 v u _ (hot_tr R2.env) ((R1.held.keep (hotR.hot kp2)).pk R2.env p1) (R2.held.pk R2.env p2) fun w H3 z e hz ⟨b, ez, g1, g2⟩ => by
      subst ez
      have E3 : Env K F H3 σ ρ2 := R2.env.ex e
      have k3 : Keep (hot F σ ρ2) H2 (hot F σ ρ2) H3 := Keep.ext e
      have k12 := (hotR.hot kp).trans (hotR.hot kp2)
      refine ⟨b, hz, ?_⟩
      cases b with
      | true =>
        show tc σ H3 fun w' H4 => r' u w' H4 Q
        exact g1 rfl F H3 σ _ E3 fun w' H4 r3 ρ3 kp4 R4 ⟨x2', x3, p2', p3, g3⟩ => g3 _ H4 u w' Q (hot_tr R4.env) (((R2.held.keep k3).keep (hotR.hot kp4)).pk R4.env p2') (R4.held.pk R4.env p3)
          fun w2 H5 z2 e5 hz2 kz => q w2 H5 z2 ρ3 (hotR.res ((k12.trans k3).trans (hotR.hot kp4)) e5 hz2) (ResV.rv R4.env e5 hz2) kz
      | false =>
        show Q (.bl false) H3
        exact q _ H3 (.d (.bl false)) ρ2 (hotR.d (k12.trans k3)) ⟨E3, rfl⟩ (g2 rfl)

/-! arguments, displays, calls -/
theorem xa_nil {ka : List Res → List Ent → Prop} (g : ka [] ρ) : XA K tNil ρ ka := fun F H σ Q E q => q [] H [] ρ (Keep.refl _ _) E rfl g
theorem xa_cons {ta' : TA} {ka : List Res → List Ent → Prop} (h : XE K te ρ fun r ρ1 => XA K ta' ρ1 fun rs ρ2 => ka (r :: rs) ρ2) : XA K (tCons te ta') ρ ka := fun F H σ Q E q =>
  h F H σ _ E fun v H1 r ρ1 kp R h2 => h2 F H1 σ _ R.env fun vs H2 rs ρ2 kp2 E2 hs g => q (v :: vs) H2 (r :: rs) ρ2 ((hotR.hot kp).trans kp2) E2 ⟨v, vs, rfl, R.held.keep kp2, hs⟩ g
theorem xe_tup {t : TA} (h : XA K t ρ fun rs ρ1 => ∃ xs, peekAll ρ1 rs = some xs ∧ xs.length ≤ sizeLine ∧ k (.d (.tup xs)) (frzAll ρ1 rs)) : XE K (tTup t) ρ k := fun F H σ Q E q =>
  h F H σ _ E fun vs H1 rs ρ1 kp E1 hs ⟨xs, px, hl, g⟩ => by
    obtain ⟨E2, d2, k2⟩ := HeldAll.frz E1 hs px
    refine ⟨by rw [d2.length]; exact hl, fun p hp => ?_⟩
    have e : Ext H1 (upd H1 p (.tup vs)) := Ext.new hp
    refine q _ _ (.d (.tup xs)) (frzAll ρ1 rs) (hotR.d ((kp.trans k2).trans (Keep.ext e))) ⟨E2.ex e, ?_⟩ g
    exact Da.newT d2 hp fun z => E2.hotTrk p z hp
theorem newL {M : Addr → Prop} {H : Hp} {p : Addr} {vs : List V} {xs : List D} (d : DaAll M K H vs xs) (hp : H p = none) : ResV M K H (upd H p (.lst vs)) (.ref p) (.nw (.lst xs)) :=
  ⟨p, rfl, hp, vs, upd_same, (d.push hp).mono fun b o n z => ⟨n, Ext.new hp b o z⟩⟩
theorem newT {M : Addr → Prop} {H : Hp} {p : Addr} {vs : List V} {xs : List D} (t : Tr M H) (d : DaAll M K H vs xs) (hp : H p = none) : ResV M K H (upd H p (.tup vs)) (.ref p) (.d (.tup xs)) :=
  Da.newT d hp fun z => t p z hp
theorem xe_lst {t : TA} (h : XA K t ρ fun rs ρ1 => ∃ xs, peekAll ρ1 rs = some xs ∧ xs.length ≤ sizeLine ∧ k (.nw (.lst xs)) (frzAll ρ1 rs)) : XE K (tLst t) ρ k := fun F H σ Q E q =>
  h F H σ _ E fun vs H1 rs ρ1 kp E1 hs ⟨xs, px, hl, g⟩ => by
    obtain ⟨E2, d2, k2⟩ := HeldAll.frz E1 hs px
    refine ⟨by rw [d2.length]; exact hl, fun p hp => ?_⟩
    have e : Ext H1 (upd H1 p (.lst vs)) := Ext.new hp
    have z := newL d2 hp
    exact q _ _ (.nw (.lst xs)) (frzAll ρ1 rs) (hotR.res (kp.trans k2) e z) (ResV.rv E2 e z) g
/-- a call by values (a builtin, a def that promises nothing else): quiet -/
def CaD (K : PySem.W.Frag) (r : List V → Hp → VK → Prop) (xs : List D) (k : Res → Prop) : Prop := ∀ (M : Addr → Prop) (H : Hp) (us : List V) (Q : VK), Tr M H → us.length = xs.length →
  (∀ (i : Nat) (v : V) (x : D), us[i]? = some v → xs[i]? = some x → Pk M K H v x) → (∀ w H' z, Ext H H' → ResV M K H H' w z → k z → Q w H') → r us H Q
theorem xe_cb {r : List V → Hp → VK → Prop} {t : TA} (h : XA K t ρ fun rs ρ1 => ∃ xs, peekAll ρ1 rs = some xs ∧ CaD K r xs fun z => k z ρ1) : XE K (tCB r t) ρ k := fun F H σ Q E q =>
  h F H σ _ E fun vs H1 rs ρ1 kp E1 hs ⟨xs, px, g⟩ => by
    obtain ⟨q1, q2⟩ := HeldAll.pk E1 hs px
    exact g _ H1 vs Q (hot_tr E1) q1 q2 fun w H' z e hz kz => q w H' z ρ1 (hotR.res kp e hz) (ResV.rv E1 e hz) kz
/-- the promise of a def on data: w ds k says that it may give any r with k r (and surely such a one) -/
abbrev WF := List D → (Res → Prop) → Prop
def spW (K : PySem.W.Frag) (w : WF) : Sp := fun vs H Q _ => ∃ (M : Addr → Prop) (ds : List D) (kk : Res → Prop), Tr M H ∧ DaAll M K H vs ds ∧ w ds kk ∧ ∀ v H' r, Ext H H' → ResV M K H H' v r → kk r → Q v H'
theorem xe_call {w : WF} {E : XK} {t : TA} (h : XA K t ρ fun rs ρ1 => ∃ xs, peekAll ρ1 rs = some xs ∧ w xs fun z => k z (frzAll ρ1 rs)) : XE K (tCall (spW K w) [] E t) ρ k := fun F H σ Q E0 q =>
  h F H σ _ E0 fun vs H1 rs ρ1 kp E1 hs ⟨xs, px, g⟩ => by
    obtain ⟨E2, d2, k2⟩ := HeldAll.frz E1 hs px
    rw [List.append_nil]
    exact ⟨_, xs, _, hot_tr E2, d2, g, fun v H' r e hr kr => q v H' r _ (hotR.res (kp.trans k2) e hr) (ResV.rv E2 e hr) kr⟩
/-- .. that gives a scalar: its arguments are only read -/
def tCallS (sp : Sp) (E : XK) (t : TA) : TE := tCall sp [] E t
theorem xe_callS {w : WF} {E : XK} {t : TA} (h : XA K t ρ fun rs ρ1 => ∃ xs, peekAll ρ1 rs = some xs ∧ w xs fun z => ∃ y, z = .d y ∧ y.scalar = true ∧ k (.d y) ρ1) : XE K (tCallS (spW K w) E t) ρ k := fun F H σ Q E0 q =>
  h F H σ _ E0 fun vs H1 rs ρ1 kp E1 hs ⟨xs, px, g⟩ => by
    show spW K w (vs ++ []) H1 Q E
    rw [List.append_nil]
    refine ⟨fun _ => False, xs, _, fun b z => z.elim, HeldAll.now E1 hs px, g, fun v H' r e hr ⟨y, er, sy, kr⟩ => ?_⟩
    subst er
    exact q v H' (.d y) ρ1 (hotR.d (kp.trans (Keep.ext e))) ⟨E1.ex e, hr.scal sy⟩ kr
/-- the promise of a def whose first argument is the hand -/
def hotN (M : Addr → Prop) (v : V) (r : Res) (b : Addr) : Prop := M b ∨ ((∃ x, r = .nw x) ∧ v = .ref b)
def spH (K : PySem.W.Frag) (w : WF) : Sp := fun vs H Q _ => ∃ (M : Addr → Prop) (a : Addr) (ws : List V) (ds : List D) (kk : Res → Prop), vs = .ref a :: ws ∧ Tr M H ∧ M a ∧ HandOk M K H a ∧ DaAll M K H ws ds ∧ w ds kk ∧
  ∀ v H' r, (∀ b o, b ≠ a → H b = some o → H' b = some o) → HandOk (hotN M v r) K H' a → ResV M K H H' v r → kk r → Q v H'
def tCallH (sp : Sp) (E : XK) (i : Nat) (t : TA) : TE := tCall sp [] E (tCons (tVar i) t)
theorem xe_callH {w : WF} {E : XK} {t : TA} (hi : ρ[i]? = some .hand) (h : XA K t ρ fun rs ρ1 => ∃ xs, peekAll ρ1 rs = some xs ∧ w xs fun z => k z (frzAll ρ1 rs)) : XE K (tCallH (spH K w) E i t) ρ k := fun F H σ Q E0 q => by
  obtain ⟨a, ha, es⟩ := E0.slot i _ hi
  refine ⟨_, es, ?_⟩
  refine h F H σ _ E0 fun vs H1 rs ρ1 kp E1 hs ⟨xs, px, g⟩ => ?_
  obtain ⟨E2, d2, k2⟩ := HeldAll.frz E1 hs px
  obtain ⟨m1, m2, m3⟩ := E2.hand a ha
  rw [List.append_nil]
  refine ⟨_, a, vs, xs, _, rfl, hot_tr E2, .inl m1, m3, d2, g, fun v H' r st hh hr kr => ?_⟩
  have st' : ∀ b o, F.hd ≠ some b → H1 b = some o → H' b = some o := fun b o n e => st b o (fun z => n (by rw [z]; exact ha)) e
  have E3 : Env K F H' σ (frzAll ρ1 rs) := E2.step st' fun c hc => by
    rw [ha] at hc
    cases hc
    exact HandOk.mono hh (fun b o n e => ⟨fun z => n (.inl z), e⟩) fun _ z => z
  have k3 : Keep (hot F σ (frzAll ρ1 rs)) H1 (hot F σ (frzAll ρ1 rs)) H' := fun b o n e => ⟨n, st b o (fun z => n (by rw [z]; exact .inl m1)) e⟩
  cases r with
  | d x => exact q v H' (.d x) _ (hotR.d ((kp.trans k2).trans k3)) ⟨E3, hr⟩ kr
  | v j => exact hr.elim
  | nw x =>
    obtain ⟨p, rfl, hp, ho⟩ := hr
    have np : ∀ b, hot F σ (frzAll ρ1 rs) b → b ≠ p := fun b hb z => E2.hotTrk b hb (by rw [z]; exact hp)
    have split : ∀ b, hot (F.push p) σ (frzAll ρ1 rs) b → hot F σ (frzAll ρ1 rs) b ∨ b = p := fun b z => by
      rcases z with z | z
      · rcases z with z | z
        · exact .inl (.inl z)
        · exact .inr z
      · exact .inl (.inr z)
    refine q _ H' (.nw x) _ ?_ ⟨p, rfl, h0_none E2 hp, fun z => np p z rfl, ?_, ho.mono (fun b o n ee => ⟨fun z => n (split b z), ee⟩) fun _ z => z⟩ kr
    · intro b o n e0
      obtain ⟨g1, g2⟩ := ((kp.trans k2)) b o n e0
      refine ⟨fun z => z.elim g1 fun z => ?_, (k3 b o g1 g2).2⟩
      obtain ⟨_, z⟩ := z
      have z' : p = b := by injection z
      rw [z', g2] at hp
      cases hp
    · -- hot from now on: the new address was not tracked
      have old := split
      have cold : ∀ b o, ¬ hot F σ (frzAll ρ1 rs) b → H1 b = some o → ¬ hot (F.push p) σ (frzAll ρ1 rs) b ∧ H' b = some o := fun b o n e => ⟨fun z => (old b z).elim n fun z => (by rw [z, hp] at e; cases e), (k3 b o n e).2⟩
      refine ⟨E3.len, E3.go, fun b hb => ?_, fun c hc => ?_, fun j y b h2 h3 => ?_, E3.inj, fun j e he => ?_⟩
      · rcases hb with hb | hb
        · exact E3.trk b hb
        · rw [hb]; exact ho.there
      · rw [ha] at hc
        cases hc
        refine ⟨.inl m1, m2, HandOk.mono hh (fun b o n e => ⟨fun z => n ?_, e⟩) fun _ z => z⟩
        rcases split b z with z | z
        · exact .inl z
        · rw [z]
          exact .inr ⟨⟨x, rfl⟩, rfl⟩
      · obtain ⟨q1, q2⟩ := E2.new j y b h2 h3
        refine ⟨q1, fun z => z.elim q2 fun z => ?_⟩
        exact np b (.inr ⟨j, y, h2, h3⟩) z
      · refine (E2.slot j e he).mono cold (fun p' x' ee eo o ho' => st' p' o (fun z => ?_) ho') rfl
        subst ee
        exact (E2.new j x' p' he eo).2 (E2.hand p' z).1

/-! ### statements -/
variable {Φ : Post} {t u : TS}
theorem xs_seq (h : XS K t ρ { Φ with nx := fun ρ' => XS K u ρ' Φ }) : XS K (tSeq t u) ρ Φ := fun F H σ Dn E I =>
  h F H σ { Dn with nx := u Dn } E ⟨fun H' σ' ρ' kp E' g => g F H' σ' Dn E' (I.later kp), I.rt, I.bk, I.ct⟩
theorem xs_next (g : Φ.nx ρ) : XS K tNext ρ Φ := fun F H σ Dn E I => I.nx H σ ρ (Keep.refl _ _) E g
theorem xs_break (g : Φ.bk ρ) : XS K tBreak ρ Φ := fun F H σ Dn E I => I.bk H σ ρ (Keep.refl _ _) E g
theorem xs_cont (g : Φ.ct ρ) : XS K tCont ρ Φ := fun F H σ Dn E I => I.ct H σ ρ (Keep.refl _ _) E g
/-- what a name's store leaves: an own object of another slot is let go first -/
def stoE (ρ : List Ent) (i j : Nat) : Option Ent → List Ent
  | some (.own x) => (ρ.set i (.d x)).set j (.d x)
  | _ => ρ.set j .u
def sto (ρ : List Ent) (j : Nat) (r : Res) : List Ent := match r with
  | .d x => ρ.set j (.d x)
  | .nw x => ρ.set j (.own x)
  | .v i => stoE ρ i j ρ[i]?
theorem hot_setD {F : Fr} {σ : L2.St} {j : Nat} {v : V} {b : Addr} (h : hot F (σ.set j (some v)) (ρ.set j (.d x)) b) : hot F σ ρ b := by
  rcases h with h | ⟨l, y, h1, h2⟩
  · exact .inl h
  · rcases set_get h1 with ⟨_, e, _⟩ | ⟨n, h3⟩
    · cases e
    · rw [List.getElem?_set_ne (Ne.symm n)] at h2
      exact .inr ⟨l, y, h3, h2⟩
theorem RV.sto {F : Fr} {H : Hp} {σ : L2.St} {v : V} {r : Res} {j : Nat} (R : RV K F H σ ρ v r) : Env K F H (σ.set j (some v)) (sto ρ j r) ∧ ∀ b, hot F (σ.set j (some v)) (sto ρ j r) b → hotR F σ ρ v r b := by
  cases r with
  | d x => exact ⟨R.set fun i z => (nomatch z), fun b h => .inl (hot_setD h)⟩
  | nw x =>
    refine ⟨R.set fun i z => (nomatch z), fun b h => ?_⟩
    rcases h with h | ⟨l, y, h1, h2⟩
    · exact .inl (.inl h)
    · rcases set_get h1 with ⟨e1, _, e3⟩ | ⟨n, h3⟩
      · subst e1
        rw [List.getElem?_set_self (by rw [R.env.len]; exact e3)] at h2
        cases h2
        exact .inr ⟨⟨x, rfl⟩, rfl⟩
      · rw [List.getElem?_set_ne (Ne.symm n)] at h2
        exact .inl (.inr ⟨l, y, h3, h2⟩)
  | v i =>
    obtain ⟨E, hs, x, hx⟩ := id R
    have hp : peek ρ (.v i) = some x := by show peekE ρ[i]? = some x; rw [hx]; rfl
    obtain ⟨E', hd⟩ := R.frz hp
    show Env K F H (σ.set j (some v)) (stoE ρ i j ρ[i]?) ∧ ∀ b, hot F (σ.set j (some v)) (stoE ρ i j ρ[i]?) b → _
    rw [hx]
    have e : PW.frz ρ (.v i) = ρ.set i (.d x) := by
      show frzE ρ i ρ[i]? = _
      rw [hx]
      rfl
    rw [e] at E' hd
    refine ⟨E'.setD hd, fun b h => .inl ?_⟩
    have h1 := hot_setD (x := x) h
    rcases h1 with h1 | ⟨l, y, h1, h2⟩
    · exact .inl h1
    · rcases set_get h1 with ⟨_, q, _⟩ | ⟨n, h3⟩
      · cases q
      · exact .inr ⟨l, y, h3, h2⟩
theorem xs_asg {j : Nat} (h : XE K te ρ fun r ρ' => Φ.nx (sto ρ' j r)) : XS K (tAsg te (gName j)) ρ Φ := fun F H σ Dn E I =>
  h F H σ _ E fun v H' r ρ' kp R g => I.nx H' _ _ (fun b o n e => ⟨fun z => (kp b o n e).1 (R.sto.2 b z), (kp b o n e).2⟩) R.sto.1 g
/-- what is handed back: an own object is a new one for the caller -/
def backE (ρ : List Ent) (i : Nat) (k : Res → List Ent → Prop) : Option Ent → Prop
  | some (.own x) => k (.nw x) (ρ.set i .u)
  | _ => False
def back (ρ : List Ent) (r : Res) (k : Res → List Ent → Prop) : Prop := match r with
  | .d x => k (.d x) ρ
  | .nw x => k (.nw x) ρ
  | .v i => backE ρ i k ρ[i]?
theorem RV.backs {F : Fr} {H : Hp} {σ : L2.St} {v : V} {r : Res} {kk : Res → List Ent → Prop} (R : RV K F H σ ρ v r) (h : back ρ r kk) :
    ∃ ρ' r', RV K F H σ ρ' v r' ∧ (∀ i, r' ≠ .v i) ∧ kk r' ρ' ∧ ∀ b, hotR F σ ρ' v r' b → hotR F σ ρ v r b := by
  cases r with
  | d x => exact ⟨ρ, .d x, R, (fun i z => nomatch z), h, fun _ z => z⟩
  | nw x => exact ⟨ρ, .nw x, R, (fun i z => nomatch z), h, fun _ z => z⟩
  | v i =>
    obtain ⟨E, hs, x, hx⟩ := id R
    have h : backE ρ i kk ρ[i]? := h
    rw [hx] at h
    obtain ⟨p, e, hh, ho⟩ := E.slotOwn hx
    rw [hs] at e
    cases e
    obtain ⟨h0, nM⟩ := E.new i x p hx hs
    have own : ∀ (j : Nat) (z : D), (ρ.set i .u)[j]? = some (.own z) → j ≠ i ∧ ρ[j]? = some (.own z) := fun j z hh => by
      rcases set_get hh with ⟨e1, e2, e3⟩ | hh
      · cases e2
      · exact hh
    have sub : ∀ b, hot F σ (ρ.set i .u) b → hot F σ ρ b ∧ b ≠ p := fun b hb => by
      rcases hb with hb | ⟨j, z, h1, h2⟩
      · exact ⟨.inl hb, fun z => nM (by rw [← z]; exact hb)⟩
      · obtain ⟨n, h3⟩ := own j z h1
        refine ⟨.inr ⟨j, z, h3, h2⟩, fun zz => ?_⟩
        subst zz
        exact n (E.inj j i z x _ h3 hx h2 hs)
    have sub2 : ∀ b, hot (F.push p) σ (ρ.set i .u) b → hot F σ ρ b := fun b hb => by
      rcases hb with hb | hb
      · rcases hb with hb | hb
        · exact .inl hb
        · rw [hb]; exact hh
      · exact (sub b (.inr hb)).1
    have cold : ∀ b o, ¬ hot F σ ρ b → H b = some o → ¬ hot (F.push p) σ (ρ.set i .u) b ∧ H b = some o := fun b o n e => ⟨fun z => n (sub2 b z), e⟩
    refine ⟨ρ.set i .u, .nw x, ⟨p, rfl, h0, fun z => (sub p z).2 rfl, ⟨by rw [List.length_set]; exact E.len, E.go, fun b hb => ?_, fun a e => ?_, fun j z b h1 h2 => ?_, fun j k z z2 b h1 h2 h3 h4 => E.inj j k z z2 b (own j z h1).2 (own k z2 h2).2 h3 h4, fun j e hj => ?_⟩, ho.mono cold fun _ z => z⟩,
      (fun i z => nomatch z), h, fun b hb => ?_⟩
    · rcases hb with hb | hb
      · exact E.trk b hb
      · rw [hb]; exact ho.there
    · obtain ⟨q1, q2, q3⟩ := E.hand a e
      exact ⟨.inl q1, q2, HandOk.mono q3 cold fun _ z => z⟩
    · obtain ⟨n, h3⟩ := own j z h1
      refine ⟨(E.new j z b h3 h2).1, fun q => ?_⟩
      rcases q with q | q
      · exact (E.new j z b h3 h2).2 q
      · subst q
        exact n (E.inj j i z x _ h3 hx h2 hs)
    · rcases set_get hj with ⟨e1, e2, hl⟩ | ⟨n, h⟩
      · subst e1 e2
        trivial
      · exact (E.slot j e h).mono cold (fun _ _ _ _ _ z => z) rfl
    · rcases hb with hb | ⟨_, hb⟩
      · exact .inl (sub b hb).1
      · cases hb
        exact .inl hh
theorem xs_ret (h : XE K te ρ fun r ρ' => back ρ' r Φ.rt) : XS K (tRet te) ρ Φ := fun F H σ Dn E I =>
  h F H σ _ E fun v H' r ρ' kp R g => by
    obtain ⟨ρ2, r', R', n, g', hs⟩ := R.backs g
    exact I.rt v H' σ ρ2 r' (fun b o n e => ⟨fun z => (kp b o n e).1 (hs b z), (kp b o n e).2⟩) R' n g'
theorem xs_retN (g : Φ.rt (.d .non) ρ) : XS K tRetN ρ Φ := fun F H σ Dn E I => I.rt .non H σ ρ (.d .non) (hotR.d (Keep.refl _ _)) ⟨E, rfl⟩ (fun i z => nomatch z) g
theorem xs_drop (h : XE K te ρ fun _ ρ' => Φ.nx ρ') : XS K (tDrop te) ρ Φ := fun F H σ Dn E I =>
  h F H σ _ E fun v H' r ρ' kp R g => I.nx H' σ ρ' (hotR.hot kp) R.env g
theorem xs_if {c : TT} (h : XT K c ρ fun b ρ' => (b = true → XS K t ρ' Φ) ∧ (b = false → XS K u ρ' Φ)) : XS K (tIfS c t u) ρ Φ := fun F H σ Dn E I =>
  h F H σ _ E fun b H' ρ' kp E' g => by
    cases b with
    | true => exact g.1 rfl F H' σ Dn E' (I.later kp)
    | false => exact g.2 rfl F H' σ Dn E' (I.later kp)
end
end PW
end
section
/-! PW: a def's entry; loops, comprehensions; methods of own lists. -/
namespace PW
open PySem PySem.Spec PyProof.Rows L2

/-! ### a def's entry -/
def ini (n : Nat) (ds : List D) : List Ent := ds.map Ent.d ++ List.replicate (n - ds.length) .u
theorem ini_get {n : Nat} {ds : List D} {i : Nat} {e : Ent} (h : (ini n ds)[i]? = some e) : (∃ x, ds[i]? = some x ∧ e = .d x) ∨ e = .u := by
  unfold ini at h
  by_cases hi : i < ds.length
  · rw [List.getElem?_append_left (by simpa using hi), List.getElem?_map] at h
    cases q : ds[i]? with
    | none => rw [q] at h; cases h
    | some x => rw [q] at h; cases h; exact .inl ⟨x, rfl, rfl⟩
  · rw [List.getElem?_append_right (by simpa using hi), List.getElem?_replicate] at h
    split at h
    · cases h; exact .inr rfl
    · cases h
theorem start_get {N : List Str} {vs : List V} {i : Nat} {v : V} (h : vs[i]? = some v) : (L2.start N vs)[i]? = some (some v) := by
  have hi : i < vs.length := (List.getElem?_eq_some_iff.mp h).1
  unfold L2.start
  rw [List.getElem?_append_left (by simpa using hi), List.getElem?_map, h]
  rfl
section
variable {K : PySem.W.Frag} {w : WF} {N : List Str} {vs : List V} {H : Hp} {Q : VK} {E : XK} {t : TS}
theorem env_ini {M : Addr → Prop} {ds : List D} (tr : Tr M H) (d : DaAll M K H vs ds) : Env K ⟨M, H, none⟩ H (L2.start N vs) (ini N.length ds) := by
  have own : ∀ (i : Nat) (x : D), (ini N.length ds)[i]? = some (.own x) → False := fun i x h => by
    rcases ini_get h with ⟨y, _, e⟩ | e <;> cases e
  refine ⟨?_, fun b o _ e => e, tr, fun a e => (nomatch e), fun i x b h => (own i x h).elim, fun i j x y b h => (own i x h).elim, fun i e he => ?_⟩
  · have := d.length
    unfold L2.start ini
    rw [List.length_append, List.length_append, List.length_map, List.length_map, List.length_replicate, List.length_replicate, this]
  · rcases ini_get he with ⟨x, hx, rfl⟩ | rfl
    · obtain ⟨v, hv, hd⟩ := d.at hx
      refine ⟨v, start_get hv, hd.less fun b hb => ?_⟩
      rcases hb with hb | ⟨j, y, h1, _⟩
      · exact hb
      · exact (own j y h1).elim
    · trivial
theorem rv_res {F : Fr} {H' : Hp} {σ : L2.St} {ρ : List Ent} {v : V} {r : Res} (R : RV K F H' σ ρ v r) (n : ∀ i, r ≠ .v i) : ResV F.M K F.H0 H' v r := by
  cases r with
  | d x => exact R.2.less fun b hb => .inl hb
  | nw x =>
    obtain ⟨p, e, h0, nh, E, ho⟩ := R
    exact ⟨p, e, h0, ho.mono (fun b o z ee => ⟨fun y => z (.inl y), ee⟩) fun _ z => z⟩
  | v i => exact absurd rfl (n i)
/-- a def that promises spW -/
theorem entry_w (h : spW K w vs H Q E) (body : ∀ ds kk, w ds kk → XS K t (ini N.length ds) { nx := fun _ => kk (.d .non), rt := fun r _ => kk r }) : t { nx := fun _ H' => Q .non H', rt := Q } (L2.start N vs) H := by
  obtain ⟨M, ds, kk, tr, d, hw, fin⟩ := h
  have E0 := env_ini (N := N) tr d
  refine body ds kk hw ⟨M, H, none⟩ H _ _ E0 ⟨fun H' σ' ρ' _ E' g => ?_, fun v H' σ' ρ' r _ R n g => ?_, fun _ _ _ _ _ g => g.elim, fun _ _ _ _ _ g => g.elim⟩
  · exact fin .non H' (.d .non) (fun b o e => E'.go b o (fun z => nomatch z) e) rfl g
  · exact fin v H' r (fun b o e => R.env.go b o (fun z => nomatch z) e) (rv_res R n) g
def iniH (n : Nat) (ds : List D) : List Ent := Ent.hand :: ini (n - 1) ds
/-- a def that promises spH: the hand its first argument -/
theorem entry_h (h : spH K w vs H Q E) (hN : 1 ≤ N.length) (body : ∀ ds kk, w ds kk → XS K t (iniH N.length ds) { nx := fun _ => kk (.d .non), rt := fun r _ => kk r }) : t { nx := fun _ H' => Q .non H', rt := Q } (L2.start N vs) H := by
  obtain ⟨M, a, ws, ds, kk, rfl, tr, ma, ho, d, hw, fin⟩ := h
  have own : ∀ (i : Nat) (x : D), (iniH N.length ds)[i]? = some (.own x) → False := fun i x h => by
    cases i with
    | zero => cases h
    | succ i => rcases ini_get (show (ini (N.length - 1) ds)[i]? = _ from h) with ⟨y, _, e⟩ | e <;> cases e
  have less : ∀ b, hot ⟨M, H, some a⟩ (L2.start N (.ref a :: ws)) (iniH N.length ds) b → M b := fun b hb => by
    rcases hb with hb | ⟨j, y, h1, _⟩
    · exact hb
    · exact (own j y h1).elim
  have E0 : Env K ⟨M, H, some a⟩ H (L2.start N (.ref a :: ws)) (iniH N.length ds) := by
    refine ⟨?_, fun b o _ e => e, tr, fun c e => ?_, fun i x b h => (own i x h).elim, fun i j x y b h => (own i x h).elim, fun i e he => ?_⟩
    · have := d.length
      unfold L2.start iniH ini
      simp only [List.length_append, List.length_map, List.length_replicate, List.length_cons]
      omega
    · cases e
      exact ⟨ma, ho.there, HandOk.mono ho (fun b o n e => ⟨fun z => n (less b z), e⟩) fun _ z => z⟩
    · cases i with
      | zero =>
        cases he
        exact ⟨a, rfl, start_get rfl⟩
      | succ i =>
        rcases ini_get (show (ini (N.length - 1) ds)[i]? = _ from he) with ⟨x, hx, rfl⟩ | rfl
        · obtain ⟨v, hv, hd⟩ := d.at hx
          exact ⟨v, start_get (show (V.ref a :: ws)[i + 1]? = some v from hv), hd.less less⟩
        · trivial
  have fin2 : ∀ {H' : Hp} {σ' : L2.St} {ρ' : List Ent} {v : V} {r : Res}, RV K ⟨M, H, some a⟩ H' σ' ρ' v r → (∀ i, r ≠ .v i) → kk r → Q v H' := fun {H' σ' ρ' v r} R n g => by
    refine fin v H' r (fun b o nb e => R.env.go b o (fun z => nb (Option.some.inj z).symm) e) ?_ (rv_res R n) g
    cases r with
    | d x =>
      refine HandOk.mono (R.env.hand a rfl).2.2 (fun b o n e => ⟨fun z => n ?_, e⟩) fun _ z => z
      rcases z with z | ⟨⟨_, z⟩, _⟩
      · exact .inl z
      · cases z
    | nw x =>
      obtain ⟨p, e, h0, nh, E, ho⟩ := R
      refine HandOk.mono (E.hand a rfl).2.2 (fun b o n e2 => ⟨fun z => n ?_, e2⟩) fun _ z => z
      rcases z with z | ⟨_, z⟩
      · exact .inl (.inl z)
      · rw [e] at z
        cases z
        exact .inl (.inr rfl)
    | v i => exact absurd rfl (n i)
  exact body ds kk hw ⟨M, H, some a⟩ H _ _ E0 ⟨fun H' σ' ρ' _ E' g => fin2 (r := .d .non) ⟨E', rfl⟩ (fun i z => nomatch z) g, fun v H' σ' ρ' r _ R n g => fin2 R n g, fun _ _ _ _ _ g => g.elim, fun _ _ _ _ _ g => g.elim⟩
theorem ints_inv {M : Addr → Prop} : ∀ {ns : List Int} {vs : List V}, DaAll M K H vs (ns.map D.int) → vs = ns.map V.int
  | [], _, h => h
  | n :: ns, _, h => by
    obtain ⟨v, r, e, h1, h2⟩ := h
    rw [e, show v = V.int n from h1, ints_inv h2]
    rfl
end

/-! ### what is walked -/
/-- J yields the data ds; W: what of the heap it leans on -/
structure Gives (K : PySem.W.Frag) (J : It) (ds : List D) (W : (Addr → Prop) → Hp → Prop) : Prop where
  keep : ∀ M H M' H', W M H → Keep M H M' H' → W M' H'
  stop : ∀ M H i, W M H → ds.length ≤ i → J.stop i H
  go : ∀ M H i, W M H → i < ds.length → J.go i H
  yld : ∀ M H i x H' d, Tr M H → W M H → ds[i]? = some d → J.yld i H x H' → Ext H H' ∧ Da M K H' x d
def XI (K : PySem.W.Frag) (wi : TI) (ρ : List Ent) (k : List D → List Ent → Prop) : Prop := ∀ (F : Fr) (H : Hp) (σ : L2.St) (R : It → Hp → Prop), Env K F H σ ρ →
  (∀ J H' ρ' ds W, Keep (hot F σ ρ) H (hot F σ ρ') H' → Env K F H' σ ρ' → Gives K J ds W → W (hot F σ ρ') H' → k ds ρ' → R J H') → wi σ H R
theorem gives_list {K : PySem.W.Frag} {a : Addr} {ds : List D} : Gives K (Itl K a) ds (fun M H => ∃ vs, ColdL M K H a vs ∧ DaAll M K H vs ds) where
  keep := fun M H M' H' ⟨vs, h1, h2⟩ g => ⟨vs, h1.mono g, h2.mono g⟩
  stop := fun M H i ⟨vs, h1, h2⟩ hi => ⟨vs, h1.sq, by rw [h2.length]; exact hi⟩
  go := fun M H i ⟨vs, h1, h2⟩ hi => by
    have hl : i < vs.length := by rw [h2.length]; exact hi
    exact ⟨vs, vs[i], h1.sq, by simp [hl]⟩
  yld := fun M H i x H' d _ ⟨vs, h1, h2⟩ hd y => by
    obtain ⟨e, y⟩ := y
    subst e
    obtain ⟨v, hv, q⟩ := h2.at hd
    have := y vs h1.sq
    rw [hv] at this
    cases this
    exact ⟨Ext.refl _, q⟩
theorem gives_tup {K : PySem.W.Frag} {a : Addr} {ds : List D} : Gives K (Itt K a) ds (fun M H => ∃ vs, ColdT M K H a vs ∧ DaAll M K H vs ds) where
  keep := fun M H M' H' ⟨vs, h1, h2⟩ g => ⟨vs, h1.mono g, h2.mono g⟩
  stop := fun M H i ⟨vs, h1, h2⟩ hi => ⟨vs, h1.sq, by rw [h2.length]; exact hi⟩
  go := fun M H i ⟨vs, h1, h2⟩ hi => by
    have hl : i < vs.length := by rw [h2.length]; exact hi
    exact ⟨vs, vs[i], h1.sq, by simp [hl]⟩
  yld := fun M H i x H' d _ ⟨vs, h1, h2⟩ hd y => by
    obtain ⟨e, y⟩ := y
    subst e
    obtain ⟨v, hv, q⟩ := h2.at hd
    have := y vs h1.sq
    rw [hv] at this
    cases this
    exact ⟨Ext.refl _, q⟩
def rngD (lo : Int) (n : Nat) : List D := (List.range n).map fun (i : Nat) => D.int (lo + (i : Int))
theorem rngD_at {lo : Int} {n i : Nat} {d : D} (h : (rngD lo n)[i]? = some d) : d = .int (lo + (i : Int)) ∧ i < n := by
  unfold rngD at h
  rw [List.getElem?_map] at h
  by_cases hi : i < n
  · rw [List.getElem?_range hi] at h
    cases h
    exact ⟨rfl, hi⟩
  · rw [List.getElem?_eq_none (by simpa using hi)] at h
    cases h
theorem rngD_len {lo : Int} {n : Nat} : (rngD lo n).length = n := by unfold rngD; simp
theorem gives_range {K : PySem.W.Frag} {lo : Int} {n : Nat} : Gives K (Itr lo n) (rngD lo n) (fun _ _ => True) where
  keep := fun _ _ _ _ _ _ => trivial
  stop := fun M H i _ hi => by rw [rngD_len] at hi; exact hi
  go := fun M H i _ hi => by rw [rngD_len] at hi; exact hi
  yld := fun M H i x H' d _ _ hd y => by
    obtain ⟨e, y⟩ := y
    subst e y
    rw [(rngD_at hd).1]
    exact ⟨Ext.refl _, rfl⟩
/-- a list or a tuple -/
def iSeq (K : PySem.W.Frag) (tl : TE) : TI := fun σ H R => tl σ H fun x H1 => ∃ a, x = .ref a ∧ (((∃ xs, SqL K H1 a xs) ∧ R (Itl K a) H1) ∨ ((∃ xs, SqT K H1 a xs) ∧ R (Itt K a) H1))
theorem pi_seq {X : Cx} {tg l : Expr} {tl : TE} (hl : PE X l tl) : PI X tg l (iSeq X.K tl) := by
  refine ⟨fun pins s σ H R I h => ?_⟩
  refine thn (hl.run pins s σ H _ I h) fun v s1 ⟨x, H1, I1, r1, q1⟩ => ?_
  obtain ⟨a, e, q⟩ := q1
  subst e
  cases r1
  rcases q with ⟨⟨xs, hq⟩, q⟩ | ⟨⟨xs, hq⟩, q⟩
  · obtain ⟨its, rv, p, hz⟩ := I1.list hq
    refine wpAny_pyIter_list p.isList ?_
    refine ⟨s1.heap.objs.size, [s1.heap.objs.size], _, _, H1, rfl, I1.kept (t' := s1.toks) fun b o e => Heap.get?_push_of_some _ e, turn_list a _, ⟨_, Heap.get?_push_size _ rfl, rfl, rfl⟩, fun b hb => ?_, q⟩
    have e : b = s1.heap.objs.size := by simpa using hb
    subst e
    exact I1.fpOk (Nat.le_refl _) (I1.hok.fresh (Nat.le_refl _))
  · obtain ⟨its, rv, p, hz⟩ := I1.tuple hq
    refine wpAny_pyIter_tuple (show s1.heap.IsTuple a its.toArray from p) ?_
    refine ⟨s1.heap.objs.size, [s1.heap.objs.size], _, _, H1, rfl, I1.kept (t' := s1.toks) fun b o e => Heap.get?_push_of_some _ e, turn_tuple a _, ⟨_, Heap.get?_push_size _ rfl, rfl, rfl⟩, fun b hb => ?_, q⟩
    have e : b = s1.heap.objs.size := by simpa using hb
    subst e
    exact I1.fpOk (Nat.le_refl _) (I1.hok.fresh (Nat.le_refl _))
/-- the items of a list, a tuple -/
def itemsD : D → Option (List D)
  | .lst ds => some ds
  | .tup ds => some ds
  | _ => none
section
variable {K : PySem.W.Frag} {ρ : List Ent} {te : TE} {ta : TA} {wi : TI}
theorem xi_seq {k : List D → List Ent → Prop} (h : XE K te ρ fun r ρ1 => ∃ x ds, peek ρ1 r = some x ∧ itemsD x = some ds ∧ k ds (frz ρ1 r)) : XI K (iSeq K te) ρ k := fun F H σ R E q =>
  h F H σ _ E fun v H1 r ρ1 kp Rv ⟨x, ds, px, hi, g⟩ => by
    obtain ⟨E2, d2⟩ := Rv.frz px
    have k2 : Keep (hot F σ ρ) H (hot F σ (frz ρ1 r)) H1 := (hotR.hot kp).trans (keep_frz Rv.env)
    cases x with
    | lst es =>
      cases hi
      obtain ⟨a, vs, e, h1, h2⟩ := d2
      exact ⟨a, e, .inl ⟨⟨vs, h1.sq⟩, q _ H1 _ ds _ k2 E2 gives_list ⟨vs, h1, h2⟩ g⟩⟩
    | tup es =>
      cases hi
      obtain ⟨a, vs, e, h1, h2⟩ := d2
      exact ⟨a, e, .inr ⟨⟨vs, h1.sq⟩, q _ H1 _ ds _ k2 E2 gives_tup ⟨vs, h1, h2⟩ g⟩⟩
    | _ => cases hi
theorem da1 {M : Addr → Prop} {H : Hp} {vs : List V} {x : D} (h : DaAll M K H vs [x]) : ∃ v, vs = [v] ∧ Da M K H v x := by
  obtain ⟨v, r, e, h1, h2⟩ := h
  exact ⟨v, by rw [e, show r = [] from h2], h1⟩
theorem da2 {M : Addr → Prop} {H : Hp} {vs : List V} {x y : D} (h : DaAll M K H vs [x, y]) : ∃ v w, vs = [v, w] ∧ Da M K H v x ∧ Da M K H w y := by
  obtain ⟨v, r, e, h1, h2⟩ := h
  obtain ⟨w, e2, h3⟩ := da1 h2
  exact ⟨v, w, by rw [e, e2], h1, h3⟩
theorem xi_range1 {k : List D → List Ent → Prop} (h : XA K ta ρ fun rs ρ1 => ∃ n : Int, peekAll ρ1 rs = some [.int n] ∧ -(2 ^ 62) ≤ n ∧ n < 2 ^ 62 ∧ k (rngD 0 n.toNat) ρ1) : XI K (iRng1 ta) ρ k := fun F H σ R E q =>
  h F H σ _ E fun vs H1 rs ρ1 kp E1 hs ⟨n, px, b1, b2, g⟩ => by
    obtain ⟨v, e, hv⟩ := da1 (HeldAll.now E1 hs px)
    exact ⟨n, by rw [e, show v = V.int n from hv], b1, b2, q _ H1 ρ1 _ _ kp E1 gives_range trivial g⟩
theorem xi_range2 {k : List D → List Ent → Prop} (h : XA K ta ρ fun rs ρ1 => ∃ m n : Int, peekAll ρ1 rs = some [.int m, .int n] ∧ (-(2 ^ 62) ≤ m ∧ m < 2 ^ 62 ∧ -(2 ^ 62) ≤ n ∧ n < 2 ^ 62) ∧ k (rngD m (n - m).toNat) ρ1) : XI K (iRng2 ta) ρ k := fun F H σ R E q =>
  h F H σ _ E fun vs H1 rs ρ1 kp E1 hs ⟨m, n, px, b, g⟩ => by
    obtain ⟨v, w, e, hv, hw⟩ := da2 (HeldAll.now E1 hs px)
    exact ⟨m, n, by rw [e, show v = V.int m from hv, show w = V.int n from hw], b, q _ H1 ρ1 _ _ kp E1 gives_range trivial g⟩

/-! ### targets -/
def XG (K : PySem.W.Frag) (g : TG) (d : D) (ρ : List Ent) (k : List Ent → Prop) : Prop := ∀ (F : Fr) (H : Hp) (σ : L2.St) (v : V) (Q : L2.St → Hp → Prop), Env K F H σ ρ → Da (hot F σ ρ) K H v d →
  (∀ σ' ρ', Keep (hot F σ ρ) H (hot F σ' ρ') H → Env K F H σ' ρ' → k ρ' → Q σ' H) → g v σ H Q
def XGs (K : PySem.W.Frag) (g : TGs) (ds : List D) (ρ : List Ent) (k : List Ent → Prop) : Prop := ∀ (F : Fr) (H : Hp) (σ : L2.St) (vs : List V) (Q : L2.St → Hp → Prop), Env K F H σ ρ → DaAll (hot F σ ρ) K H vs ds →
  (∀ σ' ρ', Keep (hot F σ ρ) H (hot F σ' ρ') H → Env K F H σ' ρ' → k ρ' → Q σ' H) → g vs σ H Q
theorem xg_name {j : Nat} {d : D} {k : List Ent → Prop} (g : k (ρ.set j (.d d))) : XG K (gName j) d ρ k := fun F H σ v Q E hd q =>
  q _ _ (fun b o n e => ⟨fun z => n (hot_setD z), e⟩) (E.setD hd) g
theorem xgs_nil {k : List Ent → Prop} (g : k ρ) : XGs K gNil [] ρ k := fun F H σ v Q E hd q => ⟨hd, q _ _ (Keep.refl _ _) E g⟩
theorem xgs_cons {t : TG} {u : TGs} {d : D} {ds : List D} {k : List Ent → Prop} (h : XG K t d ρ fun ρ1 => XGs K u ds ρ1 k) : XGs K (gCons t u) (d :: ds) ρ k := fun F H σ vs Q E hd q => by
  obtain ⟨v, r, e, h1, h2⟩ := hd
  refine ⟨v, r, e, h F H σ v _ E h1 fun σ' ρ' kp E' g => ?_⟩
  exact g F H σ' r Q E' (h2.mono kp) fun σ2 ρ2 kp2 E2 g2 => q σ2 ρ2 (kp.trans kp2) E2 g2
theorem xg_tup {n : Nat} {t : TGs} {ds : List D} {k : List Ent → Prop} (hl : ds.length = n) (h : XGs K t ds ρ k) : XG K (gTup K n t) (.tup ds) ρ k := fun F H σ v Q E hd q => by
  obtain ⟨a, vs, e, h1, h2⟩ := hd
  exact ⟨a, vs, e, h1.sq, by rw [h2.length]; exact hl, h F H σ vs Q E h2 q⟩
/-- target = value -/
theorem xs_asgG {g : TG} {Φ : Post} (h : XE K te ρ fun r ρ1 => ∃ x, peek ρ1 r = some x ∧ XG K g x (frz ρ1 r) Φ.nx) : XS K (tAsg te g) ρ Φ := fun F H σ Dn E I =>
  h F H σ _ E fun v H1 r ρ1 kp Rv ⟨x, px, hg⟩ => by
    obtain ⟨E2, d2⟩ := Rv.frz px
    exact hg F H1 σ v _ E2 d2 fun σ' ρ' kp2 E' g' => I.nx H1 σ' ρ' (((hotR.hot kp).trans (keep_frz Rv.env)).trans kp2) E' g'

/-! ### loops -/
theorem xs_for {Φ : Post} {g : TG} {tb : TS} (h : XI K wi ρ fun ds ρ1 => ∃ I : Nat → List Ent → Prop, I 0 ρ1 ∧
    (∀ i d ρ', ds[i]? = some d → I i ρ' → XG K g d ρ' fun ρ2 => XS K tb ρ2 { nx := I (i + 1), ct := I (i + 1), bk := Φ.nx, rt := Φ.rt }) ∧ ∀ ρ', I ds.length ρ' → Φ.nx ρ') : XS K (tFor wi g tb) ρ Φ := fun F H σ Dn E Im =>
  h F H σ _ E fun J H1 ρ1 ds W kp E1 Gv w0 ⟨I, i0, step, fin⟩ => by
    refine ⟨fun i m σ' H' => i ≤ ds.length ∧ m = ds.length - i ∧ ∃ ρ', Env K F H' σ' ρ' ∧ W (hot F σ' ρ') H' ∧ Keep (hot F σ ρ) H (hot F σ' ρ') H' ∧ I i ρ', ⟨ds.length, Nat.zero_le _, rfl, ρ1, E1, w0, kp, i0⟩, ?_⟩
    rintro i m σ' H' ⟨hi, rfl, ρ', E', w', k', I'⟩
    by_cases hlt : i < ds.length
    · have hd : ds[i]? = some ds[i] := by simp [hlt]
      refine .inr ⟨Gv.go _ _ i w' hlt, fun σ2 H2 => ∃ ρ2, Env K F H2 σ2 ρ2 ∧ W (hot F σ2 ρ2) H2 ∧ Keep (hot F σ ρ) H (hot F σ2 ρ2) H2 ∧ I (i + 1) ρ2, fun σ2 H2 ⟨ρ2, a, b, c, d⟩ => ⟨ds.length - (i + 1), by omega, hlt, rfl, ρ2, a, b, c, d⟩, fun x H2 y => ?_⟩
      obtain ⟨ex, hx⟩ := Gv.yld _ _ i x H2 _ (hot_tr E') w' hd y
      have k2 : Keep (hot F σ' ρ') H' (hot F σ' ρ') H2 := Keep.ext ex
      have w2 := Gv.keep _ _ _ _ w' k2
      refine step i _ ρ' hd I' F H2 σ' x _ (E'.ex ex) hx fun σ3 ρ3 k3 E3 body => ?_
      have w3 := Gv.keep _ _ _ _ w2 k3
      have k03 := (k'.trans k2).trans k3
      refine body F H2 σ3 _ E3 ⟨fun H4 σ4 ρ4 k4 E4 g4 => ⟨ρ4, E4, Gv.keep _ _ _ _ w3 k4, k03.trans k4, g4⟩, fun v H4 σ4 ρ4 r k4 R4 n g4 => Im.rt v H4 σ4 ρ4 r (k03.trans k4) R4 n g4,
        fun H4 σ4 ρ4 k4 E4 g4 => Im.nx H4 σ4 ρ4 (k03.trans k4) E4 g4, fun H4 σ4 ρ4 k4 E4 g4 => ⟨ρ4, E4, Gv.keep _ _ _ _ w3 k4, k03.trans k4, g4⟩⟩
    · have e : i = ds.length := by omega
      subst e
      exact .inl ⟨Gv.stop _ _ _ w' (Nat.le_refl _), Im.nx H' σ' ρ' k' E' (fin ρ' I')⟩
theorem xs_while {Φ : Post} {c : TT} {tb : TS} (I : Nat → List Ent → Prop) (m0 : Nat) (h0 : I m0 ρ)
    (step : ∀ m ρ', I m ρ' → XT K c ρ' fun b ρ2 => (b = true → XS K tb ρ2 { nx := fun ρ3 => ∃ m', m' < m ∧ I m' ρ3, ct := fun ρ3 => ∃ m', m' < m ∧ I m' ρ3, bk := Φ.nx, rt := Φ.rt }) ∧ (b = false → Φ.nx ρ2)) : XS K (tWhile c tb) ρ Φ := fun F H σ Dn E Im => by
  refine ⟨fun m σ' H' => ∃ ρ', Env K F H' σ' ρ' ∧ Keep (hot F σ ρ) H (hot F σ' ρ') H' ∧ I m ρ', ⟨m0, ρ, E, Keep.refl _ _, h0⟩, ?_⟩
  rintro m σ' H' ⟨ρ', E', k', I'⟩
  refine step m ρ' I' F H' σ' _ E' fun b H2 ρ2 k2 E2 g => ?_
  cases b with
  | true =>
    rw [if_pos rfl]
    refine ⟨fun σ3 H3 => ∃ m' ρ3, m' < m ∧ Env K F H3 σ3 ρ3 ∧ Keep (hot F σ ρ) H (hot F σ3 ρ3) H3 ∧ I m' ρ3, fun σ3 H3 ⟨m', ρ3, a, b, c, d⟩ => ⟨m', a, ρ3, b, c, d⟩, ?_⟩
    have k02 := k'.trans k2
    exact g.1 rfl F H2 σ' _ E2 ⟨fun H4 σ4 ρ4 k4 E4 ⟨m', a, b⟩ => ⟨m', ρ4, a, E4, k02.trans k4, b⟩, fun v H4 σ4 ρ4 r k4 R4 n g4 => Im.rt v H4 σ4 ρ4 r (k02.trans k4) R4 n g4, fun H4 σ4 ρ4 k4 E4 g4 => Im.nx H4 σ4 ρ4 (k02.trans k4) E4 g4,
      fun H4 σ4 ρ4 k4 E4 ⟨m', a, b⟩ => ⟨m', ρ4, a, E4, k02.trans k4, b⟩⟩
  | false =>
    rw [if_neg Bool.false_ne_true]
    exact Im.nx H2 σ' ρ2 (k'.trans k2) E2 (g.2 rfl)
end

/-! ### comprehensions -/
def wipeE (ρ : List Ent) : List Nat → List Ent
  | [] => ρ
  | v :: vs => (wipeE ρ vs).set v .u
theorem wipeE_get {ρ : List Ent} {i : Nat} {e : Ent} : ∀ {vs : List Nat}, (wipeE ρ vs)[i]? = some e → e = .u ∨ (ρ[i]? = some e ∧ i ∉ vs)
  | [], h => .inr ⟨h, by simp⟩
  | v :: vs, h => by
    rcases set_get (show ((wipeE ρ vs).set v .u)[i]? = some e from h) with ⟨_, q, _⟩ | ⟨n, h⟩
    · exact .inl q
    · rcases wipeE_get h with q | ⟨q1, q2⟩
      · exact .inl q
      · exact .inr ⟨q1, by simp [n, q2]⟩
theorem wipeE_len (ρ : List Ent) : ∀ vs : List Nat, (wipeE ρ vs).length = ρ.length
  | [] => rfl
  | v :: vs => by
    show ((wipeE ρ vs).set v .u).length = _
    rw [List.length_set, wipeE_len ρ vs]
theorem wipe_get {σ : L2.St} {i : Nat} : ∀ {vs : List Nat}, i ∉ vs → (wipe σ vs)[i]? = σ[i]?
  | [], _ => rfl
  | v :: vs, h => by
    show ((wipe σ vs).set v none)[i]? = _
    rw [List.getElem?_set_ne (fun z => h (by simp [z]))]
    exact wipe_get fun z => h (List.mem_cons_of_mem _ z)
section
variable {K : PySem.W.Frag} {F : Fr} {H : Hp} {σ σ' : L2.St} {ρ ρ' : List Ent}
/-- an environment that knows less, of slots that agree where something is known -/
theorem Env.agree (E : Env K F H σ ρ) (hl : ρ'.length = ρ.length) (hs : σ'.length = σ.length) (h : ∀ (i : Nat) (e : Ent), ρ'[i]? = some e → e = .u ∨ (ρ[i]? = some e ∧ σ'[i]? = σ[i]?)) :
    Env K F H σ' ρ' ∧ ∀ b, hot F σ' ρ' b → hot F σ ρ b := by
  have own : ∀ (i : Nat) (x : D), ρ'[i]? = some (.own x) → ρ[i]? = some (.own x) ∧ σ'[i]? = σ[i]? := fun i x hi => by
    rcases h i _ hi with q | q
    · cases q
    · exact q
  have less : ∀ b, hot F σ' ρ' b → hot F σ ρ b := fun b hb => by
    rcases hb with hb | ⟨i, x, h1, h2⟩
    · exact .inl hb
    · obtain ⟨q1, q2⟩ := own i x h1
      rw [q2] at h2
      exact .inr ⟨i, x, q1, h2⟩
  have cold : ∀ b o, ¬ hot F σ ρ b → H b = some o → ¬ hot F σ' ρ' b ∧ H b = some o := fun b o n e => ⟨fun z => n (less b z), e⟩
  refine ⟨⟨by rw [hs, hl]; exact E.len, E.go, E.trk, fun a e => ?_, fun i x b h1 h2 => ?_, fun i j x y b h1 h2 h3 h4 => ?_, fun i e he => ?_⟩, less⟩
  · obtain ⟨q1, q2, q3⟩ := E.hand a e
    exact ⟨q1, q2, HandOk.mono q3 cold fun _ z => z⟩
  · obtain ⟨q1, q2⟩ := own i x h1
    rw [q2] at h2
    exact E.new i x b q1 h2
  · obtain ⟨q1, q2⟩ := own i x h1
    obtain ⟨q3, q4⟩ := own j y h2
    rw [q2] at h3
    rw [q4] at h4
    exact E.inj i j x y b q1 q3 h3 h4
  · rcases h i e he with q | ⟨q1, q2⟩
    · rw [q]; trivial
    · rw [q2]
      exact (E.slot i e q1).mono cold (fun _ _ _ _ _ z => z) rfl
end
section
variable {K : PySem.W.Frag} {F : Fr} {H : Hp} {σ : L2.St} {ρ : List Ent} {p : Addr} {o : HO}
/-- p's content stands still, too -/
abbrev Fr.pin (F : Fr) (p : Addr) (o : HO) : Fr := { M := fun b => F.M b ∨ b = p, H0 := upd F.H0 p o, hd := F.hd }
theorem Env.pin (E : Env K (F.push p) H σ ρ) (h0 : F.H0 p = none) (hp : H p = some o) : Env K (F.pin p o) H σ ρ := by
  refine ⟨E.len, fun b u n e => ?_, E.trk, fun a e => ?_, fun i x b h1 h2 => ?_, E.inj, fun i e he => (E.slot i e he).mono (fun b o n e => ⟨n, e⟩) (fun _ _ _ _ _ z => z) rfl⟩
  · have e : upd F.H0 p o b = some u := e
    by_cases z : b = p
    · subst z
      rw [upd_same] at e
      rw [hp]
      exact e
    · rw [upd_ne z] at e
      exact E.go b u n e
  · obtain ⟨q1, q2, q3⟩ := E.hand a e
    refine ⟨q1, ?_, q3⟩
    by_cases z : a = p
    · subst z
      exact absurd h0 q2
    · show upd F.H0 p o a ≠ none
      rw [upd_ne z]
      exact q2
  · obtain ⟨q1, q2⟩ := E.new i x b h1 h2
    refine ⟨?_, q2⟩
    show upd F.H0 p o b = none
    rw [upd_ne fun z => q2 (.inr z)]
    exact q1
theorem Env.unpin (E : Env K (F.pin p o) H σ ρ) (h0 : F.H0 p = none) (hh : ∀ a, F.hd = some a → F.H0 a ≠ none) : Env K (F.push p) H σ ρ := by
  refine ⟨E.len, fun b u n e => E.go b u n ?_, E.trk, fun a e => ⟨(E.hand a e).1, hh a e, (E.hand a e).2.2⟩, fun i x b h1 h2 => ?_, E.inj, fun i e he => (E.slot i e he).mono (fun b o n e => ⟨n, e⟩) (fun _ _ _ _ _ z => z) rfl⟩
  · have e : F.H0 b = some u := e
    show upd F.H0 p o b = some u
    rw [upd_ne fun z => by rw [z, h0] at e; cases e]
    exact e
  · obtain ⟨q1, q2⟩ := E.new i x b h1 h2
    refine ⟨?_, q2⟩
    have q1 : upd F.H0 p o b = none := q1
    rw [upd_ne fun z => q2 (.inr z)] at q1
    exact q1
theorem Env.poke (E : Env K (F.push p) H σ ρ) (h0 : F.H0 p = none) : Env K (F.push p) (upd H p o) σ ρ := by
  have hp : hot (F.push p) σ ρ p := .inl (.inr rfl)
  have up : ∀ b u, b ≠ p → H b = some u → upd H p o b = some u := fun b u n e => by rw [upd_ne n]; exact e
  have cold : ∀ b u, ¬ hot (F.push p) σ ρ b → H b = some u → ¬ hot (F.push p) σ ρ b ∧ upd H p o b = some u := fun b u n e => ⟨n, up b u (fun z => n (by rw [z]; exact hp)) e⟩
  have hne : ∀ a, F.hd = some a → a ≠ p := fun a e z => (E.hand a e).2.1 (by rw [z]; exact h0)
  refine ⟨E.len, fun b u n e => up b u (fun z => by rw [z] at e; rw [show F.H0 p = some u from e] at h0; cases h0) (E.go b u n e), fun b hb => ?_, fun a e => ?_, E.new, E.inj, fun i e he => ?_⟩
  · by_cases z : b = p
    · rw [z, upd_same]; exact fun q => nomatch q
    · rw [upd_ne z]; exact E.trk b hb
  · obtain ⟨q1, q2, q3⟩ := E.hand a e
    exact ⟨q1, q2, HandOk.mono q3 cold fun u z => up a u (hne a e) z⟩
  · refine (E.slot i e he).mono cold (fun q x ee eo u hq => up q u (fun z => ?_) hq) rfl
    subst ee z
    exact (E.new i x _ he eo).2 (.inr rfl)
end
section
variable {K : PySem.W.Frag} {ρ : List Ent} {te : TE} {tt : TT} {wi : TI} {g : TG} {vs : List Nat} {k : KE}
/-- the targets of a comprehension are its own slots -/
def OwnSlots (g : TG) (vs : List Nat) : Prop := ∀ (σ : L2.St) (v : V) (H : Hp) (Q : L2.St → Hp → Prop), (g v σ H fun σ2 H2 => wipe σ2 vs = wipe σ vs → Q σ2 H2) → g v σ H fun σ2 H2 => wipe σ2 vs = wipe σ vs ∧ Q σ2 H2
/-- [e for x in .. if t]: P holds of how many are walked, and of what is made -/
theorem xe_lc (hsl : OwnSlots g vs) (hww : ∀ σ : L2.St, wipe (wipe σ vs) vs = wipe σ vs)
    (h : XI K wi ρ fun ds ρ1 => ds.length ≤ sizeLine ∧ ∃ P : Nat → List D → Prop, P 0 [] ∧
      (∀ i d acc, ds[i]? = some d → acc.length ≤ i → P i acc → XG K g d (wipeE ρ1 vs) fun ρ2 => wipeE ρ2 vs = wipeE ρ1 vs ∧ XT K tt ρ2 fun b ρ3 => ρ3 = ρ2 ∧ (b = true → XE K te ρ3 fun r ρ4 => ∃ y, peek ρ4 r = some y ∧ frz ρ4 r = ρ2 ∧ P (i + 1) (acc ++ [y])) ∧ (b = false → P (i + 1) acc)) ∧
      ∀ acc, acc.length ≤ ds.length → P ds.length acc → k (.nw (.lst acc)) (wipeE ρ1 vs)) : XE K (tLc wi g tt te vs) ρ k := fun F H σ Q E q => by
  refine h F H σ _ E fun J H1 ρ1 ds W kp E1 Gv w0 ⟨hsz, P, p0, step, fin⟩ Dl hD => ?_
  have h0 := h0_none E1 hD
  have hh : ∀ a, F.hd = some a → F.H0 a ≠ none := fun a e => (E1.hand a e).2.1
  have agr : ∀ {F' : Fr} {H' : Hp}, Env K F' H' σ ρ1 → Env K F' H' (wipe σ vs) (wipeE ρ1 vs) ∧ ∀ b, hot F' (wipe σ vs) (wipeE ρ1 vs) b → hot F' σ ρ1 b := fun e => e.agree (wipeE_len _ _) (wipe_length _ _) fun i e he => by
    rcases wipeE_get he with q | ⟨q1, q2⟩
    · exact .inl q
    · exact .inr ⟨q1, wipe_get q2⟩
  have agb : ∀ {F' : Fr} {H' : Hp}, Env K F' H' (wipe σ vs) (wipeE ρ1 vs) → Env K F' H' σ (wipeE ρ1 vs) ∧ ∀ b, hot F' σ (wipeE ρ1 vs) b → hot F' (wipe σ vs) (wipeE ρ1 vs) b := fun e => e.agree rfl (wipe_length _ _).symm fun i e he => by
    rcases wipeE_get he with q | ⟨q1, q2⟩
    · exact .inl q
    · exact .inr ⟨he, (wipe_get q2).symm⟩
  have A1 := agr E1
  let Z : Nat → Hp → Prop := fun i H' => ∃ acc, i ≤ ds.length ∧ acc.length ≤ i ∧ P i acc ∧ Env K (F.push Dl) H' (wipe σ vs) (wipeE ρ1 vs) ∧ OwnAt (hot (F.push Dl) (wipe σ vs) (wipeE ρ1 vs)) K H' Dl (.lst acc) ∧ W (hot (F.push Dl) (wipe σ vs) (wipeE ρ1 vs)) H' ∧
    Keep (hot F σ ρ1) H1 (hot (F.push Dl) (wipe σ vs) (wipeE ρ1 vs)) H'
  have e0 : Ext H1 (upd H1 Dl (.lst [])) := Ext.new hD
  have E1p : Env K (F.push Dl) (upd H1 Dl (.lst [])) (wipe σ vs) (wipeE ρ1 vs) := A1.1.push hD e0 (by rw [upd_same]; exact fun z => nomatch z)
  have pushless : ∀ b, hot (F.push Dl) (wipe σ vs) (wipeE ρ1 vs) b → hot F σ ρ1 b ∨ b = Dl := fun b hb => by
    rcases hb with hb | hb
    · rcases hb with hb | hb
      · exact .inl (.inl hb)
      · exact .inr hb
    · exact .inl (A1.2 b (.inr hb))
  have k0 : Keep (hot F σ ρ1) H1 (hot (F.push Dl) (wipe σ vs) (wipeE ρ1 vs)) (upd H1 Dl (.lst [])) := fun b o n e => ⟨fun z => (pushless b z).elim n fun z => (by rw [z, hD] at e; cases e), e0 b o e⟩
  have z0 : Z 0 (upd H1 Dl (.lst [])) := ⟨[], Nat.zero_le _, Nat.le_refl _, p0, E1p, ⟨[], upd_same, rfl⟩, Gv.keep _ _ _ _ w0 k0, k0⟩
  refine ⟨fun i m H' => m = ds.length - i ∧ Z i H', ⟨ds.length, rfl, z0⟩, ?_⟩
  rintro i m H' ⟨rfl, acc, hi, hacc, p, E', ho, w', k'⟩
  by_cases hlt : i < ds.length
  · have hd : ds[i]? = some ds[i] := by simp [hlt]
    refine .inr ⟨Gv.go _ _ i w' hlt, Z (i + 1), fun H2 z => ⟨ds.length - (i + 1), by omega, rfl, z⟩, fun x H2 y => ?_⟩
    obtain ⟨ex, hx⟩ := Gv.yld _ _ i x H2 _ (hot_tr E') w' hd y
    have k2 : Keep (hot (F.push Dl) (wipe σ vs) (wipeE ρ1 vs)) H' (hot (F.push Dl) (wipe σ vs) (wipeE ρ1 vs)) H2 := Keep.ext ex
    have w2 := Gv.keep _ _ _ _ w' k2
    obtain ⟨us, hDl, dacc⟩ := ho
    have hD2 := ex _ _ hDl
    have E2 := (E'.ex ex).pin h0 hD2
    have dacc2 := dacc.mono k2
    have go := step i _ acc hd hacc p (F.pin Dl (.lst us)) H2 (wipe σ vs) x
    have conv := hsl (wipe σ vs) x H2 (fun σ2 H2 => tt σ2 H2 fun b H3 => if b = true then te σ2 H3 fun y H4 => ∃ acc, H4 Dl = some (.lst acc) ∧ acc.length < sizeLine ∧ Z (i + 1) (upd H4 Dl (.lst (acc ++ [y]))) else Z (i + 1) H3)
    rw [hww] at conv
    refine conv (go _ E2 hx fun σ3 ρ3 k3 E3 ⟨hwe, body⟩ hws => ?_)
    have agc : ∀ {F' : Fr} {H' : Hp}, Env K F' H' σ3 ρ3 → Env K F' H' (wipe σ vs) (wipeE ρ1 vs) ∧ ∀ b, hot F' (wipe σ vs) (wipeE ρ1 vs) b → hot F' σ3 ρ3 b := fun e => e.agree (by rw [← hwe, wipeE_len]) (by rw [← hws, wipe_length]) fun i e he => by
      rw [← hwe] at he
      rcases wipeE_get he with q | ⟨q1, q2⟩
      · exact .inl q
      · exact .inr ⟨q1, by rw [← hws]; exact wipe_get q2⟩
    have nd : F.hd ≠ some Dl := fun z => (hh Dl z) h0
    have ho0 : Ent.own (.lst []) ≠ Ent.u := fun z => nomatch z
    -- back to the state between two turns
    have again : ∀ (acc' : List D) (us' : List V) (H4 : Hp), Env K (F.pin Dl (.lst us)) H4 σ3 ρ3 → Keep (hot (F.pin Dl (.lst us)) σ3 ρ3) H2 (hot (F.pin Dl (.lst us)) σ3 ρ3) H4 → acc'.length ≤ i + 1 → P (i + 1) acc' → DaAll (hot (F.pin Dl (.lst us)) σ3 ρ3) K H4 us' acc' →
        Z (i + 1) (upd H4 Dl (.lst us')) := fun acc' us' H4 E4 k4 l4 p4 d4 => by
      obtain ⟨E5, less⟩ := agc E4
      have E6 := (E5.unpin h0 hh).poke (o := .lst us') h0
      have hDh : hot (F.pin Dl (.lst us)) σ3 ρ3 Dl := .inl (.inr rfl)
      have k5 : Keep (hot (F.pin Dl (.lst us)) σ3 ρ3) H4 (hot (F.push Dl) (wipe σ vs) (wipeE ρ1 vs)) (upd H4 Dl (.lst us')) := fun b o n e => ⟨fun z => n (less b z), by rw [upd_ne fun z => n (by rw [z]; exact hDh)]; exact e⟩
      have k3' : Keep (hot (F.push Dl) (wipe σ vs) (wipeE ρ1 vs)) H2 (hot (F.pin Dl (.lst us)) σ3 ρ3) H2 := k3
      have kk := (k3'.trans k4).trans k5
      exact ⟨acc', hlt, l4, p4, E6, ⟨us', upd_same, d4.mono k5⟩, Gv.keep _ _ _ _ w2 kk, (k'.trans k2).trans kk⟩
    refine body (F.pin Dl (.lst us)) H2 σ3 _ E3 fun b H3 ρ4 k4 E4 ⟨e4, g1, g2⟩ => ?_
    subst e4
    have hD3 : H3 Dl = some (.lst us) := E4.go Dl _ nd upd_same
    cases b with
    | false =>
      show Z (i + 1) H3
      have := again acc us H3 E4 k4 (by omega) (g2 rfl) ((dacc2.mono k3).mono k4)
      have e : upd H3 Dl (.lst us) = H3 := by
        funext c
        by_cases z : c = Dl
        · rw [z, upd_same, hD3]
        · rw [upd_ne z]
      rw [e] at this
      exact this
    | true =>
      show te σ3 H3 fun y H4 => ∃ acc, H4 Dl = some (.lst acc) ∧ acc.length < sizeLine ∧ Z (i + 1) (upd H4 Dl (.lst (acc ++ [y])))
      refine g1 rfl (F.pin Dl (.lst us)) H3 σ3 _ E4 fun v H4 r ρ5 k5 R5 ⟨y, py, hf, pp⟩ => ?_
      obtain ⟨E5, d5⟩ := R5.frz py
      have kf := keep_frz (r := r) R5.env
      rw [hf] at E5 d5 kf
      have k45 := k4.trans ((hotR.hot k5).trans kf)
      refine ⟨us, E5.go Dl _ nd upd_same, ?_, again (acc ++ [y]) (us ++ [v]) H4 E5 k45 (by rw [List.length_append, List.length_singleton]; omega) pp (((dacc2.mono k3).mono k45).append (DaAll.one d5))⟩
      rw [dacc2.length]
      omega
  · have e : i = ds.length := by omega
    subst e
    refine .inl ⟨Gv.stop _ _ _ w' (Nat.le_refl _), ?_⟩
    have Eb := agb E'
    refine q _ H' (.nw (.lst acc)) _ ?_ ⟨Dl, rfl, h0, fun z => ?_, Eb.1, ho.mono (fun b o n e => ⟨fun z => n (Eb.2 b z), e⟩) fun _ z => z⟩ (fin acc hacc p)
    · intro b o n e
      obtain ⟨q1, q2⟩ := kp b o n e
      obtain ⟨q3, q4⟩ := k' b o q1 q2
      refine ⟨fun z => ?_, q4⟩
      rcases z with z | ⟨_, z⟩
      · exact q3 (Eb.2 b (by
          rcases z with z | z
          · exact .inl (.inl z)
          · exact .inr z))
      · cases z
        exact q3 (.inl (.inr rfl))
    · have q : hot F σ ρ1 Dl := by
        rcases z with z | ⟨j, y, h1, h2⟩
        · exact .inl z
        · rcases wipeE_get h1 with q | ⟨q1, q2⟩
          · cases q
          · exact .inr ⟨j, y, q1, h2⟩
      exact E1.hotTrk Dl q hD
end
end PW
end
section
/-! PW: operations on data: operators, comparisons, subscripts, slices, builtins, isinstance, methods of own lists. -/
namespace PW
open PySem PySem.Spec PyProof.Rows L2

/-! ### unions of the hand layer's rules -/
def rAddI : R2 := rI0 fun i j => .int (i + j)
def rAddS : R2 := fun x y H Q => ∃ i j, x = .str i ∧ y = .str j ∧ i.length + j.length ≤ sizeLine ∧ Q (.str (i ++ j)) H
def rAddU (K : PySem.W.Frag) : R2 := fun x y H Q => ((rAddI x y H Q ∨ rAddS x y H Q) ∨ rCatA K x y H Q) ∨ rCat x y H Q
def rMulI : R2 := rI CMul fun i j => .int (i * j)
def rMulU (K : PySem.W.Frag) : R2 := fun x y H Q => rMulI x y H Q ∨ rRepT K x y H Q
def rSubI : R2 := rI0 fun i j => .int (i - j)
def rDivI : R2 := rI CDiv fun i j => .int (i / j)
def rModI : R2 := rI (fun _ j => 0 < j) fun i j => .int (i % j)
def rPowI : R2 := rI CPow fun i j => .int (i ^ j.toNat)
def rLtI : R2 := rI0 fun i j => .bl (decide (i < j))
def rLeI : R2 := rI0 fun i j => .bl (decide (i ≤ j))
def rGtI : R2 := rI0 fun i j => .bl (decide (j < i))
def rGeI : R2 := rI0 fun i j => .bl (decide (j ≤ i))
def rIsNo : R2 := fun x y H Q => y = .non ∧ Q (.bl (decide (x = .non))) H
def rIsNotNo : R2 := fun x y H Q => y = .non ∧ Q (.bl (!decide (x = .non))) H
def rIsBo : R2 := fun x y H Q => ∃ a b, x = .bl a ∧ y = .bl b ∧ Q (.bl (decide (a = b))) H
def rIsNotBo : R2 := fun x y H Q => ∃ a b, x = .bl a ∧ y = .bl b ∧ Q (.bl (!decide (a = b))) H
def rInT (K : PySem.W.Frag) (neg : Bool) : R2 := fun x y H Q => ∃ d ds, Dp K H x d ∧ Dp K H y (.tuple ds) ∧ SeqAt.shaped d = true ∧ SeqAt.shaped (.tuple ds) = true ∧ Q (.bl (if neg then !ds.any fun z => PyData.eqv z d else ds.any fun z => PyData.eqv z d)) H
def rInC : R2 := fun x y H Q => ∃ (c : Nat) (z : Str), x = .str ⟨#[c]⟩ ∧ y = .str z ∧ Q (.bl (decide (c ∈ z.cps.toList))) H
def rNotInC : R2 := fun x y H Q => ∃ (c : Nat) (z : Str), x = .str ⟨#[c]⟩ ∧ y = .str z ∧ Q (.bl (!decide (c ∈ z.cps.toList))) H
def rInU (K : PySem.W.Frag) : R2 := fun x y H Q => (rInD K x y H Q ∨ rInT K false x y H Q) ∨ rInC x y H Q
def rNotInU (K : PySem.W.Frag) : R2 := fun x y H Q => (rNotInD K x y H Q ∨ rInT K true x y H Q) ∨ rNotInC x y H Q
def rSlU (K : PySem.W.Frag) : V → Option Int → Option Int → Hp → VK → Prop := fun x lo hi H Q => (rSlL K x lo hi H Q ∨ rSlA K x lo hi H Q) ∨ rSlS x lo hi H Q
section
variable {X : Cx}
theorem op_addU : OpR X (binaryOp .Add) (rAddU X.K) := ((op_add.or op_add_str).or op_catA).or op_cat
theorem op_mulU : OpR X (binaryOp .Mult) (rMulU X.K) := op_mul.or op_repT
theorem op_subU : OpR X (binaryOp .Sub) rSubI := op_sub
theorem op_divU : OpR X (binaryOp .FloorDiv) rDivI := op_fdiv
theorem op_modU : OpR X (binaryOp .Mod) rModI := op_mod
theorem op_powU : OpR X (binaryOp .Pow) rPowI := op_pow
theorem op_ltU : OpR X (compareOp .Lt) rLtI := op_lt
theorem op_leU : OpR X (compareOp .LtE) rLeI := op_le
theorem op_gtU : OpR X (compareOp .Gt) rGtI := op_gt
theorem op_geU : OpR X (compareOp .GtE) rGeI := op_ge
theorem op_isNo : OpR X (compareOp .Is) rIsNo := op_isN
theorem op_isNotNo : OpR X (compareOp .IsNot) rIsNotNo := op_notN
theorem op_isBo : OpR X (compareOp .Is) rIsBo := op_is_bl
theorem op_isNotBo : OpR X (compareOp .IsNot) rIsNotBo := op_isnot_bl
theorem op_inT (hu : X.A.units + 65 < cLine) : OpR X (compareOp .In) (rInT X.K false) := by
  intro pins s σ H x y v u Q I rx ry h
  obtain ⟨d, ds, hd, he, sd, se, q⟩ := h
  obtain ⟨as, r1⟩ := Dp.reads I d x v hd rx
  obtain ⟨bs, r2⟩ := Dp.reads I (.tuple ds) y u he ry
  exact SeqAt.in_tuple_reads r2 r1 (SeqAt.canLay_of_shaped se) (SeqAt.canLay_of_shaped sd) (room_in_shaped sd hu) ⟨.bl _, H, I, rfl, q⟩
theorem op_notInT (hu : X.A.units + 65 < cLine) : OpR X (compareOp .NotIn) (rInT X.K true) := by
  intro pins s σ H x y v u Q I rx ry h
  obtain ⟨d, ds, hd, he, sd, se, q⟩ := h
  obtain ⟨as, r1⟩ := Dp.reads I d x v hd rx
  obtain ⟨bs, r2⟩ := Dp.reads I (.tuple ds) y u he ry
  exact SeqAt.notIn_tuple_reads r2 r1 (SeqAt.canLay_of_shaped se) (SeqAt.canLay_of_shaped sd) (room_in_shaped sd hu) ⟨.bl _, H, I, rfl, q⟩
theorem op_inU (hu : X.A.units + 65 < cLine) : OpR X (compareOp .In) (rInU X.K) := ((op_inD hu).or (op_inT hu)).or op_in_sign
theorem op_notInU (hu : X.A.units + 65 < cLine) : OpR X (compareOp .NotIn) (rNotInU X.K) := ((op_notInD hu).or (op_notInT hu)).or op_notIn_sign
theorem sl_U : SlR X (rSlU X.K) := (sl_list.or sl_tupA).or sl_str
end

/-! ### data: shapes -/
def D.sh (d : D) : Bool := D.pln d && SeqAt.shaped d.py
theorem D.sh_pln {d : D} (h : d.sh = true) : d.pln = true := (Bool.and_eq_true_iff.mp h).1
theorem D.sh_shaped {d : D} (h : d.sh = true) : SeqAt.shaped d.py = true := (Bool.and_eq_true_iff.mp h).2
section
variable {M : Addr → Prop} {K : PySem.W.Frag} {H : Hp} {v : V} {x : D}
theorem Pk.dp (h : Pk M K H v x) (p : x.pln = true) : Dp K H v x.py := h.now.dp p
theorem Pk.item {ds : List D} {a : Addr} {vs : List V} (h : DaAll M K H vs ds) {i : Int} {d : D} (e : atI ds i = some d) : ∃ w, atI vs i = some w ∧ Da M K H w d := by
  unfold atI at e ⊢
  rw [h.length]
  cases q : ixN ds.length i with
  | none => rw [q] at e; cases e
  | some j =>
    rw [q] at e
    obtain ⟨w, h1, h2⟩ := h.at (i := j) (d := d) e
    exact ⟨w, h1, h2⟩
end

/-! ### operators -/
section
variable {K : PySem.W.Frag} {k : Res → Prop} {i j : Int} {b c : Bool} {x y : D} {s t : Str} {ds es : List D}
theorem o_addI (g : k (.d (.int (i + j)))) : OpD K (rAddU K) (.int i) (.int j) k := opd_val (z := .int (i + j)) (fun M H u v Q h1 h2 q => .inl (.inl (.inl ⟨i, j, h1.int, h2.int, q _ rfl⟩))) g
theorem o_addS (hl : s.length + t.length ≤ sizeLine) (g : k (.d (.str (s ++ t)))) : OpD K (rAddU K) (.str s) (.str t) k := opd_val (z := .str (s ++ t)) (fun M H u v Q h1 h2 q => .inl (.inl (.inr ⟨s, t, h1.str, h2.str, hl, q _ rfl⟩))) g
theorem o_addT (hl : ds.length + es.length ≤ sizeLine) (g : k (.d (.tup (ds ++ es)))) : OpD K (rAddU K) (.tup ds) (.tup es) k := fun M H u v Q tr h1 h2 q => by
  have h2' := h2
  rcases h1 with h1 | ⟨p, _, _, h1⟩
  · rcases h2 with h2 | ⟨p, _, _, h2⟩
    · obtain ⟨a, vs, rfl, c1, d1⟩ := id h1
      obtain ⟨a2, ws, rfl, c2, d2⟩ := id h2
      refine .inl (.inr ⟨a, a2, vs, ws, rfl, rfl, c1.sq, c2.sq, by rw [d1.length, d2.length]; exact hl, fun e => ?_, fun _ e => ?_, fun _ _ p hp => ?_⟩)
      · subst e
        have : ds = [] := List.length_eq_zero_iff.mp (by rw [← d1.length]; rfl)
        subst this
        exact q _ H (.d (.tup es)) (Ext.refl H) h2 g
      · subst e
        have : es = [] := List.length_eq_zero_iff.mp (by rw [← d2.length]; rfl)
        subst this
        rw [List.append_nil] at g
        exact q _ H (.d (.tup ds)) (Ext.refl H) h1 g
      · exact q _ _ (.d (.tup (ds ++ es))) (Ext.new hp) (newT tr (d1.append d2) hp) g
    · exact (show False from h2).elim
  · exact (show False from h1).elim
theorem o_addL (hl : ds.length + es.length ≤ sizeLine) (g : k (.nw (.lst (ds ++ es)))) : OpD K (rAddU K) (.lst ds) (.lst es) k := fun M H u v Q tr h1 h2 q => by
  obtain ⟨a, vs, rfl, c1, d1⟩ := h1.lst
  obtain ⟨a2, ws, rfl, c2, d2⟩ := h2.lst
  exact .inr ⟨a, a2, vs, ws, rfl, rfl, c1, c2, by rw [d1.length, d2.length]; exact hl, fun p hp => q _ _ (.nw (.lst (ds ++ es))) (Ext.new hp) (newL (d1.append d2) hp) g⟩
theorem o_mulI (hc : CMul i j) (g : k (.d (.int (i * j)))) : OpD K (rMulU K) (.int i) (.int j) k := opd_val (z := .int (i * j)) (fun M H u v Q h1 h2 q => .inl ⟨i, j, h1.int, h2.int, hc, q _ rfl⟩) g
theorem DaAll.rep {M : Addr → Prop} {H : Hp} {vs : List V} (h : DaAll M K H vs ds) : ∀ n : Nat, DaAll M K H (List.replicate n vs).flatten (List.replicate n ds).flatten
  | 0 => rfl
  | n + 1 => by
    rw [List.replicate_succ, List.replicate_succ, List.flatten_cons, List.flatten_cons]
    exact h.append (DaAll.rep h n)
theorem o_mulT (h0 : ds ≠ []) (h1 : 2 ≤ j) (h2 : j ≤ 1000) (h3 : ds.length ≤ 1000) (g : k (.d (.tup (List.replicate j.toNat ds).flatten))) : OpD K (rMulU K) (.tup ds) (.int j) k := fun M H u v Q tr p1 p2 q => by
  obtain ⟨a, vs, rfl, c1, d1⟩ := p1.tup
  refine .inr ⟨a, j, vs, rfl, p2.int, c1, fun e => h0 ?_, h1, h2, by rw [d1.length]; exact h3, fun p hp => q _ _ (.d _) (Ext.new hp) (newT tr (d1.rep _) hp) g⟩
  exact List.length_eq_zero_iff.mp (by rw [← d1.length, e]; rfl)
theorem o_subI (g : k (.d (.int (i - j)))) : OpD K rSubI (.int i) (.int j) k := opd_val (z := .int (i - j)) (fun M H u v Q h1 h2 q => ⟨i, j, h1.int, h2.int, q _ rfl⟩) g
theorem o_divI (hc : 0 < j ∧ j < 1073741824) (g : k (.d (.int (i / j)))) : OpD K rDivI (.int i) (.int j) k := opd_val (z := .int (i / j)) (fun M H u v Q h1 h2 q => ⟨i, j, h1.int, h2.int, hc, q _ rfl⟩) g
theorem o_modI (hc : 0 < j) (g : k (.d (.int (i % j)))) : OpD K rModI (.int i) (.int j) k := opd_val (z := .int (i % j)) (fun M H u v Q h1 h2 q => ⟨i, j, h1.int, h2.int, hc, q _ rfl⟩) g
theorem o_powI (hc : 0 ≤ j ∧ j ≤ 1000000 ∧ i.natAbs < 2 ^ 64) (g : k (.d (.int (i ^ j.toNat)))) : OpD K rPowI (.int i) (.int j) k := opd_val (z := .int (i ^ j.toNat)) (fun M H u v Q h1 h2 q => ⟨i, j, h1.int, h2.int, hc, q _ rfl⟩) g
theorem o_ltI (g : k (.d (.bl (decide (i < j))))) : OpD K rLtI (.int i) (.int j) k := opd_val (z := .bl (decide (i < j))) (fun M H u v Q h1 h2 q => ⟨i, j, h1.int, h2.int, q _ rfl⟩) g
theorem o_leI (g : k (.d (.bl (decide (i ≤ j))))) : OpD K rLeI (.int i) (.int j) k := opd_val (z := .bl (decide (i ≤ j))) (fun M H u v Q h1 h2 q => ⟨i, j, h1.int, h2.int, q _ rfl⟩) g
theorem o_gtI (g : k (.d (.bl (decide (j < i))))) : OpD K rGtI (.int i) (.int j) k := opd_val (z := .bl (decide (j < i))) (fun M H u v Q h1 h2 q => ⟨i, j, h1.int, h2.int, q _ rfl⟩) g
theorem o_geI (g : k (.d (.bl (decide (j ≤ i))))) : OpD K rGeI (.int i) (.int j) k := opd_val (z := .bl (decide (j ≤ i))) (fun M H u v Q h1 h2 q => ⟨i, j, h1.int, h2.int, q _ rfl⟩) g
@[reducible] def D.isNon : D → Bool
  | .non => true
  | _ => false
theorem isNon_of {M : Addr → Prop} {H : Hp} {v : V} (h : Pk M K H v x) : decide (v = .non) = x.isNon := by
  rcases h with h | ⟨p, rfl, _, h⟩
  · cases x with
    | non => rw [show v = .non from h]; rfl
    | bl b => rw [show v = .bl b from h]; rfl
    | int i => rw [show v = .int i from h]; rfl
    | str z => rw [show v = .str z from h]; rfl
    | tup xs => obtain ⟨a, vs, e, _⟩ := h; rw [e]; rfl
    | lst xs => obtain ⟨a, vs, e, _⟩ := h; rw [e]; rfl
    | emp => obtain ⟨a, e, _⟩ := h; rw [e]; rfl
    | obj C ns xs => obtain ⟨a, dx, fs, e, _⟩ := h; rw [e]; rfl
    | dct ks xs => obtain ⟨a, kvs, e, _⟩ := h; rw [e]; rfl
  · cases x with
    | lst xs => rfl
    | obj C ns xs => rfl
    | dct ks xs => rfl
    | _ => exact (show False from h).elim
theorem o_isNo (g : k (.d (.bl x.isNon))) : OpD K rIsNo x .non k := fun M H u v Q tr h1 h2 q => ⟨h2.non, by rw [isNon_of h1]; exact q _ H (.d (.bl x.isNon)) (Ext.refl H) rfl g⟩
theorem o_isNotNo (g : k (.d (.bl (!x.isNon)))) : OpD K rIsNotNo x .non k := fun M H u v Q tr h1 h2 q => ⟨h2.non, by rw [isNon_of h1]; exact q _ H (.d (.bl (!x.isNon))) (Ext.refl H) rfl g⟩
theorem o_isBo (g : k (.d (.bl (decide (b = c))))) : OpD K rIsBo (.bl b) (.bl c) k := opd_val (z := .bl (decide (b = c))) (fun M H u v Q h1 h2 q => ⟨b, c, h1.bl, h2.bl, q _ rfl⟩) g
theorem o_isNotBo (g : k (.d (.bl (!decide (b = c))))) : OpD K rIsNotBo (.bl b) (.bl c) k := opd_val (z := .bl (!decide (b = c))) (fun M H u v Q h1 h2 q => ⟨b, c, h1.bl, h2.bl, q _ rfl⟩) g
theorem o_eq (hx : x.sh = true) (hy : y.sh = true) (g : k (.d (.bl (PyData.eqv x.py y.py)))) : OpD K (rEqD K) x y k := opd_val (z := .bl (PyData.eqv x.py y.py)) (fun M H u v Q h1 h2 q => ⟨_, _, h1.dp (D.sh_pln hx), h2.dp (D.sh_pln hy), D.sh_shaped hx, D.sh_shaped hy, q _ rfl⟩) g
theorem o_ne (hx : x.sh = true) (hy : y.sh = true) (g : k (.d (.bl (!PyData.eqv x.py y.py)))) : OpD K (rNeD K) x y k := opd_val (z := .bl (!PyData.eqv x.py y.py)) (fun M H u v Q h1 h2 q => ⟨_, _, h1.dp (D.sh_pln hx), h2.dp (D.sh_pln hy), D.sh_shaped hx, D.sh_shaped hy, q _ rfl⟩) g
/-- x in ds -/
def D.mem (x : D) (ds : List D) : Bool := ds.any fun z => PyData.eqv z.py x.py
theorem pyL_map : ∀ ds : List D, D.pyL ds = ds.map D.py
  | [] => rfl
  | d :: ds => by rw [D.pyL, pyL_map ds]; rfl
theorem mem_py : (D.pyL ds).any (fun z => PyData.eqv z x.py) = D.mem x ds := by
  rw [pyL_map, List.any_map]
  rfl
theorem o_inL (hx : x.sh = true) (hy : (D.lst ds).sh = true) (g : k (.d (.bl (D.mem x ds)))) : OpD K (rInU K) x (.lst ds) k := opd_val (z := .bl (D.mem x ds)) (fun M H u v Q h1 h2 q => .inl (.inl ⟨_, _, h1.dp (D.sh_pln hx), h2.dp (D.sh_pln hy), D.sh_shaped hx, D.sh_shaped hy, by rw [mem_py]; exact q _ rfl⟩)) g
theorem o_inT (hx : x.sh = true) (hy : (D.tup ds).sh = true) (g : k (.d (.bl (D.mem x ds)))) : OpD K (rInU K) x (.tup ds) k := opd_val (z := .bl (D.mem x ds)) (fun M H u v Q h1 h2 q => .inl (.inr ⟨_, _, h1.dp (D.sh_pln hx), h2.dp (D.sh_pln hy), D.sh_shaped hx, D.sh_shaped hy, by rw [mem_py]; exact q _ rfl⟩)) g
theorem o_inC {n : Nat} (g : k (.d (.bl (decide (n ∈ t.cps.toList))))) : OpD K (rInU K) (.str ⟨#[n]⟩) (.str t) k := opd_val (z := .bl (decide (n ∈ t.cps.toList))) (fun M H u v Q h1 h2 q => .inr ⟨n, t, h1.str, h2.str, q _ rfl⟩) g
theorem o_notInL (hx : x.sh = true) (hy : (D.lst ds).sh = true) (g : k (.d (.bl (!D.mem x ds)))) : OpD K (rNotInU K) x (.lst ds) k := opd_val (z := .bl (!D.mem x ds)) (fun M H u v Q h1 h2 q => .inl (.inl ⟨_, _, h1.dp (D.sh_pln hx), h2.dp (D.sh_pln hy), D.sh_shaped hx, D.sh_shaped hy, by rw [mem_py]; exact q _ rfl⟩)) g
theorem o_notInT (hx : x.sh = true) (hy : (D.tup ds).sh = true) (g : k (.d (.bl (!D.mem x ds)))) : OpD K (rNotInU K) x (.tup ds) k := opd_val (z := .bl (!D.mem x ds)) (fun M H u v Q h1 h2 q => .inl (.inr ⟨_, _, h1.dp (D.sh_pln hx), h2.dp (D.sh_pln hy), D.sh_shaped hx, D.sh_shaped hy, by rw [mem_py]; exact q _ rfl⟩)) g
theorem o_notInC {n : Nat} (g : k (.d (.bl (!decide (n ∈ t.cps.toList))))) : OpD K (rNotInU K) (.str ⟨#[n]⟩) (.str t) k := opd_val (z := .bl (!decide (n ∈ t.cps.toList))) (fun M H u v Q h1 h2 q => .inr ⟨n, t, h1.str, h2.str, q _ rfl⟩) g
/-! subscripts -/
theorem o_ixT {d : D} (e : atI ds i = some d) (g : k (.d d)) : OpD K (rIx K) (.tup ds) (.int i) k := fun M H u v Q tr h1 h2 q => by
  obtain ⟨a, vs, rfl, c1, d1⟩ := h1.tup
  obtain ⟨w, e1, e2⟩ := Pk.item (a := a) d1 e
  exact .inr (.inl ⟨a, vs, i, w, rfl, h2.int, c1, e1, q w H (.d d) (Ext.refl H) e2 g⟩)
theorem o_ixL {d : D} (e : atI ds i = some d) (g : k (.d d)) : OpD K (rIx K) (.lst ds) (.int i) k := fun M H u v Q tr h1 h2 q => by
  obtain ⟨a, vs, rfl, c1, d1⟩ := h1.lst
  obtain ⟨w, e1, e2⟩ := Pk.item (a := a) d1 e
  exact .inl ⟨a, vs, i, w, rfl, h2.int, SqL.of c1, e1, q w H (.d d) (Ext.refl H) e2 g⟩
theorem o_ixS {n : Nat} (hl : s.length ≤ sizeLine) (e : atI s.cps.toList i = some n) (g : k (.d (.str ⟨#[n]⟩))) : OpD K (rIx K) (.str s) (.int i) k := opd_val (z := .str ⟨#[n]⟩) (fun M H u v Q h1 h2 q => .inr (.inr ⟨s, i, n, h1.str, h2.int, hl, e, q _ rfl⟩)) g
end

/-! ### slices -/
section
variable {K : PySem.W.Frag} {ρ : List Ent} {k : KE} {te : TE} {tl th : TO}
def XO (K : PySem.W.Frag) (to : TO) (ρ : List Ent) (k : Option Int → List Ent → Prop) : Prop := ∀ (F : Fr) (H : Hp) (σ : L2.St) (Q : Option Int → Hp → Prop), Env K F H σ ρ → (∀ o H' ρ', Keep (hot F σ ρ) H (hot F σ ρ') H' → Env K F H' σ ρ' → k o ρ' → Q o H') → to σ H Q
theorem xo_none {ko : Option Int → List Ent → Prop} (g : ko none ρ) : XO K tNoPart ρ ko := fun F H σ Q E q => q none H ρ (Keep.refl _ _) E g
theorem xo_some {ko : Option Int → List Ent → Prop} (h : XE K te ρ fun r ρ1 => ∃ i, r = .d (.int i) ∧ ko (some i) ρ1) : XO K (tPart te) ρ ko := fun F H σ Q E q => h F H σ _ E fun v H1 r ρ1 kp R ⟨i, e, g⟩ => by
  subst e
  exact ⟨i, R.2, q (some i) H1 ρ1 (hotR.hot kp) R.1 g⟩
def SlD (K : PySem.W.Frag) (r : V → Option Int → Option Int → Hp → VK → Prop) (x : D) (lo hi : Option Int) (k : Res → Prop) : Prop := ∀ (M : Addr → Prop) (H : Hp) (u : V) (Q : VK), Tr M H → Pk M K H u x → (∀ w H' z, Ext H H' → ResV M K H H' w z → k z → Q w H') → r u lo hi H Q
theorem xe_sl {r : V → Option Int → Option Int → Hp → VK → Prop} (h : XE K te ρ fun r1 ρ1 => XO K tl ρ1 fun lo ρ2 => XO K th ρ2 fun hi ρ3 => ∃ x, peek ρ3 r1 = some x ∧ SlD K r x lo hi fun z => k z ρ3) : XE K (tSl r te tl th) ρ k := fun F H σ Q E q =>
  h F H σ _ E fun v H1 r1 ρ1 kp R1 h2 => h2 F H1 σ _ R1.env fun lo H2 ρ2 kp2 E2 h3 => h3 F H2 σ _ E2 fun hi H3 ρ3 kp3 E3 ⟨x, px, g⟩ =>
    g _ H3 v Q (hot_tr E3) (((R1.held.keep kp2).keep kp3).pk E3 px) fun w H' z e hz kz => q w H' z ρ3 (hotR.res (((hotR.hot kp).trans kp2).trans kp3) e hz) (ResV.rv E3 e hz) kz
/-- the items of a slice -/
def cutD (ds : List D) (lo hi : Option Int) : List D := (ds.drop (HT.sIx ds.length 0 lo)).take (HT.sIx ds.length ds.length hi - HT.sIx ds.length 0 lo)
theorem DaAll.cut {M : Addr → Prop} {H : Hp} {vs : List V} {ds : List D} {lo hi : Option Int} (h : DaAll M K H vs ds) : DaAll M K H (cutV vs lo hi) (cutD ds lo hi) := by
  unfold cutV cutD
  rw [h.length]
  exact (h.drop _).take _
theorem sl_T {ds : List D} {lo hi : Option Int} {kk : Res → Prop} (g : kk (.d (.tup (cutD ds lo hi)))) : SlD K (rSlU K) (.tup ds) lo hi kk := fun M H u Q tr h q => by
  have h' := h
  rcases h with h | ⟨p, _, _, h⟩
  · obtain ⟨a, vs, rfl, c1, d1⟩ := id h
    refine .inl (.inr ⟨a, vs, rfl, c1.sq, fun ⟨e1, e2⟩ => ?_, fun _ p hp => q _ _ (.d _) (Ext.new hp) (newT tr d1.cut hp) g⟩)
    have : cutD ds lo hi = ds := by
      unfold cutD
      rw [← d1.length, e1, e2, List.drop_zero, d1.length]
      simp
    rw [this] at g
    exact q _ H (.d (.tup ds)) (Ext.refl H) h g
  · exact (show False from h).elim
theorem sl_L {ds : List D} {lo hi : Option Int} {kk : Res → Prop} (g : kk (.nw (.lst (cutD ds lo hi)))) : SlD K (rSlU K) (.lst ds) lo hi kk := fun M H u Q tr h q => by
  obtain ⟨a, vs, rfl, c1, d1⟩ := h.lst
  exact .inl (.inl ⟨a, vs, rfl, SqL.of c1, fun p hp => q _ _ (.nw _) (Ext.new hp) (newL d1.cut hp) g⟩)
theorem sl_S {z : Str} {lo hi : Option Int} {kk : Res → Prop} (hl : z.length ≤ sizeLine) (g : kk (.d (.str (cutS z lo hi)))) : SlD K (rSlU K) (.str z) lo hi kk := fun M H u Q tr h q => .inr ⟨z, h.str, hl, q _ H (.d (.str (cutS z lo hi))) (Ext.refl H) rfl g⟩
end

/-! ### builtins -/
section
variable {K : PySem.W.Frag} {k : Res → Prop} {i j : Int} {b : Bool} {x y : D} {s : Str} {ds : List D}
theorem ca1 {M : Addr → Prop} {H : Hp} {us : List V} (hl : us.length = [x].length) (h : ∀ (i : Nat) (v : V) (z : D), us[i]? = some v → [x][i]? = some z → Pk M K H v z) : ∃ u, us = [u] ∧ Pk M K H u x := by
  match us, hl with
  | [u], _ => exact ⟨u, rfl, h 0 u x rfl rfl⟩
theorem ca2 {M : Addr → Prop} {H : Hp} {us : List V} (hl : us.length = [x, y].length) (h : ∀ (i : Nat) (v : V) (z : D), us[i]? = some v → [x, y][i]? = some z → Pk M K H v z) : ∃ u v, us = [u, v] ∧ Pk M K H u x ∧ Pk M K H v y := by
  match us, hl with
  | [u, v], _ => exact ⟨u, v, rfl, h 0 u x rfl rfl, h 1 v y rfl rfl⟩
def rLenU (K : PySem.W.Frag) : List V → Hp → VK → Prop := fun xs H Q => ∃ x n, xs = [x] ∧ LenV K x H n ∧ Q (.int n) H
theorem call_lenU {X : Cx} : CallR X (.builtin "len") (rLenU X.K) := call_len
theorem c_lenT (g : k (.d (.int ds.length))) : CaD K (rLenU K) [.tup ds] k := fun M H us Q tr hl h q => by
  obtain ⟨u, rfl, h1⟩ := ca1 hl h
  obtain ⟨a, vs, rfl, c1, d1⟩ := h1.tup
  exact ⟨_, ds.length, rfl, .inr ⟨vs, c1, d1.length.symm⟩, q _ H (.d (.int ds.length)) (Ext.refl H) rfl g⟩
theorem c_lenL (g : k (.d (.int ds.length))) : CaD K (rLenU K) [.lst ds] k := fun M H us Q tr hl h q => by
  obtain ⟨u, rfl, h1⟩ := ca1 hl h
  obtain ⟨a, vs, rfl, c1, d1⟩ := h1.lst
  exact ⟨_, ds.length, rfl, .inl ⟨vs, SqL.of c1, d1.length.symm⟩, q _ H (.d (.int ds.length)) (Ext.refl H) rfl g⟩
theorem c_lenS (hs : s.length ≤ sizeLine) (g : k (.d (.int s.length))) : CaD K (rLenU K) [.str s] k := fun M H us Q tr hl h q => by
  obtain ⟨u, rfl, h1⟩ := ca1 hl h
  exact ⟨_, s.length, rfl, by rw [h1.str]; exact ⟨hs, rfl⟩, q _ H (.d (.int s.length)) (Ext.refl H) rfl g⟩
def rIntU : List V → Hp → VK → Prop := fun xs H Q => (∃ i, xs = [.int i] ∧ Q (.int i) H) ∨ ∃ k, xs = [.bl k] ∧ Q (.int (if k then 1 else 0)) H
theorem call_intU {X : Cx} : CallR X (.type "int") rIntU := call_int1
theorem c_intI (g : k (.d (.int i))) : CaD K rIntU [.int i] k := fun M H us Q tr hl h q => by
  obtain ⟨u, rfl, h1⟩ := ca1 hl h
  exact .inl ⟨i, by rw [h1.int], q _ H (.d (.int i)) (Ext.refl H) rfl g⟩
theorem c_intB (g : k (.d (.int (if b then 1 else 0)))) : CaD K rIntU [.bl b] k := fun M H us Q tr hl h q => by
  obtain ⟨u, rfl, h1⟩ := ca1 hl h
  exact .inr ⟨b, by rw [h1.bl], q _ H (.d (.int (if b then 1 else 0))) (Ext.refl H) rfl g⟩
def rAbsU : List V → Hp → VK → Prop := fun xs H Q => ∃ i, xs = [.int i] ∧ Q (.int (if i < 0 then -i else i)) H
theorem call_absU {X : Cx} : CallR X (.builtin "abs") rAbsU := call_abs
theorem c_absI (g : k (.d (.int (if i < 0 then -i else i)))) : CaD K rAbsU [.int i] k := fun M H us Q tr hl h q => by
  obtain ⟨u, rfl, h1⟩ := ca1 hl h
  exact ⟨i, by rw [h1.int], q _ H (.d (.int (if i < 0 then -i else i))) (Ext.refl H) rfl g⟩
theorem bls_inv {M : Addr → Prop} {H : Hp} : ∀ {bs : List Bool} {vs : List V}, DaAll M K H vs (bs.map D.bl) → vs = bs.map V.bl
  | [], _, h => h
  | n :: ns, _, h => by
    obtain ⟨v, r, e, h1, h2⟩ := h
    rw [e, show v = V.bl n from h1, bls_inv h2]
    rfl
theorem c_all {bs : List Bool} (g : k (.d (.bl (bs.all id)))) : CaD K (rAll K) [.lst (bs.map D.bl)] k := fun M H us Q tr hl h q => by
  obtain ⟨u, rfl, h1⟩ := ca1 hl h
  obtain ⟨a, vs, rfl, c1, d1⟩ := h1.lst
  rw [bls_inv d1] at c1
  exact ⟨a, bs, rfl, SqL.of c1, q _ H (.d (.bl (bs.all id))) (Ext.refl H) rfl g⟩
theorem c_any {bs : List Bool} (g : k (.d (.bl (bs.any id)))) : CaD K (rAny K) [.lst (bs.map D.bl)] k := fun M H us Q tr hl h q => by
  obtain ⟨u, rfl, h1⟩ := ca1 hl h
  obtain ⟨a, vs, rfl, c1, d1⟩ := h1.lst
  rw [bls_inv d1] at c1
  exact ⟨a, bs, rfl, SqL.of c1, q _ H (.d (.bl (bs.any id))) (Ext.refl H) rfl g⟩
def rTupU (K : PySem.W.Frag) : List V → Hp → VK → Prop := fun xs H Q => ∃ p ys, xs = [.ref p] ∧ ((SqL K H p ys ∧ ∀ l, H l = none → Q (.ref l) (upd H l (.tup ys))) ∨ (SqT K H p ys ∧ Q (.ref p) H))
theorem call_tupU {X : Cx} : CallR X (.type "tuple") (rTupU X.K) := call_tuple_of
theorem c_tupL (g : k (.d (.tup ds))) : CaD K (rTupU K) [.lst ds] k := fun M H us Q tr hl h q => by
  obtain ⟨u, rfl, h1⟩ := ca1 hl h
  obtain ⟨a, vs, rfl, c1, d1⟩ := h1.lst
  exact ⟨a, vs, rfl, .inl ⟨SqL.of c1, fun p hp => q _ _ (.d (.tup ds)) (Ext.new hp) (newT tr d1 hp) g⟩⟩
theorem c_tupT (g : k (.d (.tup ds))) : CaD K (rTupU K) [.tup ds] k := fun M H us Q tr hl h q => by
  obtain ⟨u, rfl, h1⟩ := ca1 hl h
  rcases h1 with h1 | ⟨p, _, _, h1⟩
  · obtain ⟨a, vs, rfl, c1, d1⟩ := id h1
    exact ⟨a, vs, rfl, .inr ⟨c1.sq, q _ H (.d (.tup ds)) (Ext.refl H) h1 g⟩⟩
  · exact (show False from h1).elim
def rLstU (K : PySem.W.Frag) : List V → Hp → VK → Prop := fun xs H Q => ∃ p ys, xs = [.ref p] ∧ (SqL K H p ys ∨ SqT K H p ys) ∧ ∀ l, H l = none → Q (.ref l) (upd H l (.lst ys))
theorem call_lstU {X : Cx} : CallR X (.type "list") (rLstU X.K) := call_list_of
theorem c_lstL (g : k (.nw (.lst ds))) : CaD K (rLstU K) [.lst ds] k := fun M H us Q tr hl h q => by
  obtain ⟨u, rfl, h1⟩ := ca1 hl h
  obtain ⟨a, vs, rfl, c1, d1⟩ := h1.lst
  exact ⟨a, vs, rfl, .inl (SqL.of c1), fun p hp => q _ _ (.nw (.lst ds)) (Ext.new hp) (newL d1 hp) g⟩
theorem c_lstT (g : k (.nw (.lst ds))) : CaD K (rLstU K) [.tup ds] k := fun M H us Q tr hl h q => by
  obtain ⟨u, rfl, h1⟩ := ca1 hl h
  obtain ⟨a, vs, rfl, c1, d1⟩ := h1.tup
  exact ⟨a, vs, rfl, .inr c1, fun p hp => q _ _ (.nw (.lst ds)) (Ext.new hp) (newL d1 hp) g⟩
end

/-! ### isinstance -/
def D.tyn : D → String
  | .non => "NoneType" | .bl _ => "bool" | .int _ => "int" | .str _ => "str" | .tup _ => "tuple" | .lst _ => "list" | .emp => "dict" | .obj _ _ _ => "" | .dct _ _ => "dict"
def D.isBuiltin : D → Bool
  | .obj _ _ _ => false
  | _ => true
section
variable {K : PySem.W.Frag} {ρ : List Ent} {k : KE} {te : TE}
theorem ty_of {M : Addr → Prop} {H : Hp} {v : V} {x : D} (hx : x.isBuiltin = true) (h : Pk M K H v x) : TyX K H v (.type x.tyn) := by
  rcases h with h | ⟨p, rfl, _, h⟩
  · cases x with
    | non => rw [show v = .non from h]; exact .base .non
    | bl b => rw [show v = .bl b from h]; exact .base (.bl b)
    | int i => rw [show v = .int i from h]; exact .base (.int i)
    | str z => rw [show v = .str z from h]; exact .base (.str z)
    | tup xs =>
      obtain ⟨a, vs, e, c1, _⟩ := h
      rw [e]
      rcases c1 with ⟨_, c1 | ⟨o, c1⟩⟩ | ⟨o, its, n, c1, c2, _⟩
      · exact .base (.tup c1)
      · exact .fTuple c1
      · exact .kTuple c1 c2
    | lst xs => obtain ⟨a, vs, e, c1, _⟩ := h; rw [e]; exact .base (.lst c1.2)
    | emp => obtain ⟨a, e, _, c1⟩ := h; rw [e]; exact .base (.dK c1)
    | obj C ns xs => cases hx
    | dct ks xs =>
      obtain ⟨a, kvs, e, _, c1, _⟩ := h
      rw [e]
      exact .base (.dT c1)
  · cases x with
    | lst xs => obtain ⟨vs, c1, _⟩ := h; exact .base (.lst c1)
    | obj C ns xs => cases hx
    | dct ks xs => obtain ⟨kvs, c1, _⟩ := h; exact .base (.dT c1)
    | _ => exact (show False from h).elim
theorem xe_isi {T : String} (f : D → Bool) (hf : ∀ x : D, x.isBuiltin = true → kitB x.tyn T = some (f x)) (h : XE K te ρ fun r ρ1 => ∃ x, peek ρ1 r = some x ∧ x.isBuiltin = true ∧ k (.d (.bl (f x))) ρ1) :
    XE K (tCB (rIsi K) (tCons te (tCons (tC (.ty T)) tNil))) ρ k := fun F H σ Q E q => h F H σ _ E fun v H1 r ρ1 kp R ⟨x, px, hx, g⟩ =>
  ⟨v, .ty T, .type x.tyn, .type T, f x, rfl, .ty T, ty_of hx (R.held.pk R.env px), kit_ty (hf x hx), q _ H1 (.d (.bl (f x))) ρ1 (hotR.d (hotR.hot kp)) ⟨R.env, rfl⟩ g⟩
theorem xe_isi2 {T1 T2 : String} (f f' : D → Bool) (hf : ∀ x : D, x.isBuiltin = true → kitB x.tyn T1 = some (f x)) (hf' : ∀ x : D, x.isBuiltin = true → kitB x.tyn T2 = some (f' x))
    (h : XE K te ρ fun r ρ1 => ∃ x, peek ρ1 r = some x ∧ x.isBuiltin = true ∧ k (.d (.bl (f x || f' x))) ρ1) :
    XE K (tCB (rIsiT K) (tCons te (tCons (tTup (tCons (tC (.ty T1)) (tCons (tC (.ty T2)) tNil))) tNil))) ρ k := fun F H σ Q E q => h F H σ _ E fun v H1 r ρ1 kp R ⟨x, px, hx, g⟩ =>
  ⟨by show 2 ≤ sizeLine; decide, fun p hp => by
    have e : Ext H1 (upd H1 p (.tup [.ty T1, .ty T2])) := Ext.new hp
    have E2 := R.env.ex e
    refine ⟨v, p, [.ty T1, .ty T2], .type x.tyn, [.type T1, .type T2], f x || f' x, rfl, upd_same, .cons (.ty T1) (.cons (.ty T2) .nil), ty_of hx ((R.held.pk R.env px).ex e), ?_, q _ _ (.d (.bl (f x || f' x))) ρ1 (hotR.d ((hotR.hot kp).trans (Keep.ext e))) ⟨E2, rfl⟩ g⟩
    refine kitAny_cons (kit_ty (hf x hx)) (fun h0 => kitAny_cons (kit_ty (hf' x hx)) (fun h1 => ?_) fun h1 => ?_) fun h0 => ?_
    · rw [kitAny_nil, h0, h1] <;> rfl
    · rw [h0, h1] <;> rfl
    · rw [h0] <;> rfl⟩
end
@[reducible] def D.isTup : D → Bool
  | .tup _ => true
  | _ => false
@[reducible] def D.isLst : D → Bool
  | .lst _ => true
  | _ => false
@[reducible] def D.isStr : D → Bool
  | .str _ => true
  | _ => false
@[reducible] def D.isInt : D → Bool
  | .int _ => true
  | .bl _ => true
  | _ => false
@[reducible] def D.isBool : D → Bool
  | .bl _ => true
  | _ => false
@[reducible] def D.isDct : D → Bool
  | .emp => true
  | .dct _ _ => true
  | _ => false
theorem isi_tuple : ∀ x : D, x.isBuiltin = true → kitB x.tyn "tuple" = some x.isTup := by
  intro x h
  cases x <;> first
    | (cases h; done)
    | (simp only [D.tyn, D.isTup]; decide +kernel)
theorem isi_list : ∀ x : D, x.isBuiltin = true → kitB x.tyn "list" = some x.isLst := by
  intro x h
  cases x <;> first
    | (cases h; done)
    | (simp only [D.tyn, D.isLst]; decide +kernel)
theorem isi_str : ∀ x : D, x.isBuiltin = true → kitB x.tyn "str" = some x.isStr := by
  intro x h
  cases x <;> first
    | (cases h; done)
    | (simp only [D.tyn, D.isStr]; decide +kernel)
theorem isi_int : ∀ x : D, x.isBuiltin = true → kitB x.tyn "int" = some x.isInt := by
  intro x h
  cases x <;> first
    | (cases h; done)
    | (simp only [D.tyn, D.isInt]; decide +kernel)
theorem isi_bool : ∀ x : D, x.isBuiltin = true → kitB x.tyn "bool" = some x.isBool := by
  intro x h
  cases x <;> first
    | (cases h; done)
    | (simp only [D.tyn, D.isBool]; decide +kernel)
theorem isi_dict : ∀ x : D, x.isBuiltin = true → kitB x.tyn "dict" = some x.isDct := by
  intro x h
  cases x <;> first
    | (cases h; done)
    | (simp only [D.tyn, D.isDct]; decide +kernel)

/-! ### methods and stores of own objects -/
section
variable {K : PySem.W.Frag} {ρ : List Ent} {k : KE} {te ti : TE} {ta : TA} {i : Nat}
/-- a method of the own list x, with arguments: what it gives (data), the list behind it -/
def MtD (K : PySem.W.Frag) (r : V → List V → Hp → VK → Prop) (x : D) (xs : List D) (k : D → D → Prop) : Prop := ∀ (M : Addr → Prop) (H : Hp) (p : Addr) (us : List V) (Q : VK), M p → OwnAt M K H p x → DaAll M K H us xs →
  (∀ w o' z x', OwnAt M K (upd H p o') p x' → Da M K H w z → k z x' → Q w (upd H p o')) → r (.ref p) us H Q
theorem keep_write {F : Fr} {H : Hp} {σ : L2.St} {ρ : List Ent} {p : Addr} {o : HO} {x y : D} (he : ρ[i]? = some (.own x)) (hs : σ[i]? = some (some (.ref p))) : Keep (hot F σ ρ) H (hot F σ (ρ.set i (.own y))) (upd H p o) := fun b u n e => by
  have hp : hot F σ ρ p := .inr ⟨i, x, he, hs⟩
  refine ⟨fun z => n ?_, by rw [upd_ne fun z => n (by rw [z]; exact hp)]; exact e⟩
  rcases z with z | ⟨j, z', h1, h2⟩
  · exact .inl z
  · rcases set_get h1 with ⟨e1, _, _⟩ | ⟨_, h3⟩
    · subst e1; exact .inr ⟨j, x, he, h2⟩
    · exact .inr ⟨j, z', h3, h2⟩
theorem keep_up {F : Fr} {H : Hp} {σ : L2.St} {ρ : List Ent} {y : D} (x : D) (he : ρ[i]? = some (.own x)) : ∀ b, hot F σ (ρ.set i (.own y)) b → hot F σ ρ b := fun b z => by
  rcases z with z | ⟨j, z', h1, h2⟩
  · exact .inl z
  · rcases set_get h1 with ⟨e1, _, _⟩ | ⟨_, h3⟩
    · subst e1; exact .inr ⟨j, x, he, h2⟩
    · exact .inr ⟨j, z', h3, h2⟩
theorem xe_meth {T : String} {r : V → List V → Hp → VK → Prop} {x0 : D} (hi : ρ[i]? = some (.own x0)) (hty : ∀ M H p, OwnAt M K H p x0 → tyV K T (.ref p) H)
    (h : XA K ta ρ fun rs ρ1 => ∃ xs x, peekAll ρ1 rs = some xs ∧ (frzAll ρ1 rs)[i]? = some (.own x) ∧ MtD K r x xs fun z x' => k (.d z) ((frzAll ρ1 rs).set i (.own x'))) : XE K (tBM K T r (tVar i) ta) ρ k := fun F H σ Q E q => by
  obtain ⟨p, hs, ho⟩ := E.slot i _ hi
  refine ⟨_, hs, hty _ _ _ ho, h F H σ _ E fun vs H1 rs ρ1 kp E1 hv ⟨xs, x, px, he, g⟩ => ?_⟩
  obtain ⟨E2, d2, k2⟩ := HeldAll.frz E1 hv px
  obtain ⟨p', hs', ho2⟩ := E2.slot i _ he
  rw [hs] at hs'
  cases hs'
  have hp : hot F σ (frzAll ρ1 rs) p := .inr ⟨i, x, he, hs⟩
  refine g _ H1 p vs Q hp ho2 d2 fun w o' z x' ho' hw kz => ?_
  have E3 := E2.write he hs ho'
  have k3 : Keep (hot F σ (frzAll ρ1 rs)) H1 (hot F σ ((frzAll ρ1 rs).set i (.own x'))) (upd H1 p o') := keep_write he hs
  exact q w _ (.d z) _ (hotR.d ((kp.trans k2).trans k3)) ⟨E3, hw.mono k3⟩ kz
theorem xe_meth0 {T : String} {r : V → List V → Hp → VK → Prop} {x : D} (hi : ρ[i]? = some (.own x)) (hty : ∀ M H p, OwnAt M K H p x → tyV K T (.ref p) H)
    (g : MtD K r x [] fun z x' => k (.d z) (ρ.set i (.own x'))) : XE K (tBM0 K T r (tVar i)) ρ k := fun F H σ Q E q => by
  obtain ⟨p, hs, ho⟩ := E.slot i _ hi
  have hp : hot F σ ρ p := .inr ⟨i, x, hi, hs⟩
  refine ⟨_, hs, hty _ _ _ ho, g _ H p [] Q hp ho rfl fun w o' z x' ho' hw kz => ?_⟩
  have E3 := E.write hi hs ho'
  have k3 : Keep (hot F σ ρ) H (hot F σ (ρ.set i (.own x'))) (upd H p o') := keep_write hi hs
  exact q w _ (.d z) _ (hotR.d k3) ⟨E3, hw.mono k3⟩ kz
theorem ty_list {ds : List D} {M : Addr → Prop} {H : Hp} {p : Addr} (h : OwnAt M K H p (.lst ds)) : tyV K "list" (.ref p) H := by
  obtain ⟨vs, h1, _⟩ := h
  exact .inl ⟨rfl, vs, SqL.of h1⟩
theorem ty_dict {ks : List (List Key)} {ds : List D} {M : Addr → Prop} {H : Hp} {p : Addr} (h : OwnAt M K H p (.dct ks ds)) : tyV K "dict" (.ref p) H := by
  obtain ⟨kvs, h1, _⟩ := h
  exact .inr (.inr (.inl ⟨rfl, .inr ⟨kvs, h1⟩⟩))
theorem ownL {M : Addr → Prop} {H : Hp} {p : Addr} {vs : List V} {ds : List D} (hp : M p) (d : DaAll M K H vs ds) : OwnAt M K (upd H p (.lst vs)) p (.lst ds) :=
  ⟨vs, upd_same, d.mono fun b o n e => ⟨n, by rw [upd_ne fun z => n (by rw [z]; exact hp)]; exact e⟩⟩
theorem m_append {ds : List D} {y : D} {kk : D → D → Prop} (hl : ds.length < sizeLine) (g : kk .non (.lst (ds ++ [y]))) : MtD K rAppend (.lst ds) [y] kk := fun M H p us Q mp ⟨vs, h1, d1⟩ hu q => by
  obtain ⟨u, rfl, h2⟩ := da1 hu
  exact ⟨p, vs, u, rfl, rfl, h1, by rw [d1.length]; exact hl, q .non _ .non _ (ownL mp (d1.append (DaAll.one h2))) rfl g⟩
theorem m_extend {ds es : List D} {kk : D → D → Prop} (hl : ds.length + es.length ≤ sizeLine) (g : kk .non (.lst (ds ++ es))) : MtD K rExtend (.lst ds) [.lst es] kk := fun M H p us Q mp ⟨vs, h1, d1⟩ hu q => by
  obtain ⟨u, rfl, h2⟩ := da1 hu
  obtain ⟨a, ws, rfl, c2, d2⟩ := h2
  exact ⟨p, a, vs, ws, rfl, rfl, h1, c2.2, by rw [d1.length, d2.length]; exact hl, q .non _ .non _ (ownL mp (d1.append d2)) rfl g⟩
theorem seqIx {n : Nat} {i : Int} (h0 : 0 ≤ i) (h1 : i < n) : seqIndex? i n = some i.toNat := PySem.StrLaws.seqIndex_nonneg h0 h1
theorem m_popAt {ds : List D} {j : Int} {y : D} {kk : D → D → Prop} (h0 : 0 ≤ j) (h1 : j < 2 ^ 63) (hy : ds[j.toNat]? = some y) (g : kk y (.lst (ds.eraseIdx j.toNat))) : MtD K rPopAt (.lst ds) [.int j] kk := fun M H p us Q mp ⟨vs, h2, d1⟩ hu q => by
  obtain ⟨u, rfl, h3⟩ := da1 hu
  obtain ⟨w, e1, e2⟩ := d1.at hy
  have hl : j.toNat < vs.length := (List.getElem?_eq_some_iff.mp e1).1
  exact ⟨p, vs, j, j.toNat, w, rfl, by rw [show u = V.int j from h3], h2, by omega, h1, seqIx h0 (by omega), e1, q w _ y _ (ownL mp (d1.eraseIdx _)) e2 g⟩
theorem m_pop {ds : List D} {y : D} {kk : D → D → Prop} (hy : ds[ds.length - 1]? = some y) (g : kk y (.lst (ds.take (ds.length - 1)))) : MtD K rPop (.lst ds) [] kk := fun M H p us Q mp ⟨vs, h2, d1⟩ hu q => by
  have : us = [] := hu
  subst this
  obtain ⟨w, e1, e2⟩ := d1.at hy
  refine ⟨p, vs, w, rfl, rfl, h2, by rw [d1.length]; exact e1, q w _ y _ (ownL mp ?_) e2 g⟩
  rw [List.dropLast_eq_take, d1.length]
  exact d1.take _
/-- own[i] = e -/
theorem xs_setix {Φ : Post} {i : Nat} (h : XE K te ρ fun r ρ1 => ∃ y, peek ρ1 r = some y ∧ ∃ x0, (frz ρ1 r)[i]? = some (.own x0) ∧ XE K ti (frz ρ1 r) fun r2 ρ2 => ∃ (j : Int) (ds : List D), r2 = .d (.int j) ∧ ρ2[i]? = some (.own (.lst ds)) ∧ ∃ n, ixN ds.length j = some n ∧
    Φ.nx (ρ2.set i (.own (.lst (ds.set n y))))) : XS K (tAsg te (gSub (tVar i) ti rSetL)) ρ Φ := fun F H σ Dn E I => h F H σ _ E fun v H1 r ρ1 kp R ⟨y, py, x0, he0, h2⟩ => by
  obtain ⟨E1, d1⟩ := R.frz py
  obtain ⟨p, hs, ho⟩ := E1.slot i _ he0
  refine ⟨_, hs, h2 F H1 σ _ E1 fun w H2 r2 ρ2 kp2 R2 ⟨j, ds, e2, he, n, hn, g⟩ => ?_⟩
  subst e2
  obtain ⟨E2, hw⟩ := R2
  obtain ⟨p', hs', vs, ho1, ho2⟩ := E2.slot i _ he
  rw [hs] at hs'
  cases hs'
  have hp : hot F σ ρ2 p := .inr ⟨i, _, he, hs⟩
  have k1 := ((hotR.hot kp).trans (keep_frz R.env)).trans (hotR.hot kp2)
  refine ⟨p, vs, j, n, rfl, hw, ho1, by rw [ho2.length]; exact hn, ?_⟩
  have ho' : OwnAt (hot F σ ρ2) K (upd H2 p (.lst (vs.set n v))) p (.lst (ds.set n y)) := ownL hp (ho2.set (d1.mono (hotR.hot kp2)))
  exact I.nx _ _ _ (k1.trans (keep_write he hs)) (E2.write he hs ho') g
end
end PW
end
section
/-! PW: the rules in the forms that a tactic walks by: each new environment is told by an equation. -/
namespace PW
open PySem PySem.Spec PyProof.Rows L2

theorem hu64 {k : Nat} {A : Around} (r : Room k A) : A.units + 64 < cLine := r.units
theorem hu65 {k : Nat} {A : Around} (r : Room k A) : A.units + 65 < cLine := by have := r.un; omega
theorem len_w {K : PySem.W.Frag} {w : WF} {vs : List V} {H : Hp} {Q : VK} {E : XK} {n : Nat} (h : spW K w vs H Q E) (hl : ∀ ds kk, w ds kk → ds.length = n) : vs.length = n := by
  obtain ⟨M, ds, kk, _, d, hw, _⟩ := h
  rw [d.length]
  exact hl ds kk hw
theorem len_h {K : PySem.W.Frag} {w : WF} {vs : List V} {H : Hp} {Q : VK} {E : XK} {n : Nat} (h : spH K w vs H Q E) (hl : ∀ ds kk, w ds kk → ds.length + 1 = n) : vs.length = n := by
  obtain ⟨M, a, ws, ds, kk, rfl, _, _, _, d, hw, _⟩ := h
  rw [List.length_cons, d.length]
  exact hl ds kk hw

section
variable {K : PySem.W.Frag} {ρ : List Ent} {k : KE} {ta tb tc te ti : TE} {i j : Nat} {x : D} {Φ : Post} {t u : TS} {wi : TI}
theorem ys_asg (h : XE K te ρ fun r ρ' => ∃ ρ2, sto ρ' j r = ρ2 ∧ Φ.nx ρ2) : XS K (tAsg te (gName j)) ρ Φ := xs_asg (xe_mono h fun r ρ' ⟨_, e, g⟩ => by rw [e]; exact g)
theorem ys_asgG {g : TG} (h : XE K te ρ fun r ρ1 => ∃ x, peek ρ1 r = some x ∧ ∃ ρ2, frz ρ1 r = ρ2 ∧ XG K g x ρ2 Φ.nx) : XS K (tAsg te g) ρ Φ := xs_asgG (xe_mono h fun r ρ1 ⟨x, p, ρ2, e, g⟩ => ⟨x, p, by rw [e]; exact g⟩)
theorem yg_name {d : D} {kk : List Ent → Prop} (h : ∃ ρ2, ρ.set j (.d d) = ρ2 ∧ kk ρ2) : XG K (gName j) d ρ kk := by
  obtain ⟨_, e, g⟩ := h
  exact xg_name (by rw [e]; exact g)
theorem ys_ret (h : XE K te ρ fun r ρ' => back ρ' r Φ.rt) : XS K (tRet te) ρ Φ := xs_ret h
theorem back_d {kk : Res → List Ent → Prop} (g : kk (.d x) ρ) : back ρ (.d x) kk := g
theorem back_nw {kk : Res → List Ent → Prop} (g : kk (.nw x) ρ) : back ρ (.nw x) kk := g
theorem back_v {kk : Res → List Ent → Prop} (h : ρ[i]? = some (.own x)) (g : ∃ ρ2, ρ.set i .u = ρ2 ∧ kk (.nw x) ρ2) : back ρ (.v i) kk := by
  obtain ⟨_, e, g⟩ := g
  show backE ρ i kk ρ[i]?
  rw [h]
  show kk (.nw x) (ρ.set i .u)
  rw [e]
  exact g
theorem ye_tup {t : TA} (h : XA K t ρ fun rs ρ1 => ∃ xs, peekAll ρ1 rs = some xs ∧ xs.length ≤ sizeLine ∧ ∃ ρ2, frzAll ρ1 rs = ρ2 ∧ k (.d (.tup xs)) ρ2) : XE K (tTup t) ρ k :=
  xe_tup fun F H σ Q E q => h F H σ Q E fun vs H' rs ρ' a b c ⟨xs, p, l, ρ2, e, g⟩ => q vs H' rs ρ' a b c ⟨xs, p, l, by rw [e]; exact g⟩
theorem ye_lst {t : TA} (h : XA K t ρ fun rs ρ1 => ∃ xs, peekAll ρ1 rs = some xs ∧ xs.length ≤ sizeLine ∧ ∃ ρ2, frzAll ρ1 rs = ρ2 ∧ k (.nw (.lst xs)) ρ2) : XE K (tLst t) ρ k :=
  xe_lst fun F H σ Q E q => h F H σ Q E fun vs H' rs ρ' a b c ⟨xs, p, l, ρ2, e, g⟩ => q vs H' rs ρ' a b c ⟨xs, p, l, by rw [e]; exact g⟩
theorem ye_call {w : WF} {E : XK} {t : TA} (h : XA K t ρ fun rs ρ1 => ∃ xs, peekAll ρ1 rs = some xs ∧ ∃ ρ2, frzAll ρ1 rs = ρ2 ∧ w xs fun z => k z ρ2) : XE K (tCall (spW K w) [] E t) ρ k :=
  xe_call fun F H σ Q E q => h F H σ Q E fun vs H' rs ρ' a b c ⟨xs, p, ρ2, e, g⟩ => q vs H' rs ρ' a b c ⟨xs, p, by rw [e]; exact g⟩
theorem ye_callH {w : WF} {E : XK} {t : TA} (hi : ρ[i]? = some .hand) (h : XA K t ρ fun rs ρ1 => ∃ xs, peekAll ρ1 rs = some xs ∧ ∃ ρ2, frzAll ρ1 rs = ρ2 ∧ w xs fun z => k z ρ2) : XE K (tCallH (spH K w) E i t) ρ k :=
  xe_callH hi fun F H σ Q E q => h F H σ Q E fun vs H' rs ρ' a b c ⟨xs, p, ρ2, e, g⟩ => q vs H' rs ρ' a b c ⟨xs, p, by rw [e]; exact g⟩
theorem yi_seq {kk : List D → List Ent → Prop} (h : XE K te ρ fun r ρ1 => ∃ x ds, peek ρ1 r = some x ∧ itemsD x = some ds ∧ ∃ ρ2, frz ρ1 r = ρ2 ∧ kk ds ρ2) : XI K (iSeq K te) ρ kk :=
  xi_seq (xe_mono h fun r ρ1 ⟨x, ds, p, e, ρ2, e2, g⟩ => ⟨x, ds, p, e, by rw [e2]; exact g⟩)
/-- xs.append(e) and its like: the value is dropped -/
theorem ye_meth {T : String} {ta : TA} {r : V → List V → Hp → VK → Prop} {x0 : D} (hi : ρ[i]? = some (.own x0)) (hty : ∀ M H p, OwnAt M K H p x0 → tyV K T (.ref p) H)
    (h : XA K ta ρ fun rs ρ1 => ∃ xs x, peekAll ρ1 rs = some xs ∧ ∃ ρ2, frzAll ρ1 rs = ρ2 ∧ ρ2[i]? = some (.own x) ∧ MtD K r x xs fun z x' => ∃ ρ3, ρ2.set i (.own x') = ρ3 ∧ k (.d z) ρ3) : XE K (tBM K T r (tVar i) ta) ρ k :=
  xe_meth hi hty fun F H σ Q E q => h F H σ Q E fun vs H' rs ρ' a b c ⟨xs, x, p, ρ2, e, e2, g⟩ => q vs H' rs ρ' a b c ⟨xs, x, p, by rw [e]; exact e2, by
    rw [e]
    exact fun M H p us Q m o d q => g M H p us Q m o d fun w o' z x' a b ⟨ρ3, e3, c⟩ => q w o' z x' a b (by subst e3; exact c)⟩
theorem ye_meth0 {T : String} {r : V → List V → Hp → VK → Prop} {x : D} (hi : ρ[i]? = some (.own x)) (hty : ∀ M H p, OwnAt M K H p x → tyV K T (.ref p) H)
    (g : MtD K r x [] fun z x' => ∃ ρ3, ρ.set i (.own x') = ρ3 ∧ k (.d z) ρ3) : XE K (tBM0 K T r (tVar i)) ρ k :=
  xe_meth0 hi hty fun M H p us Q m o d q => g M H p us Q m o d fun w o' z x' a b ⟨ρ3, e3, c⟩ => q w o' z x' a b (by subst e3; exact c)
theorem ys_setix (h : XE K te ρ fun r ρ1 => ∃ y, peek ρ1 r = some y ∧ ∃ ρ', frz ρ1 r = ρ' ∧ ∃ x0, ρ'[i]? = some (.own x0) ∧ XE K ti ρ' fun r2 ρ2 => ∃ (j : Int) (ds : List D), r2 = .d (.int j) ∧ ρ2[i]? = some (.own (.lst ds)) ∧ ∃ n, ixN ds.length j = some n ∧
    ∃ ρ3, ρ2.set i (.own (.lst (ds.set n y))) = ρ3 ∧ Φ.nx ρ3) : XS K (tAsg te (gSub (tVar i) ti rSetL)) ρ Φ :=
  xs_setix (xe_mono h fun r ρ1 ⟨y, p, ρ', e, x0, e0, g⟩ => ⟨y, p, x0, by rw [e]; exact e0, by
    rw [e]
    exact xe_mono g fun r2 ρ2 ⟨j, ds, a, b, n, c, ρ3, e3, d⟩ => ⟨j, ds, a, b, n, c, by rw [e3]; exact d⟩⟩)
/-- a comprehension whose test and element neither draw nor change anything: f tells what each item gives -/
theorem xt_yes {kb : Bool → List Ent → Prop} (g : kb true ρ) : XT K tYes ρ kb := fun F H σ Q E q => q true H ρ (Keep.refl _ _) E g
end

/-! ### negation, several targets -/
def rNegI : V → Hp → VK → Prop := rU fun i => .int (-i)
theorem un_negU {X : Cx} : UnR X (unaryOp .USub) rNegI := un_neg
theorem u_neg {K : PySem.W.Frag} {n : Int} {kk : Res → Prop} (g : kk (.d (.int (-n)))) : UnD K rNegI (.int n) kk := fun M H u Q tr h q => ⟨n, h.int, q _ H (.d (.int (-n))) (Ext.refl H) rfl g⟩
section
variable {K : PySem.W.Frag} {ρ : List Ent} {k : KE} {Φ : Post}
theorem ye_emp (g : k (.d .emp) ρ) : XE K tDNewK ρ k := fun F H σ Q E q p hp => by
  have e : Ext H (upd H p (.dK [])) := Ext.new hp
  have z : ResV (hot F σ ρ) K H (upd H p (.dK [])) (.ref p) (.d .emp) := ⟨p, rfl, fun z => E.hotTrk p z hp, upd_same⟩
  exact q _ _ (.d .emp) ρ (hotR.res (Keep.refl _ _) e z) (ResV.rv E e z) g

/-! several targets: each value is stored as it is (a new object is the slot's own) -/
def sets (σ : L2.St) : List Nat → List V → L2.St
  | j :: js, v :: vs => (sets σ js vs).set j (some v)
  | _, _ => σ
def XM (K : PySem.W.Frag) (ta : TA) (js : List Nat) (ρ : List Ent) (k : List Ent → Prop) : Prop := ∀ (F : Fr) (H : Hp) (σ : L2.St) (Q : List V → Hp → Prop), Env K F H σ ρ →
  (∀ vs H' ρ', vs.length = js.length → Keep (hot F σ ρ) H (hot F (sets σ js vs) ρ') H' → Env K F H' (sets σ js vs) ρ' → k ρ' → Q vs H') → ta σ H Q
theorem xm_nil {kk : List Ent → Prop} (g : kk ρ) : XM K tNil [] ρ kk := fun F H σ Q E q => q [] H ρ rfl (Keep.refl _ _) E g
theorem xm_cons {te : TE} {ta : TA} {j : Nat} {js : List Nat} {kk : List Ent → Prop} (h : XE K te ρ fun r ρ1 => (∀ i, r ≠ .v i) ∧ XM K ta js ρ1 fun ρ2 => ∃ ρ3, ρ2.set j r.ent = ρ3 ∧ kk ρ3) : XM K (tCons te ta) (j :: js) ρ kk := fun F H σ Q E q =>
  h F H σ _ E fun v H1 r ρ1 kp R ⟨n, h2⟩ => by
    cases r with
    | v i => exact absurd rfl (n i)
    | d x =>
      refine h2 F H1 σ _ R.1 fun vs H2 ρ2 hl kp2 E2 ⟨ρ3, e, g⟩ => ?_
      subst e
      refine q (v :: vs) H2 _ (by rw [List.length_cons, List.length_cons, hl]) ?_ (E2.setD (R.2.mono kp2)) g
      have k12 := (hotR.hot kp).trans kp2
      exact fun b o m e => ⟨fun z => (k12 b o m e).1 (hot_setD z), (k12 b o m e).2⟩
    | nw x =>
      obtain ⟨p, rfl, h0, nh, Ep, ho⟩ := R
      obtain ⟨o, hpo⟩ := Option.ne_none_iff_exists'.mp ho.there
      have hh : ∀ a, F.hd = some a → F.H0 a ≠ none := fun a e => (E.hand a e).2.1
      have nd : F.hd ≠ some p := fun z => (hh p z) h0
      refine h2 (F.pin p o) H1 σ _ (Ep.pin h0 hpo) fun vs H2 ρ2 hl kp2 E2 ⟨ρ3, e, g⟩ => ?_
      subst e
      have nM : ¬ F.M p := fun z => nh (.inl z)
      have np : ¬ hot F (sets σ js vs) ρ2 p := fun z => by
        rcases z with z | ⟨i, y, z1, z2⟩
        · exact nM z
        · exact (E2.new i y p z1 z2).2 (.inr rfl)
      have hp2 : H2 p = some o := E2.go p o nd upd_same
      have ho2 : OwnAt (hot (F.push p) (sets σ js vs) ρ2) K H2 p x := ho.mono kp2 fun u z => by rw [hpo] at z; cases z; exact hp2
      refine q (.ref p :: vs) H2 _ (by rw [List.length_cons, List.length_cons, hl]) ?_ ((E2.unpin h0 hh).setNew h0 np ho2) g
      intro b u m e
      obtain ⟨g1, g2⟩ := kp b u m e
      have g1' : ¬ hot (F.pin p o) σ ρ1 b := fun z => g1 (by
        rcases z with z | z
        · rcases z with z | z
          · exact .inl (.inl z)
          · rw [z]; exact .inr ⟨⟨x, rfl⟩, rfl⟩
        · exact .inl (.inr z))
      obtain ⟨g3, g4⟩ := kp2 b u g1' g2
      refine ⟨fun z => g3 ?_, g4⟩
      rcases z with z | ⟨i, y, z1, z2⟩
      · exact .inl (.inl z)
      · rcases set_get z1 with ⟨e1, _, e3⟩ | ⟨n', z3⟩
        · subst e1
          rw [show sets σ (i :: js) (V.ref p :: vs) = (sets σ js vs).set i (some (.ref p)) from rfl, List.getElem?_set_self (by rw [E2.len]; exact e3)] at z2
          cases z2
          exact .inl (.inr rfl)
        · rw [show sets σ (j :: js) (V.ref p :: vs) = (sets σ js vs).set j (some (.ref p)) from rfl, List.getElem?_set_ne (Ne.symm n')] at z2
          exact .inr ⟨i, y, z3, z2⟩
theorem ys_par {i j : Nat} {ta : TA} (hij : i ≠ j) (h : XM K ta [i, j] ρ Φ.nx) : XS K (tPar i j ta) ρ Φ := fun F H σ Dn E I =>
  h F H σ _ E fun vs H1 ρ1 hl kp E1 g => by
    match vs, hl with
    | [v, w], _ =>
      refine ⟨v, w, rfl, ?_⟩
      have e : sets σ [i, j] [v, w] = (σ.set i (some v)).set j (some w) := by
        show (σ.set j (some w)).set i (some v) = _
        rw [List.set_comm _ _ hij]
      rw [e] at kp E1
      exact I.nx H1 _ ρ1 kp E1 g
theorem sets3 {σ : L2.St} {i j l : Nat} {u v w : V} (hij : i ≠ j) (hil : i ≠ l) (hjl : j ≠ l) : sets σ [i, j, l] [u, v, w] = ((σ.set i (some u)).set j (some v)).set l (some w) := by
  show ((σ.set l (some w)).set j (some v)).set i (some u) = _
  rw [List.set_comm _ _ (Ne.symm hjl), List.set_comm _ _ (Ne.symm hil), List.set_comm _ _ (Ne.symm hij)]
theorem ys_par3 {i j l : Nat} {ta : TA} (hij : i ≠ j) (hil : i ≠ l) (hjl : j ≠ l) (h : XM K ta [i, j, l] ρ Φ.nx) : XS K (tPar3 i j l ta) ρ Φ := fun F H σ Dn E I =>
  h F H σ _ E fun vs H1 ρ1 hl kp E1 g => by
    match vs, hl with
    | [u, v, w], _ =>
      refine ⟨u, v, w, rfl, ?_⟩
      rw [sets3 hij hil hjl] at kp E1
      exact I.nx H1 _ ρ1 kp E1 g
/-- a, b = x, y by a tuple that is made and taken apart -/
theorem ys_unp2 {i j : Nat} {ta : TA} (hij : i ≠ j) (h : XM K ta [i, j] ρ Φ.nx) : XS K (tAsg (tTup ta) (gTup K 2 (gCons (gName i) (gCons (gName j) gNil)))) ρ Φ := fun F H σ Dn E I =>
  h F H σ _ E fun vs H1 ρ1 hl kp E1 g => by
    match vs, hl with
    | [v, w], _ =>
      refine ⟨by show 2 ≤ sizeLine; decide, fun p hp => ⟨p, [v, w], rfl, SqT.of upd_same, rfl, v, [w], rfl, w, [], rfl, rfl, ?_⟩⟩
      have e : sets σ [i, j] [v, w] = (σ.set i (some v)).set j (some w) := by
        show (σ.set j (some w)).set i (some v) = _
        rw [List.set_comm _ _ hij]
      rw [e] at kp E1
      have x : Ext H1 (upd H1 p (.tup [v, w])) := Ext.new hp
      exact I.nx _ _ ρ1 (kp.trans (Keep.ext x)) (E1.ex x) g
theorem ys_unp3 {i j l : Nat} {ta : TA} (hij : i ≠ j) (hil : i ≠ l) (hjl : j ≠ l) (h : XM K ta [i, j, l] ρ Φ.nx) : XS K (tAsg (tTup ta) (gTup K 3 (gCons (gName i) (gCons (gName j) (gCons (gName l) gNil))))) ρ Φ := fun F H σ Dn E I =>
  h F H σ _ E fun vs H1 ρ1 hl kp E1 g => by
    match vs, hl with
    | [u, v, w], _ =>
      refine ⟨by show 3 ≤ sizeLine; decide, fun p hp => ⟨p, [u, v, w], rfl, SqT.of upd_same, rfl, u, [v, w], rfl, v, [w], rfl, w, [], rfl, rfl, ?_⟩⟩
      rw [sets3 hij hil hjl] at kp E1
      have x : Ext H1 (upd H1 p (.tup [u, v, w])) := Ext.new hp
      exact I.nx _ _ ρ1 (kp.trans (Keep.ext x)) (E1.ex x) g
theorem ys_aug {i : Nat} {te : TE} {f : Int → Int → Int} {a : Int} (hi : ρ[i]? = some (.d (.int a))) (h : XE K te ρ fun r ρ1 => ∃ b, r = .d (.int b) ∧ ∃ ρ2, ρ1.set i (.d (.int (f a b))) = ρ2 ∧ Φ.nx ρ2) : XS K (tAug i te (ipI f)) ρ Φ := fun F H σ Dn E I => by
  obtain ⟨v, hs, hv⟩ := E.slot i _ hi
  have ev : v = .int a := hv
  refine ⟨v, hs, h F H σ _ E fun w H1 r ρ1 kp R ⟨b, er, ρ2, e, g⟩ => ?_⟩
  subst er e
  obtain ⟨E1, hw⟩ := R
  refine ⟨a, b, ev, hw, ?_⟩
  have k1 := hotR.hot kp
  exact I.nx H1 _ _ (fun c o m e => ⟨fun z => (k1 c o m e).1 (hot_setD z), (k1 c o m e).2⟩) (E1.setD (x := .int (f a b)) rfl) g
end

/-! ### what a comprehension's targets are -/
theorem own_name {j : Nat} : OwnSlots (gName j) [j] := fun σ v H Q h => by
  have e : wipe (σ.set j (some v)) [j] = wipe σ [j] := by
    show (σ.set j (some v)).set j none = σ.set j none
    rw [List.set_set]
  exact ⟨e, h e⟩
theorem wipe1 {j : Nat} (σ : L2.St) : wipe (wipe σ [j]) [j] = wipe σ [j] := by
  show (σ.set j none).set j none = σ.set j none
  rw [List.set_set]
theorem wipe2 {i j : Nat} (h : i ≠ j) (σ : L2.St) : wipe (wipe σ [i, j]) [i, j] = wipe σ [i, j] := by
  show ((((σ.set j none).set i none)).set j none).set i none = (σ.set j none).set i none
  have e : ∀ l : L2.St, (l.set i none).set j none = (l.set j none).set i none := fun l => List.set_comm _ _ h
  rw [e, List.set_set, List.set_set]
theorem own_pair {K : PySem.W.Frag} {i j : Nat} (hij : i ≠ j) : OwnSlots (gTup K 2 (gCons (gName i) (gCons (gName j) gNil))) [i, j] := fun σ v H Q h => by
  obtain ⟨a, xs, e, hq, hl, v1, r1, e1, v2, r2, e2, e3, q⟩ := h
  have ew : wipe ((σ.set i (some v1)).set j (some v2)) [i, j] = wipe σ [i, j] := by
    show (((σ.set i (some v1)).set j (some v2)).set j none).set i none = (σ.set j none).set i none
    rw [List.set_set, List.set_comm _ _ (Ne.symm hij), List.set_set]
    rw [List.set_comm _ _ hij]
  exact ⟨a, xs, e, hq, hl, v1, r1, e1, v2, r2, e2, e3, ew, q ew⟩
end PW
end
section
/-! PW: more that is walked: texts, enumerate of a list or a tuple, zip; list(range(..)); a tuple turned round. -/
namespace PySem
open Sem (wp)
set_option maxHeartbeats 1000000 in
theorem meets_enumerate_new1B {v : Value} {o : Obj} {H : Heap → Prop} (B : Begins v o H) :
    Meets (Builtin.«enumerate.__new__» ⟨[.type "enumerate", v], []⟩) (fun _ R s => H s.heap ∧
      R (.ok (.ret (.ref (s.heap.push o).objs.size))) { s with heap := (s.heap.push o).push { cls := .type "enumerate", data := .fields #[.none, .bool false, .ref s.heap.objs.size, rawInt 0, .none, .none] } }) :=
  .of_wp fun prog w A R s h => by
    obtain ⟨hp, g, d, tk, os⟩ := s; obtain ⟨h1, h⟩ := h
    have hsub := sub_enumerate
    have q1 : ∀ {A' : Around} {E : Value → Shared → Prop} {Q : Value → Shared → Prop}, Q (.ref hp.objs.size) ⟨hp.push o, g, d, tk, os⟩ → wpAny (model prog w) A' (pyIter v) Q E ⟨hp, g, d, tk, os⟩ :=
      fun q => B.iter prog w _ _ ⟨hp, g, d, tk, os⟩ _ h1 q
    wp_walk using q1
    refine wpAny_stack_any fun st => wpAny_pure ?_
    split
    · rename_i c _ _ _ _ _
      cases (c == Value.type "enumerate")
      · wp_walk using q1
        exact ⟨_, rfl, h⟩
      · wp_walk using q1
        exact ⟨_, rfl, h⟩
    · wp_walk using q1
      exact ⟨_, rfl, h⟩
section
variable {prog : Program} {w : World} {A : Around} {E : Value → Shared → Prop} {s : Shared}
theorem enum_begins1 {v : Value} {o : Obj} {H : Heap → Prop} {Q : Value → Shared → Prop} (B : Begins v o H) (h1 : H s.heap)
    (h : ∀ h', IsEnum h' (s.heap.objs.size + 1) s.heap.objs.size 0 .none → h'.get? s.heap.objs.size = some o → h'.objs.size = s.heap.objs.size + 2 →
      (∀ b o, s.heap.get? b = some o → h'.get? b = some o) → Q (.ref (s.heap.objs.size + 1)) { s with heap := h' }) :
    wpAny (model prog w) A (call (.type "enumerate") [v]) Q E s := by
  refine callType_new F.called_enumerate (by decide) (F.typeCall_enumerate_1 _) (F.newCall_enumerate_1 _) (fun obj => F.args_object_init_2 obj _) F.entry_enumerate_new
    (meets_enumerate_new1B B) ⟨h1, ?_⟩
  have hz : (s.heap.push o).objs.size = s.heap.objs.size + 1 := Heap.size_push ..
  show _ ∧ _
  rw [hz]
  have he : IsEnum ((s.heap.push o).push { cls := .type "enumerate", data := .fields #[.none, .bool false, .ref s.heap.objs.size, rawInt 0, .none, .none] }) (s.heap.objs.size + 1) s.heap.objs.size 0 .none := by
    have := Heap.get?_push_size (s.heap.push o) (o := { cls := .type "enumerate", data := .fields #[.none, .bool false, .ref s.heap.objs.size, rawInt 0, .none, .none] }) rfl
    rw [hz] at this; exact this
  refine ⟨⟨_, he, rfl⟩, h _ he (Heap.get?_push_of_some _ (Heap.get?_push_size _ B.free)) (by rw [Heap.size_push, hz]) fun b o x => Heap.get?_push_of_some _ (Heap.get?_push_of_some _ x)⟩
end
end PySem

namespace PW
open PySem PySem.Spec PyProof.Rows L2

/-! ### enumerate(tuple) -/
def Itet (K : PySem.W.Frag) (a : Addr) : It :=
  ⟨fun i H => ∃ (xs : List V) (x : V), SqT K H a xs ∧ xs[i]? = some x, fun i H v H' => ∃ T x, v = .ref T ∧ H T = none ∧ H' = upd H T (.tup [.int (i : Nat), x]) ∧ ∀ xs, SqT K H a xs → xs[i]? = some x, fun i H => ∃ xs : List V, SqT K H a xs ∧ xs.length ≤ i⟩
theorem turn_enumT {P : Program} {w : World} {K : PySem.W.Frag} {elts : List Expr} {kk : Nat} {tpos : Pos} (a e it : Addr) :
    Turn P w K (.Tuple elts kk tpos) (Itet K a) [e, it] e (fun i h => (∃ old, IsEnum h e it ((i : Nat) : Int) old) ∧ h.IsTupleIter it a i ∧ e ≠ it ∧ e ≠ a ∧ a ≠ it) where
  mem := by simp
  obj := fun i h st b hb => by
    obtain ⟨⟨old, he⟩, ⟨o, ho, hc, hd⟩, _⟩ := st
    have e' : b = e ∨ b = it := by simpa using hb
    rcases e' with z | z
    · rw [z]; exact ⟨_, he, fun v q => nomatch q⟩
    · rw [z]; exact ⟨o, ho, fun v q => by rw [hd] at q; cases q⟩
  keep := fun i h h' st k => let ⟨⟨old, he⟩, hi, hne⟩ := st; ⟨⟨old, k e (by simp) _ he⟩, hi.at fun o q => k it (by simp) o q, hne⟩
  item := by
    intro X hP hw hK hc i pins s σ H E I hf st hg
    subst hP hw hK
    obtain ⟨⟨old, he⟩, hit, hne, hea, hai⟩ := st
    obtain ⟨xs, x, hq, hx⟩ := hg
    obtain ⟨its, rv, p, hz⟩ := I.tuple hq
    obtain ⟨u, hu, ru⟩ := rv.get hx
    have hel : e < s.heap.objs.size := Heap.lt_size he
    have hil : it < s.heap.objs.size := by obtain ⟨_, q, _⟩ := hit; exact Heap.lt_size q
    have hlt : i < its.toArray.size := by
      have := (List.getElem?_eq_some_iff.mp hu).1
      rwa [List.size_toArray]
    refine wpAny_pyNext_enum_itemD (Draws.tuple (show X.A.in1.handled = none from I.ok.hd hc) it a hai its.toArray) he ⟨hit, p⟩ hlt hne (by simp [hne, hea]) fun u' h' tk hP ho hit' hT hsz hk => ?_
    have hu' : u' = u := by
      have q : its.toArray[i]? = some u := by simpa using hu
      exact Option.some.inj (hP.symm.trans q)
    subst hu'
    refine ⟨_, rfl, wpAny_letOwnedTupleGo_enum (s := { s with heap := h', toks := tk + 1 }) ho fun h'' he' sb => ?_⟩
    have hT2 : h''.get? s.heap.objs.size = some { cls := .type "tuple", data := .seq #[.int i tk, u'] } := (sb.2 _ (Nat.ne_of_gt hel)).trans hT
    have new : ObjOk X.prog X.w (upd H s.heap.objs.size (.tup [.int (i : Nat), x])) h'' s.heap.objs.size (.tup [.int (i : Nat), x]) :=
      ⟨by show 2 ≤ sizeLine; decide, [.int i tk, u'], .cons ⟨_, rfl⟩ (.cons ru .nil), ⟨_, hT2, rfl, _, rfl⟩⟩
    have I1 : Inv X pins σ (upd H s.heap.objs.size (.tup [.int (i : Nat), x])) { s with heap := h'', toks := tk + 1 } :=
      I.turnedNew (ch := [e, it]) (fun b ob hb q => (sb.2 b (fun z => hb (by simp [z]))).trans (hk b ob (fun z => hb (by simp [z])) (fun z => hb (by simp [z])) q)) hf (Nat.le_refl _) new
    refine ⟨.ref s.heap.objs.size, _, I1, rfl, ⟨_, x, rfl, I.hok.fresh (Nat.le_refl _), rfl, fun ys hy => by rw [I.tuple_inj hy hq]; exact hx⟩, ⟨⟨u', ?_⟩, hit'.1.at fun o q => (sb.2 it (Ne.symm hne)).trans q, hne, hea, hai⟩, fun b hb => ?_⟩
    · have e1 : ((i + 1 : Nat) : Int) = (i : Int) + 1 := by omega
      rw [e1]; exact he'
    · have hb' : b < s.heap.objs.size := by
        have e' : b = e ∨ b = it := by simpa using hb
        rcases e' with z | z
        · rw [z]; exact hel
        · rw [z]; exact hil
      rw [upd_ne (Nat.ne_of_lt hb')]
      exact (hf b hb).1
  done := by
    intro X hP hw hK hc i pins s σ H E I hf st hg
    subst hP hw hK
    obtain ⟨⟨old, he⟩, hit, hne, hea, hai⟩ := st
    obtain ⟨xs, hq, hx⟩ := hg
    obtain ⟨its, rv, p, hz⟩ := I.tuple hq
    obtain ⟨f0, f1, f2, f3, f4, f5⟩ := hf it (by simp)
    have hl := rv.length
    have hT : s.TypeIs (.ref e) "enumerate" := ⟨_, he, rfl⟩
    unfold pyNext
    refine wpAny_bind (wpAny_attempt (wpAny_callSpecial?_slot (name := Str.ofString "__next__") hT F.slot_enumerate_next
      (wpAny_call_entry F.slot_enumerate_next hT F.entry_enumerate_next ?_ (F.args_enumerate_next_1 _))))
    show wpAny _ _ (field (.ref e) 2 >>= _) _ _ _
    refine wpAny_bind (wpAny_field he rfl (x := .ref it) rfl ?_)
    refine wpAny_bind (wpAny_nextOf_tuple_end (show X.A.in1.handled = none from I.ok.hd hc) hit p (by simp; omega) fun h' x he' hx' => ?_)
    obtain ⟨o, ho, hc⟩ := hx'
    refine wpAny_bind (wpAny_isInstance (T := "StopIteration") (b := true) ⟨o, ho, hc⟩ isSubtype_stop ?_)
    exact wpAny_pure ⟨rfl, I.turned (t' := s.toks) (fun b o hb q => he' b o hb q) f0 f1 f3 f4 f5⟩
  self := fun A i s Q E st h => let ⟨⟨_, he⟩, _⟩ := st; wpAny_pyIter_enum he h
/-- enumerate of a list or of a tuple -/
def iEnuU (K : PySem.W.Frag) (ta : TA) : TI := fun σ H R => ta σ H fun vs H1 => ∃ a, vs = [.ref a] ∧ (((∃ xs, SqL K H1 a xs) ∧ R (Ite K a) H1) ∨ ((∃ xs, SqT K H1 a xs) ∧ R (Itet K a) H1))
theorem pi_enuU {X : Cx} {e : Expr} {ta : TA} {p pos tpos : Pos} {elts : List Expr} {kk : Nat} (hg : Gl X "enumerate") (hm : X.mg "enumerate" = none) (ha : PA X [e] ta) (hs : starEach [e] X.env = [(false, eval e X.env)] := by rfl) :
    PI X (.Tuple elts kk tpos) (.Call (.Name "enumerate" p) [e] [] pos) (iEnuU X.K ta) := by
  refine ⟨fun pins s σ H R I h => ?_⟩
  refine Call_ (ld_blt I hg hm boot_enumerate (PyProof.Rows.callWith_type1 (thn (ha.run pos pins s σ H _ I h) fun us s1 ⟨vs, H1, I1, r1, q1⟩ => ?_) hs rfl))
  obtain ⟨a, ex, q1⟩ := q1
  subst ex
  have free : ∀ b, b ∈ [s1.heap.objs.size + 1, s1.heap.objs.size] → FpOk X pins H1 b := fun b hb => by
    have e' : b = s1.heap.objs.size + 1 ∨ b = s1.heap.objs.size := by simpa using hb
    have hle : s1.heap.objs.size ≤ b := by
      rcases e' with z | z
      · rw [z]; exact Nat.le_add_right _ _
      · rw [z]; exact Nat.le_refl _
    exact I1.fpOk hle (I1.hok.fresh hle)
  cases r1 with
  | cons r rr =>
    cases rr
    cases r
    rcases q1 with ⟨⟨xs, hq⟩, q⟩ | ⟨⟨xs, hq⟩, q⟩
    · obtain ⟨its, rv, p', hz⟩ := I1.list hq
      refine call_enumerate_list p'.isList fun h' he hit hsz hk => wpAny_pyIter_enum he ?_
      have I2 : Inv X pins σ H1 { s1 with heap := h' } := I1.kept (t' := s1.toks) hk
      exact ⟨s1.heap.objs.size + 1, [s1.heap.objs.size + 1, s1.heap.objs.size], _, _, H1, rfl, I2, turn_enum a (s1.heap.objs.size + 1) s1.heap.objs.size, ⟨⟨.none, he⟩, hit, Nat.succ_ne_self _⟩, free, q⟩
    · obtain ⟨its, rv, p', hz⟩ := I1.tuple hq
      have al : a < s1.heap.objs.size := by obtain ⟨o, ho, _⟩ := id p'; exact Heap.lt_size ho
      refine enum_begins1 (begins_tuple a its.toArray) (show s1.heap.IsTuple a its.toArray from p') fun h' he ho hsz hk => wpAny_pyIter_enum he ?_
      have I2 : Inv X pins σ H1 { s1 with heap := h' } := I1.kept (t' := s1.toks) hk
      exact ⟨s1.heap.objs.size + 1, [s1.heap.objs.size + 1, s1.heap.objs.size], _, _, H1, rfl, I2, turn_enumT a (s1.heap.objs.size + 1) s1.heap.objs.size, ⟨⟨.none, he⟩, ⟨_, ho, rfl, rfl⟩, Nat.succ_ne_self _, Nat.ne_of_gt (Nat.lt_succ_of_lt al), Nat.ne_of_lt al⟩, free, q⟩

/-- a list, a tuple or a text -/
def iSeqU (K : PySem.W.Frag) (tl : TE) : TI := fun σ H R => tl σ H fun x H1 => (∃ a, x = .ref a ∧ (((∃ xs, SqL K H1 a xs) ∧ R (Itl K a) H1) ∨ ((∃ xs, SqT K H1 a xs) ∧ R (Itt K a) H1))) ∨ ∃ z, x = .str z ∧ R (Its z) H1
theorem pi_seqU {X : Cx} {tg l : Expr} {tl : TE} (hl : PE X l tl) : PI X tg l (iSeqU X.K tl) := by
  refine ⟨fun pins s σ H R I h => ?_⟩
  refine thn (hl.run pins s σ H _ I h) fun v s1 ⟨x, H1, I1, r1, q1⟩ => ?_
  rcases q1 with ⟨a, e, q⟩ | ⟨z, e, q⟩
  · subst e
    cases r1
    rcases q with ⟨⟨xs, hq⟩, q⟩ | ⟨⟨xs, hq⟩, q⟩
    · obtain ⟨its, rv, p, hz⟩ := I1.list hq
      refine wpAny_pyIter_list p.isList ?_
      refine ⟨s1.heap.objs.size, [s1.heap.objs.size], _, _, H1, rfl, I1.kept (t' := s1.toks) fun b o e => Heap.get?_push_of_some _ e, turn_list a _, ⟨_, Heap.get?_push_size _ rfl, rfl, rfl⟩, fun b hb => ?_, q⟩
      have e : b = s1.heap.objs.size := by simpa using hb
      subst e
      exact I1.fpOk (Nat.le_refl _) (I1.hok.fresh (Nat.le_refl _))
    · obtain ⟨its, rv, p, hz⟩ := I1.tuple hq
      refine wpAny_pyIter_tuple (show s1.heap.IsTuple a its.toArray from p) ?_
      refine ⟨s1.heap.objs.size, [s1.heap.objs.size], _, _, H1, rfl, I1.kept (t' := s1.toks) fun b o e => Heap.get?_push_of_some _ e, turn_tuple a _, ⟨_, Heap.get?_push_size _ rfl, rfl, rfl⟩, fun b hb => ?_, q⟩
      have e : b = s1.heap.objs.size := by simpa using hb
      subst e
      exact I1.fpOk (Nat.le_refl _) (I1.hok.fresh (Nat.le_refl _))
  · subst e
    obtain ⟨t, rfl⟩ := r1
    cases ha : z.cps.all (· < 128)
    · exact wpAny_pyIter_wide ha (pi_one (tk := s1.toks) I1 _ (turn_str _ z t "str_iterator" (.inr rfl)) ⟨_, Heap.get?_push_size _ rfl, rfl, rfl⟩ q)
    · exact wpAny_pyIter_ascii ha (pi_one (tk := s1.toks) I1 _ (turn_str _ z t "str_ascii_iterator" (.inl rfl)) ⟨_, Heap.get?_push_size _ rfl, rfl, rfl⟩ q)

/-! ### what they give -/
def enumD (ds : List D) : List D := (List.range ds.length).filterMap fun i => ds[i]?.map fun d => D.tup [.int (i : Nat), d]
/-- place by place -/
def enumFrom (n : Nat) : List D → List D
  | [] => []
  | d :: ds => .tup [.int (n : Nat), d] :: enumFrom (n + 1) ds
theorem enumFrom_len : ∀ (ds : List D) (n : Nat), (enumFrom n ds).length = ds.length
  | [], _ => rfl
  | d :: ds, n => by rw [enumFrom, List.length_cons, List.length_cons, enumFrom_len ds (n + 1)]
theorem enumFrom_at : ∀ {ds : List D} {n i : Nat} {x : D}, (enumFrom n ds)[i]? = some x → ∃ d, ds[i]? = some d ∧ x = .tup [.int ((n + i : Nat) : Int), d]
  | [], _, _, _, h => by cases h
  | d :: ds, n, 0, x, h => by
    cases h
    exact ⟨d, rfl, rfl⟩
  | d :: ds, n, i + 1, x, h => by
    obtain ⟨d', h1, h2⟩ := enumFrom_at (ds := ds) (n := n + 1) (i := i) h
    refine ⟨d', h1, ?_⟩
    rw [h2, show n + 1 + i = n + (i + 1) by omega]
theorem enumFrom_get {ds : List D} {n i : Nat} {d : D} (h : ds[i]? = some d) : (enumFrom n ds)[i]? = some (.tup [.int ((n + i : Nat) : Int), d]) := by
  have hl : i < ds.length := (List.getElem?_eq_some_iff.mp h).1
  have hl2 : i < (enumFrom n ds).length := by rw [enumFrom_len]; exact hl
  have e : (enumFrom n ds)[i]? = some (enumFrom n ds)[i] := List.getElem?_eq_getElem hl2
  obtain ⟨d', h1, h2⟩ := enumFrom_at e
  rw [h] at h1
  cases h1
  rw [e, h2]
/-- two lists side by side -/
def zipD : List D → List D → List D
  | x :: xs, y :: ys => .tup [x, y] :: zipD xs ys
  | _, _ => []
theorem zipD_len : ∀ (xs ys : List D), (zipD xs ys).length = min xs.length ys.length
  | [], ys => by rw [zipD]; simp; exact fun _ _ _ _ z => nomatch z
  | x :: xs, [] => by rw [zipD]; simp; exact fun _ _ _ _ _ z => nomatch z
  | x :: xs, y :: ys => by
    rw [zipD, List.length_cons, List.length_cons, List.length_cons, zipD_len xs ys]
    omega
theorem zipD_at : ∀ {xs ys : List D} {i : Nat} {d : D}, (zipD xs ys)[i]? = some d → ∃ x y, xs[i]? = some x ∧ ys[i]? = some y ∧ d = .tup [x, y]
  | [], ys, i, d, h => by
    have e : zipD [] ys = [] := by cases ys <;> rfl
    rw [e] at h
    cases h
  | x :: xs, [], i, d, h => by cases h
  | x :: xs, y :: ys, 0, d, h => by
    cases h
    exact ⟨x, y, rfl, rfl, rfl⟩
  | x :: xs, y :: ys, i + 1, d, h => zipD_at (xs := xs) (ys := ys) (i := i) h
def signsD (z : Str) : List D := z.cps.toList.map fun c => D.str ⟨#[c]⟩

section
variable {K : PySem.W.Frag} {ρ : List Ent} {te : TE} {ta : TA} {a b : Addr} {ds es : List D}
theorem pairDa {M : Addr → Prop} {H : Hp} {T : Addr} {v w : V} {x y : D} (t : Tr M H) (hT : H T = none) (h1 : Da M K H v x) (h2 : Da M K H w y) : Ext H (upd H T (.tup [v, w])) ∧ Da M K (upd H T (.tup [v, w])) (.ref T) (.tup [x, y]) :=
  ⟨Ext.new hT, Da.newT ⟨v, [w], rfl, h1, w, [], rfl, h2, rfl⟩ hT fun z => t T z hT⟩
theorem gives_enumL : Gives K (Ite K a) (enumFrom 0 ds) (fun M H => ∃ vs, ColdL M K H a vs ∧ DaAll M K H vs ds) where
  keep := fun M H M' H' ⟨vs, h1, h2⟩ g => ⟨vs, h1.mono g, h2.mono g⟩
  stop := fun M H i ⟨vs, h1, h2⟩ hi => ⟨vs, h1.sq, by rw [h2.length]; rw [enumFrom_len] at hi; exact hi⟩
  go := fun M H i ⟨vs, h1, h2⟩ hi => by
    have hl : i < vs.length := by rw [h2.length]; rw [enumFrom_len] at hi; exact hi
    exact ⟨vs, vs[i], h1.sq, by simp [hl]⟩
  yld := fun M H i x H' d t ⟨vs, h1, h2⟩ hd y => by
    obtain ⟨T, x', e, hT, eH, hx⟩ := y
    subst e eH
    obtain ⟨d', hd', e⟩ := enumFrom_at hd
    subst e
    obtain ⟨v, hv, q⟩ := h2.at hd'
    have := hx vs h1.sq
    rw [hv] at this
    cases this
    rw [Nat.zero_add]
    exact pairDa t hT rfl q
theorem gives_enumT : Gives K (Itet K a) (enumFrom 0 ds) (fun M H => ∃ vs, ColdT M K H a vs ∧ DaAll M K H vs ds) where
  keep := fun M H M' H' ⟨vs, h1, h2⟩ g => ⟨vs, h1.mono g, h2.mono g⟩
  stop := fun M H i ⟨vs, h1, h2⟩ hi => ⟨vs, h1.sq, by rw [h2.length]; rw [enumFrom_len] at hi; exact hi⟩
  go := fun M H i ⟨vs, h1, h2⟩ hi => by
    have hl : i < vs.length := by rw [h2.length]; rw [enumFrom_len] at hi; exact hi
    exact ⟨vs, vs[i], h1.sq, by simp [hl]⟩
  yld := fun M H i x H' d t ⟨vs, h1, h2⟩ hd y => by
    obtain ⟨T, x', e, hT, eH, hx⟩ := y
    subst e eH
    obtain ⟨d', hd', e⟩ := enumFrom_at hd
    subst e
    obtain ⟨v, hv, q⟩ := h2.at hd'
    have := hx vs h1.sq
    rw [hv] at this
    cases this
    rw [Nat.zero_add]
    exact pairDa t hT rfl q
theorem zip_stop {n m i : Nat} (h : min n m ≤ i) : n ≤ i ∨ m ≤ i := by omega
theorem gives_zipL : Gives K (Itz K a b) (zipD ds es) (fun M H => ∃ vs ws, ColdL M K H a vs ∧ DaAll M K H vs ds ∧ ColdL M K H b ws ∧ DaAll M K H ws es) where
  keep := fun M H M' H' ⟨vs, ws, h1, h2, h3, h4⟩ g => ⟨vs, ws, h1.mono g, h2.mono g, h3.mono g, h4.mono g⟩
  stop := fun M H i ⟨vs, ws, h1, h2, h3, h4⟩ hi => ⟨vs, ws, h1.sq, h3.sq, by rw [h2.length, h4.length]; rw [zipD_len] at hi; exact zip_stop hi⟩
  go := fun M H i ⟨vs, ws, h1, h2, h3, h4⟩ hi => by
    rw [zipD_len] at hi
    have l1 : i < vs.length := by rw [h2.length]; omega
    have l2 : i < ws.length := by rw [h4.length]; omega
    exact ⟨vs, ws, vs[i], ws[i], h1.sq, h3.sq, by simp [l1], by simp [l2]⟩
  yld := fun M H i x H' d t ⟨vs, ws, h1, h2, h3, h4⟩ hd y => by
    obtain ⟨T, x', y', e, hT, eH, hx, hy⟩ := y
    subst e eH
    obtain ⟨d1, d2, q1, q2, e⟩ := zipD_at hd
    subst e
    obtain ⟨v, hv, g1⟩ := h2.at q1
    obtain ⟨w, hw, g2⟩ := h4.at q2
    have e1 := hx vs h1.sq
    have e2 := hy ws h3.sq
    rw [hv] at e1
    rw [hw] at e2
    cases e1
    cases e2
    exact pairDa t hT g1 g2
theorem gives_zipT : Gives K (RZ.ItzT K a b) (zipD ds es) (fun M H => ∃ vs ws, ColdT M K H a vs ∧ DaAll M K H vs ds ∧ ColdT M K H b ws ∧ DaAll M K H ws es) where
  keep := fun M H M' H' ⟨vs, ws, h1, h2, h3, h4⟩ g => ⟨vs, ws, h1.mono g, h2.mono g, h3.mono g, h4.mono g⟩
  stop := fun M H i ⟨vs, ws, h1, h2, h3, h4⟩ hi => ⟨vs, ws, h1.sq, h3.sq, by rw [h2.length, h4.length]; rw [zipD_len] at hi; exact zip_stop hi⟩
  go := fun M H i ⟨vs, ws, h1, h2, h3, h4⟩ hi => by
    rw [zipD_len] at hi
    have l1 : i < vs.length := by rw [h2.length]; omega
    have l2 : i < ws.length := by rw [h4.length]; omega
    exact ⟨vs, ws, vs[i], ws[i], h1.sq, h3.sq, by simp [l1], by simp [l2]⟩
  yld := fun M H i x H' d t ⟨vs, ws, h1, h2, h3, h4⟩ hd y => by
    obtain ⟨T, x', y', e, hT, eH, hx, hy⟩ := y
    subst e eH
    obtain ⟨d1, d2, q1, q2, e⟩ := zipD_at hd
    subst e
    obtain ⟨v, hv, g1⟩ := h2.at q1
    obtain ⟨w, hw, g2⟩ := h4.at q2
    have e1 := hx vs h1.sq
    have e2 := hy ws h3.sq
    rw [hv] at e1
    rw [hw] at e2
    cases e1
    cases e2
    exact pairDa t hT g1 g2
theorem gives_str {z : Str} : Gives K (Its z) (signsD z) (fun _ _ => True) where
  keep := fun _ _ _ _ _ _ => trivial
  stop := fun M H i _ hi => by
    unfold signsD at hi
    rw [List.length_map, Array.length_toList] at hi
    exact hi
  go := fun M H i _ hi => by
    unfold signsD at hi
    rw [List.length_map, Array.length_toList] at hi
    exact hi
  yld := fun M H i x H' d _ _ hd y => by
    obtain ⟨e, c, hc, ex⟩ := y
    subst e ex
    unfold signsD at hd
    rw [List.getElem?_map, Array.getElem?_toList, hc] at hd
    cases hd
    exact ⟨Ext.refl _, rfl⟩
def itemsU : D → Option (List D)
  | .lst ds => some ds
  | .tup ds => some ds
  | .str z => some (signsD z)
  | _ => none
theorem yi_seqU {kk : List D → List Ent → Prop} (h : XE K te ρ fun r ρ1 => ∃ x ds, peek ρ1 r = some x ∧ itemsU x = some ds ∧ ∃ ρ2, frz ρ1 r = ρ2 ∧ kk ds ρ2) : XI K (iSeqU K te) ρ kk := fun F H σ R E q =>
  h F H σ _ E fun v H1 r ρ1 kp Rv ⟨x, ds, px, hi, ρ2, e2, g⟩ => by
    subst e2
    obtain ⟨E2, d2⟩ := Rv.frz px
    have k2 : Keep (hot F σ ρ) H (hot F σ (frz ρ1 r)) H1 := (hotR.hot kp).trans (keep_frz Rv.env)
    cases x with
    | lst es =>
      cases hi
      obtain ⟨a, vs, e, h1, h2⟩ := d2
      exact .inl ⟨a, e, .inl ⟨⟨vs, h1.sq⟩, q _ H1 _ ds _ k2 E2 gives_list ⟨vs, h1, h2⟩ g⟩⟩
    | tup es =>
      cases hi
      obtain ⟨a, vs, e, h1, h2⟩ := d2
      exact .inl ⟨a, e, .inr ⟨⟨vs, h1.sq⟩, q _ H1 _ ds _ k2 E2 gives_tup ⟨vs, h1, h2⟩ g⟩⟩
    | str z =>
      cases hi
      exact .inr ⟨z, d2, q _ H1 _ _ _ k2 E2 gives_str trivial g⟩
    | _ => cases hi
theorem yi_enum {kk : List D → List Ent → Prop} (h : XA K ta ρ fun rs ρ1 => ∃ x ds, peekAll ρ1 rs = some [x] ∧ itemsD x = some ds ∧ ∃ ρ2, frzAll ρ1 rs = ρ2 ∧ kk (enumFrom 0 ds) ρ2) : XI K (iEnuU K ta) ρ kk := fun F H σ R E q =>
  h F H σ _ E fun vs H1 rs ρ1 kp E1 hs ⟨x, ds, px, hi, ρ2, e2, g⟩ => by
    subst e2
    obtain ⟨E2, d2, k2⟩ := HeldAll.frz E1 hs px
    obtain ⟨v, ev, dv⟩ := da1 d2
    subst ev
    have k3 : Keep (hot F σ ρ) H (hot F σ (frzAll ρ1 rs)) H1 := kp.trans k2
    cases x with
    | lst es =>
      cases hi
      obtain ⟨a, vs, rfl, h1, h2⟩ := dv
      exact ⟨a, rfl, .inl ⟨⟨vs, h1.sq⟩, q _ H1 _ _ _ k3 E2 gives_enumL ⟨vs, h1, h2⟩ g⟩⟩
    | tup es =>
      cases hi
      obtain ⟨a, vs, rfl, h1, h2⟩ := dv
      exact ⟨a, rfl, .inr ⟨⟨vs, h1.sq⟩, q _ H1 _ _ _ k3 E2 gives_enumT ⟨vs, h1, h2⟩ g⟩⟩
    | _ => cases hi
/-- two of one kind -/
def sameKind : D → D → Option (List D × List D)
  | .lst ds, .lst es => some (ds, es)
  | .tup ds, .tup es => some (ds, es)
  | _, _ => none
theorem yi_zip {kk : List D → List Ent → Prop} (h : XA K ta ρ fun rs ρ1 => ∃ x y ds es, peekAll ρ1 rs = some [x, y] ∧ sameKind x y = some (ds, es) ∧ ∃ ρ2, frzAll ρ1 rs = ρ2 ∧ kk (zipD ds es) ρ2) : XI K (RZ.iZipA K ta) ρ kk := fun F H σ R E q =>
  h F H σ _ E fun vs H1 rs ρ1 kp E1 hs ⟨x, y, ds, es, px, hi, ρ2, e2, g⟩ => by
    subst e2
    obtain ⟨E2, d2, k2⟩ := HeldAll.frz E1 hs px
    obtain ⟨v, w, ev, dv, dw⟩ := da2 d2
    subst ev
    have k3 : Keep (hot F σ ρ) H (hot F σ (frzAll ρ1 rs)) H1 := kp.trans k2
    cases x with
    | lst es1 =>
      cases y with
      | lst es2 =>
        cases hi
        obtain ⟨a, vs, rfl, h1, h2⟩ := dv
        obtain ⟨b, ws, rfl, h3, h4⟩ := dw
        exact ⟨a, b, vs, ws, rfl, .inl ⟨h1.sq, h3.sq, q _ H1 _ _ _ k3 E2 gives_zipL ⟨vs, ws, h1, h2, h3, h4⟩ g⟩⟩
      | _ => cases hi
    | tup es1 =>
      cases y with
      | tup es2 =>
        cases hi
        obtain ⟨a, vs, rfl, h1, h2⟩ := dv
        obtain ⟨b, ws, rfl, h3, h4⟩ := dw
        exact ⟨a, b, vs, ws, rfl, .inr ⟨h1.sq, h3.sq, q _ H1 _ _ _ k3 E2 gives_zipT ⟨vs, ws, h1, h2, h3, h4⟩ g⟩⟩
      | _ => cases hi
    | _ => cases hi

/-! ### list(range(..)) -/
theorem da_rgV {M : Addr → Prop} {H : Hp} {lo hi : Int} : DaAll M K H (rgV lo hi) (rngD lo (hi - lo).toNat) := by
  unfold rgV rngD
  generalize List.range (hi - lo).toNat = l
  induction l with
  | nil => exact rfl
  | cons i l ih => exact ⟨_, _, rfl, rfl, ih⟩
theorem rgV_eq {M : Addr → Prop} {H : Hp} {p : Addr} {lo hi : Int} (hp : H p = none) : Ext H (upd H p (.lst (rgV lo hi))) ∧ ResV M K H (upd H p (.lst (rgV lo hi))) (.ref p) (.nw (.lst (rngD lo (hi - lo).toNat))) := ⟨Ext.new hp, newL da_rgV hp⟩
theorem ye_rg1 {k : KE} (h : XE K te ρ fun r ρ1 => ∃ n : Int, r = .d (.int n) ∧ RgOk 0 n ∧ k (.nw (.lst (rngD 0 n.toNat))) ρ1) : XE K (tLstRg (tRg1 te)) ρ k := fun F H σ Q E q =>
  h F H σ _ E fun v H1 r ρ1 kp R ⟨n, er, ok, g⟩ => by
    subst er
    obtain ⟨E1, hv⟩ := R
    refine ⟨n, hv, ok, fun p hp => ?_⟩
    obtain ⟨e, z⟩ := rgV_eq (M := hot F σ ρ1) (K := K) (lo := 0) (hi := n) hp
    rw [show n - 0 = n by omega] at z
    exact q _ _ (.nw (.lst (rngD 0 n.toNat))) ρ1 (hotR.res (hotR.hot kp) e z) (ResV.rv E1 e z) g
theorem ye_rg2 {k : KE} {tb : TE} (h : XE K te ρ fun r ρ1 => ∃ m : Int, r = .d (.int m) ∧ XE K tb ρ1 fun r2 ρ2 => ∃ n : Int, r2 = .d (.int n) ∧ RgOk m n ∧ k (.nw (.lst (rngD m (n - m).toNat))) ρ2) : XE K (tLstRg (tRg2 te tb)) ρ k := fun F H σ Q E q =>
  h F H σ _ E fun v H1 r ρ1 kp R ⟨m, er, h2⟩ => by
    subst er
    obtain ⟨E1, hv⟩ := R
    refine h2 F H1 σ _ E1 fun w H2 r2 ρ2 kp2 R2 ⟨n, er2, ok, g⟩ => ?_
    subst er2
    obtain ⟨E2, hw⟩ := R2
    refine ⟨m, n, hv, hw, ok, fun p hp => ?_⟩
    obtain ⟨e, z⟩ := rgV_eq (M := hot F σ ρ2) (K := K) (lo := m) (hi := n) hp
    exact q _ _ (.nw (.lst (rngD m (n - m).toNat))) ρ2 (hotR.res ((hotR.hot kp).trans (hotR.hot kp2)) e z) (ResV.rv E2 e z) g
end

theorem ex_zip {o : Option (List D)} {P : List D → List D → Prop} {x y : D} {ds es : List D} (e : o = some [x, y]) (e2 : sameKind x y = some (ds, es)) (g : P ds es) : ∃ x y ds es, o = some [x, y] ∧ sameKind x y = some (ds, es) ∧ P ds es := ⟨x, y, ds, es, e, e2, g⟩
/-! ### t[::-1] -/
section
variable {prog : Program} {w : World} {A : Around} {E : Value → Shared → Prop} {s : Shared}
theorem adjust_rev (n : Nat) : Builtin.Slice.sliceAdjust none none (-1) (n : Int) = ((n : Int) - 1, -1) := rfl
theorem places_rev (n : Nat) : Builtin.Slice.slicePlaces ((n : Int) - 1) (-1) (-1) = n := by
  unfold Builtin.Slice.slicePlaces
  rw [if_neg (by decide)]
  by_cases h : (n : Int) - 1 > -1
  · rw [if_pos h]
    have e : ((n : Int) - 1 - -1 - 1) / (- -1) + 1 = (n : Int) := by
      rw [show (- -1 : Int) = 1 by decide, Int.ediv_one]
      omega
    rw [e, Int.toNat_natCast]
  · rw [if_neg h]
    have : n = 0 := by omega
    subst this
    rfl
theorem pick_rev (xs : Array Value) : ((List.range xs.size).filterMap fun (k : Nat) => xs[(((xs.size : Int) - 1) + (k : Int) * (-1)).toNat]?).toArray = xs.toList.reverse.toArray := by
  congr 1
  rw [← PySem.W.krv_all xs, ← List.filterMap_reverse, ← PySem.W.krv_range, List.filterMap_map]
  have cg : ∀ (l : List Nat), (∀ k ∈ l, k < xs.size) → l.filterMap (fun (k : Nat) => xs[(((xs.size : Int) - 1) + (k : Int) * (-1)).toNat]?) = l.filterMap ((fun x => xs[x]?) ∘ fun k => xs.size - 1 - k) := by
    intro l
    induction l with
    | nil => intro _; rfl
    | cons k l ih =>
      intro h
      have e : (((xs.size : Int) - 1) + (k : Int) * (-1)).toNat = xs.size - 1 - k := by
        have := h k (List.mem_cons_self ..)
        omega
      rw [List.filterMap_cons, List.filterMap_cons, ih fun k hk => h k (List.mem_cons_of_mem _ hk), e]
      rfl
  exact cg _ fun k hk => List.mem_range.mp hk
theorem getItem_tuple_rev {t sl : Addr} {items : Array Value} {vl vu vs : Value} {Q : Value → Shared → Prop} (ht : IsTup s.heap t items) (hs : s.heap.IsSliceOf sl vl vu vs) (pl : IsPart vl none) (pu : IsPart vu none) (ps : IsPart vs (some (-1)))
    (h : Q (.ref s.heap.objs.size) { s with heap := s.heap.push { cls := .type "tuple", data := .seq items.toList.reverse.toArray } })
    (hsz : items.size ≤ sizeLine) : wpAny (model prog w) A (getItem (.ref t) (.ref sl)) Q E s := by
  have htake : sizeOk (.seq items.toList.reverse.toArray) := by
    show items.toList.reverse.toArray.size ≤ sizeLine
    rw [List.size_toArray, List.length_reverse, Array.length_toList]
    exact hsz
  obtain ⟨os, hos, hcs, hds⟩ := id hs
  have hTs : s.TypeIs (.ref sl) "slice" := ⟨os, hos, hcs⟩
  unfold getItem
  try with_reducible refine wpAny_holding ?_
  first | refine wpAny_bind (wpAny_pure ?_) | skip
  refine wpAny_bind (wpAny_sequenceKey ht.typeIs (by decide) ?_)
  refine wpAny_bind (wpAny_callSpecial?_slot (name := Str.ofString "__getitem__") ht.typeIs PyProof.Rows.slot_tuple_getitem
    (wpAny_call_entry PyProof.Rows.slot_tuple_getitem ht.typeIs entry_tuple_getitem ?_ (args_tuple_getitem _ _)))
  show wpAny _ _ (Builtin.Tuple.tupleItemsOf (.ref t) >>= _) _ _ s
  refine wpAny_bind (tupleItemsOf_ ht ?_)
  refine wpAny_bind (wpAny_typeOf hTs ?_)
  rw [if_pos (by decide)]
  refine wpAny_bind ?_
  unfold Builtin.Slice.sliceApplied Builtin.Slice.sliceFields
  refine wpAny_bind (wpAny_bind (wpAny_field hos hds (x := vl) rfl (wpAny_bind (wpAny_field hos hds (x := vu) rfl (wpAny_bind (wpAny_field hos hds (x := vs) rfl (wpAny_pure ?_)))))))
  refine wpAny_bind (HT.slicePart_ ps ?_)
  show wpAny _ _ (if ((-1 : Int) == 0) = true then _ else _) _ _ s
  rw [if_neg (by decide)]
  refine wpAny_bind (HT.slicePart_ pl (wpAny_bind (HT.slicePart_ pu (wpAny_bind (wpAny_pure ?_)))))
  show wpAny _ _ (match Builtin.Slice.sliceAdjust none none (-1) (items.size : Int) with | (lo, hi) => pure (lo, (-1 : Int), Builtin.Slice.slicePlaces lo hi (-1))) _ _ s
  rw [adjust_rev]
  show wpAny _ _ (pure (((items.size : Int) - 1), (-1 : Int), Builtin.Slice.slicePlaces ((items.size : Int) - 1) (-1) (-1))) _ _ s
  rw [places_rev]
  refine wpAny_pure ?_
  have hno : ¬ ((((items.size : Int) - 1) == 0 && (-1 : Int) == 1 && items.size == items.size) = true) := by
    intro q
    rw [Bool.and_eq_true, Bool.and_eq_true] at q
    exact absurd (eq_of_beq q.1.2) (by decide)
  show wpAny _ _ (if (((items.size : Int) - 1) == 0 && (-1 : Int) == 1 && items.size == items.size) = true then _ else _) _ _ s
  rw [if_neg hno, pick_rev]
  first
    | exact wpAny_bind (m := Builtin.Tuple.tupleExact _) (wpAny_newObj_type (wpAny_pure ⟨_, rfl, wpAny_pure h⟩) htake)
    | exact wpAny_bind (m := Builtin.Tuple.tupleExact _) (wpAny_newObj_type (wpAny_bind (wpAny_pure (wpAny_pure ⟨_, rfl, wpAny_pure h⟩))) htake)
    | exact wpAny_bind (wpAny_bind (m := Builtin.Tuple.tupleExact _) (wpAny_newObj_type (wpAny_pure (wpAny_pure ⟨_, rfl, wpAny_pure h⟩)) htake))
    | exact wpAny_bind (wpAny_bind (m := Builtin.Tuple.tupleExact _) (wpAny_newObj_type (wpAny_pure ⟨_, rfl, wpAny_pure h⟩) htake))
end
def tRevT (K : PySem.W.Frag) (te : TE) : TE := fun σ H Q => te σ H fun x H1 => ∃ a xs, x = .ref a ∧ SqT K H1 a xs ∧ ∀ p, H1 p = none → Q (.ref p) (upd H1 p (.tup xs.reverse))
theorem pe_revT {X : Cx} {e : Expr} {te : TE} {k : Nat} {p1 p2 p3 pos : Pos} (he : PE X e te) : PE X (.Subscript e (.Slice none none (some (.UnaryOp .USub (.Constant (.int 1) k p1) p2)) p3) pos) (tRevT X.K te) := by
  refine ⟨fun pins s σ H Q I h => ?_⟩
  refine Subscript_ (thn (he.run pins s σ H _ I h) fun v s1 ⟨x, H1, I1, r1, q1⟩ => ?_)
  obtain ⟨a, xs, ex, hx, q⟩ := q1
  subst ex
  cases r1
  have hst : PO X (some (.UnaryOp .USub (.Constant (.int 1) k p1) p2)) (tPart (tUn (rU fun i => .int (-i)) (tC (.int 1)))) := po_some (pe_un un_neg pe_int)
  refine wpAny_Slice (thn (po_none.run pins s1 σ H1 (fun o H2 => o = none ∧ H2 = H1) I1 ⟨rfl, rfl⟩) fun vl s2 ⟨l, H2, I2, pl, el, e2⟩ => ?_)
  subst el e2
  refine thn (po_none.run pins s2 σ H2 (fun o H3 => o = none ∧ H3 = H2) I2 ⟨rfl, rfl⟩) fun vu s3 ⟨u, H3, I3, pu, eu, e3⟩ => ?_
  subst eu e3
  refine thn (hst.run pins s3 σ H3 (fun o H4 => o = some (-1) ∧ H4 = H3) I3 ⟨1, rfl, -1, rfl, rfl, rfl⟩) fun vs s4 ⟨o, H4, I4, ps, eo, e4⟩ => ?_
  subst eo e4
  have I5 : Inv X pins σ H4 { s4 with heap := s4.heap.push { cls := .type "slice", data := .fields #[vl, vu, vs] } } := I4.kept (t' := s4.toks) fun b ob q => Heap.get?_push_of_some _ q
  obtain ⟨its, r, ht, hz⟩ := I5.tuple hx
  have hlen := r.length
  show wpAny (model X.prog X.w) X.A (subscriptTail e (.Slice none none (some (.UnaryOp .USub (.Constant (.int 1) k p1) p2)) p3) (.ref a) (.ref s4.heap.objs.size)) (EP X pins σ Q) X.xe { s4 with heap := s4.heap.push { cls := .type "slice", data := .fields #[vl, vu, vs] } }
  refine tail_any (ops := [.ref a, .ref s4.heap.objs.size]) ht.typeIs (PyProof.Rows.slot_tuple_getitem.lookup) ?_ (by with_unfolding_all rfl)
  refine getItem_tuple_rev ht (Heap.IsSliceOf.new _ vl vu vs) pl pu ps ?_ (by rw [List.size_toArray]; omega)
  refine ⟨.ref _, _, I5.laid (t' := s4.toks) (o := .tup xs.reverse) (fun b ob q => Heap.get?_push_of_some _ q) (Nat.le_refl _) ?_, rfl, q _ (I5.hok.fresh (Nat.le_refl _))⟩
  exact ⟨by rw [List.length_reverse]; exact hz, _, r.reverse, IsTup.new _ _⟩
theorem ye_revT {K : PySem.W.Frag} {ρ : List Ent} {te : TE} {k : KE} (h : XE K te ρ fun r ρ1 => ∃ ds, peek ρ1 r = some (.tup ds) ∧ ∃ ρ2, frz ρ1 r = ρ2 ∧ k (.d (.tup ds.reverse)) ρ2) : XE K (tRevT K te) ρ k := fun F H σ Q E q =>
  h F H σ _ E fun v H1 r ρ1 kp Rv ⟨ds, px, ρ2, e2, g⟩ => by
    subst e2
    obtain ⟨E2, d2⟩ := Rv.frz px
    have k2 : Keep (hot F σ ρ) H (hot F σ (frz ρ1 r)) H1 := (hotR.hot kp).trans (keep_frz Rv.env)
    obtain ⟨a, vs, e, h1, h2⟩ := d2
    refine ⟨a, vs, e, h1.sq, fun p hp => ?_⟩
    have e : Ext H1 (upd H1 p (.tup vs.reverse)) := Ext.new hp
    refine q _ _ (.d (.tup ds.reverse)) _ (hotR.d (k2.trans (Keep.ext e))) ⟨E2.ex e, ?_⟩ g
    exact Da.newT h2.reverse hp fun z => E2.hotTrk p z hp
end PW
end
section
/-! PW: plain laws on data; comprehensions in plain forms. -/
namespace PW
open PySem PySem.Spec PyProof.Rows L2

/-! ### built-in data of small sizes -/
mutual
/-- no objects, no tables with keys; texts and sequences of at most 100000 -/
def D.jn : D → Bool
  | .str s => decide (s.length ≤ 100000)
  | .tup xs => decide (xs.length ≤ 100000) && D.jnL xs
  | .lst xs => decide (xs.length ≤ 100000) && D.jnL xs
  | .obj _ _ _ => false
  | .dct _ _ => false
  | _ => true
def D.jnL : List D → Bool
  | [] => true
  | d :: ds => D.jn d && D.jnL ds
end
theorem jn_bi {x : D} (h : x.jn = true) : x.isBuiltin = true := by
  cases x <;> first
    | rfl
    | cases h
theorem jnL_mem : ∀ {xs : List D} {x : D}, D.jnL xs = true → x ∈ xs → x.jn = true
  | y :: ys, x, h, hx => by
    obtain ⟨h1, h2⟩ := Bool.and_eq_true_iff.mp (show (D.jn y && D.jnL ys) = true from h)
    rcases List.mem_cons.mp hx with e | hx
    · rw [e]; exact h1
    · exact jnL_mem h2 hx
theorem jnL_of : ∀ {xs : List D}, (∀ x ∈ xs, x.jn = true) → D.jnL xs = true
  | [], _ => rfl
  | y :: ys, h => Bool.and_eq_true_iff.mpr ⟨h y (List.mem_cons_self ..), jnL_of fun x hx => h x (List.mem_cons_of_mem _ hx)⟩
theorem jn_tup {xs : List D} (h : (D.tup xs).jn = true) : xs.length ≤ 100000 ∧ ∀ x ∈ xs, x.jn = true := by
  obtain ⟨h1, h2⟩ := Bool.and_eq_true_iff.mp (show (decide (xs.length ≤ 100000) && D.jnL xs) = true from h)
  exact ⟨of_decide_eq_true h1, fun x hx => jnL_mem h2 hx⟩
theorem jn_lst {xs : List D} (h : (D.lst xs).jn = true) : xs.length ≤ 100000 ∧ ∀ x ∈ xs, x.jn = true := jn_tup (xs := xs) h
theorem tup_jn {xs : List D} (h1 : xs.length ≤ 100000) (h2 : ∀ x ∈ xs, x.jn = true) : (D.tup xs).jn = true :=
  Bool.and_eq_true_iff.mpr ⟨decide_eq_true h1, jnL_of h2⟩
theorem lst_jn {xs : List D} (h1 : xs.length ≤ 100000) (h2 : ∀ x ∈ xs, x.jn = true) : (D.lst xs).jn = true := tup_jn (xs := xs) h1 h2
theorem jn_str {s : Str} (h : (D.str s).jn = true) : s.length ≤ 100000 := of_decide_eq_true (show decide (s.length ≤ 100000) = true from h)
theorem sz5 : (100000 : Nat) ≤ sizeLine := by decide
theorem szl {n : Nat} (h : n ≤ 100000) : n ≤ sizeLine := Nat.le_trans h sz5

/-! ### == on scalars -/
theorem eqv_int (i j : Int) : PyData.eqv (D.int i).py (D.int j).py = decide (i = j) := by
  show PyData.eqv (.int i) (.int j) = _
  simp only [PyData.eqv]
  by_cases h : i = j <;> simp [h]
theorem eqv_str (i j : Str) : PyData.eqv (D.str i).py (D.str j).py = decide (i = j) := by
  show PyData.eqv (.str i) (.str j) = _
  simp only [PyData.eqv]
  by_cases h : i = j
  · simp [h]
  · rw [decide_eq_false h]
    exact beq_false_of_ne h
theorem eqv_bl (i j : Bool) : PyData.eqv (D.bl i).py (D.bl j).py = decide (i = j) := by
  show PyData.eqv (.bool i) (.bool j) = _
  simp only [PyData.eqv]
  by_cases h : i = j <;> simp [h]
section
variable {K : PySem.W.Frag} {k : Res → Prop} {i j : Int} {a b : Bool}
theorem o_eqI (g : k (.d (.bl (decide (i = j))))) : OpD K (rEqD K) (.int i) (.int j) k := o_eq rfl rfl (by rw [eqv_int]; exact g)
theorem o_neI (g : k (.d (.bl (!decide (i = j))))) : OpD K (rNeD K) (.int i) (.int j) k := o_ne rfl rfl (by rw [eqv_int]; exact g)
theorem o_eqB (g : k (.d (.bl (decide (a = b))))) : OpD K (rEqD K) (.bl a) (.bl b) k := o_eq rfl rfl (by rw [eqv_bl]; exact g)
theorem o_neB (g : k (.d (.bl (!decide (a = b))))) : OpD K (rNeD K) (.bl a) (.bl b) k := o_ne rfl rfl (by rw [eqv_bl]; exact g)
end

/-! ### comprehensions -/
def Rel2 (R : D → D → Prop) (ds acc : List D) : Prop := acc.length = ds.length ∧ ∀ (i : Nat) (d y : D), ds[i]? = some d → acc[i]? = some y → R d y
theorem rel2_map {f : D → D} {ds acc : List D} (h : Rel2 (fun d y => y = f d) ds acc) : acc = ds.map f := by
  apply List.ext_getElem
  · rw [List.length_map, h.1]
  · intro i h1 h2
    rw [List.getElem_map]
    have h3 : i < ds.length := by rw [← h.1]; exact h1
    exact h.2 i ds[i] acc[i] (List.getElem?_eq_getElem h3) (List.getElem?_eq_getElem h1)
section
variable {K : PySem.W.Frag} {ρ : List Ent} {te : TE} {tt : TT} {wi : TI} {g : TG} {vs : List Nat} {k : KE}
/-- each item gives something in R; the test is none -/
theorem ye_lcr (R : D → D → Prop) (hsl : OwnSlots g vs) (hww : ∀ σ : L2.St, wipe (wipe σ vs) vs = wipe σ vs)
    (h : XI K wi ρ fun ds ρ1 => ds.length ≤ sizeLine ∧ ∃ ρw, wipeE ρ1 vs = ρw ∧
      (∀ d, d ∈ ds → XG K g d ρw fun ρ2 => wipeE ρ2 vs = ρw ∧ XE K te ρ2 fun r ρ4 => ∃ y, peek ρ4 r = some y ∧ frz ρ4 r = ρ2 ∧ R d y) ∧
      ∀ acc, Rel2 R ds acc → k (.nw (.lst acc)) ρw) : XE K (tLc wi g tYes te vs) ρ k :=
  xe_lc hsl hww fun F H σ Q E q => h F H σ Q E fun J H' ρ1 ds W kp E1 Gv w0 ⟨hl, ρw, e, st, fin⟩ => by
    refine q J H' ρ1 ds W kp E1 Gv w0 ⟨hl, fun n acc => acc.length = n ∧ ∀ (i : Nat) (d y : D), ds[i]? = some d → acc[i]? = some y → R d y, ⟨rfl, fun i d y _ z => nomatch z⟩, ?_, ?_⟩
    · subst e
      intro i d acc hd _ ⟨hlen, hR⟩
      have hm : d ∈ ds := List.mem_of_getElem? hd
      refine fun F H σ v Q E dv q => st d hm F H σ v Q E dv fun σ' ρ' kp E' ⟨e, g⟩ => q σ' ρ' kp E' ⟨e, fun F H σ Q E q => q true H ρ' (Keep.refl _ _) E ⟨rfl, fun _ => ?_, fun z => nomatch z⟩⟩
      refine xe_mono g fun r ρ4 ⟨y, p, f, hr⟩ => ⟨y, p, f, by rw [List.length_append, hlen]; rfl, fun j d' y' h1 h2 => ?_⟩
      by_cases hj : j < acc.length
      · rw [List.getElem?_append_left hj] at h2
        exact hR j d' y' h1 h2
      · have hj2 : j = acc.length := by
          have := (List.getElem?_eq_some_iff.mp h2).1
          rw [List.length_append] at this
          simp only [List.length_cons, List.length_nil] at this
          omega
        subst hj2
        rw [List.getElem?_append_right (Nat.le_refl _), Nat.sub_self] at h2
        cases h2
        rw [hlen, hd] at h1
        cases h1
        exact hr
    · subst e
      exact fun acc _ ⟨h1, h2⟩ => fin acc ⟨h1, h2⟩
/-- each item gives f of it -/
theorem ye_lcm (f : D → D) (hsl : OwnSlots g vs) (hww : ∀ σ : L2.St, wipe (wipe σ vs) vs = wipe σ vs)
    (h : XI K wi ρ fun ds ρ1 => ds.length ≤ sizeLine ∧ ∃ ρw, wipeE ρ1 vs = ρw ∧
      (∀ d, d ∈ ds → XG K g d ρw fun ρ2 => wipeE ρ2 vs = ρw ∧ XE K te ρ2 fun r ρ4 => ∃ y, peek ρ4 r = some y ∧ frz ρ4 r = ρ2 ∧ y = f d) ∧
      k (.nw (.lst (ds.map f))) ρw) : XE K (tLc wi g tYes te vs) ρ k :=
  ye_lcr (fun d y => y = f d) hsl hww fun F H σ Q E q => h F H σ Q E fun J H' ρ1 ds W kp E1 Gv w0 ⟨hl, ρw, e, st, fin⟩ =>
    q J H' ρ1 ds W kp E1 Gv w0 ⟨hl, ρw, e, st, fun acc ha => by rw [rel2_map ha]; exact fin⟩
/-- .. under a test p -/
theorem ye_lcf (p : D → Bool) (f : D → D) (hsl : OwnSlots g vs) (hww : ∀ σ : L2.St, wipe (wipe σ vs) vs = wipe σ vs)
    (h : XI K wi ρ fun ds ρ1 => ds.length ≤ sizeLine ∧ ∃ ρw, wipeE ρ1 vs = ρw ∧
      (∀ d, d ∈ ds → XG K g d ρw fun ρ2 => wipeE ρ2 vs = ρw ∧ XT K tt ρ2 fun b ρ3 => ρ3 = ρ2 ∧ b = p d ∧ (p d = true → XE K te ρ2 fun r ρ4 => ∃ y, peek ρ4 r = some y ∧ frz ρ4 r = ρ2 ∧ y = f d)) ∧
      k (.nw (.lst ((ds.filter p).map f))) ρw) : XE K (tLc wi g tt te vs) ρ k :=
  xe_lc hsl hww fun F H σ Q E q => h F H σ Q E fun J H' ρ1 ds W kp E1 Gv w0 ⟨hl, ρw, e, st, fin⟩ => by
    refine q J H' ρ1 ds W kp E1 Gv w0 ⟨hl, fun n acc => acc = ((ds.take n).filter p).map f, rfl, ?_, ?_⟩
    · subst e
      intro i d acc hd _ ha0
      have ha : acc = ((ds.take i).filter p).map f := ha0
      have hm : d ∈ ds := List.mem_of_getElem? hd
      have hi : i < ds.length := (List.getElem?_eq_some_iff.mp hd).1
      have tk : ds.take (i + 1) = ds.take i ++ [d] := by
        rw [List.take_add_one, hd]
        rfl
      refine fun F H σ v Q E dv q => st d hm F H σ v Q E dv fun σ' ρ' kp E' ⟨e, g⟩ => q σ' ρ' kp E' ⟨e, fun F H σ Q E q => g F H σ Q E fun b H' ρ'' kp E' ⟨e2, eb, g⟩ => q b H' ρ'' kp E' ⟨e2, fun hb => ?_, fun hb => ?_⟩⟩
      · subst e2
        rw [hb] at eb
        refine xe_mono (g eb.symm) fun r ρ4 ⟨y, pk, fz, hy⟩ => ⟨y, pk, fz, ?_⟩
        show acc ++ [y] = ((ds.take (i + 1)).filter p).map f
        rw [tk, List.filter_append, List.map_append, ← ha, hy]
        congr 1
        simp [← eb]
      · rw [hb] at eb
        show acc = ((ds.take (i + 1)).filter p).map f
        rw [tk, List.filter_append, List.map_append, ← ha]
        simp [← eb]
    · subst e
      intro acc _ ha0
      have ha : acc = ((ds.take ds.length).filter p).map f := ha0
      rw [ha, List.take_length]
      exact fin
theorem c_allM {ds : List D} {p : D → Bool} {kk : Res → Prop} (g : kk (.d (.bl (ds.all p)))) : CaD K (rAll K) [.lst (ds.map fun d => .bl (p d))] kk := by
  have e : (ds.map fun d => D.bl (p d)) = (ds.map p).map D.bl := by
    rw [List.map_map]
    rfl
  rw [e]
  refine c_all ?_
  rw [List.all_map]
  exact g
theorem c_anyM {ds : List D} {p : D → Bool} {kk : Res → Prop} (g : kk (.d (.bl (ds.any p)))) : CaD K (rAny K) [.lst (ds.map fun d => .bl (p d))] kk := by
  have e : (ds.map fun d => D.bl (p d)) = (ds.map p).map D.bl := by
    rw [List.map_map]
    rfl
  rw [e]
  refine c_any ?_
  rw [List.any_map]
  exact g
theorem lc_split {ds : List D} {ρ1 ρw : List Ent} {P : D → List Ent → Prop} {Q : List Ent → Prop} (h1 : ds.length ≤ sizeLine) (e : wipeE ρ1 vs = ρw) (h2 : ∀ d, d ∈ ds → P d ρw) (h3 : Q ρw) :
    ds.length ≤ sizeLine ∧ ∃ ρw, wipeE ρ1 vs = ρw ∧ (∀ d, d ∈ ds → P d ρw) ∧ Q ρw := ⟨h1, ρw, e, h2, h3⟩
theorem lc_fin {ρ4 ρ2 : List Ent} {r : Res} {R : D → Prop} {y : D} (e1 : peek ρ4 r = some y) (e2 : frz ρ4 r = ρ2) (h : R y) : ∃ y, peek ρ4 r = some y ∧ frz ρ4 r = ρ2 ∧ R y := ⟨y, e1, e2, h⟩
theorem lcf_fin {ρ3 ρ2 : List Ent} {b c : Bool} {P : Prop} (e1 : ρ3 = ρ2) (e2 : b = c) (h : P) : ρ3 = ρ2 ∧ b = c ∧ P := ⟨e1, e2, h⟩
theorem lc_env {ρ2 ρw : List Ent} {P : Prop} (e : wipeE ρ2 vs = ρw) (h : P) : wipeE ρ2 vs = ρw ∧ P := ⟨e, h⟩
theorem fa_mem {ds : List D} {P : D → Prop} (h : ∀ d, d ∈ ds → P d) : ∀ d, d ∈ ds → P d := h
theorem br_t {b : Bool} {P : Prop} (h : b = true → P) : b = true → P := h
theorem br_f {b : Bool} {P : Prop} (h : b = false → P) : b = false → P := h
theorem ex_env {ρ : List Ent} {P : List Ent → Prop} {ρ2 : List Ent} (e : ρ = ρ2) (g : P ρ2) : ∃ ρ2, ρ = ρ2 ∧ P ρ2 := ⟨ρ2, e, g⟩
theorem ex_pk {o : Option D} {P : D → Prop} {x : D} (e : o = some x) (g : P x) : ∃ x, o = some x ∧ P x := ⟨x, e, g⟩
theorem ex_pks {o : Option (List D)} {P : List D → Prop} {x : List D} (e : o = some x) (g : P x) : ∃ x, o = some x ∧ P x := ⟨x, e, g⟩
theorem ex_op {ρ : List Ent} {r1 r2 : Res} {P : D → D → Prop} {x y : D} (e1 : peek ρ r1 = some x) (e2 : peek ρ r2 = some y) (g : P x y) : ∃ x1 x2, peek ρ r1 = some x1 ∧ peek ρ r2 = some x2 ∧ P x1 x2 := ⟨x, y, e1, e2, g⟩
theorem ex_pks2 {o : Option (List D)} {P Q : List D → Prop} {x : List D} (e : o = some x) (g1 : P x) (g : Q x) : ∃ x, o = some x ∧ P x ∧ Q x := ⟨x, e, g1, g⟩
theorem ex_pk2 {o : Option D} {P Q : D → Prop} {x : D} (e : o = some x) (g1 : P x) (g : Q x) : ∃ x, o = some x ∧ P x ∧ Q x := ⟨x, e, g1, g⟩
theorem ex_it {o : Option D} {f : D → Option (List D)} {P : D → List D → Prop} {x : D} {ds : List D} (e : o = some x) (e2 : f x = some ds) (g : P x ds) : ∃ x ds, o = some x ∧ f x = some ds ∧ P x ds := ⟨x, ds, e, e2, g⟩
theorem ex_its {o : Option (List D)} {f : D → Option (List D)} {P : D → List D → Prop} {x : D} {ds : List D} (e : o = some [x]) (e2 : f x = some ds) (g : P x ds) : ∃ x ds, o = some [x] ∧ f x = some ds ∧ P x ds := ⟨x, ds, e, e2, g⟩
theorem ex_bl {b : Bool} {P : Bool → Prop} (g : P b) : ∃ b', Res.d (.bl b) = .d (.bl b') ∧ P b' := ⟨b, rfl, g⟩
theorem ex_int {b : Int} {P : Int → Prop} (g : P b) : ∃ b', Res.d (.int b) = .d (.int b') ∧ P b' := ⟨b, rfl, g⟩
theorem ex_sc {x : D} {P : D → Prop} (s : x.scalar = true) (g : P x) : ∃ y, Res.d x = .d y ∧ y.scalar = true ∧ P y := ⟨x, rfl, s, g⟩
theorem and_br {b : Bool} {P Q : Prop} (h1 : b = true → P) (h2 : b = false → Q) : (b = true → P) ∧ (b = false → Q) := ⟨h1, h2⟩
theorem and_rb {b : Bool} {P Q : Prop} (h1 : b = false → P) (h2 : b = true → Q) : (b = false → P) ∧ (b = true → Q) := ⟨h1, h2⟩
theorem and_brT {P Q : Prop} (h : P) : (true = true → P) ∧ (true = false → Q) := ⟨fun _ => h, fun z => (by cases z)⟩
theorem and_brF {P Q : Prop} (h : Q) : (false = true → P) ∧ (false = false → Q) := ⟨fun z => (by cases z), fun _ => h⟩
theorem and_rbT {P Q : Prop} (h : P) : (false = false → P) ∧ (false = true → Q) := ⟨fun _ => h, fun z => (by cases z)⟩
theorem and_rbF {P Q : Prop} (h : Q) : (true = false → P) ∧ (true = true → Q) := ⟨fun z => (by cases z), fun _ => h⟩
theorem and_nT {P Q : Prop} (h : Q) : ((!true) = true → P) ∧ ((!true) = false → Q) := ⟨fun z => (by cases z), fun _ => h⟩
theorem and_nF {P Q : Prop} (h : P) : ((!false) = true → P) ∧ ((!false) = false → Q) := ⟨fun _ => h, fun z => (by cases z)⟩
theorem and_mT {P Q : Prop} (h : P) : ((!true) = false → P) ∧ ((!true) = true → Q) := ⟨fun _ => h, fun z => (by cases z)⟩
theorem and_mF {P Q : Prop} (h : Q) : ((!false) = false → P) ∧ ((!false) = true → Q) := ⟨fun z => (by cases z), fun _ => h⟩
theorem nv_d {x : D} : ∀ i, Res.d x ≠ .v i := fun i z => nomatch z
theorem nv_nw {x : D} : ∀ i, Res.nw x ≠ .v i := fun i z => nomatch z
end

/-! ### what a test tells -/
section
variable {x : D} {P : Prop}
theorem isTup_tup (h : x.isTup = true) : ∃ xs, x = .tup xs := by
  cases x <;> first
    | exact ⟨_, rfl⟩
    | cases h
theorem isLst_lst (h : x.isLst = true) : ∃ xs, x = .lst xs := by
  cases x <;> first
    | exact ⟨_, rfl⟩
    | cases h
theorem isStr_str (h : x.isStr = true) : ∃ xs, x = .str xs := by
  cases x <;> first
    | exact ⟨_, rfl⟩
    | cases h
theorem isNon_non (h : x.isNon = true) : x = .non := by
  cases x <;> first
    | rfl
    | cases h
theorem nbf {b : Bool} (h : (!b) = false) : b = true := by
  cases b <;> first | rfl | cases h
theorem br_tup (h : ∀ xs, x = .tup xs → P) : x.isTup = true → P := fun z => (isTup_tup z).elim h
theorem br_tupN (h : ∀ xs, x = .tup xs → P) : (!x.isTup) = false → P := fun z => (isTup_tup (nbf z)).elim h
theorem br_lst (h : ∀ xs, x = .lst xs → P) : x.isLst = true → P := fun z => (isLst_lst z).elim h
theorem br_lstN (h : ∀ xs, x = .lst xs → P) : (!x.isLst) = false → P := fun z => (isLst_lst (nbf z)).elim h
theorem br_str (h : ∀ xs, x = .str xs → P) : x.isStr = true → P := fun z => (isStr_str z).elim h
theorem br_strN (h : ∀ xs, x = .str xs → P) : (!x.isStr) = false → P := fun z => (isStr_str (nbf z)).elim h
theorem br_non (h : x = .non → P) : x.isNon = true → P := fun z => h (isNon_non z)
theorem br_nonN (h : x = .non → P) : (!x.isNon) = false → P := fun z => h (isNon_non (nbf z))
end
theorem fin_bl {kk : Res → Prop} {b b' : Bool} (g : kk (.d (.bl b'))) (e : b' = b) : kk (.d (.bl b)) := by rw [← e]; exact g
theorem fin_d {kk : Res → Prop} {b b' : D} (g : kk (.d b')) (e : b' = b) : kk (.d b) := by rw [← e]; exact g
theorem signs_one {z : Str} {P : D → Prop} (h : ∀ c, P (.str ⟨#[c]⟩)) : ∀ d, d ∈ signsD z → P d := fun d hd => by
  unfold signsD at hd
  obtain ⟨c, _, e⟩ := List.mem_map.mp hd
  rw [← e]
  exact h c
theorem signs_len {z : Str} : (signsD z).length = z.length := by
  unfold signsD
  rw [List.length_map, Array.length_toList]
  rfl
theorem cut_sub {ds : List D} {lo hi : Option Int} {d : D} (h : d ∈ PW.cutD ds lo hi) : d ∈ ds := by
  unfold PW.cutD at h
  exact List.mem_of_mem_drop (List.mem_of_mem_take h)
theorem cut_len {ds : List D} {lo hi : Option Int} : (PW.cutD ds lo hi).length ≤ ds.length := by
  unfold PW.cutD
  rw [List.length_take, List.length_drop]
  omega
theorem cutD_tail {y : D} {ys : List D} : PW.cutD (y :: ys) (some 1) none = ys := by
  have e : HT.sIx (y :: ys).length 0 (some 1) = 1 := by
    show (if (1 : Int) < 0 then ((1 : Int) + ((y :: ys).length : Int)).toNat else min (1 : Int).toNat (y :: ys).length) = 1
    rw [if_neg (by decide), List.length_cons]
    show min 1 (ys.length + 1) = 1
    omega
  unfold PW.cutD
  rw [e, HT.sIx_none, List.length_cons, List.drop_one, List.tail_cons, Nat.add_sub_cancel, List.take_length]
theorem szT {xs : List D} (h : (D.tup xs).jn = true) : xs.length ≤ sizeLine := szl (jn_tup h).1
theorem szL {xs : List D} (h : (D.lst xs).jn = true) : xs.length ≤ sizeLine := szl (jn_lst h).1
theorem szS {s : Str} (h : (D.str s).jn = true) : s.length ≤ sizeLine := szl (jn_str h)
theorem szG {s : Str} (h : (D.str s).jn = true) : (signsD s).length ≤ sizeLine := by rw [signs_len]; exact szS h
theorem szC {ds : List D} {lo hi : Option Int} (h : ds.length ≤ sizeLine) : (PW.cutD ds lo hi).length ≤ sizeLine := Nat.le_trans cut_len h
theorem jnT {xs : List D} {x : D} (h : (D.tup xs).jn = true) (hx : x ∈ xs) : x.jn = true := (jn_tup h).2 x hx
theorem jnL' {xs : List D} {x : D} (h : (D.lst xs).jn = true) (hx : x ∈ xs) : x.jn = true := (jn_lst h).2 x hx

theorem atI_0 {y : D} {ys : List D} : atI (y :: ys) 0 = some y := by
  unfold atI ixN
  rw [if_pos (Int.le_refl 0), if_pos (by rw [List.length_cons]; omega)]
  rfl
theorem atI_1 {x y : D} {ys : List D} : atI (x :: y :: ys) 1 = some y := by
  unfold atI ixN
  rw [if_pos (by decide), if_pos (by rw [List.length_cons, List.length_cons]; omega)]
  rfl
theorem atI_2 {x y z : D} {ys : List D} : atI (x :: y :: z :: ys) 2 = some z := by
  unfold atI ixN
  rw [if_pos (by decide), if_pos (by rw [List.length_cons, List.length_cons, List.length_cons]; omega)]
  rfl
theorem lenc {y : D} {ys : List D} : ((y :: ys).length : Int) = (ys.length : Int) + 1 := by rw [List.length_cons]; omega
section
variable {K : PySem.W.Frag} {x y z : D} {ys : List D} {k : Res → Prop}
theorem o_ix0 (g : k (.d y)) : OpD K (rIx K) (.tup (y :: ys)) (.int 0) k := o_ixT atI_0 g
theorem o_ix1 (g : k (.d y)) : OpD K (rIx K) (.tup (x :: y :: ys)) (.int 1) k := o_ixT atI_1 g
theorem o_ix2 (g : k (.d z)) : OpD K (rIx K) (.tup (x :: y :: z :: ys)) (.int 2) k := o_ixT atI_2 g
theorem sl_tail {kk : Res → Prop} (g : kk (.d (.tup ys))) : SlD K (rSlU K) (.tup (y :: ys)) (some 1) none kk := sl_T (by rw [cutD_tail]; exact g)
end
theorem szTl {y : D} {ys : List D} (h : (D.tup (y :: ys)).jn = true) : ys.length ≤ sizeLine := by
  have := (jn_tup h).1
  rw [List.length_cons] at this
  exact szl (by omega)
theorem ne_len {xs : List D} (h : 1 ≤ (xs.length : Int)) : xs ≠ [] := fun e => by
  rw [e] at h
  exact absurd h (by decide)
theorem o_ix0e {K : PySem.W.Frag} {xs : List D} {k : Res → Prop} (h : xs ≠ []) (g : ∀ y ys, xs = y :: ys → k (.d y)) : OpD K (rIx K) (.tup xs) (.int 0) k := by
  cases xs with
  | nil => exact absurd rfl h
  | cons y ys => exact o_ix0 (g y ys rfl)

/-! the first that fails -/
def firstBad (p : D → Bool) : Nat → List D → Option Nat
  | _, [] => none
  | n, d :: ds => if p d = true then firstBad p (n + 1) ds else some n
theorem firstBad_at {p : D → Bool} : ∀ {cs : List D} {n i : Nat} {x : D}, (∀ j y, j < i → cs[j]? = some y → p y = true) → cs[i]? = some x → p x = false → firstBad p n cs = some (n + i)
  | [], _, _, _, _, h, _ => by cases h
  | c :: cs, n, 0, x, _, h, hx => by
    cases h
    rw [firstBad, if_neg (by rw [hx]; exact Bool.false_ne_true)]
    rfl
  | c :: cs, n, i + 1, x, h0, h, hx => by
    rw [firstBad, if_pos (h0 0 c (Nat.succ_pos _) rfl), firstBad_at (i := i) (fun j y hj e => h0 (j + 1) y (Nat.succ_lt_succ hj) e) h hx]
    congr 1
    omega
theorem firstBad_none {p : D → Bool} : ∀ {cs : List D} {n : Nat}, (∀ j y, j < cs.length → cs[j]? = some y → p y = true) → firstBad p n cs = none
  | [], _, _ => rfl
  | c :: cs, n, h => by
    rw [firstBad, if_pos (h 0 c (Nat.succ_pos _) rfl)]
    exact firstBad_none fun j y hj e => h (j + 1) y (Nat.succ_lt_succ hj) e
theorem jnT2 {x : D} {xs ys : List D} (hx : x ∈ xs) (h : (D.tup ys).jn = true) (hm : D.tup xs ∈ ys) : x.jn = true := jnT (jnT h hm) hx
theorem jnTr {x : D} {xs : List D} (hx : x ∈ xs) (h : (D.tup xs).jn = true) : x.jn = true := jnT h hx
end PW
end
section
/-! PW: readings walked by values (for a def that writes into the hand), an item by a draw. -/
namespace PW
open PySem PySem.Spec PyProof.Rows L2
section
variable {K : PySem.W.Frag} {σ : L2.St} {H : Hp} {Q : VK} {ta tb tc te ti : TE} {D : Ends} {t u : TS} {i j : Int} {n m : Nat} {v w : V} {a c : Addr} {vs : List V}
theorem r_var {n : Nat} (h : σ[n]? = some (some v)) (q : Q v H) : tVar n σ H Q := ⟨v, h, q⟩
theorem r_c (q : Q v H) : tC v σ H Q := q
theorem r_op {r : R2} (h : ta σ H fun x H1 => tb σ H1 fun y H2 => r x y H2 Q) : tOp r ta tb σ H Q := h
theorem r_addI (q : Q (.int (i + j)) H) : rAddU K (.int i) (.int j) H Q := .inl (.inl (.inl ⟨i, j, rfl, rfl, q⟩))
theorem r_subI (q : Q (.int (i - j)) H) : rSubI (.int i) (.int j) H Q := ⟨i, j, rfl, rfl, q⟩
theorem r_mulI (h : CMul i j) (q : Q (.int (i * j)) H) : rMulU K (.int i) (.int j) H Q := .inl ⟨i, j, rfl, rfl, h, q⟩
theorem r_divI (h : 0 < j ∧ j < 1073741824) (q : Q (.int (i / j)) H) : rDivI (.int i) (.int j) H Q := ⟨i, j, rfl, rfl, h, q⟩
theorem r_modI (h : 0 < j) (q : Q (.int (i % j)) H) : rModI (.int i) (.int j) H Q := ⟨i, j, rfl, rfl, h, q⟩
theorem r_powI (h : CPow i j) (q : Q (.int (i ^ j.toNat)) H) : rPowI (.int i) (.int j) H Q := ⟨i, j, rfl, rfl, h, q⟩
theorem r_ltI (q : Q (.bl (decide (i < j))) H) : rLtI (.int i) (.int j) H Q := ⟨i, j, rfl, rfl, q⟩
theorem r_leI (q : Q (.bl (decide (i ≤ j))) H) : rLeI (.int i) (.int j) H Q := ⟨i, j, rfl, rfl, q⟩
theorem r_gtI (q : Q (.bl (decide (j < i))) H) : rGtI (.int i) (.int j) H Q := ⟨i, j, rfl, rfl, q⟩
theorem r_geI (q : Q (.bl (decide (j ≤ i))) H) : rGeI (.int i) (.int j) H Q := ⟨i, j, rfl, rfl, q⟩
theorem r_eqI (q : Q (.bl (decide (i = j))) H) : rEqD K (.int i) (.int j) H Q := ⟨.int i, .int j, .int i, .int j, rfl, rfl, by rw [show PyData.eqv (.int i) (.int j) = decide (i = j) from eqv_int i j]; exact q⟩
theorem r_ix (h : H a = some (.lst vs)) (e : atI vs i = some w) (q : Q w H) : rIx K (.ref a) (.int i) H Q := .inl ⟨a, vs, i, w, rfl, rfl, SqL.of h, e, q⟩
theorem r_len (h : H a = some (.lst vs)) (q : Q (.int vs.length) H) : rLenU K [.ref a] H Q := ⟨.ref a, vs.length, rfl, .inl ⟨vs, SqL.of h, rfl⟩, q⟩
theorem r_int (q : Q (.int i) H) : rIntU [.int i] H Q := .inl ⟨i, rfl, q⟩
theorem r_cb {r : List V → Hp → VK → Prop} {ta : TA} (h : ta σ H fun vs H1 => r vs H1 Q) : tCB r ta σ H Q := h
theorem r_nil {Q : List V → Hp → Prop} (q : Q [] H) : tNil σ H Q := q
theorem r_cons {Q : List V → Hp → Prop} {ts : TA} (h : te σ H fun x H1 => ts σ H1 fun xs H2 => Q (x :: xs) H2) : tCons te ts σ H Q := h
theorem r_test {Q : Bool → Hp → Prop} (h : te σ H fun x H1 => ∃ c, x = .bl c ∧ Q c H1) : tTest te σ H Q := h
theorem r_b {Q : Bool → Hp → Prop} (h : te σ H fun x H1 => ∃ c, x = .bl c ∧ Q c H1) : tB te σ H Q := h
theorem r_and {Q : Bool → Hp → Prop} {t u : TT} (h : t σ H fun c H1 => (c = true → u σ H1 Q) ∧ (c = false → Q false H1)) : tAnd t u σ H Q := by
  have e : (fun (c : Bool) (H1 : Hp) => (c = true → u σ H1 Q) ∧ (c = false → Q false H1)) = fun c H1 => if c = true then u σ H1 Q else Q false H1 := by
    funext c H1
    cases c <;> simp
  show t σ H fun c H1 => if c = true then u σ H1 Q else Q false H1
  rw [← e]
  exact h
theorem r_if {c : TT} (h : c σ H fun b H1 => (b = true → t D σ H1) ∧ (b = false → u D σ H1)) : tIfS c t u D σ H := by
  have e : (fun (b : Bool) (H1 : Hp) => (b = true → t D σ H1) ∧ (b = false → u D σ H1)) = fun b H1 => if b = true then t D σ H1 else u D σ H1 := by
    funext b H1
    cases b <;> simp
  show c σ H fun b H1 => if b = true then t D σ H1 else u D σ H1
  rw [← e]
  exact h
theorem r_bl {Q : Bool → Prop} {b : Bool} (q : Q b) : ∃ c, V.bl b = .bl c ∧ Q c := ⟨b, rfl, q⟩
theorem r_seq (h : t { D with nx := u D } σ H) : tSeq t u D σ H := h
theorem r_next (h : D.nx σ H) : tNext D σ H := h
theorem r_ret (h : te σ H D.rt) : tRet te D σ H := h
theorem r_asg {n : Nat} (h : te σ H fun x H1 => ∃ σ2, σ.set n (some x) = σ2 ∧ D.nx σ2 H1) : tAsg te (gName n) D σ H := by
  have e : (fun (x : V) (H1 : Hp) => ∃ σ2, σ.set n (some x) = σ2 ∧ D.nx σ2 H1) = fun x H1 => D.nx (σ.set n (some x)) H1 := by
    funext x H1
    exact propext ⟨fun ⟨_, e, q⟩ => by rw [e]; exact q, fun q => ⟨_, rfl, q⟩⟩
  show te σ H fun x H1 => D.nx (σ.set n (some x)) H1
  rw [← e]
  exact h
theorem r_sub {te to ti : TE} (h : te σ H fun v H1 => to σ H1 fun o H2 => ti σ H2 fun i H3 => rSetL o i v H3 fun H4 => D.nx σ H4) : tAsg te (gSub to ti rSetL) D σ H := h
theorem r_set {Q : Hp → Prop} {k : Nat} (h : H a = some (.lst vs)) (e : ixN vs.length i = some k) (q : ∀ H2, H2 a = some (.lst (vs.set k v)) → (∀ b, b ≠ a → H2 b = H b) → Q H2) : rSetL (.ref a) (.int i) v H Q :=
  ⟨a, vs, i, k, rfl, rfl, h, e, q _ upd_same fun b hb => upd_ne hb⟩
end

/-- the promise of _law_any: an item by a draw -/
def spAny (K : PySem.W.Frag) : Sp := fun vs H Q _ => ∃ (M : Addr → Prop) (a b : Addr) (xs : List V), vs = [.ref a, .ref b] ∧ Tr M H ∧ M a ∧ HandOk M K H a ∧ ((H b = some (.lst xs) ∧ b ≠ a) ∨ ColdT M K H b xs) ∧ xs ≠ [] ∧ xs.length < 1073741824 ∧
  ∀ v H', v ∈ xs → (∀ c o, c ≠ a → H c = some o → H' c = some o) → HandOk M K H' a → Q v H'
theorem da_mem {M : Addr → Prop} {K : PySem.W.Frag} {H : Hp} : ∀ {ds : List D} {vs : List V} {v : V}, DaAll M K H vs ds → v ∈ vs → ∃ d, d ∈ ds ∧ Da M K H v d
  | [], _, _, h, hv => by
    rw [show _ = [] from h] at hv
    cases hv
  | d :: ds, _, v, h, hv => by
    obtain ⟨w, r, e, h1, h2⟩ := h
    rw [e] at hv
    rcases List.mem_cons.mp hv with e2 | hv
    · rw [e2]
      exact ⟨d, List.mem_cons_self .., h1⟩
    · obtain ⟨d', q1, q2⟩ := da_mem h2 hv
      exact ⟨d', List.mem_cons_of_mem _ q1, q2⟩
section
variable {K : PySem.W.Frag} {ρ : List Ent} {k : KE} {te : TE} {i : Nat} {E : XK}
theorem da_seq {M : Addr → Prop} {H : Hp} {v : V} {x : D} {ds : List D} (h : Da M K H v x) (hi : itemsD x = some ds) : ∃ b vs, v = .ref b ∧ ((H b = some (.lst vs) ∧ ¬ M b) ∨ ColdT M K H b vs) ∧ DaAll M K H vs ds := by
  cases x with
  | lst es =>
    cases hi
    obtain ⟨b, vs, e, h1, h2⟩ := h
    exact ⟨b, vs, e, .inl ⟨h1.2, h1.1⟩, h2⟩
  | tup es =>
    cases hi
    obtain ⟨b, vs, e, h1, h2⟩ := h
    exact ⟨b, vs, e, .inr h1, h2⟩
  | _ => cases hi
/-- what is held, as a sequence of data: none of the items at a hot address -/
theorem Held.seq {F : Fr} {H : Hp} {σ : L2.St} {v : V} {r : Res} {x : D} {ds : List D} {a : Addr} (E : Env K F H σ ρ) (h : Held K F H σ ρ v r) (hp : peek ρ r = some x) (hi : itemsD x = some ds) (ha : F.hd = some a) :
    ∃ b vs, v = .ref b ∧ ((H b = some (.lst vs) ∧ b ≠ a) ∨ ColdT (hot F σ ρ) K H b vs) ∧ DaAll (hot F σ ρ) K H vs ds := by
  have hm : hot F σ ρ a := .inl (E.hand a ha).1
  have fin : Da (hot F σ ρ) K H v x → ∃ b vs, v = .ref b ∧ ((H b = some (.lst vs) ∧ b ≠ a) ∨ ColdT (hot F σ ρ) K H b vs) ∧ DaAll (hot F σ ρ) K H vs ds := fun d => by
    obtain ⟨b, vs, e, h1, h2⟩ := da_seq d hi
    refine ⟨b, vs, e, ?_, h2⟩
    rcases h1 with ⟨q1, q2⟩ | q
    · exact .inl ⟨q1, fun z => q2 (by rw [z]; exact hm)⟩
    · exact .inr q
  cases r with
  | d y => cases hp; exact fin h
  | nw y => cases hp; exact fin h
  | v j =>
    have h : σ[j]? = some (some v) := h
    have hp : peekE ρ[j]? = some x := hp
    cases e : ρ[j]? with
    | none => rw [e] at hp; cases hp
    | some en =>
      rw [e] at hp
      cases en with
      | own y =>
        cases hp
        obtain ⟨p, e2, hh, ho⟩ := E.slotOwn e
        rw [h] at e2
        cases e2
        have nM := (E.new j _ p e h).2
        cases x with
        | lst es =>
          cases hi
          obtain ⟨vs, h1, h2⟩ := ho
          exact ⟨p, vs, rfl, .inl ⟨h1, fun z => nM (by rw [z]; exact (E.hand a ha).1)⟩, h2⟩
        | dct _ _ => cases hi
        | obj _ _ _ => cases hi
        | _ => exact (show False from ho).elim
      | d y =>
        cases hp
        obtain ⟨w, e2, hd⟩ := E.slot j _ e
        rw [h] at e2
        cases e2
        exact fin hd
      | u => cases hp
      | hand => cases hp
def tAny (sp : Sp) (E : XK) (i : Nat) (te : TE) : TE := tCall sp [] E (tCons (tVar i) (tCons te tNil))
theorem xe_any (hi : ρ[i]? = some .hand) (h : XE K te ρ fun r ρ1 => ∃ x ds, peek ρ1 r = some x ∧ itemsD x = some ds ∧ ds ≠ [] ∧ ds.length < 1073741824 ∧ ∀ d, d ∈ ds → k (.d d) ρ1) : XE K (tAny (spAny K) E i te) ρ k := fun F H σ Q E0 q => by
  obtain ⟨a, ha, es⟩ := E0.slot i _ hi
  refine ⟨_, es, ?_⟩
  refine h F H σ _ E0 fun v H1 r ρ1 kp R ⟨x, ds, px, hx, n0, hl, g⟩ => ?_
  have E1 := R.env
  obtain ⟨b, vs, rfl, h1, h2⟩ := Held.seq E1 R.held px hx ha
  obtain ⟨m1, m2, m3⟩ := E1.hand a ha
  refine ⟨hot F σ ρ1, a, b, vs, rfl, hot_tr E1, .inl m1, m3, h1, fun e => n0 ?_, by rw [h2.length]; exact hl, fun w H' hw st hh => ?_⟩
  · have := h2.length
    rw [e] at this
    exact List.length_eq_zero_iff.mp this.symm
  · obtain ⟨d, hd, dw⟩ := da_mem h2 hw
    have st' : ∀ c o, F.hd ≠ some c → H1 c = some o → H' c = some o := fun c o n e => st c o (fun z => n (by rw [z]; exact ha)) e
    have E2 : Env K F H' σ ρ1 := E1.step st' fun c hc => by
      rw [ha] at hc
      cases hc
      exact hh
    have k3 : Keep (hot F σ ρ1) H1 (hot F σ ρ1) H' := fun c o n e => ⟨n, st c o (fun z => n (by rw [z]; exact .inl m1)) e⟩
    exact q w H' (.d d) ρ1 (hotR.d ((hotR.hot kp).trans k3)) ⟨E2, dw.mono k3⟩ (g d hd)
theorem ex_any {o : Option D} {f : D → Option (List D)} {P : List D → Prop} {x : D} {ds : List D} (e : o = some x) (e2 : f x = some ds) (h1 : ds ≠ []) (h2 : ds.length < 1073741824) (g : P ds) : ∃ x ds, o = some x ∧ f x = some ds ∧ ds ≠ [] ∧ ds.length < 1073741824 ∧ P ds := ⟨x, ds, e, e2, h1, h2, g⟩
end
/-- the box behind a draw -/
theorem hand_fin {M : Addr → Prop} {K : PySem.W.Frag} {H H' : Hp} {a c : Addr} {cs : List Int} {i r m n : Int} {g : Bool} (ma : M a) (hc : ColdL M K H c (cs.map V.int)) (st : ∀ b, b ≠ a → H' b = H b)
    (h : H' a = some (.dK (boxK c i r m g n))) (h1 : 0 ≤ i) : HandOk M K H' a :=
  ⟨c, cs, i, r, m, g, n, h, ⟨hc.1, by rw [st c fun z => hc.1 (by rw [z]; exact ma)]; exact hc.2⟩, h1⟩
section
variable {H : Hp} {a c : Addr} {i r m n j : Int} {g b : Bool}
theorem bx_val {k : Str} {kvs : List (Key × V)} {v : V} (h : H a = some (.dK kvs)) (e : valV kvs (.inr k) = some v) : DGet H a (.str k) (some v) := by
  have := DGet.k (k := .inr k) h
  rw [e] at this
  exact this
theorem bx_to {k : Str} {kvs kvs' : List (Key × V)} {v : V} (h : H a = some (.dK kvs)) (hl : kvs.length < sizeLine) (e : putK kvs (.inr k) v = kvs') {Q : Hp → Prop} (q : ∀ H2, H2 a = some (.dK kvs') → (∀ b, b ≠ a → H2 b = H b) → Q H2) : ∃ H2, DPut H a (.str k) v H2 ∧ Q H2 := by
  subst e
  exact ⟨_, .inl ⟨kvs, .inr k, h, rfl, hl, rfl⟩, q _ upd_same fun b hb => upd_ne hb⟩
theorem bv_cells : valV (boxK c i r m g n) (.inr "cells") = some (.ref c) := by kernel_rfl
theorem bv_at : valV (boxK c i r m g n) (.inr "at") = some (.int i) := by kernel_rfl
theorem bv_rest : valV (boxK c i r m g n) (.inr "rest") = some (.int r) := by kernel_rfl
theorem bv_many : valV (boxK c i r m g n) (.inr "many") = some (.int m) := by kernel_rfl
theorem bv_great : valV (boxK c i r m g n) (.inr "great") = some (.bl g) := by kernel_rfl
theorem bv_all : valV (boxK c i r m g n) (.inr "all") = some (.int n) := by kernel_rfl
theorem bp_at : putK (boxK c i r m g n) (.inr "at") (.int j) = boxK c j r m g n := by kernel_rfl
theorem bp_rest : putK (boxK c i r m g n) (.inr "rest") (.int j) = boxK c i j m g n := by kernel_rfl
theorem bp_many : putK (boxK c i r m g n) (.inr "many") (.int j) = boxK c i r j g n := by kernel_rfl
theorem bp_great : putK (boxK c i r m g n) (.inr "great") (.bl b) = boxK c i r m b n := by kernel_rfl
theorem bp_all : putK (boxK c i r m g n) (.inr "all") (.int j) = boxK c i r m g j := by kernel_rfl
theorem bx_len : (boxK c i r m g n).length < sizeLine := by show 6 < sizeLine; decide
end
end PW
end
section
/-! PW: set(list of texts); len of it. -/
namespace PW
open PySem PySem.Spec PyProof.Rows L2
open Sem (wp)

section
variable {α : Type} [DecidableEq α]
/-- the distinct ones, in the order in which they are met -/
def metStep (acc : List α) (v : α) : List α := if v ∈ acc then acc else acc ++ [v]
def metTo (val : Nat → α) : Nat → List α
  | 0 => []
  | i + 1 => metStep (metTo val i) (val i)
theorem metTo_len (val : Nat → α) : ∀ i, (metTo val i).length ≤ i
  | 0 => Nat.le_refl _
  | i + 1 => by
    have ih := metTo_len val i
    unfold metTo metStep
    split
    · omega
    · rw [List.length_append, List.length_singleton]; omega
theorem metStep_mem {acc : List α} {v k : α} : k ∈ metStep acc v ↔ k ∈ acc ∨ k = v := by
  unfold metStep
  split
  · constructor
    · exact .inl
    · intro h
      rcases h with h | h
      · exact h
      · rw [h]; assumption
  · rw [List.mem_append, List.mem_singleton]
theorem setOf_same {prog : Program} {w : World} {knd : KeyKind prog w α} {h : Heap} {a : Addr} {S S' : α → Bool} {n n' : Nat} (hS : h.SetOf knd a S n) (e : ∀ k, S k = S' k) (en : n = n') : h.SetOf knd a S' n' := by
  have q : S = S' := funext e
  subst q en
  exact hS
/-- what the set holds behind i items -/
def HasTo {prog : Program} {w : World} (knd : KeyKind prog w α) (val : Nat → α) (h : Heap) (S : Addr) (i : Nat) : Prop := h.SetOf knd S (fun k => decide (k ∈ metTo val i)) (metTo val i).length
variable {prog : Program} {w : World} {A : Around} {R : Result → Shared → Prop} {I : Addr} {fp wr : List Addr} {G : Array GenState → Array GenState → Prop} {n : Nat} {P : Nat → Value → Prop} {St : Nat → Shared → Prop} {knd : KeyKind prog w α}
theorem HasTo.move {val : Nat → α} {S : Addr} {i : Nat} {h h' : Heap} (x : HasTo knd val h S i) (k : ∀ o, h.get? S = some o → h'.get? S = some o) : HasTo knd val h' S i := by
  obtain ⟨o, es, ep, t, ho, rest⟩ := x
  exact ⟨o, es, ep, t, k o ho, rest⟩
theorem loop_has (W : WalksS prog w A.in1 I fp wr G n P St) (S : Addr) (hSf : S ∉ fp) (val : Nat → α) (hval : ∀ i v, P i v → knd.is (val i) v = true ∧ v.scannable = true) (hb : n + 1 < scanBound) :
    ∀ (k i : Nat) (s : Shared), n - i = k → i ≤ n → St i s → HasTo knd val s.heap S i → (∀ s', Moved (S :: wr) G s s' → HasTo knd val s'.heap S n → R (.ok (.ret .none)) s') →
      codeAny (model prog w) A (.builtin "set.update.loop" ⟨[.ref S, .ref I], []⟩) R s := by
  have hSw : S ∉ wr := fun h => hSf (W.sub _ h)
  have hsub : ∀ b ∈ wr, b ∈ S :: wr := fun b hb => List.mem_cons_of_mem _ hb
  intro k
  induction k with
  | zero =>
    intro i s hk hi hst hS hR
    obtain rfl : i = n := by omega
    refine codeAny_builtin F.entry_set_update_loop ?_
    rw [Around.under_plainId F.plain_set_update_loop _]
    refine wpAny_bind (W.done s _ _ hst fun s' hm => ?_)
    exact wpAny_pure (hR s' (hm.mono hsub) (hS.move fun o ho => hm.heap S o hSw ho))
  | succ k ih =>
    intro i s hk hi hst hS hR
    have hlt : i < n := by omega
    refine codeAny_builtin F.entry_set_update_loop ?_
    rw [Around.under_plainId F.plain_set_update_loop _]
    refine wpAny_bind (W.item i s _ _ hlt hst fun v s' hP hst' hm => ?_)
    obtain ⟨hk1, hk2⟩ := hval i v hP
    have hS' := hS.move fun o ho => hm.heap S o hSw ho
    show wpAny _ A.in1 (holding [v] (setAdd S v) >>= _) _ _ s'
    refine wpAny_bind (wpAny_holding ?_)
    unfold setAdd
    refine wpAny_holding ?_
    refine wpAny_bind (knd.pyHash (k := val i) hk1 ?_)
    have hroom : (metTo val i).length + 1 < scanBound := by have := metTo_len val i; omega
    refine wpAny_setAddHashed_of (knd := knd) (s := { s' with toks := s'.toks + 1 }) hk1 hk2 hS' hroom fun h' hsb hS2 => ?_
    have hSi : HasTo knd val h' S (i + 1) := setOf_same hS2 (fun k' => by
        have e : (k' ∈ metTo val (i + 1)) ↔ (k' ∈ metTo val i ∨ k' = val i) := metStep_mem
        rw [← Bool.decide_or]
        exact decide_eq_decide.mpr e.symm) (by
        show _ = (metStep (metTo val i) (val i)).length
        unfold metStep
        by_cases q : val i ∈ metTo val i
        · rw [if_pos q, if_pos (decide_eq_true q)]
        · rw [if_neg q, if_neg (by rw [decide_eq_false q]; exact Bool.false_ne_true), List.length_append, List.length_singleton])
    refine wpAny_pure ⟨plainId_quiet F.plain_set_update_loop _, ih (i + 1) _ (by omega) hlt (W.frame _ s' _ _ hst' (Nat.le_succ _) fun b hb o e => ?_) hSi fun s'' hm'' hS'' => ?_⟩
    · rw [hsb.2 b (fun h : b = S => hSf (by rw [← h]; exact hb))]; exact e
    · refine hR s'' (Moved.trans W.gtrans ((hm.mono hsub).then_heap (Nat.le_succ _) fun b o hb e => ?_) hm'') hS''
      rw [hsb.2 b (fun h : b = S => hb (by rw [h]; exact List.mem_cons_self))]; exact e
end

section
variable {α : Type} [DecidableEq α] {prog : Program} {w : World} {A : Around} {E : Value → Shared → Prop} {s : Shared} {knd : KeyKind prog w α}
set_option maxHeartbeats 3200000 in
theorem call_set_met {l : Addr} {items : Array Value} {Q : Value → Shared → Prop} (val : Nat → α) (hh : A.handled = none) (hl : s.heap.IsList l items) (hi : ∀ i v, items[i]? = some v → knd.is (val i) v = true ∧ v.scannable = true) (hb : items.size + 1 < scanBound)
    (h : ∀ (h' : Heap) (tk : Nat), HasTo knd val h' s.heap.objs.size items.size → (∀ b o, b < s.heap.objs.size → s.heap.get? b = some o → h'.get? b = some o) → Q (.ref s.heap.objs.size) { s with heap := h', toks := tk }) :
    wpAny (model prog w) A (call (.type "set") [.ref l]) Q E s := by
  obtain ⟨c, tl, hmro⟩ := PySem.F.called_set.mro
  have hmade := PySem.F.called_set.made
  have hsub := PySem.F.called_set.sub
  refine wpAny_call (codeAny_of_tree ?_)
  show wpAny _ _ (callAny (.type "set") _) _ _ _
  refine wpAny_pure ⟨Code.quiet_builtin _ (by decide +kernel), codeAny_builtin PySem.F.entry_type_call ?_⟩
  rw [Around.under_plain (weight_type_call_type "set" [.ref l] []) rfl]
  have h1 := PySem.F.called_set.notType
  have h2 := PySem.F.called_set.canCreate
  have hct := PySem.F.typeCall_set_1 (.ref l)
  repeat (any_goals (first | assumption | wp_step))

  refine codeAny_mono (code_set_new_1 (.ref l) (E := E) (Q₁ := fun obj s₁ => ∃ led : Bool, obj = .ref s.heap.objs.size ∧ s₁ = { s with heap := s.heap.push { cls := .type "set", dict := none, data := .set #[] 0 (.fresh 0 0 led) } }) fun led => ⟨led, rfl, rfl⟩) fun r s₁ hr => ?_
  cases r with
  | error e => exact hr
  | ok fl =>
    cases fl with
    | ret obj =>
      obtain ⟨led, rfl, rfl⟩ := hr
      have hS : (s.heap.push { cls := .type "set", dict := none, data := .set #[] 0 (.fresh 0 0 led) }).get? s.heap.objs.size = some { cls := .type "set", dict := none, data := .set #[] 0 (.fresh 0 0 led) } := Heap.get?_push_size _ rfl
      have hT : Shared.TypeIs { s with heap := s.heap.push { cls := .type "set", dict := none, data := .set #[] 0 (.fresh 0 0 led) } } (.ref s.heap.objs.size) "set" := ⟨_, hS, rfl⟩
      have hli := PySem.F.called_set.init.lookup
      have hbi := PySem.F.called_set.init.bind (.ref s.heap.objs.size)
      repeat (any_goals (first | assumption | wp_step))

      refine codeAny_mono (codeAny_call_builtin (R := wants (fun r s₂ => r = .none ∧ ∃ h' tk, s₂ = { s with heap := h', toks := tk } ∧
          HasTo knd val h' s.heap.objs.size items.size ∧
          (∀ b o, b < s.heap.objs.size → s.heap.get? b = some o → h'.get? b = some o)) E) PySem.F.called_set.init.plain PySem.F.entry_set_init (check_set_init_1 hT ?_)) fun r₂ s₂ hr₂ => ?_
      · obtain ⟨ol, hol, hcl, nl, hdl⟩ := hl
        obtain ⟨ocls, odict, odata, oslots⟩ := ol
        simp only at hcl hdl
        subst hcl; subst hdl
        have hol' : (s.heap.push { cls := .type "set", dict := none, data := .set #[] 0 (.fresh 0 0 led) }).get? l = some { cls := .type "list", dict := odict, data := .seq items nl, slots := oslots } := Heap.get?_push_of_some _ hol
        have hsls := PySem.F.sub_list_set
        have hslf := PySem.F.sub_list_frozenset
        have hne : (Value.type "list" == Value.type "dict") = false := by decide
        have hl1 : (s.heap.push { cls := .type "set", dict := none, data := .set #[] 0 (.fresh 0 0 led) }).IsList l items := ⟨_, hol', rfl, nl, rfl⟩
        unfold Builtin.«set.__init__» noKeywords Builtin.Frozenset.updateFrom
        generalize hPI : pyIter = PI
        wp_walk
        subst hPI

        refine wpAny_pyIter_list hl1 ?_
        refine wpAny_bind (wpAny_runValue ?_)
        have hlS : l < s.heap.objs.size := Heap.lt_size hol
        have hh3 : A.in1.in1.in1.handled = none := by simp [hh]
        have hneI : l ≠ (s.heap.push { cls := .type "set", dict := none, data := .set #[] 0 (.fresh 0 0 led) }).objs.size := by
          rw [Heap.size_push]; exact Nat.ne_of_lt (Nat.lt_succ_of_lt hlS)
        have hSf : s.heap.objs.size ∉ [(s.heap.push { cls := .type "set", dict := none, data := .set #[] 0 (.fresh 0 0 led) }).objs.size, l] := by
          rw [Heap.size_push]; simp only [List.mem_cons, List.mem_singleton, List.not_mem_nil, or_false, not_or]
          exact ⟨Nat.ne_of_lt (Nat.lt_succ_self _), Nat.ne_of_gt hlS⟩
        refine loop_has ((Walks.list hh3 _ l hneI items).toS) s.heap.objs.size
          hSf val hi hb (items.size - 0) 0 _ (by omega) (Nat.zero_le _)
          ⟨⟨_, Heap.get?_push_size _ rfl, rfl, rfl⟩, (hl1.push _)⟩ ?hS0 ?hR
        case hS0 =>
          have hget : ((s.heap.push { cls := .type "set", dict := none, data := .set #[] 0 (.fresh 0 0 led) }).push { cls := .type "list_iterator", data := .fields #[.ref l, .int 0 0] }).get? s.heap.objs.size
              = some { cls := .type "set", dict := none, data := .set #[] 0 (.fresh 0 0 led) } := Heap.get?_push_of_some _ hS
          exact setOf_same ((PyProof.Rows.setObjOf_fresh (knd := knd) led).setOf hget (by unfold scanBound; omega)) (fun _ => rfl) rfl
        case hR =>
          intro s' hm hS'
          obtain ⟨h', g', d', tk', os'⟩ := s'
          have eg : g' = s.gens := hm.gens
          have ed : d' = s.drawn := hm.drawn
          have eo : os' = s.os := hm.os
          subst eg; subst ed; subst eo
          show wpAny _ _ _ _ _ _
          refine wpAny_pure ?_
          show wpAny _ _ (ret Value.none) _ _ _
          refine wpAny_pure ⟨rfl, h', tk', rfl, hS', fun b o hb e => ?_⟩
          have hb1 : b ≠ s.heap.objs.size := Nat.ne_of_lt hb
          have hb2 : b ≠ (s.heap.push { cls := .type "set", dict := none, data := .set #[] 0 (.fresh 0 0 led) }).objs.size := by
            rw [Heap.size_push]; exact Nat.ne_of_lt (Nat.lt_succ_of_lt hb)
          exact hm.heap b o (by simp only [List.mem_cons, List.mem_singleton, List.not_mem_nil, or_false, not_or]; exact ⟨hb1, hb2⟩) (Heap.get?_push_of_some _ (Heap.get?_push_of_some _ e))

      · cases r₂ with
        | error e => exact hr₂
        | ok fl₂ =>
          cases fl₂ with
          | ret r =>
            obtain ⟨rfl, h', tk, rfl, hS', hk'⟩ := hr₂
            repeat (any_goals (first | assumption | wp_step))
            exact h _ _ hS' hk'
          | _ => exact hr₂.elim
    | _ => exact hr.elim
end
end PW
end
section
/-! PW: len(set(names)), shifts, comparisons of tuples of numbers, an item of a display by a draw. -/
namespace PW
open PySem PySem.Spec PyProof.Rows L2
/-- how many texts there are, each once -/
def distinct (xs : List Str) : Nat := (metTo (fun i => xs.getD i Str.empty) xs.length).length
theorem strs_get : ∀ {ys : List Str} {us : List Value} {i : Nat} {v : Value}, Vals (ys.map V.str) us → us[i]? = some v → ∃ t, v = .str (ys.getD i Str.empty) t
  | [], _, _, _, .nil, h => by cases h
  | y :: ys, _, 0, v, .cons r t, h => by
    cases h
    obtain ⟨k, rfl⟩ := r
    exact ⟨k, rfl⟩
  | y :: ys, _, i + 1, v, .cons r t, h => by
    obtain ⟨k, e⟩ := strs_get (i := i) t (by simpa using h)
    exact ⟨k, by rw [e]; rfl⟩
def tLenSetS (K : PySem.W.Frag) (ta : TE) : TE := fun σ H Q => ta σ H fun x H1 => ∃ (l : Addr) (xs : List Str), x = .ref l ∧ SqL K H1 l (xs.map V.str) ∧ xs.length ≤ 4000 ∧ Q (.int (distinct xs : Nat)) H1
theorem pe_lenSetS {X : Cx} {a : Expr} {ta : TE} {p p2 q pos : Pos} (hg : Gl X "len") (hm : X.mg "len" = none) (hg2 : Gl X "set") (hm2 : X.mg "set" = none) (ha : PE X a ta) (hc : X.calm = true := by rfl)
    (na : starEach [a] X.env = (false, eval a X.env) :: starEach [] X.env := by rfl) : PE X (.Call (.Name "len" p) [.Call (.Name "set" p2) [a] [] q] [] pos) (tLenSetS X.K ta) := by
  refine ⟨fun pins s σ H Q I h => ?_⟩
  refine Call_ (ld_blt I hg hm boot_len ?_)
  refine PyProof.Rows.callWith_builtin1 (PyProof.Rows.args_cons ?_ rfl) rfl rfl
  refine Call_ (ld_blt I hg2 hm2 boot_set ?_)
  refine PyProof.Rows.callWith_type1 (PyProof.Rows.args_cons (thn (ha.run pins s σ H _ I h) fun v s1 ⟨x, H1, I1, r1, q1⟩ => PyProof.Rows.args_nil ?_) na) na rfl
  obtain ⟨l, xs, rfl, hq, hl, q1⟩ := q1
  cases r1
  obtain ⟨its, r, pl, hz⟩ := I1.list hq
  have hlen : its.toArray.size = xs.length := by rw [List.size_toArray, ← r.length, List.length_map]
  refine call_set_met (knd := PySem.strKind X.prog X.w) (fun i => xs.getD i Str.empty) (I1.ok.hd hc) pl.isList (fun i v hv => ?_) (by rw [hlen]; unfold scanBound; omega) fun h' tk hS hk => ?_
  · obtain ⟨t, rfl⟩ := strs_get r (by simpa using hv)
    exact ⟨strKind_is _ _ _ _, rfl⟩
  · refine PyProof.Rows.args_nil ?_
    rw [hlen] at hS
    have hm := metTo_len (fun i => xs.getD i Str.empty) xs.length
    obtain ⟨o, es, ep, t, ho, hex, hd, _, _, _, hf, hn⟩ := hS
    have I2 : Inv X pins σ H1 { s1 with heap := h', toks := tk } := I1.kept fun b o e => hk b o (Heap.lt_size e) e
    exact call_len_set ho hex hd hf (by rw [hn] <;> omega) ⟨.int (distinct xs : Nat), H1, I2.tok _, ⟨_, by rw [hn]; rfl⟩, q1⟩
theorem met_nodup {xs : List Str} : ∀ i, i ≤ xs.length → ((metTo (fun i => xs.getD i Str.empty) i).length = i ↔ (xs.take i).Nodup) ∧ ∀ x, x ∈ metTo (fun i => xs.getD i Str.empty) i ↔ x ∈ xs.take i
  | 0, _ => ⟨⟨fun _ => by simp, fun _ => rfl⟩, fun x => by simp [metTo]⟩
  | i + 1, hi => by
    have hlt : i < xs.length := hi
    obtain ⟨ih1, ih2⟩ := met_nodup i (Nat.le_of_lt hlt)
    have e1 : xs.getD i Str.empty = xs[i] := by rw [List.getD_eq_getElem?_getD, List.getElem?_eq_getElem hlt]; rfl
    have e2 : xs.take (i + 1) = xs.take i ++ [xs[i]] := by
      rw [List.take_add_one, List.getElem?_eq_getElem hlt]
      rfl
    have hle := metTo_len (fun i => xs.getD i Str.empty) i
    refine ⟨?_, fun x => ?_⟩
    · show (metStep (metTo (fun i => xs.getD i Str.empty) i) (xs.getD i Str.empty)).length = i + 1 ↔ _
      rw [e1, e2]
      unfold metStep
      by_cases h : xs[i] ∈ metTo (fun i => xs.getD i Str.empty) i
      · rw [if_pos h]
        constructor
        · intro z; omega
        · intro z
          have := (List.nodup_append.mp z).2.2 xs[i] ((ih2 _).mp h) xs[i] (List.mem_singleton.mpr rfl)
          exact absurd rfl this
      · rw [if_neg h, List.length_append, List.length_singleton]
        constructor
        · intro z
          refine List.nodup_append.mpr ⟨ih1.mp (by omega), by simp, fun a ha b hb => ?_⟩
          rw [List.mem_singleton.mp hb]
          intro e
          exact h ((ih2 _).mpr (by rw [← e]; exact ha))
        · intro z
          have := ih1.mpr (List.nodup_append.mp z).1
          omega
    · show x ∈ metStep (metTo (fun i => xs.getD i Str.empty) i) (xs.getD i Str.empty) ↔ _
      rw [e1, e2, metStep_mem, ih2, List.mem_append, List.mem_singleton]
theorem distinct_nodup {xs : List Str} : decide ((distinct xs : Int) = (xs.length : Int)) = decide xs.Nodup := by
  have := (met_nodup (xs := xs) xs.length (Nat.le_refl _)).1
  rw [List.take_length] at this
  refine decide_eq_decide.mpr ⟨fun h => this.mp (by unfold distinct at h; omega), fun h => by unfold distinct; rw [this.mpr h]⟩
section
variable {K : PySem.W.Frag} {ρ : List Ent} {k : KE} {te : TE} {kk : Res → Prop} {i j : Int}
theorem ye_lenSet (h : XE K te ρ fun r ρ1 => ∃ xs : List Str, peek ρ1 r = some (.lst (xs.map D.str)) ∧ xs.length ≤ 4000 ∧ k (.d (.int (distinct xs : Nat))) ρ1) : XE K (tLenSetS K te) ρ k := fun F H σ Q E q =>
  h F H σ _ E fun v H1 r ρ1 kp R ⟨xs, px, hl, g⟩ => by
    obtain ⟨a, vs, e, c1, d1⟩ := (R.held.pk R.env px).lst
    have ev : vs = xs.map V.str := by
      clear hl g px c1 e
      revert vs
      induction xs with
      | nil => intro vs d; exact d
      | cons x xs ih =>
        intro vs d
        obtain ⟨w, r, e, h1, h2⟩ := d
        rw [e, show w = V.str x from h1, ih r h2]
        rfl
    subst ev
    exact ⟨a, xs, e, SqL.of c1, hl, q _ H1 (.d (.int (distinct xs : Nat))) ρ1 (hotR.d (hotR.hot kp)) ⟨R.env, rfl⟩ g⟩
theorem hu0 {k : Nat} {A : Around} (r : Room k A) : A.units < cLine := by have := r.units; omega
theorem cpow1 {j : Int} (h0 : 0 ≤ j) (h1 : j ≤ 1000) : CPow 1 j := ⟨h0, by omega, by decide⟩
theorem cmulL {i j : Int} (h0 : -(2 ^ 64) < i) (h1 : i < 2 ^ 64) : CMul i j := .inl ⟨h0, h1⟩
theorem cmulR {i j : Int} (h0 : -(2 ^ 64) < j) (h1 : j < 2 ^ 64) : CMul i j := .inr ⟨h0, h1⟩
theorem pow_cast (a : Nat) : (2 : Int) ^ a = ((2 ^ a : Nat) : Int) := by
  rw [Int.natCast_pow]
  rfl
theorem pow_le8 {a : Nat} (h : a ≤ 8) : 1 ≤ (2 : Int) ^ a ∧ (2 : Int) ^ a ≤ 256 := by
  rw [pow_cast]
  have h1 : 2 ^ a ≤ 2 ^ 8 := Nat.pow_le_pow_right (by decide) h
  have h2 : 1 ≤ 2 ^ a := Nat.one_le_two_pow
  omega
theorem hu1 {k : Nat} {A : Around} (r : Room k A) : A.units + 1 < cLine := by have := r.units; omega
def rDivW : R2 := rI CDivW fun i j => .int (i / j)
theorem op_divW {X : Cx} : OpR X (binaryOp .FloorDiv) rDivW := op_fdivW
/-! shifts -/
def rShlI : R2 := rI CPow fun i j => .int (i * 2 ^ j.toNat)
def rShrI : R2 := rI (fun _ j => 0 ≤ j) fun i j => .int (i / 2 ^ j.toNat)
theorem op_shlU {X : Cx} : OpR X (binaryOp .LShift) rShlI := op_shl
theorem op_shrU {X : Cx} : OpR X (binaryOp .RShift) rShrI := op_shr
theorem o_shlI (hc : CPow i j) (g : kk (.d (.int (i * 2 ^ j.toNat)))) : OpD K rShlI (.int i) (.int j) kk := opd_val (z := .int (i * 2 ^ j.toNat)) (fun M H u v Q h1 h2 q => ⟨i, j, h1.int, h2.int, hc, q _ rfl⟩) g
theorem o_shrI (hc : 0 ≤ j) (g : kk (.d (.int (i / 2 ^ j.toNat)))) : OpD K rShrI (.int i) (.int j) kk := opd_val (z := .int (i / 2 ^ j.toNat)) (fun M H u v Q h1 h2 q => ⟨i, j, h1.int, h2.int, hc, q _ rfl⟩) g
/-! items by any place -/
theorem o_ixAnyL {ds : List D} (h0 : 0 ≤ i) (h1 : i < (ds.length : Int)) (g : ∀ d, ds[i.toNat]? = some d → kk (.d d)) : OpD K (rIx K) (.lst ds) (.int i) kk := by
  have hl : i.toNat < ds.length := by omega
  refine o_ixL (d := ds[i.toNat]) ?_ (g _ (List.getElem?_eq_getElem hl))
  unfold atI ixN
  rw [if_pos h0, if_pos h1]
  exact List.getElem?_eq_getElem hl
theorem o_ixAnyT {ds : List D} (h0 : 0 ≤ i) (h1 : i < (ds.length : Int)) (g : ∀ d, ds[i.toNat]? = some d → kk (.d d)) : OpD K (rIx K) (.tup ds) (.int i) kk := by
  have hl : i.toNat < ds.length := by omega
  refine o_ixT (d := ds[i.toNat]) ?_ (g _ (List.getElem?_eq_getElem hl))
  unfold atI ixN
  rw [if_pos h0, if_pos h1]
  exact List.getElem?_eq_getElem hl
/-! pairs of numbers by <= -/
def rLeU (K : PySem.W.Frag) : R2 := fun x y H Q => rLeI x y H Q ∨ rLeT K x y H Q
theorem op_leV {X : Cx} (hu : X.A.units < cLine) : OpR X (compareOp .LtE) (rLeU X.K) := op_le.or (op_leT hu)
def pairLe (a b c d : Int) : Bool := if a = c then decide (b ≤ d) else decide (a ≤ c)
theorem o_leUI (g : kk (.d (.bl (decide (i ≤ j))))) : OpD K (rLeU K) (.int i) (.int j) kk := opd_val (z := .bl (decide (i ≤ j))) (fun M H u v Q h1 h2 q => .inl ⟨i, j, h1.int, h2.int, q _ rfl⟩) g
theorem o_leP {a b c d : Int} (g : kk (.d (.bl (pairLe a b c d)))) : OpD K (rLeU K) (.tup [.int a, .int b]) (.tup [.int c, .int d]) kk := opd_val (z := .bl (pairLe a b c d)) (fun M H u v Q h1 h2 q => by
  obtain ⟨p, vs, rfl, c1, d1⟩ := h1.tup
  obtain ⟨p2, ws, rfl, c2, d2⟩ := h2.tup
  have e1 : vs = [a, b].map V.int := ints_inv (ns := [a, b]) d1
  have e2 : ws = [c, d].map V.int := ints_inv (ns := [c, d]) d2
  subst e1 e2
  refine .inr ⟨p, p2, [a, b], [c, d], rfl, rfl, c1, c2, ?_⟩
  have e : Ob.lexAt (fun j => decide (([a, b] : List Int).getD j 0 = ([c, d] : List Int).getD j 0)) (fun j => decide (([a, b] : List Int).getD j 0 ≤ ([c, d] : List Int).getD j 0)) (decide (([a, b] : List Int).length ≤ ([c, d] : List Int).length)) 0 (min ([a, b] : List Int).length ([c, d] : List Int).length) = pairLe a b c d := by
    unfold pairLe
    by_cases h1 : a = c
    · by_cases h2 : b = d
      · simp [Ob.lexAt, h1, h2]
      · simp [Ob.lexAt, h1, h2]
    · simp [Ob.lexAt, h1]
  rw [e]
  exact q _ rfl) g
end
/-! sep.join(list of texts) -/
def rJoinU (K : PySem.W.Frag) : V → List V → Hp → VK → Prop := fun x xs H Q => ∃ a p, ∃ ys : List Str, x = .str a ∧ xs = [.ref p] ∧ (SqL K H p (ys.map V.str) ∨ SqT K H p (ys.map V.str)) ∧
  (ys.map (·.length)).sum + ys.length * a.length ≤ 16777216 ∧ Q (.str (Txt.join a ys)) H
theorem pe_joinU {X : Cx} {o e : Expr} {to te : TE} {apos pos : Pos} (ho : PE X o to) (he : PE X e te) (hs : starEach [e] X.env = [(false, eval e X.env)] := by rfl) (hbase : attributeBase o "join" X.env (eval o X.env) = eval o X.env := by rfl) (hline : (apos.endLine == pos.line) = true := by rfl) :
    PE X (.Call (.Attribute o "join" apos) [e] [] pos) (tM1 (rJoinU X.K) to te) := pe_join ho he hs hbase hline
theorem strs_inv {M : Addr → Prop} {K : PySem.W.Frag} {H : Hp} : ∀ {xs : List Str} {vs : List V}, DaAll M K H vs (xs.map D.str) → vs = xs.map V.str
  | [], _, h => h
  | x :: xs, _, h => by
    obtain ⟨w, r, e, h1, h2⟩ := h
    rw [e, show w = V.str x from h1, strs_inv h2]
    rfl
theorem ye_join {K : PySem.W.Frag} {ρ : List Ent} {k : KE} {te : TE} {sep : Str} (h : XE K te ρ fun r ρ1 => ∃ xs : List Str, peek ρ1 r = some (.lst (xs.map D.str)) ∧ (xs.map (·.length)).sum + xs.length * sep.length ≤ 16777216 ∧ k (.d (.str (Txt.join sep xs))) ρ1) : XE K (tM1 (rJoinU K) (tC (.str sep)) te) ρ k := fun F H σ Q E q =>
  ⟨⟨sep, rfl⟩, h F H σ _ E fun v H1 r ρ1 kp R ⟨xs, px, hl, g⟩ => by
    obtain ⟨a, vs, e, c1, d1⟩ := (R.held.pk R.env px).lst
    rw [strs_inv d1] at c1
    exact ⟨sep, a, xs, rfl, by rw [e], .inl (SqL.of c1), hl, q _ H1 (.d (.str (Txt.join sep xs))) ρ1 (hotR.d (hotR.hot kp)) ⟨R.env, rfl⟩ g⟩⟩
/-- signs, joined by nothing -/
theorem join_signs (cs : List Nat) : Txt.join (Str.ofString "") (cs.map fun c => (⟨#[c]⟩ : Str)) = ⟨cs.toArray⟩ := by
  have e : ∀ cs : List Nat, TL.joinL (TL.tl (Str.ofString "")) ((cs.map fun c => (⟨#[c]⟩ : Str)).map TL.tl) = cs := by
    intro cs
    induction cs with
    | nil => rfl
    | cons c cs ih =>
      cases cs with
      | nil => rfl
      | cons d cs =>
        show [c] ++ (TL.tl (Str.ofString "") ++ TL.joinL (TL.tl (Str.ofString "")) (((d :: cs).map fun c => (⟨#[c]⟩ : Str)).map TL.tl)) = _
        rw [ih]
        rfl
  rw [TL.join_eq]
  have h := TL.tl_join (Str.ofString "") (cs.map fun c => (⟨#[c]⟩ : Str))
  rw [e] at h
  have h2 : (Str.join (Str.ofString "") (cs.map fun c => (⟨#[c]⟩ : Str))).cps.toList = cs := h
  cases q : Str.join (Str.ofString "") (cs.map fun c => (⟨#[c]⟩ : Str)) with
  | mk a =>
    rw [q] at h2
    rw [← h2]
end PW
end
section
/-! PWExc: an own error over own bases over ValueError, whose __init__ says super().__init__(x); self.x = x. -/
namespace PySem
namespace SupX
open PySem.W PySem.Calls PyProof.Rows PySem.HandSPX
/-- the text of __init__(self, f) -/
def sArg (f : Str) (p1 p2 : Pos) : Arguments := ⟨[], [⟨"self", none, p1⟩, ⟨f, none, p2⟩], none, [], [], none, []⟩
def sExp (f : Str) (a1 a2 a3 a4 a5 a6 : Pos) : Stmt := .Expr (.Call (.Attribute (.Call (.Name "super" a1) [] [] a2) "__init__" a3) [.Name f a4] [] a5) a6
def sAsg (f : Str) (b1 b2 b3 b4 : Pos) : Stmt := .Assign [.Attribute (.Name "self" b1) f b2] (.Name f b3) b4
def sSc (f : Str) : Scope := ⟨.function, [("self", .local), (f, .local), ("__class__", .free), ("super", .globalImplicit)], false, false, []⟩
structure SupC (prog : Program) (K : Frag) (C fI : Addr) (f q : Str) : Prop where
  cls : ∃ nm qn N bs bm sn sub ab col dd k0 k1 k2 k3 k5, K.lookup C = some (excClassObj nm qn C N bs bm true sn sub ab col dd k0 k1 k2 k3 k5 "ValueError.__new__") ∧ refsVE bm = true ∧ alongIn K "__init__" bm = some (some (.builtin "ValueError.__init__"))
  sa : findIn K (.ref C) "__setattr__" = some (some (.builtin "object.__setattr__"))
  ga : findIn K (.ref C) "__getattribute__" = some (some (.builtin "BaseException.__getattribute__"))
  gg : findIn K (.ref C) "__getattr__" = some none
  noN : findIn K (.ref C) f = some none
  iC : findIn K (.ref C) "__init__" = some (some (.ref fI))
  tC : typeIn K (.ref fI) = some (.type "function")
  kC : keepIn K (.ref C) = true
  exC : subIn K (.ref C) (.type "BaseException") = some true
  veC : subIn K (.ref C) (.type "ValueError") = some true
  sub : mroIn K C (.ref C) = some true
  tyC : typeIn K (.ref C) = some (.type "type")
  hdC : hasDictIn K C = true
  te : exmOne K (.ref C) (.ref C) = some true
  sup : nsIn K mainGlobals "super" = some none
  opq : nsIn K cStatics "thirdparty.any" = some none
  top : (prog.main.scope.names.lookup ("super" : Str)).isSome = false
  lk1 : (sSc f).names.lookup ("super" : Str) = some .globalImplicit
  lk2 : (sSc f).names.lookup ("__class__" : Str) = some .free
  lk3 : (sSc f).names.lookup ("self" : Str) = some .local
  lk4 : (sSc f).names.lookup f = some .local
  nf : f ≠ "self" ∧ (f == ("__debug__" : Str)) = false
  fn : ∃ (oc : Value) (od : Option Addr) (doc pm : Value) (an : Option Addr) (cda : Addr) (ct : Value) (cc : Addr) (osl : Array (Option Value)) (p1 p2 a1 a2 a3 a4 a5 a6 b1 b2 b3 b4 : Pos)
      (ccl : Value) (cdd : Option Addr) (vs : Array Value) (ccs : Array (Option Value)) (file : Str) (tf : Tok) (cl : Value) (cld : Option Addr) (csl : Array (Option Value)),
    K.lookup fI = some ⟨oc, od, .func (ksFn "__init__" q (sArg f p1 p2) [sExp f a1 a2 a3 a4 a5 a6, sAsg f b1 b2 b3 b4] (sSc f) .none .none doc pm an (.ref cda) ct cc), osl⟩ ∧ codeIn K (.ref cda) q = true ∧
    K.lookup cda = some ⟨ccl, cdd, .fields vs, ccs⟩ ∧ vs[2]? = some (.str file tf) ∧ ((prog.main.file : Str) == file) = true ∧ K.lookup cc = some ⟨cl, cld, .cell (some (.ref C)), csl⟩ ∧
    ∃ pl : Sem Bool, ∀ env : Env, eval (.Call (.Attribute (.Call (.Name "super" a1) [] [] a2) "__init__" a3) [.Name f a4] [] a5) env = (do
      let ov ← attributeBase (.Call (.Name "super" a1) [] [] a2) "__init__" env (eval (.Call (.Name "super" a1) [] [] a2) env)
      standAt a3.atName
      let (f', first) ← holding [ov] (getMethod ov "__init__" pl)
      callWith a5 f' first (backTo a5 (starEach [.Name f a4] env)) [])
  bnd : ∀ (p1 p2 : Pos) (bd : List Stmt) (doc pm : Value) (an : Option Addr) (cdv ct : Value) (cc : Addr) (u v : Value), bindArgs (ksFn "__init__" q (sArg f p1 p2) bd (sSc f) .none .none doc pm an cdv ct cc) ⟨[u, v], []⟩ = pure [(("self" : Str), u), (f, v)]
theorem one_fits (v : Value) : [v].length ≤ sizeLine := by
  rw [sizeLine_eq]
  exact (by decide : 1 ≤ 16777216)
section
variable {prog : Program} {w : World} {A : Around} {E : Value → Shared → Prop} {h : Heap} {g : Array GenState} {d : Drawn} {t : Nat} {os : OsState}
variable {nm q : Str} {C N : Addr} {bs bm : List Value} {hdct : Bool} {sn : List Str} {sub : List Value} {ab : Bool} {col : Option Bool} {dd : Option Addr} {k0 k1 k2 k3 k5 : Option Value}
/-- the bound ValueError.__init__ is called -/
theorem sup_call {u e t0 : Addr} {rest : List Value} {Q : Value → Shared → Prop}
    (hC : h.get? C = some (excClassObj nm q C N bs bm hdct sn sub ab col dd k0 k1 k2 k3 k5 "ValueError.__new__")) (he : h.get? e = some (excO C t0)) (hu : h.get? u = some (kxs_mw "ValueError.__init__" e)) (hrest : rest.length ≤ sizeLine)
    (hq : ∀ h' t1, (∀ b o, b ≠ e → h.get? b = some o → h'.get? b = some o) → h'.get? e = some (excO C t1) → Q .none ⟨h', g, d, t, os⟩) :
    wpAny (model prog w) A (call (.ref u) rest) Q E ⟨h, g, d, t, os⟩ := by
  have FB := F.excBase_ValueError
  refine wpAny_call (codeAny_of_tree ?_)
  show wpAny _ (A.in1) (callAny (.ref u) ⟨rest, []⟩) _ _ _
  simp only [callAny]
  refine wpAny_bind (wpAny_load hu ?_)
  simp only [kxs_mw, show ((Value.type "method-wrapper" == Value.type "method") || (Value.type "method-wrapper" == Value.type "builtin_function_or_method") || (Value.type "method-wrapper" == Value.type "method-wrapper")) = true by decide, if_true]
  refine KFB.if_so (by decide) (wpAny_bind (check_bound_init FB.toExcCallFacts hC he rfl ?_))
  refine wpAny_bind (wpAny_pure (wpAny_pure ⟨plainId_quiet FB.init.plain _, codeAny_builtin FB.initEntry ?_⟩))
  exact exc_init_tree (cls := .ref C) (t0 := t0) (dv := none) (c2 := .none) (c3 := .none) (b4 := .bool false) he hrest fun h' k e' t' => hq h' _ k e'
end
/-- what __init__ leaves of a fresh error at x -/
structure SupEnd (h h' : Heap) (x C dx : Addr) (f : Str) (v : Value) : Prop where
  keep : ∀ b o, b ≠ x → h.get? b = some o → h'.get? b = some o
  obj : ∃ t1 : Addr, h'.get? x = some { cls := .ref C, dict := some dx, data := .fields #[.ref t1, .none, .none, .none, .bool false, .none] }
  dbig : h.objs.size ≤ dx
  dne : dx ≠ x
  ns : h'.Ns1 dx (fun y => if y = f then some v else none)
/-- an error that was made -/
structure SupMade (h h' : Heap) (e C d : Addr) (f : Str) (v : Value) : Prop where
  keep : ∀ b o, h.get? b = some o → h'.get? b = some o
  new : h.objs.size ≤ e
  obj : ∃ oe vs, h'.get? e = some oe ∧ oe.cls = .ref C ∧ oe.dict = some d ∧ oe.data = .fields vs ∧ vs[1]? = some .none
  dbig : h.objs.size ≤ d
  dne : d ≠ e
  ns : h'.Ns1 d (fun y => if y = f then some v else none)
section
variable {prog : Program} {w : World} {A : Around} {R : Result → Shared → Prop} {s : Shared} {K : Frag} {mg : Str → Option Value} {C fI : Addr} {f q : Str} {base : Heap}
theorem sup_init (T : SupC prog K C fI f q) (M : L2.Mod K mg base) (kb : ∀ b o, base.get? b = some o → s.heap.get? b = some o) {x t0 : Addr} {v : Value} (X : K.In s.heap) (hx : s.heap.get? x = some (excO C t0)) (hnx : base.get? x = none) (hroom : A.depth < recursionLimit)
    (hq : ∀ h' tk dx, SupEnd s.heap h' x C dx f v → R (.ok (.ret .none)) { s with heap := h', toks := tk }) :
    codeAny (model prog w) A (.call (.ref fI) ⟨[.ref x, v], []⟩) R s := by
  obtain ⟨oc, od, doc, pm, an, cda, ct, cc, osl, p1, p2, a1, a2, a3, a4, a5, a6, b1, b2, b3, b4, ccl, cdd, vs, ccs, file, tf, cl, cld, csl, ho, hcd, hcode, hvs, hfile, hcell, pl, hev⟩ := T.fn
  obtain ⟨nm, qn, N, bs, bm, sn, sub, ab, col, dd, k0, k1, k2, k3, k5, hC, hbm, hal⟩ := T.cls
  have hcl : clsIn K C = some { name := nm, bases := bs, mro := .ref C :: bm, ns := N, qualname := qn, hasDict := true, slotNames := sn, subclasses := sub, abstract := ab, collection := col, hasDel := false } := by unfold clsIn; rw [hC] <;> rfl
  have hcells : ∀ y ∈ (sSc f).names, y.2 ≠ .cell := fun y hy => by
    rcases List.mem_cons.mp hy with e | hy
    · rw [e]; exact fun z => nomatch z
    rcases List.mem_cons.mp hy with e | hy
    · rw [e]; exact fun z => nomatch z
    rcases List.mem_cons.mp hy with e | hy
    · rw [e]; exact fun z => nomatch z
    rcases List.mem_cons.mp hy with e | hy
    · rw [e]; exact fun z => nomatch z
    cases hy
  refine ks_codeAny_call_defAt (fd := ksFn "__init__" q (sArg f p1 p2) [sExp f a1 a2 a3 a4 a5 a6, sAsg f b1 b2 b3 b4] (sSc f) .none .none doc pm an (.ref cda) ct cc) (body := [sExp f a1 a2 a3 a4 a5 a6, sAsg f b1 b2 b3 b4]) (binds := [("self", .ref x), (f, v)])
    hroom (X _ _ ho) rfl (M.nolimit.keeps kb) (codeRec_of X hcd) rfl (BindsTo.of_eq (T.bnd ..)) hcells (fun y hy => ?_) (fun h₁ hns hk₁ => ?_) rfl rfl rfl
  · rcases List.mem_cons.mp hy with e | hy
    · rw [e]; exact T.lk3
    · rw [List.mem_singleton.mp hy]; exact T.lk4
  have hsz : s.heap.objs.size ≠ x := Nat.ne_of_gt (Heap.lt_size hx)
  have X₁ : K.In h₁ := X.keeps hk₁
  have hx₁ := hk₁ _ _ hx
  obtain ⟨mb, hb1, hb2⟩ := M.blt
  have kb₁ : ∀ b o, base.get? b = some o → h₁.get? b = some o := fun b o e => hk₁ b o (kb b o e)
  obtain ⟨oD, hD1, hD2⟩ : ∃ oD, h₁.get? C = some oD ∧ oD.data = .cls { name := nm, bases := bs, mro := .ref C :: bm, ns := N, qualname := qn, hasDict := true, slotNames := sn, subclasses := sub, abstract := ab, collection := col, hasDel := false } := ⟨_, X₁ _ _ hC, rfl⟩
  have hxC : x ≠ C := fun z => by
    have e := M.kin _ _ hC
    rw [← z, hnx] at e
    cases e
  have lkS : ([("self", Value.ref x), (f, v)] : List (Str × Value)).reverse.lookup ("self" : Str) = some (.ref x) := by
    have e : (("self" : Str) == f) = false := by simpa using Ne.symm T.nf.1
    show List.lookup ("self" : Str) [(f, v), ("self", Value.ref x)] = _
    simp [List.lookup, e]
  have lkF : ([("self", Value.ref x), (f, v)] : List (Str × Value)).reverse.lookup f = some v := by
    show List.lookup f [(f, v), ("self", Value.ref x)] = _
    simp [List.lookup]
  have LM : ∀ {h : Heap}, K.In h → Looks (model prog w) h (mroOf (.ref C)) (.ref C :: bm) := fun {h} Y => (looks_clsIn Y hcl).andThen .now
  refine ks_wpAt_execs_cons ?_
  show _root_.PySem.wpAt _ _ _ (exec (.Expr (.Call (.Attribute (.Call (.Name "super" a1) [] [] a2) "__init__" a3) [.Name f a4] [] a5) a6) _) _ _ _
  refine ks_wpAt_Expr_any ?_
  refine ks_wpAt_MethodCall (pl := pl) ?_ (hev _)
  refine ks_wpAt_super_base T.lk1 T.lk2 (by decide) rfl (hk₁ _ _ (X _ _ ho)) rfl rfl rfl (X₁ _ _ hcode) rfl hvs hfile T.top ?_
  refine ks_loadName_global rfl T.lk1 (loadGlobal_builtin (M.glob.keeps kb₁) (mg_none_of M.kin M.glob T.sup) (hb1.keeps kb₁) ((hb2 _ (by decide)).trans (by kernel_rfl)) ⟨rfl, ?_⟩)
  refine wpAny_loadName_free rfl T.lk2 rfl ⟨_, X₁ _ _ hcell, rfl⟩ ?_
  refine wpAny_loadName_local rfl T.lk3 hns lkS ?_
  refine ks_wpAny_isType_cls hD1 hD2 ⟨rfl, ?_⟩
  refine ks_wpAny_call_super hD1 hD2 hx₁ rfl (fun c e => nomatch e) (looks_mroIn X₁ T.sub) (fun h2 e2 k2 => ?_)
  have X₂ : K.In h2 := X₁.keeps k2
  have hx₂ := k2 _ _ hx₁
  have LI : Looks (model prog w) h2 (isInstance (.ref x) (.type "ValueError")) true := (show InstAt h2 x (excO C t0) C none from ⟨hx₂, rfl, rfl, trivial⟩).type.andThen (looks_subIn X₂ T.veC)
  refine kxs_getMethod kxs_ValueError e2 (looks_opaque X₂ T.opq) (LM X₂) (ESX.drop_own C bm) X₂ hal LI hxC rfl ?_
  have k3 : ∀ b o, h₁.get? b = some o → (h2.push (kxs_mw "ValueError.__init__" x)).get? b = some o := fun b o e => Heap.get?_push_of_some _ (k2 b o e)
  have hns3 := hns.keeps k3
  refine kxs_callWith (i := "ValueError.__init__") (x := x) rfl (evalArgs_plain ?_)
  refine spliced_cons (wpAny_Name (wpAny_loadName_local rfl T.lk4 hns3 lkF ?_) T.nf.2)
  refine spliced_nil ⟨Heap.get?_push_at rfl rfl, ?_⟩
  refine sup_call (k3 _ _ (X₁ _ _ hC)) (k3 _ _ hx₁) (Heap.get?_push_at rfl rfl) (one_fits v) fun h4 t4 k4 hx4 => ?_
  have kx : ∀ b o, b ≠ x → h₁.get? b = some o → h4.get? b = some o := fun b o hb e => k4 b o hb (k3 b o e)
  have X₄ : K.In h4 := fun b o e => kx b o (fun z => by have y := M.kin _ _ e; rw [z, hnx] at y; cases y) (X₁ b o e)
  have hns4 : h4.Ns s.heap.objs.size (fun y => ([("self", Value.ref x), (f, v)] : List (Str × Value)).reverse.lookup y) := hns.at fun o e => kx _ o hsz e
  show _root_.PySem.wpAt _ _ _ (execs [.Assign [.Attribute (.Name "self" b1) f b2] (.Name f b3) b4] _) _ _ _
  refine wpAt_of_wpAny ?_
  refine wpAny_execs_cons (plainObj_wpAny_Assign_Attribute ?_)
  refine wpAny_Name (wpAny_loadName_local rfl T.lk4 hns4 lkF ?_) T.nf.2
  refine wpAny_Name (wpAny_loadName_local rfl T.lk3 hns4 lkS ?_) rfl
  refine set_plain X₄ (ox := excO C t4) (od := none) ⟨hx4, rfl, rfl, trivial⟩ T.sa ?_
  refine exc_osa X₄ hx4 hcl (show refsVE (.ref C :: bm) = true from hbm) rfl T.noN (fun h5 tk5 dx k5 dn dne hx5 hn5 => ?_)
  refine wpAny_execs_nil (hq h5 tk5 dx ⟨fun b o hb e => k5 b o hb (kx b o hb (hk₁ b o e)), ⟨t4, hx5⟩, ?_, dne, hn5⟩)
  have z1 : s.heap.objs.size < h4.objs.size := hns4.lt
  exact Nat.le_of_lt (Nat.lt_of_lt_of_le z1 dn)
theorem sup_made (T : SupC prog K C fI f q) (M : L2.Mod K mg base) (kb : ∀ b o, base.get? b = some o → s.heap.get? b = some o) {v : Value} (X : K.In s.heap) (hroom : A.depth + 1 < recursionLimit)
    (hq : ∀ h' tk e d, SupMade s.heap h' e C d f v → R (.ok (.ret (.ref e))) { s with heap := h', toks := tk }) :
    codeAny (model prog w) A (.call (.ref C) ⟨[v], []⟩) R s := by
  obtain ⟨nm, qn, N, bs, bm, sn, sub, ab, col, dd, k0, k1, k2, k3, k5, hC, hbm, hal⟩ := T.cls
  obtain ⟨hp, g, dr, tk, os⟩ := s
  have k : ∀ b o, hp.get? b = some o → ((hp.push (kdv_tup [v])).push (excO C hp.objs.size)).get? b = some o := fun b o e => Heap.get?_push_of_some _ (Heap.get?_push_of_some _ e)
  have hget : ((hp.push (kdv_tup [v])).push (excO C hp.objs.size)).get? (hp.objs.size + 1) = some (excO C hp.objs.size) := by heap_get
  have hnx : base.get? (hp.objs.size + 1) = none := by
    cases e : base.get? (hp.objs.size + 1) with
    | none => rfl
    | some o => exact absurd (Nat.lt_of_succ_lt (Heap.lt_size (kb _ _ e))) (Nat.lt_irrefl _)
  refine call_own F.excBase_ValueError (fun Y => refsVE_contains Y bm hbm) (X _ _ hC) (looks_findIn X T.iC) (fun self => bind_fn X self T.tC) (one_fits v) ?_
  refine sup_init (s := ⟨(hp.push (kdv_tup [v])).push (excO C hp.objs.size), g, dr, tk, os⟩) T M (fun b o e => k b o (kb b o e)) (X.keeps k) hget hnx hroom fun h' tk' dx ⟨k', ⟨t1, hx⟩, dn, dne, hns⟩ => ?_
  have old : ∀ b o, hp.get? b = some o → h'.get? b = some o := fun b o e => k' b o (Nat.ne_of_lt (Nat.lt_succ_of_lt (Heap.lt_size e))) (k b o e)
  have z : hp.objs.size + 1 + 1 ≤ dx := by
    have y := dn
    rw [Heap.size_push, Heap.size_push] at y
    exact y
  exact ⟨rfl, hq h' tk' (hp.objs.size + 1) dx ⟨old, Nat.le_succ _, ⟨_, _, hx, rfl, rfl, rfl, rfl⟩, Nat.le_trans (Nat.le_trans (Nat.le_succ _) (Nat.le_succ _)) z, dne, hns⟩⟩
end
end SupX
end PySem
namespace PW
open PySem PySem.Spec PyProof.Rows L2
theorem relO_one {f : Str} {v : V} {v' : Value} (r : RelV v v') (y : Str) : RelO (List.lookup y [(f, v)]) (if y = f then some v' else none) := by
  by_cases hw : y = f
  · subst hw
    rw [if_pos rfl, show List.lookup y [(y, v)] = some v by simp [List.lookup]]
    exact r
  · have qw : (y == f) = false := by simpa using hw
    rw [if_neg hw, show List.lookup y [(f, v)] = none by simp [List.lookup, qw]]
    trivial
section
variable {X : Cx} {C fI : Addr} {f q : Str}
/-- C(e), C an own error with the field f -/
def tMkSup (C : Addr) (f : Str) (ta : TA) : L2.St → Hp → XK → Prop := fun σ H Q => ta σ H fun vs H1 => ∃ v, vs = [v] ∧ ∀ d, H1 d = none → Q (.ref C) (some d) (upd H1 d (.xd [(f, v)]))
theorem pmk_sup {x : Str} {a : Expr} {ta : TA} {p pos : Pos} {k : Nat} (T : PySem.SupX.SupC X.prog X.K C fI f q) (gC : X.mg x = some (.ref C)) (hr : Room k X.A) (hg : Gl X x) (ha : PA X [a] ta) (hdb : (x == ("__debug__" : Str)) = false := by decide)
    (he : starEach (a :: []) X.env = (false, eval a X.env) :: starEach [] X.env := by rfl) (hpl : (backTo pos (starEach [] X.env)).any (·.1) = false := by rfl) :
    PMk X (.Call (.Name x p) [a] [] pos) (tMkSup C f ta) := by
  intro pins s σ H Q I h
  refine wpAny_Call_Name_kw (ld_glob I hg gC ?_ hdb)
  refine PySem.W.callWith_K (h₀ := X.base) I.ok.mod.kin T.kC (thn (ha.run pos pins s σ H _ I h) fun us s1 hh => ?_) he hpl
  obtain ⟨vs, H1, I1, r1, v, ev, q1⟩ := hh
  subst ev
  refine ⟨I1.kIn, ?_⟩
  cases r1 with
  | cons rv rn =>
    rename_i v' us'
    cases rn
    show wpAny _ _ (call (.ref C) [v']) _ _ _
    have kb := I1.bk
    obtain ⟨hp, g, dr, tk, os⟩ := s1
    refine wpAny_call (PySem.SupX.sup_made T I1.ok.mod kb I1.kIn (by have := hr.dp; omega) fun h' tk' e d M => ?_)
    show MkP X pins σ Q (.ref e) ⟨h', g, dr, tk', os⟩
    obtain ⟨oe, fv, hoe, hc, hd, hdat, h1⟩ := M.obj
    have hns := M.ns
    obtain ⟨G', g1, g2⟩ := restrict h' fun b => decide (b ≠ e)
    have gk : ∀ b, b ≠ e → G'.get? b = h'.get? b := fun b hb => g1 b (decide_eq_true hb)
    have ge : G'.get? e = none := g2 e (by simp)
    have old : ∀ b o, hp.get? b = some o → G'.get? b = some o := fun b o z => (gk b (Nat.ne_of_lt (Nat.lt_of_lt_of_le (Heap.lt_size z) M.new))).trans (M.keep b o z)
    have ob : ObjOk X.prog X.w (upd H1 d (.xd [(f, v)])) G' d (.xd [(f, v)]) := ⟨_, hns.at (fun o z => (gk d M.dne).trans z), fun y => relO_one rv y⟩
    have J : Inv X pins σ (upd H1 d (.xd [(f, v)])) ⟨G', g, dr, tk', os⟩ := I1.laid (t' := tk') old M.dbig ob
    refine ⟨e, oe, fv, ⟨G', g, dr, tk', os⟩, _, .ref C, some d, rfl, J, fun b o z => ?_, ge, hoe, ⟨hc, hd⟩, hdat, h1, ?_, rfl, I1.bare, raises_own T.exC T.tyC, q1 d (I1.hok.fresh M.dbig)⟩
    · by_cases hb : b = e
      · have z' : G'.get? b = some o := z
        rw [hb, ge] at z'
        cases z'
      · exact (gk b hb).symm.trans z
    · rw [upd_ne (Ne.symm M.dne)]
      exact I1.hok.fresh M.new
/-- raise C(e) -/
def tRaiseSup (C : Addr) (f : Str) (W : WX) (ta : TA) : TS := fun _ σ H => tMkSup C f ta σ H fun cls d H' => W cls d σ H'
theorem ps_raiseSup {x : Str} {a : Expr} {ta : TA} {W : WX} {p pos pos2 : Pos} {k : Nat} (hc : X.calm = true) (T : PySem.SupX.SupC X.prog X.K C fI f q) (gC : X.mg x = some (.ref C)) (hr : Room k X.A) (tk : Takes X W) (hg : Gl X x) (ha : PA X [a] ta)
    (hdb : (x == ("__debug__" : Str)) = false := by decide) (he : starEach (a :: []) X.env = (false, eval a X.env) :: starEach [] X.env := by rfl) (hpl : (backTo pos (starEach [] X.env)).any (·.1) = false := by rfl) :
    PS X (.Raise (some (.Call (.Name x p) [a] [] pos)) none pos2) (tRaiseSup C f W ta) := ps_raise hc tk (pmk_sup T gC hr hg ha hdb he hpl)
/-- isinstance(e, c), e the error that the suite holds, of the class D, its dict at dd -/
def rIsX (K : PySem.W.Frag) (D a : Addr) (cls : Value) (d : Option Addr) : List V → Hp → VK → Prop := fun xs H Q => ∃ (c : V) (cv : Value) (b : Bool) (dd : Addr) (fs : List (Str × V)), xs = [.ref a, c] ∧ cls = .ref D ∧ (∀ u, RelV c u → u = cv) ∧ PySem.W.kitOne K (.ref D) cv = some b ∧ d = some dd ∧ H dd = some (.xd fs) ∧ Q (.bl b) H
theorem call_isX {a D : Addr} {oe : Obj} {cls : Value} {d : Option Addr} {pn : List (Addr × Obj)} (C : ExcC X.K D) (hz : Zc cls d oe) (hf : ∃ vs, oe.data = .fields vs) : CallR (X.suite a ((a, oe) :: pn)) (.builtin "isinstance") (rIsX X.K D a cls d) := by
  intro pins s σ H xs us Q I r h
  obtain ⟨c, cv, b, dd, fs, rfl, ecl, hcv, e, ed, ha, q⟩ := h
  subst ecl
  cases r with
  | cons rx rr =>
    cases rr with
    | cons rt rr =>
      cases rr
      cases rx
      have ec := hcv _ rt
      subst ec ed
      obtain ⟨hget, _⟩ := I.pin (a, oe) (List.mem_append.mpr (.inl List.mem_cons_self))
      obtain ⟨vs, hv⟩ := hf
      have hx : ObjOk X.prog X.w H s.heap dd (.xd fs) := I.hok dd _ ha
      obtain ⟨mA, hns, hr⟩ := hx
      obtain ⟨od, ho, _⟩ := lookIn_ns hns
      have J : PySem.W.InstAt s.heap a oe D (some od) := ⟨hget, hz.1, by unfold PySem.W.notCls; rw [hv] <;> rfl, by rw [hz.2]; exact ho⟩
      have hcl : (PySem.W.clsIn X.K D).isSome = true := by
        obtain ⟨cd, hc, _⟩ := PySem.W.any_some C.hd
        rw [hc]
        rfl
      exact PySem.W.kia_one (PySem.W.kitx_exc (od := some od) hcl C.hg C.hk C.hs C.ha C.hn C.ht C.hm) I.kIn J e (fun z => nomatch z) fun tk => ⟨.bl b, H, I.kept (t' := tk) fun _ _ z => z, rfl, q⟩
end
/-! ### C(e, ..) whose __init__ may raise, within a try -/
section
variable {X : Cx} {CX : CXT} {k : Nat} {f C : Addr} {fd : FuncData} {ps : List Str} {sp : Sp} {dvs : List V} {ds : List Value} {E : L2.St → XK} {x : Str} {p pos : Pos} {e : Expr} {es : List Expr} {ta : TA}
def tMakeS (C : Addr) (sp : Sp) (E : L2.St → XK) (t : TA) : TE := fun σ H Q => t σ H fun vs H1 => ∀ x dx, H1 x = none → H1 dx = none → dx ≠ x →
  sp (.ref x :: (vs ++ [])) (upd (upd H1 dx (.own x)) x (.ins C dx [])) (fun v H2 => v = .non ∧ Q (.ref x) H2) (E σ)
theorem run_makeS {pins : List (Addr × Obj)} {σ : L2.St} {H : Hp} {s : Shared} {Q : VK} {us : List Value} {vs : List V} (M : Mk X.K C f) (F : FnOk X.prog X.w X.K X.mg X.base CX k f fd ps sp) (hr : Room (k + 1) X.A) (hb : Binds X.K fd ps ds) (hd : Vals dvs ds)
    (hx : PassesAt CX X σ (E σ)) (I : Inv X pins σ H s) (r : Vals vs us)
    (h : ∀ x dx, H x = none → H dx = none → dx ≠ x → sp (.ref x :: (vs ++ dvs)) (upd (upd H dx (.own x)) x (.ins C dx [])) (fun v H2 => v = .non ∧ Q (.ref x) H2) (E σ)) :
    wpAny (model X.prog X.w) X.A (call (.ref C) us) (EP X pins σ Q) X.xe s := by
  have r1 : Vals (vs ++ dvs) (us ++ ds) := r.append hd
  have hq := h (s.heap.objs.size + 1) s.heap.objs.size (I.hok.fresh (Nat.le_succ _)) (I.hok.fresh (Nat.le_refl _)) (Nat.ne_of_lt (Nat.lt_succ_self _))
  have I2 := Inv.made (C := C) I
  have r2 : Vals (V.ref (s.heap.objs.size + 1) :: (vs ++ dvs)) (Value.ref (s.heap.objs.size + 1) :: (us ++ ds)) := .cons rfl r1
  have hl : (Value.ref (s.heap.objs.size + 1) :: us ++ ds).length = ps.length := by
    have z := r2.length
    rw [F.len _ _ _ _ hq] at z
    exact z.symm
  refine wpAny_call (make_map (f := f) I.kIn M.makes M.init (beq_iff_eq.mp M.fn) (codeAny_mono (F.run _ X.stack _ _ ⟨Value.ref (s.heap.objs.size + 1) :: us, []⟩ (Value.ref (s.heap.objs.size + 1) :: (us ++ ds)) _ _ (E σ) (hr.make C us [])
    (I2.env0.make C us []) (hb _ (Value.ref (s.heap.objs.size + 1) :: us) I2.kIn hl) r2 hq) fun rr s' hq' => ?_))
  cases rr with
  | error er => exact hx pins _ _ er s' I2 hq'
  | ok fl =>
    cases fl with
    | ret u =>
      obtain ⟨v, H', I3, rv, ev, q3⟩ := I2.after hq'
      subst ev
      exact ⟨rv, ⟨V.ref (s.heap.objs.size + 1), H', I3, rfl, q3⟩⟩
    | next => exact False.elim hq'
    | brk => exact False.elim hq'
    | cont => exact False.elim hq'
theorem pe_makeS (M : Mk X.K C f) (F : FnOk X.prog X.w X.K X.mg X.base CX k f fd ps sp) (hr : Room (k + 1) X.A) (hg : Gl X x) (hm : X.mg x = some (.ref C)) (hb : Binds X.K fd ps []) (hx : ∀ σ, PassesAt CX X σ (E σ))
    (ha : PA X (e :: es) ta) (hdb : (x == ("__debug__" : Str)) = false := by decide) (he : starEach (e :: es) X.env = (false, eval e X.env) :: starEach es X.env := by rfl) (hpl : (backTo pos (starEach es X.env)).any (·.1) = false := by rfl) :
    PE X (.Call (.Name x p) (e :: es) [] pos) (tMakeS C sp E ta) := by
  refine ⟨fun pins s σ H Q I h => ?_⟩
  refine wpAny_Call_Name_kw (ld_glob I hg hm ?_ hdb)
  refine PySem.W.callWith_K (h₀ := X.base) I.ok.mod.kin M.kp (thn (ha.run pos pins s σ H _ I h) fun us s1 ⟨vs, H1, I1, r, z⟩ => ⟨I1.kIn, ?_⟩) he hpl
  exact run_makeS (dvs := []) (ds := []) M F hr hb .nil (hx σ) I1 r z
end
end PW
end
section
/-! PWHeld: own errors as values: made, held, their fields read, asked for their class. -/
namespace PW
open PySem PySem.Spec PyProof.Rows L2
/-- an error of the own class C that is held at a, its dict at d -/
def HeldE (C : Addr) (d : Option Addr) (a : Addr) : HO := .ext fun h => ∃ (oe : Obj) (vs : Array Value), h.get? a = some oe ∧ oe.cls = .ref C ∧ oe.dict = d ∧ oe.data = .fields vs
section
variable {P : Program} {w : World} {H : Hp} {h : Heap} {a C : Addr} {d : Option Addr}
theorem heldE_ok {oe : Obj} {vs : Array Value} (e : h.get? a = some oe) (z : oe.cls = .ref C) (z2 : oe.dict = d) (q : oe.data = .fields vs) : ObjOk P w H h a (HeldE C d a) :=
  ⟨⟨oe, vs, e, z, z2, q⟩, ⟨oe, e⟩, fun _ _ ⟨o, v, e1, r⟩ k => ⟨o, v, k o e1, r⟩⟩
end
section
variable {X : Cx} {C fI : Addr} {f q x : Str} {p pos : Pos}
/-- C(), C without a field -/
def tHeld0 (C : Addr) : TE := fun _ H Q => ∀ a, H a = none → Q (.ref a) (upd H a (HeldE C none a))
theorem pe_held0 {bmB : List Value} {B newId initId : String} (F : ExcBaseFacts B newId initId bmB) (q : PySem.W.excIn X.K C bmB newId = true) (gC : X.mg x = some (.ref C)) (kC : PySem.W.keepIn X.K (.ref C) = true) (hg : Gl X x) (hdb : (x == ("__debug__" : Str)) = false := by decide) :
    PE X (.Call (.Name x p) [] [] pos) (tHeld0 C) := by
  refine ⟨fun pins s σ H Q I h => ?_⟩
  refine wpAny_Call_Name_kw (ld_glob I hg gC ?_ hdb)
  refine PySem.W.callWith_K0 I.kIn kC ?_
  show wpAny _ _ (call (.ref C) []) _ _ _
  obtain ⟨bm, N, nm, qn, bs, hdct, sn, sub, ab, col, dd, k0, k1, k2, k3, k5, mN, hC, hN, hni, T⟩ := exc_obj I.kIn q
  refine wpAny_call_exc_subT F T hC hN hni (fun h' a hm => ?_) (Nat.zero_le _)
  have hn : H a = none := I.hok.gone hm.new
  obtain ⟨t, ht, _, _⟩ := hm.there
  exact ⟨.ref a, upd H a (HeldE C none a), I.laidN hm.keeps hm.new hn (heldE_ok ht rfl rfl rfl), rfl, h a hn⟩
/-- C(e), C an own error with the field f -/
def tHeld1 (C : Addr) (f : Str) (ta : TA) : TE := fun σ H Q => ta σ H fun vs H1 => ∃ v, vs = [v] ∧ ∀ e d, H1 e = none → H1 d = none → d ≠ e → Q (.ref e) (upd (upd H1 e (HeldE C (some d) e)) d (.xd [(f, v)]))
theorem pe_held1 {a : Expr} {ta : TA} {k : Nat} (T : PySem.SupX.SupC X.prog X.K C fI f q) (gC : X.mg x = some (.ref C)) (hr : Room k X.A) (hg : Gl X x) (ha : PA X [a] ta) (hdb : (x == ("__debug__" : Str)) = false := by decide)
    (he : starEach (a :: []) X.env = (false, eval a X.env) :: starEach [] X.env := by rfl) (hpl : (backTo pos (starEach [] X.env)).any (·.1) = false := by rfl) :
    PE X (.Call (.Name x p) [a] [] pos) (tHeld1 C f ta) := by
  refine ⟨fun pins s σ H Q I h => ?_⟩
  refine wpAny_Call_Name_kw (ld_glob I hg gC ?_ hdb)
  refine PySem.W.callWith_K (h₀ := X.base) I.ok.mod.kin T.kC (thn (ha.run pos pins s σ H _ I h) fun us s1 hh => ?_) he hpl
  obtain ⟨vs, H1, I1, r1, v, ev, q1⟩ := hh
  subst ev
  refine ⟨I1.kIn, ?_⟩
  cases r1 with
  | cons rv rn =>
    rename_i v' us'
    cases rn
    show wpAny _ _ (call (.ref C) [v']) _ _ _
    have kb := I1.bk
    obtain ⟨hp, g, dr, tk, os⟩ := s1
    refine wpAny_call (PySem.SupX.sup_made T I1.ok.mod kb I1.kIn (by have := hr.dp; omega) fun h' tk' e d M => ?_)
    obtain ⟨oe, fv, hoe, hc, hd, hdat, h1⟩ := M.obj
    have hns := M.ns
    have goneN : ∀ {b : Addr}, hp.objs.size ≤ b → hp.get? b = none := fun {b} hb => by
      cases z : hp.get? b with
      | none => rfl
      | some o => exact absurd (Heap.lt_size z) (Nat.not_lt.mpr hb)
    have ge : hp.get? e = none := goneN M.new
    have gd : hp.get? d = none := goneN M.dbig
    have he1 : H1 e = none := I1.hok.fresh M.new
    have hd1 : H1 d = none := I1.hok.fresh M.dbig
    obtain ⟨G', g1, g2⟩ := restrict h' fun b => decide (b ≠ d)
    have gk : ∀ b, b ≠ d → G'.get? b = h'.get? b := fun b hb => g1 b (decide_eq_true hb)
    have gnd : G'.get? d = none := g2 d (by simp)
    have old : ∀ b o, hp.get? b = some o → G'.get? b = some o := fun b o z => (gk b (fun y => by rw [y, gd] at z; cases z)).trans (M.keep b o z)
    have J1 : Inv X pins σ (upd H1 e (HeldE C (some d) e)) ⟨G', g, dr, tk', os⟩ := I1.laidN (t' := tk') old ge he1 (heldE_ok ((gk e (Ne.symm M.dne)).trans hoe) hc hd hdat)
    have gh : ∀ b o, G'.get? b = some o → h'.get? b = some o := fun b o z => by
      by_cases hb : b = d
      · rw [hb, gnd] at z
        cases z
      · exact (gk b hb).symm.trans z
    have hd2 : upd H1 e (HeldE C (some d) e) d = none := by rw [upd_ne M.dne]; exact hd1
    have ob : ObjOk X.prog X.w (upd (upd H1 e (HeldE C (some d) e)) d (.xd [(f, v)])) h' d (.xd [(f, v)]) := ⟨_, hns, fun y => relO_one rv y⟩
    have J2 : Inv X pins σ (upd (upd H1 e (HeldE C (some d) e)) d (.xd [(f, v)])) ⟨h', g, dr, tk', os⟩ := J1.laidN (t' := tk') gh gnd hd2 ob
    exact ⟨.ref e, _, J2, rfl, q1 e d he1 hd1 M.dne⟩
/-- e.f, e held -/
def tHeldF (C : Addr) (f : Str) (te : TE) : TE := fun σ H Q => te σ H fun x H1 => ∃ (a dd : Addr) (fs : List (Str × V)) (v : V), x = .ref a ∧ H1 a = some (HeldE C (some dd) a) ∧ H1 dd = some (.xd fs) ∧ fs.lookup f = some v ∧ Q v H1
theorem pe_heldF {e : Expr} {te : TE} {n : Str} (T : XfC X.K C) (hno : PySem.W.findIn X.K (.ref C) n = some none) (he : PE X e te) (hb : attributeBase e n X.env (eval e X.env) = eval e X.env := by rfl) :
    PE X (.Attribute e n pos) (tHeldF C n te) := by
  refine ⟨fun pins s σ H Q I h => ?_⟩
  refine attr_of hb (thn (he.run pins s σ H _ I h) fun u s1 hh => ?_)
  obtain ⟨x, H1, I1, rx, a, dd, fs, v, ex, ea, ed, l, q⟩ := hh
  subst ex
  obtain rfl : u = Value.ref a := rx
  obtain ⟨⟨oe, vs, ha, hc, hdi, hda⟩, _⟩ := I1.hok a _ ea
  obtain ⟨mA, hns, hr⟩ := (show ObjOk X.prog X.w H1 s1.heap dd (.xd fs) from I1.hok dd _ ed)
  obtain ⟨od, ho, hl⟩ := lookIn_ns hns
  obtain ⟨u, hu, ru⟩ := RelO.some_of (v := v) (o := mA n) (by rw [← l]; exact hr n)
  have J : PySem.W.InstAt s1.heap a oe C (some od) := ⟨ha, hc, by unfold PySem.W.notCls; rw [hda] <;> rfl, by rw [hdi]; exact ho⟩
  exact HandSPX.exc_get I1.kIn J T.ga T.gg T.exC (PySem.W.findObj_own T.hdC hno rfl (by rw [hl, hu])) (handed_of ru) ⟨v, H1, I1.tok _, ru, q⟩
/-- isinstance(e, c), e held, of one of the classes that P tells -/
def rIsH (K : PySem.W.Frag) (Cs : Addr → Prop) : List V → Hp → VK → Prop := fun xs H Q => ∃ (a D : Addr) (d : Option Addr) (c : V) (cv : Value) (b : Bool), Cs D ∧ xs = [.ref a, c] ∧ H a = some (HeldE D d a) ∧ (d = none ∨ ∃ dd fs, d = some dd ∧ H dd = some (.xd fs)) ∧ (∀ u, RelV c u → u = cv) ∧ PySem.W.kitOne K (.ref D) cv = some b ∧ Q (.bl b) H
theorem call_isH {Cs : Addr → Prop} (T : ∀ D, Cs D → ExcC X.K D) : CallR X (.builtin "isinstance") (rIsH X.K Cs) := by
  intro pins s σ H xs us Q I r h
  obtain ⟨a, D, d, c, cv, b, hD, rfl, ea, hd, hcv, e, q⟩ := h
  have C := T D hD
  cases r with
  | cons rx rr =>
    cases rr with
    | cons rt rr =>
      cases rr
      cases rx
      have ec := hcv _ rt
      subst ec
      obtain ⟨⟨oe, vs, ha, hc, hdi, hda⟩, _⟩ := I.hok a _ ea
      have hcl : (PySem.W.clsIn X.K D).isSome = true := by
        obtain ⟨cd, hc, _⟩ := PySem.W.any_some C.hd
        rw [hc]
        rfl
      have nc : PySem.W.notCls oe = true := by unfold PySem.W.notCls; rw [hda] <;> rfl
      rcases hd with rfl | ⟨dd, fs, rfl, ed⟩
      · have J : PySem.W.InstAt s.heap a oe D none := ⟨ha, hc, nc, by rw [hdi]; trivial⟩
        exact PySem.W.kia_one (PySem.W.kitx_exc (od := none) hcl C.hg C.hk C.hs C.ha C.hn C.ht C.hm) I.kIn J e (fun z => nomatch z) fun tk => ⟨.bl b, H, I.kept (t' := tk) fun _ _ z => z, rfl, q⟩
      · obtain ⟨mA, hns, hr⟩ := (show ObjOk X.prog X.w H s.heap dd (.xd fs) from I.hok dd _ ed)
        obtain ⟨od, ho, _⟩ := lookIn_ns hns
        have J : PySem.W.InstAt s.heap a oe D (some od) := ⟨ha, hc, nc, by rw [hdi]; exact ho⟩
        exact PySem.W.kia_one (PySem.W.kitx_exc (od := some od) hcl C.hg C.hk C.hs C.ha C.hn C.ht C.hm) I.kIn J e (fun z => nomatch z) fun tk => ⟨.bl b, H, I.kept (t' := tk) fun _ _ z => z, rfl, q⟩
end
end PW
end
section
/-! PWHead: the head's facts with an own test beside them, and the facts of an error class with super().__init__ read off a part of the heap. -/
namespace PySem
namespace SupX
open PySem.W PySem.Calls PyProof.Rows PySem.HandSPX
def eqV (a b : Option (Option Value)) : Bool := decide (a = b)
def clsB (K : Frag) (C : Addr) : Bool := match K.lookup C with
  | some ⟨.type "type", _, .cls cd, sl⟩ => (match cd.mro, sl.toList with
    | .ref C' :: bm, [_, _, _, _, some (.builtin n), _] => ((C' == C && n == "ValueError.__new__") && (!cd.hasDel && cd.hasDict)) && (refsVE bm && eqV (alongIn K "__init__" bm) (some (some (.builtin "ValueError.__init__"))))
    | _, _ => false)
  | _ => false
theorem clsB_ok {K : Frag} {C : Addr} (q : clsB K C = true) : ∃ nm qn N bs bm sn sub ab col dd k0 k1 k2 k3 k5, K.lookup C = some (excClassObj nm qn C N bs bm true sn sub ab col dd k0 k1 k2 k3 k5 "ValueError.__new__") ∧ refsVE bm = true ∧ alongIn K "__init__" bm = some (some (.builtin "ValueError.__init__")) := by
  unfold clsB at q
  split at q
  · rename_i dd cd sl ho
    split at q
    · rename_i C' bm k0 k1 k2 k3 n k5 hm hs
      simp only [Bool.and_eq_true, beq_iff_eq, Bool.not_eq_true'] at q
      obtain ⟨⟨⟨rfl, rfl⟩, hdel, hdi⟩, hr, ha⟩ := q
      obtain ⟨nm, bs, mro, ns, qn, hd, sn, sub, ab, col, del⟩ := cd
      dsimp only at hm hdel hdi
      subst hm hdel hdi
      have hsl : sl = #[k0, k1, k2, k3, some (.builtin "ValueError.__new__"), k5] := by
        obtain ⟨l⟩ := sl
        simp only at hs
        rw [hs]
      subst hsl
      exact ⟨nm, qn, ns, bs, bm, sn, sub, ab, col, dd, k0, k1, k2, k3, k5, ho, hr, of_decide_eq_true ha⟩
    · cases q
  · cases q
/-- what a function object says, its cells by their names -/
abbrev FnY : Type := Option (Str × Str × Arguments × FuncBody × Scope × Addr × List Str × Addr)
def fnY (K : Frag) (f : Addr) : FnY := match K.lookup f with
  | some ⟨_, _, .func fd, _⟩ => some (fd.name, fd.qualname, fd.params, fd.body, fd.scope, fd.globals, fd.closure.map (·.1), fd.builtins)
  | _ => none
def fnB (K : Frag) (f C : Addr) (q file : Str) : Bool := match K.lookup f with
  | some ⟨_, _, .func fd, _⟩ => (match fd.defaults, fd.kwdefaults, fd.code, fd.closure with
    | .none, .none, .ref cda, [(_, cc)] => (codeIn K (.ref cda) q && (match K.lookup cda with
        | some ⟨_, _, .fields vs, _⟩ => (match (vs[2]? : Option Value) with
          | some (.str fl _) => decide (fl = file)
          | _ => false)
        | _ => false)) && (match K.lookup cc with
        | some ⟨_, _, .cell (some (.ref C')), _⟩ => decide (C' = C)
        | _ => false)
    | _, _, _, _ => false)
  | _ => false
theorem fnB_ok {K : Frag} {f C : Addr} {n q file : Str} {ps : Arguments} {body : List Stmt} {sc : Scope} (e : fnY K f = some (n, q, ps, FuncBody.stmts body, sc, mainGlobals, [("__class__" : Str)], builtinsNs)) (b : fnB K f C q file = true) :
    ∃ (oc : Value) (od : Option Addr) (doc pm : Value) (an : Option Addr) (cda : Addr) (ct : Value) (cc : Addr) (osl : Array (Option Value)) (ccl : Value) (cdd : Option Addr) (vs : Array Value) (ccs : Array (Option Value)) (tf : Tok) (cl : Value) (cld : Option Addr) (csl : Array (Option Value)),
      K.lookup f = some ⟨oc, od, .func (ksFn n q ps body sc .none .none doc pm an (.ref cda) ct cc), osl⟩ ∧ codeIn K (.ref cda) q = true ∧ K.lookup cda = some ⟨ccl, cdd, .fields vs, ccs⟩ ∧ vs[2]? = some (.str file tf) ∧ K.lookup cc = some ⟨cl, cld, .cell (some (.ref C)), csl⟩ := by
  unfold fnB at b
  unfold fnY at e
  split at b
  · rename_i oc od fd osl ho
    rw [ho] at e
    obtain ⟨n1, n2, n3, n4, n5, n6, n7, n8, n9, n10, n11, n12, n13, n14, n15⟩ := fd
    have e2 : (some (n1, n2, n3, n4, n5, n6, n7.map (·.1), n15) : FnY) = some (n, q, ps, FuncBody.stmts body, sc, mainGlobals, [("__class__" : Str)], builtinsNs) := e
    simp only [Option.some.injEq, Prod.mk.injEq] at e2
    obtain ⟨h1, h2, h3, h4, h5, h6, h7, h8⟩ := e2
    subst h1 h2 h3 h4 h5 h6 h8
    dsimp only at b
    split at b
    · rename_i cda x cc
      obtain ⟨b1, b2⟩ := Bool.and_eq_true_iff.mp b
      obtain ⟨b3, b4⟩ := Bool.and_eq_true_iff.mp b1
      have ex : x = ("__class__" : Str) := (List.cons.inj (show [x] = [("__class__" : Str)] from h7)).1
      subst ex
      split at b4
      · rename_i ccl cdd vs ccs hc
        split at b4
        · rename_i fl tf hv
          have ef : fl = file := of_decide_eq_true b4
          subst ef
          split at b2
          · rename_i cl cld C' csl hcc
            have eC : C' = C := of_decide_eq_true b2
            subst eC
            exact ⟨oc, od, _, _, _, _, _, _, osl, _, _, _, _, _, _, _, _, ho, b3, hc, hv, hcc⟩
          · cases b2
        · cases b4
      · cases b4
    · cases b
  · cases b
end SupX
end PySem
namespace HeX
open PySem PySem.Spec PyProof.Rows L2
abbrev AlX : Type := He.AlD × Bool × PySem.SupX.FnY
def asX (g : Addr → Option Obj) (n : Nat) : List Addr := He.asD g n ++ [cStatics]
section
variable (n : Nat) (fa : List He.Fa) (fn : List He.DefD) (xb : PySem.W.Frag → Bool) (xf : PySem.W.Frag → PySem.SupX.FnY) (xv : PySem.SupX.FnY)
def obsX (K : PySem.W.Frag) : AlX := (He.obsD fa fn K, xb K, xf K)
def obsXG (g : Addr → Option Obj) : AlX := obsX fa fn xb xf (He.frG g (asX g n))
def hookX : PySem.W.Hook where
  α := AlX
  obs := fun s => obsXG n fa fn xb xf s.heap.get?
  val := fun _ => (He.valD fn, true, xv)
  says := fun _ h => ∃ K : PySem.W.Frag, K.In h ∧ obsX fa fn xb xf K = (He.valD fn, true, xv)
  of := fun _ _ e => ⟨_, He.frG_in, e⟩
  keeps := fun _ _ _ ⟨K, hK, c⟩ k => ⟨K, PySem.W.Frag.In.keeps hK k, c⟩
end
theorem obsX_eq {n : Nat} {fa : List He.Fa} {fn : List He.DefD} {xb : PySem.W.Frag → Bool} {xf : PySem.W.Frag → PySem.SupX.FnY} {xv : PySem.SupX.FnY} {g : Addr → Option Obj} {s : Shared} (h : ∀ a, g a = s.heap.get? a) : obsXG n fa fn xb xf g = (hookX n fa fn xb xf xv).obs s := by
  have e : g = s.heap.get? := funext h
  rw [e] <;> rfl
end HeX
end
section
/-! PWHead2: a head's Hook with an own test and own readings beside the facts; SupC of many classes. -/
namespace PySem
namespace SupX
open PySem.W PySem.Calls PyProof.Rows PySem.HandSPX
/-- what is looked at for SupC -/
def supL (K : Frag) (C fI : Addr) (f q file : Str) : List Bool := [clsB K C, fnB K fI C q file,
  eqV (findIn K (.ref C) "__setattr__") (some (some (.builtin "object.__setattr__"))),
  eqV (findIn K (.ref C) "__getattribute__") (some (some (.builtin "BaseException.__getattribute__"))),
  eqV (findIn K (.ref C) "__getattr__") (some none),
  eqV (findIn K (.ref C) f) (some none),
  eqV (findIn K (.ref C) "__init__") (some (some (.ref fI))),
  decide (typeIn K (.ref fI) = some (.type "function")),
  keepIn K (.ref C),
  decide (subIn K (.ref C) (.type "BaseException") = some true),
  decide (subIn K (.ref C) (.type "ValueError") = some true),
  decide (mroIn K C (.ref C) = some true),
  decide (typeIn K (.ref C) = some (.type "type")),
  hasDictIn K C,
  decide (exmOne K (.ref C) (.ref C) = some true),
  eqV (nsIn K mainGlobals "super") (some none),
  eqV (nsIn K cStatics "thirdparty.any") (some none)]
def supB (K : Frag) (C fI : Addr) (f q file : Str) : Bool := (supL K C fI f q file).all id
theorem sup_of {prog : Program} {K : Frag} {C fI : Addr} {f q file : Str} {p1 p2 a1 a2 a3 a4 a5 a6 b1 b2 b3 b4 : Pos}
    (e : fnY K fI = some (("__init__" : Str), q, sArg f p1 p2, FuncBody.stmts [sExp f a1 a2 a3 a4 a5 a6, sAsg f b1 b2 b3 b4], sSc f, mainGlobals, [("__class__" : Str)], builtinsNs)) (b : supB K C fI f q file = true)
    (hfile : ((prog.main.file : Str) == file) = true) (top : (prog.main.scope.names.lookup ("super" : Str)).isSome = false)
    (lk : (sSc f).names.lookup ("super" : Str) = some .globalImplicit ∧ (sSc f).names.lookup ("__class__" : Str) = some .free ∧ (sSc f).names.lookup ("self" : Str) = some .local ∧ (sSc f).names.lookup f = some .local)
    (nf : f ≠ "self" ∧ (f == ("__debug__" : Str)) = false)
    (hev : ∃ pl : Sem Bool, ∀ env : Env, eval (.Call (.Attribute (.Call (.Name "super" a1) [] [] a2) "__init__" a3) [.Name f a4] [] a5) env = (do
      let ov ← attributeBase (.Call (.Name "super" a1) [] [] a2) "__init__" env (eval (.Call (.Name "super" a1) [] [] a2) env)
      standAt a3.atName
      let (f', first) ← holding [ov] (getMethod ov "__init__" pl)
      callWith a5 f' first (backTo a5 (starEach [.Name f a4] env)) []))
    (bnd : ∀ (p1 p2 : Pos) (bd : List Stmt) (doc pm : Value) (an : Option Addr) (cdv ct : Value) (cc : Addr) (u v : Value), bindArgs (ksFn "__init__" q (sArg f p1 p2) bd (sSc f) .none .none doc pm an cdv ct cc) ⟨[u, v], []⟩ = pure [(("self" : Str), u), (f, v)]) : SupC prog K C fI f q := by
  have at_ : ∀ (i : Nat) {b' : Bool}, (supL K C fI f q file)[i]? = some b' → b' = true := fun i b' z => List.all_eq_true.mp b b' (List.mem_of_getElem? z)
  obtain ⟨oc, od, doc, pm, an, cda, ct, cc, osl, ccl, cdd, vs, ccs, tf, cl, cld, csl, h1, h2, h3, h4, h5⟩ := fnB_ok e (at_ 1 rfl)
  exact {
    cls := clsB_ok (at_ 0 rfl)
    sa := of_decide_eq_true (at_ 2 rfl)
    ga := of_decide_eq_true (at_ 3 rfl)
    gg := of_decide_eq_true (at_ 4 rfl)
    noN := of_decide_eq_true (at_ 5 rfl)
    iC := of_decide_eq_true (at_ 6 rfl)
    tC := of_decide_eq_true (at_ 7 rfl)
    kC := at_ 8 rfl
    exC := of_decide_eq_true (at_ 9 rfl)
    veC := of_decide_eq_true (at_ 10 rfl)
    sub := of_decide_eq_true (at_ 11 rfl)
    tyC := of_decide_eq_true (at_ 12 rfl)
    hdC := at_ 13 rfl
    te := of_decide_eq_true (at_ 14 rfl)
    sup := of_decide_eq_true (at_ 15 rfl)
    opq := of_decide_eq_true (at_ 16 rfl)
    top := top
    lk1 := lk.1
    lk2 := lk.2.1
    lk3 := lk.2.2.1
    lk4 := lk.2.2.2
    nf := nf
    fn := ⟨oc, od, doc, pm, an, cda, ct, cc, osl, p1, p2, a1, a2, a3, a4, a5, a6, b1, b2, b3, b4, ccl, cdd, vs, ccs, file, tf, cl, cld, csl, h1, h2, h3, h4, hfile, h5, hev⟩
    bnd := bnd }
end SupX
end PySem
namespace HeY
open PySem PySem.Spec PyProof.Rows L2
section
variable {β : Type} (n : Nat) (fa : List He.Fa) (fn : List He.DefD) (xb : PySem.W.Frag → Bool) (xf : PySem.W.Frag → β) (xv : β)
def obsY (K : PySem.W.Frag) : He.AlD × Bool × β := (He.obsD fa fn K, xb K, xf K)
def obsYG (g : Addr → Option Obj) : He.AlD × Bool × β := obsY fa fn xb xf (He.frG g (HeX.asX g n))
def hookY : PySem.W.Hook where
  α := He.AlD × Bool × β
  obs := fun s => obsYG n fa fn xb xf s.heap.get?
  val := fun _ => (He.valD fn, true, xv)
  says := fun _ h => ∃ K : PySem.W.Frag, K.In h ∧ obsY fa fn xb xf K = (He.valD fn, true, xv)
  of := fun _ _ e => ⟨_, He.frG_in, e⟩
  keeps := fun _ _ _ ⟨K, hK, c⟩ k => ⟨K, PySem.W.Frag.In.keeps hK k, c⟩
end
theorem obsY_eq {β : Type} {n : Nat} {fa : List He.Fa} {fn : List He.DefD} {xb : PySem.W.Frag → Bool} {xf : PySem.W.Frag → β} {xv : β} {g : Addr → Option Obj} {s : Shared} (h : ∀ a, g a = s.heap.get? a) : obsYG n fa fn xb xf g = (hookY n fa fn xb xf xv).obs s := by
  have e : g = s.heap.get? := funext h
  rw [e] <;> rfl
/-- what an error class must say for isinstance -/
def excB (K : PySem.W.Frag) (D : Addr) : Bool := PySem.SupX.eqV (PySem.W.findIn K (.ref D) "__getattribute__") (some (some (.builtin "BaseException.__getattribute__"))) && (PySem.SupX.eqV (PySem.W.findIn K (.ref D) "__getattr__") (some none) && (decide (PySem.W.subIn K (.ref D) (.type "BaseException") = some true) && (PySem.W.hasDictIn K D &&
  (PySem.SupX.eqV (PySem.W.findIn K (.ref D) "__class__") (some (some (.builtin "object.__class__"))) && (PySem.SupX.eqV (PySem.W.specialIn K (.builtin "object.__class__") "__get__") (some (some (.builtin "getset_descriptor.__get__"))) && (decide (PySem.W.takesIn K (.builtin "object.__class__") = some true) && decide (PySem.W.mroIn K D (.type "object") = some true)))))))
theorem excB_ok {K : PySem.W.Frag} {D : Addr} (h : excB K D = true) : L2.ExcC K D := by
  obtain ⟨h1, h⟩ := He.ba h
  obtain ⟨h2, h⟩ := He.ba h
  obtain ⟨h3, h⟩ := He.ba h
  obtain ⟨h4, h⟩ := He.ba h
  obtain ⟨h5, h⟩ := He.ba h
  obtain ⟨h6, h⟩ := He.ba h
  obtain ⟨h7, h8⟩ := He.ba h
  exact ⟨of_decide_eq_true h1, of_decide_eq_true h2, of_decide_eq_true h3, h4, of_decide_eq_true h5, of_decide_eq_true h6, of_decide_eq_true h7, of_decide_eq_true h8⟩
end HeY
end
section
namespace LawK00
open PySem PySem.Spec PyProof.Rows L2 C8 PW
def top (i : Nat) : Stmt := PySem.Challenge.pw_strangerspost_k00_errors_and_their_field.main.body.getD i (.Pass ⟨0, 0, 0, 0⟩)
def errL : List Str := ["NoKind", "NoParts", "NoTerm", "NoTerms", "NoBag", "NoBags", "NoName", "NoLock", "NoLeaf", "NoNode", "Named", "TreeFull", "NoLocks", "NoRoom", "NoWords", "NoLetter", "Unknown", "NoLot", "NoFact", "NoTheft", "NoEpoch"]
def errM : List Str := ["BadTerm", "TooLong", "BadTree", "BadWorld", "BadWish", "BadRule", "TooMany", "BadImage", "Unsound", "BadLine", "BadRows"]
def errN (i : Nat) : Str := (errL ++ errM).getD i ""
def Errs (K : PySem.W.Frag) (D : Addr) : Prop := ∃ i, i < 32 ∧ D = He.ga K (errN i)
abbrev hP : Program := PySem.Challenge.rw_strangerspost_k00_errors_and_their_field.prog
abbrev s_law_bag : Stmt := top 35
theorem sc_law_bag : FnScope ["script", "great", "seed", "cell"] ["script"] (defScope s_law_bag) := ⟨rfl, rfl, rfl, by decide +kernel, rfl, by decide +kernel, by decide +kernel⟩
abbrev s_law_pick : Stmt := top 36
theorem sc_law_pick : FnScope ["bag", "many", "number"] ["bag", "many"] (defScope s_law_pick) := ⟨rfl, rfl, rfl, by decide +kernel, rfl, by decide +kernel, by decide +kernel⟩
abbrev s_law_some : Stmt := top 37
theorem sc_law_some : FnScope ["bag", "things"] ["bag", "things"] (defScope s_law_some) := ⟨rfl, rfl, rfl, by decide +kernel, rfl, by decide +kernel, by decide +kernel⟩
abbrev s_law_plain : Stmt := top 38
theorem sc_law_plain : FnScope ["one", "two"] [] (defScope s_law_plain) := ⟨rfl, rfl, rfl, by decide +kernel, rfl, by decide +kernel, by decide +kernel⟩
abbrev s_law_told : Stmt := top 39
theorem sc_law_told : FnScope ["thing", "one", "two", "three", "four", "five", "six", "seven", "eight", "nine", "ten", "last", "fields"] ["thing"] (defScope s_law_told) := ⟨rfl, rfl, rfl, by decide +kernel, rfl, by decide +kernel, by decide +kernel⟩
abbrev s_law_flags : Stmt := top 40
theorem sc_law_flags : FnScope ["e", "found"] ["e"] (defScope s_law_flags) := ⟨rfl, rfl, rfl, by decide +kernel, rfl, by decide +kernel, by decide +kernel⟩
abbrev s_law_main : Stmt := top 41
theorem sc_law_main : FnScope ["script", "bag", "thing", "told", "fields", "errors", "at", "e", "field", "other"] ["script"] (defScope s_law_main) := ⟨rfl, rfl, rfl, by decide +kernel, rfl, by decide +kernel, by decide +kernel⟩
structure Gx (K : PySem.W.Frag) (mg : Str → Option Value) : Prop where
  b_ValueError : mg "ValueError" = none
  b_abs : mg "abs" = none
  b_bool : mg "bool" = none
  b_enumerate : mg "enumerate" = none
  b_int : mg "int" = none
  b_isinstance : mg "isinstance" = none
  b_len : mg "len" = none
  b_range : mg "range" = none
  f_law_bag : ∃ f fd, FunD K "_law_bag" "_law_bag" (defArgs s_law_bag) (defBody s_law_bag) (defScope s_law_bag) [] [] f fd ∧ mg "_law_bag" = some (.ref f)
  f_law_pick : ∃ f fd, FunD K "_law_pick" "_law_pick" (defArgs s_law_pick) (defBody s_law_pick) (defScope s_law_pick) [] [] f fd ∧ mg "_law_pick" = some (.ref f)
  f_law_some : ∃ f fd, FunD K "_law_some" "_law_some" (defArgs s_law_some) (defBody s_law_some) (defScope s_law_some) [] [] f fd ∧ mg "_law_some" = some (.ref f)
  f_law_plain : ∃ f fd, FunD K "_law_plain" "_law_plain" (defArgs s_law_plain) (defBody s_law_plain) (defScope s_law_plain) [] [] f fd ∧ mg "_law_plain" = some (.ref f)
  f_law_told : ∃ f fd, FunD K "_law_told" "_law_told" (defArgs s_law_told) (defBody s_law_told) (defScope s_law_told) [] [] f fd ∧ mg "_law_told" = some (.ref f)
  f_law_flags : ∃ f fd, FunD K "_law_flags" "_law_flags" (defArgs s_law_flags) (defBody s_law_flags) (defScope s_law_flags) [] [] f fd ∧ mg "_law_flags" = some (.ref f)
  f_law_main : ∃ f fd, FunD K "law" "law" (defArgs s_law_main) (defBody s_law_main) (defScope s_law_main) [] [] f fd ∧ mg "law" = some (.ref f)
  c_NoKind : mg "NoKind" = some (.ref (He.ga K "NoKind"))
  c_NoParts : mg "NoParts" = some (.ref (He.ga K "NoParts"))
  c_NoTerm : mg "NoTerm" = some (.ref (He.ga K "NoTerm"))
  c_NoTerms : mg "NoTerms" = some (.ref (He.ga K "NoTerms"))
  c_NoBag : mg "NoBag" = some (.ref (He.ga K "NoBag"))
  c_NoBags : mg "NoBags" = some (.ref (He.ga K "NoBags"))
  c_NoName : mg "NoName" = some (.ref (He.ga K "NoName"))
  c_NoLock : mg "NoLock" = some (.ref (He.ga K "NoLock"))
  c_NoLeaf : mg "NoLeaf" = some (.ref (He.ga K "NoLeaf"))
  c_NoNode : mg "NoNode" = some (.ref (He.ga K "NoNode"))
  c_Named : mg "Named" = some (.ref (He.ga K "Named"))
  c_TreeFull : mg "TreeFull" = some (.ref (He.ga K "TreeFull"))
  c_NoLocks : mg "NoLocks" = some (.ref (He.ga K "NoLocks"))
  c_NoRoom : mg "NoRoom" = some (.ref (He.ga K "NoRoom"))
  c_NoWords : mg "NoWords" = some (.ref (He.ga K "NoWords"))
  c_NoLetter : mg "NoLetter" = some (.ref (He.ga K "NoLetter"))
  c_Unknown : mg "Unknown" = some (.ref (He.ga K "Unknown"))
  c_NoLot : mg "NoLot" = some (.ref (He.ga K "NoLot"))
  c_NoFact : mg "NoFact" = some (.ref (He.ga K "NoFact"))
  c_NoTheft : mg "NoTheft" = some (.ref (He.ga K "NoTheft"))
  c_NoEpoch : mg "NoEpoch" = some (.ref (He.ga K "NoEpoch"))
  c_BadTerm : mg "BadTerm" = some (.ref (He.ga K "BadTerm"))
  c_TooLong : mg "TooLong" = some (.ref (He.ga K "TooLong"))
  c_BadTree : mg "BadTree" = some (.ref (He.ga K "BadTree"))
  c_BadWorld : mg "BadWorld" = some (.ref (He.ga K "BadWorld"))
  c_BadWish : mg "BadWish" = some (.ref (He.ga K "BadWish"))
  c_BadRule : mg "BadRule" = some (.ref (He.ga K "BadRule"))
  c_TooMany : mg "TooMany" = some (.ref (He.ga K "TooMany"))
  c_BadImage : mg "BadImage" = some (.ref (He.ga K "BadImage"))
  c_Unsound : mg "Unsound" = some (.ref (He.ga K "Unsound"))
  c_BadLine : mg "BadLine" = some (.ref (He.ga K "BadLine"))
  c_BadRows : mg "BadRows" = some (.ref (He.ga K "BadRows"))
  c_PostError : mg "PostError" = some (.ref (He.ga K "PostError"))
  e_NoKind : PySem.W.excIn K (He.ga K "NoKind") He.veBase "ValueError.__new__" = true ∧ PySem.W.keepIn K (.ref (He.ga K "NoKind")) = true
  e_NoParts : PySem.W.excIn K (He.ga K "NoParts") He.veBase "ValueError.__new__" = true ∧ PySem.W.keepIn K (.ref (He.ga K "NoParts")) = true
  e_NoTerm : PySem.W.excIn K (He.ga K "NoTerm") He.veBase "ValueError.__new__" = true ∧ PySem.W.keepIn K (.ref (He.ga K "NoTerm")) = true
  e_NoTerms : PySem.W.excIn K (He.ga K "NoTerms") He.veBase "ValueError.__new__" = true ∧ PySem.W.keepIn K (.ref (He.ga K "NoTerms")) = true
  e_NoBag : PySem.W.excIn K (He.ga K "NoBag") He.veBase "ValueError.__new__" = true ∧ PySem.W.keepIn K (.ref (He.ga K "NoBag")) = true
  e_NoBags : PySem.W.excIn K (He.ga K "NoBags") He.veBase "ValueError.__new__" = true ∧ PySem.W.keepIn K (.ref (He.ga K "NoBags")) = true
  e_NoName : PySem.W.excIn K (He.ga K "NoName") He.veBase "ValueError.__new__" = true ∧ PySem.W.keepIn K (.ref (He.ga K "NoName")) = true
  e_NoLock : PySem.W.excIn K (He.ga K "NoLock") He.veBase "ValueError.__new__" = true ∧ PySem.W.keepIn K (.ref (He.ga K "NoLock")) = true
  e_NoLeaf : PySem.W.excIn K (He.ga K "NoLeaf") He.veBase "ValueError.__new__" = true ∧ PySem.W.keepIn K (.ref (He.ga K "NoLeaf")) = true
  e_NoNode : PySem.W.excIn K (He.ga K "NoNode") He.veBase "ValueError.__new__" = true ∧ PySem.W.keepIn K (.ref (He.ga K "NoNode")) = true
  e_Named : PySem.W.excIn K (He.ga K "Named") He.veBase "ValueError.__new__" = true ∧ PySem.W.keepIn K (.ref (He.ga K "Named")) = true
  e_TreeFull : PySem.W.excIn K (He.ga K "TreeFull") He.veBase "ValueError.__new__" = true ∧ PySem.W.keepIn K (.ref (He.ga K "TreeFull")) = true
  e_NoLocks : PySem.W.excIn K (He.ga K "NoLocks") He.veBase "ValueError.__new__" = true ∧ PySem.W.keepIn K (.ref (He.ga K "NoLocks")) = true
  e_NoRoom : PySem.W.excIn K (He.ga K "NoRoom") He.veBase "ValueError.__new__" = true ∧ PySem.W.keepIn K (.ref (He.ga K "NoRoom")) = true
  e_NoWords : PySem.W.excIn K (He.ga K "NoWords") He.veBase "ValueError.__new__" = true ∧ PySem.W.keepIn K (.ref (He.ga K "NoWords")) = true
  e_NoLetter : PySem.W.excIn K (He.ga K "NoLetter") He.veBase "ValueError.__new__" = true ∧ PySem.W.keepIn K (.ref (He.ga K "NoLetter")) = true
  e_Unknown : PySem.W.excIn K (He.ga K "Unknown") He.veBase "ValueError.__new__" = true ∧ PySem.W.keepIn K (.ref (He.ga K "Unknown")) = true
  e_NoLot : PySem.W.excIn K (He.ga K "NoLot") He.veBase "ValueError.__new__" = true ∧ PySem.W.keepIn K (.ref (He.ga K "NoLot")) = true
  e_NoFact : PySem.W.excIn K (He.ga K "NoFact") He.veBase "ValueError.__new__" = true ∧ PySem.W.keepIn K (.ref (He.ga K "NoFact")) = true
  e_NoTheft : PySem.W.excIn K (He.ga K "NoTheft") He.veBase "ValueError.__new__" = true ∧ PySem.W.keepIn K (.ref (He.ga K "NoTheft")) = true
  e_NoEpoch : PySem.W.excIn K (He.ga K "NoEpoch") He.veBase "ValueError.__new__" = true ∧ PySem.W.keepIn K (.ref (He.ga K "NoEpoch")) = true
  s_BadTerm : PySem.SupX.SupC hP K (He.ga K "BadTerm") (He.ma K (He.ga K "BadTerm") "__init__") "at" "BadTerm.__init__"
  s_TooLong : PySem.SupX.SupC hP K (He.ga K "TooLong") (He.ma K (He.ga K "TooLong") "__init__") "most" "TooLong.__init__"
  s_BadTree : PySem.SupX.SupC hP K (He.ga K "BadTree") (He.ma K (He.ga K "BadTree") "__init__") "part" "BadTree.__init__"
  s_BadWorld : PySem.SupX.SupC hP K (He.ga K "BadWorld") (He.ma K (He.ga K "BadWorld") "__init__") "part" "BadWorld.__init__"
  s_BadWish : PySem.SupX.SupC hP K (He.ga K "BadWish") (He.ma K (He.ga K "BadWish") "__init__") "at" "BadWish.__init__"
  s_BadRule : PySem.SupX.SupC hP K (He.ga K "BadRule") (He.ma K (He.ga K "BadRule") "__init__") "part" "BadRule.__init__"
  s_TooMany : PySem.SupX.SupC hP K (He.ga K "TooMany") (He.ma K (He.ga K "TooMany") "__init__") "most" "TooMany.__init__"
  s_BadImage : PySem.SupX.SupC hP K (He.ga K "BadImage") (He.ma K (He.ga K "BadImage") "__init__") "line" "BadImage.__init__"
  s_Unsound : PySem.SupX.SupC hP K (He.ga K "Unsound") (He.ma K (He.ga K "Unsound") "__init__") "sentence" "Unsound.__init__"
  s_BadLine : PySem.SupX.SupC hP K (He.ga K "BadLine") (He.ma K (He.ga K "BadLine") "__init__") "line" "BadLine.__init__"
  s_BadRows : PySem.SupX.SupC hP K (He.ga K "BadRows") (He.ma K (He.ga K "BadRows") "__init__") "at" "BadRows.__init__"
  errs : ∀ D, Errs K D → L2.ExcC K D
  kit : ∀ i j : Nat, i < 32 → j < 32 → PySem.W.kitOne K (.ref (He.ga K (errN i))) (.ref (He.ga K (errN j))) = some (decide (i = j))
  kitP : ∀ i : Nat, i < 32 → PySem.W.kitOne K (.ref (He.ga K (errN i))) (.ref (He.ga K "PostError")) = some true
  kitV : ∀ i : Nat, i < 32 → PySem.W.kitOne K (.ref (He.ga K (errN i))) (.type "ValueError") = some true
end LawK00
end
section
namespace LawK00
open PySem PySem.Spec PyProof.Rows L2 C8 PW
/-- the bag: its great numbers at c -/
def Bag (H : Hp) (p c : Addr) : Prop := c ≠ p ∧ ∃ (gs : List Int) (s n k : Int), H p = some (.lst [.ref c, .int s, .int n, .int k]) ∧ H c = some (.lst (gs.map V.int))
/-- an error of the i-th class that is held -/
def ErrAt (K : PySem.W.Frag) (H : Hp) (e : Addr) (i : Nat) : Prop := ∃ d, H e = some (HeldE (He.ga K (errN i)) d e) ∧ (d = none ∨ ∃ dd fs, d = some dd ∧ H dd = some (.xd fs))
theorem ErrAt.ext {K : PySem.W.Frag} {H H' : Hp} {e : Addr} {i : Nat} (h : ErrAt K H e i) (x : PW.Ext H H') : ErrAt K H' e i := by
  obtain ⟨d, h1, h2⟩ := h
  refine ⟨d, x _ _ h1, ?_⟩
  rcases h2 with h2 | ⟨dd, fs, h2, h3⟩
  · exact .inl h2
  · exact .inr ⟨dd, fs, h2, x _ _ h3⟩
/-- errors of the classes from lo on -/
def Errs0 (K : PySem.W.Frag) (H : Hp) (lo : Nat) (es : List Addr) : Prop := ∀ i e, es[i]? = some e → ErrAt K H e (lo + i)
theorem Errs0.ext {K : PySem.W.Frag} {H H' : Hp} {lo : Nat} {es : List Addr} (h : Errs0 K H lo es) (x : PW.Ext H H') : Errs0 K H' lo es := fun i e z => (h i e z).ext x
theorem Errs0.snoc {K : PySem.W.Frag} {H : Hp} {lo : Nat} {es : List Addr} {a : Addr} (h : Errs0 K H lo es) (x : ErrAt K H a (lo + es.length)) : Errs0 K H lo (es ++ [a]) := fun i e z => by
  by_cases hi : i < es.length
  · rw [List.getElem?_append_left hi] at z
    exact h i e z
  · rw [List.getElem?_append_right (by omega)] at z
    have hi2 : i = es.length := by
      have := (List.getElem?_eq_some_iff.mp z).1
      simp only [List.length_cons, List.length_nil] at this
      omega
    subst hi2
    rw [Nat.sub_self] at z
    cases z
    exact x
def spBag (K : PySem.W.Frag) : Sp := fun vs H Q _ => ∃ (a : Addr) (ns : List Int), vs = [.ref a] ∧ SqL K H a (ns.map V.int) ∧ ns.length ≤ 1000 ∧ ∀ p c H', PW.Ext H H' → Bag H' p c → Q (.ref p) H'
def spPick (K : PySem.W.Frag) : Sp := fun vs H Q _ => ∃ (p c : Addr) (m : Int), vs = [.ref p, .int m] ∧ 0 < m ∧ m < 1073741824 ∧ Bag H p c ∧ ∀ r H', 0 ≤ r → r < m → Bag H' p c → (∀ b o, b ≠ p → b ≠ c → H b = some o → H' b = some o) → Q (.int r) H'
def spSome (K : PySem.W.Frag) : Sp := fun vs H Q _ => ∃ (p c t : Addr) (xs : List V), vs = [.ref p, .ref t] ∧ Bag H p c ∧ t ≠ p ∧ t ≠ c ∧ H t = some (.lst xs) ∧ xs ≠ [] ∧ xs.length < 1073741824 ∧ ∀ v H', v ∈ xs → Bag H' p c → (∀ b o, b ≠ p → b ≠ c → H b = some o → H' b = some o) → Q v H'
def spPlain (K : PySem.W.Frag) : Sp := fun vs H Q _ => vs = [] ∧ ∀ (p : Addr) (es : List Addr) (H' : Hp), PW.Ext H H' → H' p = some (.lst (es.map V.ref)) → es.length = 21 → Errs0 K H' 0 es → Q (.ref p) H'
def spTold (K : PySem.W.Frag) : Sp := fun vs H Q _ => ∃ v, vs = [v] ∧ ∀ (t l1 l2 : Addr) (es : List Addr) (H' : Hp), PW.Ext H H' → H' t = some (.tup [.ref l1, .ref l2]) → H' l1 = some (.lst (es.map V.ref)) → H' l2 = some (.lst (List.replicate 11 v)) → es.length = 11 → Errs0 K H' 21 es → Q (.ref t) H'
def flagsL (i : Nat) : List V := (List.range 32).map fun j => V.bl (decide (i = j))
def spFlags (K : PySem.W.Frag) : Sp := fun vs H Q _ => ∃ (e : Addr) (i : Nat), vs = [.ref e] ∧ i < 32 ∧ ErrAt K H e i ∧ ∀ p H', PW.Ext H H' → H' p = some (.lst (flagsL i)) → Q (.ref p) H'
def spLaw (K : PySem.W.Frag) : Sp := fun vs H Q _ => ∃ (a : Addr) (ns : List Int), vs = [.ref a] ∧ SqL K H a (ns.map V.int) ∧ ns.length ≤ 1000 ∧ ∀ H', Q (.bl true) H'
theorem len_law_bag {K : PySem.W.Frag} {vs : List V} {H : Hp} {Q : VK} {E : XK} (h : spBag K vs H Q E) : vs.length = 1 := by obtain ⟨_, _, e, _⟩ := h; rw [e]; rfl
theorem len_law_pick {K : PySem.W.Frag} {vs : List V} {H : Hp} {Q : VK} {E : XK} (h : spPick K vs H Q E) : vs.length = 2 := by obtain ⟨_, _, _, e, _⟩ := h; rw [e]; rfl
theorem len_law_some {K : PySem.W.Frag} {vs : List V} {H : Hp} {Q : VK} {E : XK} (h : spSome K vs H Q E) : vs.length = 2 := by obtain ⟨_, _, _, _, e, _⟩ := h; rw [e]; rfl
theorem len_law_plain {K : PySem.W.Frag} {vs : List V} {H : Hp} {Q : VK} {E : XK} (h : spPlain K vs H Q E) : vs.length = 0 := by obtain ⟨e, _⟩ := h; rw [e]; rfl
theorem len_law_told {K : PySem.W.Frag} {vs : List V} {H : Hp} {Q : VK} {E : XK} (h : spTold K vs H Q E) : vs.length = 1 := by obtain ⟨_, e, _⟩ := h; rw [e]; rfl
theorem len_law_flags {K : PySem.W.Frag} {vs : List V} {H : Hp} {Q : VK} {E : XK} (h : spFlags K vs H Q E) : vs.length = 1 := by obtain ⟨_, _, e, _⟩ := h; rw [e]; rfl
theorem len_law {K : PySem.W.Frag} {vs : List V} {H : Hp} {Q : VK} {E : XK} (h : spLaw K vs H Q E) : vs.length = 1 := by obtain ⟨_, _, e, _⟩ := h; rw [e]; rfl
/-- x != y, of plain data or of two dicts -/
def rNeU (K : PySem.W.Frag) : R2 := fun x y H Q => rNeD K x y H Q ∨ rNeDA x y H Q
theorem op_neU {X : Cx} (hu : X.A.units + 64 < cLine) (hu0 : X.A.units < cLine) : OpR X (compareOp .NotEq) (rNeU X.K) := by
  intro pins s σ H x y v u Q I rx ry h
  rcases h with h | h
  · exact op_neD hu pins s σ H x y v u Q I rx ry h
  · exact op_ne_dictA hu0 pins s σ H x y v u Q I rx ry h

end LawK00
end
section
namespace LawK00
open PySem PySem.Spec PyProof.Rows L2 C8 PW
def t_law_bag (K : PySem.W.Frag) : TS :=
  (tSeq (tAsg (tLc (iSeqU K (tSl (rSlU K) (tVar 0) tNoPart (tPart (tC (.int 63))))) (gName 3) (tTest (tOp rGeI (tCB rAbsU (tCons (tCB rIntU (tCons (tVar 3) tNil)) tNil)) (tOp rPowI (tC (.int 10)) (tC (.int 18))))) (tCB rAbsU (tCons (tCB rIntU (tCons (tVar 3) tNil)) tNil)) [3]) (gName 1))
  (tSeq (tAsg (tC (.int 300)) (gName 2))
  (tSeq (tFor (iSeqU K (tSl (rSlU K) (tVar 0) tNoPart (tPart (tC (.int 63))))) (gName 3)
  (tAsg (tOp rModI (tCB rIntU (tCons (tOp (rAddU K) (tOp (rAddU K) (tOp (rAddU K) (tOp (rMulU K) (tVar 2) (tC (.int 69621))) (tOp (rMulU K) (tCB rAbsU (tCons (tCB rIntU (tCons (tVar 3) tNil)) tNil)) (tC (.int 2)))) (tCB rIntU (tCons (tOp rLtI (tCB rIntU (tCons (tVar 3) tNil)) (tC (.int 0))) tNil))) (tC (.int 17))) tNil)) (tC (.int 2147483629))) (gName 2)))
  (tRet (tLst (tCons (tVar 1) (tCons (tVar 2) (tCons (tCB (rLenU K) (tCons (tVar 0) tNil)) (tCons (tC (.int 0)) tNil)))))))))
def t_law_pick (K : PySem.W.Frag) : TS :=
  (tSeq (tIfS (tTest (tOp (rEqD K) (tOp (rIx K) (tVar 0) (tC (.int 2))) (tC (.int 0))))
  (tRet (tC (.int 0)))
  tNext)
  (tSeq (tIfS (tTest (tOp rGtI (tCB (rLenU K) (tCons (tOp (rIx K) (tVar 0) (tC (.int 0))) tNil)) (tC (.int 0))))
  (tSeq (tAsg (tOp (rIx K) (tOp (rIx K) (tVar 0) (tC (.int 0))) (tC (.int 0))) (gName 2))
  (tSeq (tAsg (tOp rDivI (tVar 2) (tVar 1)) (gSub (tOp (rIx K) (tVar 0) (tC (.int 0))) (tC (.int 0)) rSetL))
  (tSeq (tIfS (tTest (tOp rLtI (tVar 2) (tVar 1)))
  (tDrop (tBM K "list" rPopAt (tOp (rIx K) (tVar 0) (tC (.int 0))) (tCons (tC (.int 0)) tNil)))
  tNext)
  (tRet (tOp rModI (tCB rIntU (tCons (tVar 2) tNil)) (tVar 1))))))
  tNext)
  (tSeq (tAsg (tOp (rAddU K) (tOp (rIx K) (tVar 0) (tC (.int 3))) (tC (.int 1))) (gSub (tVar 0) (tC (.int 3)) rSetL))
  (tSeq (tAsg (tOp rModI (tCB rIntU (tCons (tOp (rAddU K) (tOp (rMulU K) (tOp (rAddU K) (tOp (rIx K) (tVar 0) (tC (.int 1))) (tOp (rMulU K) (tC (.int 7919)) (tOp (rIx K) (tVar 0) (tC (.int 3))))) (tC (.int 48271))) (tC (.int 11))) tNil)) (tC (.int 2147483647))) (gName 2))
  (tSeq (tAsg (tOp rModI (tCB rIntU (tCons (tOp (rAddU K) (tOp (rMulU K) (tVar 2) (tOp (rAddU K) (tOp rDivI (tVar 2) (tC (.int 1009))) (tC (.int 69621)))) (tOp (rIx K) (tVar 0) (tC (.int 3)))) tNil)) (tC (.int 2147483399))) (gName 2))
  (tSeq (tAsg (tOp rModI (tCB rIntU (tCons (tOp (rAddU K) (tOp (rIx K) (tVar 0) (tC (.int 1))) (tVar 2)) tNil)) (tC (.int 2147483629))) (gSub (tVar 0) (tC (.int 1)) rSetL))
  (tRet (tOp rModI (tCB rIntU (tCons (tOp rDivI (tVar 2) (tC (.int 16))) tNil)) (tVar 1)))))))))
def t_law_some (K : PySem.W.Frag) : TS :=
  (tRet (tOp (rIx K) (tVar 1) (tCall (spPick K) [] L2.E0 (tCons (tVar 0) (tCons (tCB (rLenU K) (tCons (tVar 1) tNil)) tNil)))))
def t_law_plain (K : PySem.W.Frag) : TS :=
  (tSeq (tAsg (tLst (tCons (tHeld0 (He.ga K "NoKind")) (tCons (tHeld0 (He.ga K "NoParts")) (tCons (tHeld0 (He.ga K "NoTerm")) (tCons (tHeld0 (He.ga K "NoTerms")) (tCons (tHeld0 (He.ga K "NoBag")) (tCons (tHeld0 (He.ga K "NoBags")) (tCons (tHeld0 (He.ga K "NoName")) (tCons (tHeld0 (He.ga K "NoLock")) (tCons (tHeld0 (He.ga K "NoLeaf")) (tCons (tHeld0 (He.ga K "NoNode")) tNil))))))))))) (gName 0))
  (tSeq (tAsg (tLst (tCons (tHeld0 (He.ga K "Named")) (tCons (tHeld0 (He.ga K "TreeFull")) (tCons (tHeld0 (He.ga K "NoLocks")) (tCons (tHeld0 (He.ga K "NoRoom")) (tCons (tHeld0 (He.ga K "NoWords")) (tCons (tHeld0 (He.ga K "NoLetter")) (tCons (tHeld0 (He.ga K "Unknown")) (tCons (tHeld0 (He.ga K "NoLot")) (tCons (tHeld0 (He.ga K "NoFact")) (tCons (tHeld0 (He.ga K "NoTheft")) tNil))))))))))) (gName 1))
  (tRet (tOp (rAddU K) (tOp (rAddU K) (tVar 0) (tVar 1)) (tLst (tCons (tHeld0 (He.ga K "NoEpoch")) tNil))))))
def t_law_told (K : PySem.W.Frag) : TS :=
  (tSeq (tPar3 1 2 3 (tCons (tHeld1 (He.ga K "BadTerm") "at" (tCons (tVar 0) tNil)) (tCons (tHeld1 (He.ga K "TooLong") "most" (tCons (tVar 0) tNil)) (tCons (tHeld1 (He.ga K "BadTree") "part" (tCons (tVar 0) tNil)) tNil))))
  (tSeq (tPar3 4 5 6 (tCons (tHeld1 (He.ga K "BadWorld") "part" (tCons (tVar 0) tNil)) (tCons (tHeld1 (He.ga K "BadWish") "at" (tCons (tVar 0) tNil)) (tCons (tHeld1 (He.ga K "BadRule") "part" (tCons (tVar 0) tNil)) tNil))))
  (tSeq (tPar3 7 8 9 (tCons (tHeld1 (He.ga K "TooMany") "most" (tCons (tVar 0) tNil)) (tCons (tHeld1 (He.ga K "BadImage") "line" (tCons (tVar 0) tNil)) (tCons (tHeld1 (He.ga K "Unsound") "sentence" (tCons (tVar 0) tNil)) tNil))))
  (tSeq (tPar 10 11 (tCons (tHeld1 (He.ga K "BadLine") "line" (tCons (tVar 0) tNil)) (tCons (tHeld1 (He.ga K "BadRows") "at" (tCons (tVar 0) tNil)) tNil)))
  (tSeq (tAsg (tLst (tCons (tHeldF (He.ga K "BadTerm") "at" (tVar 1)) (tCons (tHeldF (He.ga K "TooLong") "most" (tVar 2)) (tCons (tHeldF (He.ga K "BadTree") "part" (tVar 3)) (tCons (tHeldF (He.ga K "BadWorld") "part" (tVar 4)) (tCons (tHeldF (He.ga K "BadWish") "at" (tVar 5)) (tCons (tHeldF (He.ga K "BadRule") "part" (tVar 6)) (tCons (tHeldF (He.ga K "TooMany") "most" (tVar 7)) (tCons (tHeldF (He.ga K "BadImage") "line" (tVar 8)) (tCons (tHeldF (He.ga K "Unsound") "sentence" (tVar 9)) tNil)))))))))) (gName 12))
  (tRet (tTup (tCons (tLst (tCons (tVar 1) (tCons (tVar 2) (tCons (tVar 3) (tCons (tVar 4) (tCons (tVar 5) (tCons (tVar 6) (tCons (tVar 7) (tCons (tVar 8) (tCons (tVar 9) (tCons (tVar 10) (tCons (tVar 11) tNil)))))))))))) (tCons (tOp (rAddU K) (tVar 12) (tLst (tCons (tHeldF (He.ga K "BadLine") "line" (tVar 10)) (tCons (tHeldF (He.ga K "BadRows") "at" (tVar 11)) tNil)))) tNil)))))))))
def t_law_flags (K : PySem.W.Frag) : TS :=
  (tSeq (tAsg (tLst (tCons (tCB (rIsH K (Errs K)) (tCons (tVar 0) (tCons (tC (.ref (He.ga K "NoKind"))) tNil))) (tCons (tCB (rIsH K (Errs K)) (tCons (tVar 0) (tCons (tC (.ref (He.ga K "NoParts"))) tNil))) (tCons (tCB (rIsH K (Errs K)) (tCons (tVar 0) (tCons (tC (.ref (He.ga K "NoTerm"))) tNil))) (tCons (tCB (rIsH K (Errs K)) (tCons (tVar 0) (tCons (tC (.ref (He.ga K "NoTerms"))) tNil))) tNil))))) (gName 1))
  (tSeq (tAsg (tOp (rAddU K) (tVar 1) (tLst (tCons (tCB (rIsH K (Errs K)) (tCons (tVar 0) (tCons (tC (.ref (He.ga K "NoBag"))) tNil))) (tCons (tCB (rIsH K (Errs K)) (tCons (tVar 0) (tCons (tC (.ref (He.ga K "NoBags"))) tNil))) (tCons (tCB (rIsH K (Errs K)) (tCons (tVar 0) (tCons (tC (.ref (He.ga K "NoName"))) tNil))) (tCons (tCB (rIsH K (Errs K)) (tCons (tVar 0) (tCons (tC (.ref (He.ga K "NoLock"))) tNil))) tNil)))))) (gName 1))
  (tSeq (tAsg (tOp (rAddU K) (tVar 1) (tLst (tCons (tCB (rIsH K (Errs K)) (tCons (tVar 0) (tCons (tC (.ref (He.ga K "NoLeaf"))) tNil))) (tCons (tCB (rIsH K (Errs K)) (tCons (tVar 0) (tCons (tC (.ref (He.ga K "NoNode"))) tNil))) (tCons (tCB (rIsH K (Errs K)) (tCons (tVar 0) (tCons (tC (.ref (He.ga K "Named"))) tNil))) (tCons (tCB (rIsH K (Errs K)) (tCons (tVar 0) (tCons (tC (.ref (He.ga K "TreeFull"))) tNil))) tNil)))))) (gName 1))
  (tSeq (tAsg (tOp (rAddU K) (tVar 1) (tLst (tCons (tCB (rIsH K (Errs K)) (tCons (tVar 0) (tCons (tC (.ref (He.ga K "NoLocks"))) tNil))) (tCons (tCB (rIsH K (Errs K)) (tCons (tVar 0) (tCons (tC (.ref (He.ga K "NoRoom"))) tNil))) (tCons (tCB (rIsH K (Errs K)) (tCons (tVar 0) (tCons (tC (.ref (He.ga K "NoWords"))) tNil))) (tCons (tCB (rIsH K (Errs K)) (tCons (tVar 0) (tCons (tC (.ref (He.ga K "NoLetter"))) tNil))) tNil)))))) (gName 1))
  (tSeq (tAsg (tOp (rAddU K) (tVar 1) (tLst (tCons (tCB (rIsH K (Errs K)) (tCons (tVar 0) (tCons (tC (.ref (He.ga K "Unknown"))) tNil))) (tCons (tCB (rIsH K (Errs K)) (tCons (tVar 0) (tCons (tC (.ref (He.ga K "NoLot"))) tNil))) (tCons (tCB (rIsH K (Errs K)) (tCons (tVar 0) (tCons (tC (.ref (He.ga K "NoFact"))) tNil))) (tCons (tCB (rIsH K (Errs K)) (tCons (tVar 0) (tCons (tC (.ref (He.ga K "NoTheft"))) tNil))) tNil)))))) (gName 1))
  (tSeq (tAsg (tOp (rAddU K) (tVar 1) (tLst (tCons (tCB (rIsH K (Errs K)) (tCons (tVar 0) (tCons (tC (.ref (He.ga K "NoEpoch"))) tNil))) (tCons (tCB (rIsH K (Errs K)) (tCons (tVar 0) (tCons (tC (.ref (He.ga K "BadTerm"))) tNil))) (tCons (tCB (rIsH K (Errs K)) (tCons (tVar 0) (tCons (tC (.ref (He.ga K "TooLong"))) tNil))) (tCons (tCB (rIsH K (Errs K)) (tCons (tVar 0) (tCons (tC (.ref (He.ga K "BadTree"))) tNil))) tNil)))))) (gName 1))
  (tSeq (tAsg (tOp (rAddU K) (tVar 1) (tLst (tCons (tCB (rIsH K (Errs K)) (tCons (tVar 0) (tCons (tC (.ref (He.ga K "BadWorld"))) tNil))) (tCons (tCB (rIsH K (Errs K)) (tCons (tVar 0) (tCons (tC (.ref (He.ga K "BadWish"))) tNil))) (tCons (tCB (rIsH K (Errs K)) (tCons (tVar 0) (tCons (tC (.ref (He.ga K "BadRule"))) tNil))) (tCons (tCB (rIsH K (Errs K)) (tCons (tVar 0) (tCons (tC (.ref (He.ga K "TooMany"))) tNil))) tNil)))))) (gName 1))
  (tSeq (tAsg (tOp (rAddU K) (tVar 1) (tLst (tCons (tCB (rIsH K (Errs K)) (tCons (tVar 0) (tCons (tC (.ref (He.ga K "BadImage"))) tNil))) (tCons (tCB (rIsH K (Errs K)) (tCons (tVar 0) (tCons (tC (.ref (He.ga K "Unsound"))) tNil))) (tCons (tCB (rIsH K (Errs K)) (tCons (tVar 0) (tCons (tC (.ref (He.ga K "BadLine"))) tNil))) (tCons (tCB (rIsH K (Errs K)) (tCons (tVar 0) (tCons (tC (.ref (He.ga K "BadRows"))) tNil))) tNil)))))) (gName 1))
  (tRet (tVar 1))))))))))
def t_law_main (K : PySem.W.Frag) : TS :=
  (tSeq (tAsg (tCall (spBag K) [] L2.E0 (tCons (tVar 0) tNil)) (gName 1))
  (tSeq (tAsg (tCall (spSome K) [] L2.E0 (tCons (tVar 1) (tCons (tLst (tCons (tC (.int 0)) (tCons (tCall (spPick K) [] L2.E0 (tCons (tVar 1) (tCons (tOp rPowI (tC (.int 10)) (tC (.int 9))) tNil))) (tCons (tUn rNegI (tC (.int 1))) (tCons (tC .non) (tCons (tC (.bl true)) (tCons (tC (.str "part")) (tCons (tTup (tCons (tC (.str "ground")) (tCons (tC (.int 3)) tNil))) (tCons (tLst (tCons (tC (.int 1)) tNil)) (tCons tDNewK tNil)))))))))) tNil))) (gName 2))
  (tSeq (tAsg (tCall (spTold K) [] L2.E0 (tCons (tVar 2) tNil)) (gTup K 2 (gCons (gName 3) (gCons (gName 4) gNil))))
  (tSeq (tAsg (tOp (rAddU K) (tCall (spPlain K) [] L2.E0 tNil) (tVar 3)) (gName 5))
  (tSeq (tFor (iEnuU K (tCons (tVar 5) tNil)) (gTup K 2 (gCons (gName 6) (gCons (gName 7) gNil)))
  (tSeq (tIfS (tOr (tNot (tB (tCB (rIsH K (Errs K)) (tCons (tVar 7) (tCons (tC (.ref (He.ga K "PostError"))) tNil))))) (tNot (tB (tCB (rIsH K (Errs K)) (tCons (tVar 7) (tCons (tC (.ty "ValueError")) tNil))))))
  (tRet (tC (.bl false)))
  tNext)
  (tIfS (tTest (tOp (rNeD K) (tCall (spFlags K) [] L2.E0 (tCons (tVar 7) tNil)) (tLc (iRng1 (tCons (tCB (rLenU K) (tCons (tVar 5) tNil)) tNil)) (gName 9) tYes (tOp (rEqD K) (tVar 6) (tVar 9)) [9])))
  (tRet (tC (.bl false)))
  tNext)))
  (tSeq (tFor (iSeqU K (tVar 4)) (gName 8)
  (tIfS (tOr (tTest (tOp (rNeD K) (tCB (rIsi K) (tCons (tVar 8) (tCons (tC (.ty "bool")) tNil))) (tCB (rIsi K) (tCons (tVar 2) (tCons (tC (.ty "bool")) tNil))))) (tTest (tOp (rNeU K) (tVar 8) (tVar 2))))
  (tRet (tC (.bl false)))
  tNext))
  (tRet (tOp (rEqD K) (tCB (rLenU K) (tCons (tVar 5) tNil)) (tC (.int 32))))))))))
end LawK00
end
section
namespace LawK00
open PySem PySem.Spec PyProof.Rows L2 C8 PW
/-! the bodies: what is known of a heap on the way -/
structure At (K : PySem.W.Frag) (H0 H : Hp) (lo : Nat) (es : List Addr) (ks : List (Addr × HO)) : Prop where
  ext : PW.Ext H0 H
  errs : Errs0 K H lo es
  kn : ∀ q ∈ ks, H q.1 = some q.2
section
variable {K : PySem.W.Frag} {H0 H : Hp} {lo : Nat} {es : List Addr} {ks : List (Addr × HO)} {σ : L2.St} {Q : VK}
theorem At.step {H' : Hp} (s : At K H0 H lo es ks) (x : PW.Ext H H') : At K H0 H' lo es ks := ⟨s.ext.trans x, s.errs.ext x, fun q hq => x _ _ (s.kn q hq)⟩
theorem At.add {a : Addr} {o : HO} (s : At K H0 H lo es ks) (h : H a = some o) : At K H0 H lo es ((a, o) :: ks) := ⟨s.ext, s.errs, fun q hq => by
  rcases List.mem_cons.mp hq with e | hq
  · rw [e]; exact h
  · exact s.kn q hq⟩
theorem r_held0 {C : Addr} (s : At K H0 H lo es ks) (hC : C = He.ga K (errN (lo + es.length))) (q : ∀ a H', At K H0 H' lo (es ++ [a]) ks → Q (.ref a) H') : tHeld0 C σ H Q := fun a ha => by
  have x : PW.Ext H (upd H a (HeldE C none a)) := PW.Ext.new ha
  have s2 := s.step x
  refine q a _ ⟨s2.ext, s2.errs.snoc ⟨none, by rw [← hC]; exact upd_same, .inl rfl⟩, s2.kn⟩
theorem r_held1 {C : Addr} {f : Str} {v : V} (s : At K H0 H lo es ks) (hC : C = He.ga K (errN (lo + es.length))) (hv : σ[0]? = some (some v)) (q : ∀ e d H', At K H0 H' lo (es ++ [e]) ((e, HeldE C (some d) e) :: (d, .xd [(f, v)]) :: ks) → Q (.ref e) H') : tHeld1 C f (tCons (tVar 0) tNil) σ H Q := by
  refine ⟨v, hv, v, rfl, fun e d he hd hne => ?_⟩
  have x1 : PW.Ext H (upd H e (HeldE C (some d) e)) := PW.Ext.new he
  have hd2 : upd H e (HeldE C (some d) e) d = none := by rw [upd_ne hne]; exact hd
  have x2 : PW.Ext (upd H e (HeldE C (some d) e)) (upd (upd H e (HeldE C (some d) e)) d (.xd [(f, v)])) := PW.Ext.new hd2
  have s2 := s.step (x1.trans x2)
  have k1 : upd (upd H e (HeldE C (some d) e)) d (.xd [(f, v)]) e = some (HeldE C (some d) e) := x2 _ _ upd_same
  have k2 : upd (upd H e (HeldE C (some d) e)) d (.xd [(f, v)]) d = some (.xd [(f, v)]) := upd_same
  refine q e d _ (At.add (At.add ⟨s2.ext, s2.errs.snoc ⟨some d, by rw [← hC]; exact k1, .inr ⟨d, _, rfl, k2⟩⟩, s2.kn⟩ k2) k1)
theorem r_heldF {C a d : Addr} {f : Str} {v : V} {i : Nat} (s : At K H0 H lo es ks) (hi : σ[i]? = some (some (.ref a))) (h1 : (a, HeldE C (some d) a) ∈ ks) (h2 : (d, HO.xd [(f, v)]) ∈ ks) (q : Q v H) : tHeldF C f (tVar i) σ H Q :=
  ⟨.ref a, hi, a, d, _, v, rfl, s.kn _ h1, s.kn _ h2, by simp [List.lookup], q⟩
def LstK (Q : VK) (vs : List V) (H : Hp) : Prop := vs.length ≤ sizeLine ∧ ∀ p, H p = none → Q (.ref p) (upd H p (.lst vs))
def TupK (Q : VK) (vs : List V) (H : Hp) : Prop := vs.length ≤ sizeLine ∧ ∀ p, H p = none → Q (.ref p) (upd H p (.tup vs))
theorem r_lstA {vs : List V} (s : At K H0 H lo es ks) (hl : vs.length ≤ sizeLine) (q : ∀ p H', At K H0 H' lo es ((p, .lst vs) :: ks) → Q (.ref p) H') : LstK Q vs H :=
  ⟨hl, fun p hp => q p _ ((s.step (PW.Ext.new hp)).add upd_same)⟩
theorem r_tupA {vs : List V} (s : At K H0 H lo es ks) (hl : vs.length ≤ sizeLine) (q : ∀ p H', At K H0 H' lo es ((p, .tup vs) :: ks) → Q (.ref p) H') : TupK Q vs H :=
  ⟨hl, fun p hp => q p _ ((s.step (PW.Ext.new hp)).add upd_same)⟩
theorem r_catA {l b : Addr} {xs ys : List V} (s : At K H0 H lo es ks) (h1 : (l, HO.lst xs) ∈ ks) (h2 : (b, HO.lst ys) ∈ ks) (hl : xs.length + ys.length ≤ sizeLine) (q : ∀ p H', At K H0 H' lo es ((p, .lst (xs ++ ys)) :: ks) → Q (.ref p) H') : rAddU K (.ref l) (.ref b) H Q :=
  .inr ⟨l, b, xs, ys, rfl, rfl, s.kn _ h1, s.kn _ h2, hl, fun p hp => q p _ ((s.step (PW.Ext.new hp)).add upd_same)⟩
theorem r_lst {ta : TA} (h : ta σ H fun vs H1 => LstK Q vs H1) : tLst ta σ H Q := h
theorem r_tup {ta : TA} (h : ta σ H fun vs H1 => TupK Q vs H1) : tTup ta σ H Q := h
end
theorem szN {n : Nat} (h : n ≤ 100) : n ≤ sizeLine := by rw [sizeLine_eq]; omega
theorem ex_st {σ σ2 : L2.St} {P : L2.St → Prop} (e : σ = σ2) (g : P σ2) : ∃ σ2, σ = σ2 ∧ P σ2 := ⟨σ2, e, g⟩
local macro_rules | `(tactic| walk_at "mem") => `(tactic| repeat first | exact List.mem_cons_self | exact List.Mem.head _ | refine List.mem_cons_of_mem _ ?_)
local macro_rules | `(tactic| walk_at "raw") => `(tactic| first
  | with_reducible refine r_seq ?_ | with_reducible refine r_next ?_ | with_reducible refine r_ret ?_ | with_reducible refine r_asg ?_ | with_reducible refine r_if ?_
  | with_reducible refine r_lst ?_ | with_reducible refine r_tup ?_
  | with_reducible refine r_cons ?_ | with_reducible refine r_nil ?_
  | (with_reducible refine r_held0 (by assumption) (by with_unfolding_all exact rfl) ?_; intro a H s; simp only [List.nil_append, List.cons_append] at s)
  | (with_reducible refine r_held1 (by assumption) (by with_unfolding_all exact rfl) (by with_unfolding_all exact rfl) ?_; intro a d H s; simp only [List.nil_append, List.cons_append] at s)
  | with_reducible refine r_heldF (by assumption) (by with_unfolding_all exact rfl) (by walk_at "mem") (by walk_at "mem") ?_
  | (with_reducible refine r_lstA (by assumption) (szN (by with_unfolding_all exact Nat.le_of_ble_eq_true rfl)) ?_; intro p H s)
  | (with_reducible refine r_tupA (by assumption) (szN (by with_unfolding_all exact Nat.le_of_ble_eq_true rfl)) ?_; intro p H s)
  | with_reducible refine r_op ?_
  | with_reducible refine r_var (by with_unfolding_all exact rfl) ?_ | with_reducible refine r_c ?_
  | (with_reducible refine r_catA (by assumption) (by walk_at "mem") (by walk_at "mem") (szN (by with_unfolding_all exact Nat.le_of_ble_eq_true rfl)) ?_; intro p H s)
  | with_reducible refine ex_st (by first | (dsimp only [List.set]; done) | (dsimp only [List.set]; rfl)) ?_)
set_option maxHeartbeats 200000 in
theorem body_law_plain {K : PySem.W.Frag} {vs : List V} {H : Hp} {Q : VK} {E : XK} (h : spPlain K vs H Q E) : t_law_plain K { nx := fun _ H' => Q .non H', rt := Q } (L2.start ["one", "two"] vs) H := by
  obtain ⟨rfl, fin⟩ := h
  have s0 : At K H H 0 [] [] := ⟨Ext.refl H, (fun i e z => nomatch z), fun q hq => nomatch hq⟩
  unfold t_law_plain
  rw [show L2.start ["one", "two"] [] = [none, none] from rfl]
  repeat' walk_at "raw"
  rename_i p3 H3 s3
  refine fin p3 _ H3 s3.ext ?_ ?_ s3.errs
  · exact s3.kn (p3, _) (List.Mem.head _)
  · rfl
theorem r_par3 {i j l : Nat} {ta : TA} {D : Ends} {σ : L2.St} {H : Hp} (h : ta σ H fun vs H1 => ∃ u v w, vs = [u, v, w] ∧ ∃ σ2, ((σ.set i (some u)).set j (some v)).set l (some w) = σ2 ∧ D.nx σ2 H1) : tPar3 i j l ta D σ H := by
  have e : (fun (vs : List V) (H1 : Hp) => ∃ u v w, vs = [u, v, w] ∧ ∃ σ2, ((σ.set i (some u)).set j (some v)).set l (some w) = σ2 ∧ D.nx σ2 H1) = fun vs H1 => ∃ u v w, vs = [u, v, w] ∧ D.nx (((σ.set i (some u)).set j (some v)).set l (some w)) H1 := by
    funext vs H1
    simp only [exists_eq_left']
  show ta σ H fun vs H1 => ∃ u v w, vs = [u, v, w] ∧ D.nx (((σ.set i (some u)).set j (some v)).set l (some w)) H1
  rw [← e]
  exact h
theorem r_par {i j : Nat} {ta : TA} {D : Ends} {σ : L2.St} {H : Hp} (h : ta σ H fun vs H1 => ∃ u v, vs = [u, v] ∧ ∃ σ2, (σ.set i (some u)).set j (some v) = σ2 ∧ D.nx σ2 H1) : tPar i j ta D σ H := by
  have e : (fun (vs : List V) (H1 : Hp) => ∃ u v, vs = [u, v] ∧ ∃ σ2, (σ.set i (some u)).set j (some v) = σ2 ∧ D.nx σ2 H1) = fun vs H1 => ∃ u v, vs = [u, v] ∧ D.nx ((σ.set i (some u)).set j (some v)) H1 := by
    funext vs H1
    simp only [exists_eq_left']
  show ta σ H fun vs H1 => ∃ u v, vs = [u, v] ∧ D.nx ((σ.set i (some u)).set j (some v)) H1
  rw [← e]
  exact h
theorem ex3 {a b c : V} {P : V → V → V → Prop} (h : P a b c) : ∃ u v w, [a, b, c] = [u, v, w] ∧ P u v w := ⟨a, b, c, rfl, h⟩
theorem ex2 {a b : V} {P : V → V → Prop} (h : P a b) : ∃ u v, [a, b] = [u, v] ∧ P u v := ⟨a, b, rfl, h⟩
local macro_rules | `(tactic| walk_at "pars") => `(tactic| first
  | walk_at "raw" | with_reducible refine r_par3 ?_ | with_reducible refine r_par ?_ | with_reducible refine ex3 ?_ | with_reducible refine ex2 ?_)
set_option maxHeartbeats 1000000 in
theorem body_law_told {K : PySem.W.Frag} {mg : Str → Option Value} (_ : Gx K mg) {vs : List V} {H : Hp} {Q : VK} {E : XK} (h : spTold K vs H Q E) : t_law_told K { nx := fun _ H' => Q .non H', rt := Q } (L2.start ["thing", "one", "two", "three", "four", "five", "six", "seven", "eight", "nine", "ten", "last", "fields"] vs) H := by
  obtain ⟨v, rfl, fin⟩ := h
  have s0 : At K H H 21 [] [] := ⟨Ext.refl H, (fun i e z => nomatch z), fun q hq => nomatch hq⟩
  unfold t_law_told
  rw [show L2.start ["thing", "one", "two", "three", "four", "five", "six", "seven", "eight", "nine", "ten", "last", "fields"] [v] = [some v, none, none, none, none, none, none, none, none, none, none, none, none] from rfl]
  repeat' walk_at "pars"
  rename_i p9 H9 s9
  refine fin p9 _ _ _ H9 s9.ext (s9.kn (p9, _) (List.Mem.head _)) ?_ ?_ ?_ s9.errs
  · exact s9.kn (_, _) (by walk_at "mem")
  · exact s9.kn (_, _) (by walk_at "mem")
  · rfl
theorem r_isj {K : PySem.W.Frag} {mg : Str → Option Value} (G : Gx K mg) {H0 H : Hp} {es : List Addr} {ks : List (Addr × HO)} {σ : L2.St} {Q : VK} {e : Addr} {i : Nat} (j : Nat) {D : Addr} (s : At K H0 H 0 es ks) (hi : i < 32) (he : ErrAt K H0 e i) (hD : D = He.ga K (errN j)) (hj : j < 32) (h0 : σ[0]? = some (some (.ref e)))
    (q : Q (.bl (decide (i = j))) H) : tCB (rIsH K (Errs K)) (tCons (tVar 0) (tCons (tC (.ref D)) tNil)) σ H Q := by
  obtain ⟨d, h1, h2⟩ := he.ext s.ext
  subst hD
  exact ⟨.ref e, h0, e, He.ga K (errN i), d, .ref (He.ga K (errN j)), .ref (He.ga K (errN j)), decide (i = j), ⟨i, hi, rfl⟩, rfl, h1, h2, (fun u r => r), G.kit i j hi hj, q⟩
set_option maxHeartbeats 1000000 in
theorem body_law_flags {K : PySem.W.Frag} {mg : Str → Option Value} (G : Gx K mg) {vs : List V} {H : Hp} {Q : VK} {E : XK} (h : spFlags K vs H Q E) : t_law_flags K { nx := fun _ H' => Q .non H', rt := Q } (L2.start ["e", "found"] vs) H := by
  obtain ⟨e, i, rfl, hi, he, fin⟩ := h
  have s0 : At K H H 0 [] [] := ⟨Ext.refl H, (fun i e z => nomatch z), fun q hq => nomatch hq⟩
  unfold t_law_flags
  rw [show L2.start ["e", "found"] [.ref e] = [some (.ref e), none] from rfl]
  repeat' walk_at "raw"
  refine r_isj G 0 (by assumption) hi he rfl (by decide) rfl ?_
  repeat' walk_at "raw"
  refine r_isj G 1 (by assumption) hi he rfl (by decide) rfl ?_
  repeat' walk_at "raw"
  refine r_isj G 2 (by assumption) hi he rfl (by decide) rfl ?_
  repeat' walk_at "raw"
  refine r_isj G 3 (by assumption) hi he rfl (by decide) rfl ?_
  repeat' walk_at "raw"
  refine r_isj G 4 (by assumption) hi he rfl (by decide) rfl ?_
  repeat' walk_at "raw"
  refine r_isj G 5 (by assumption) hi he rfl (by decide) rfl ?_
  repeat' walk_at "raw"
  refine r_isj G 6 (by assumption) hi he rfl (by decide) rfl ?_
  repeat' walk_at "raw"
  refine r_isj G 7 (by assumption) hi he rfl (by decide) rfl ?_
  repeat' walk_at "raw"
  refine r_isj G 8 (by assumption) hi he rfl (by decide) rfl ?_
  repeat' walk_at "raw"
  refine r_isj G 9 (by assumption) hi he rfl (by decide) rfl ?_
  repeat' walk_at "raw"
  refine r_isj G 10 (by assumption) hi he rfl (by decide) rfl ?_
  repeat' walk_at "raw"
  refine r_isj G 11 (by assumption) hi he rfl (by decide) rfl ?_
  repeat' walk_at "raw"
  refine r_isj G 12 (by assumption) hi he rfl (by decide) rfl ?_
  repeat' walk_at "raw"
  refine r_isj G 13 (by assumption) hi he rfl (by decide) rfl ?_
  repeat' walk_at "raw"
  refine r_isj G 14 (by assumption) hi he rfl (by decide) rfl ?_
  repeat' walk_at "raw"
  refine r_isj G 15 (by assumption) hi he rfl (by decide) rfl ?_
  repeat' walk_at "raw"
  refine r_isj G 16 (by assumption) hi he rfl (by decide) rfl ?_
  repeat' walk_at "raw"
  refine r_isj G 17 (by assumption) hi he rfl (by decide) rfl ?_
  repeat' walk_at "raw"
  refine r_isj G 18 (by assumption) hi he rfl (by decide) rfl ?_
  repeat' walk_at "raw"
  refine r_isj G 19 (by assumption) hi he rfl (by decide) rfl ?_
  repeat' walk_at "raw"
  refine r_isj G 20 (by assumption) hi he rfl (by decide) rfl ?_
  repeat' walk_at "raw"
  refine r_isj G 21 (by assumption) hi he rfl (by decide) rfl ?_
  repeat' walk_at "raw"
  refine r_isj G 22 (by assumption) hi he rfl (by decide) rfl ?_
  repeat' walk_at "raw"
  refine r_isj G 23 (by assumption) hi he rfl (by decide) rfl ?_
  repeat' walk_at "raw"
  refine r_isj G 24 (by assumption) hi he rfl (by decide) rfl ?_
  repeat' walk_at "raw"
  refine r_isj G 25 (by assumption) hi he rfl (by decide) rfl ?_
  repeat' walk_at "raw"
  refine r_isj G 26 (by assumption) hi he rfl (by decide) rfl ?_
  repeat' walk_at "raw"
  refine r_isj G 27 (by assumption) hi he rfl (by decide) rfl ?_
  repeat' walk_at "raw"
  refine r_isj G 28 (by assumption) hi he rfl (by decide) rfl ?_
  repeat' walk_at "raw"
  refine r_isj G 29 (by assumption) hi he rfl (by decide) rfl ?_
  repeat' walk_at "raw"
  refine r_isj G 30 (by assumption) hi he rfl (by decide) rfl ?_
  repeat' walk_at "raw"
  refine r_isj G 31 (by assumption) hi he rfl (by decide) rfl ?_
  repeat' walk_at "raw"
  rename_i p9 H9 s9
  refine fin p9 H9 s9.ext ?_
  exact s9.kn (p9, _) (List.Mem.head _)

end LawK00
end
section
namespace LawK00
open PySem PySem.Spec PyProof.Rows L2 C8 PW
section
variable {K : PySem.W.Frag} {H : Hp} {σ : L2.St} {Q : VK} {u v : Int} {te : TE} {D : Ends}
theorem r_drop (h : te σ H fun _ H1 => D.nx σ H1) : tDrop te D σ H := h
theorem r_modG (h : 0 < v) (q : ∀ x, 0 ≤ x → x < v → Q (.int x) H) : rModI (.int u) (.int v) H Q := r_modI h (q _ (Int.emod_nonneg _ (by omega)) (Int.emod_lt_of_pos _ h))
end
local macro_rules | `(tactic| walk_at "pk") => `(tactic| first
  | with_reducible refine r_seq ?_ | with_reducible refine r_next ?_ | with_reducible refine r_ret ?_ | with_reducible refine r_asg ?_ | with_reducible refine r_if ?_ | with_reducible refine r_drop ?_
  | with_reducible refine r_sub ?_
  | with_reducible refine r_var (by with_unfolding_all exact rfl) ?_ | with_reducible refine r_c ?_ | with_reducible refine r_op ?_ | with_reducible refine r_cb ?_ | with_reducible refine r_cons ?_ | with_reducible refine r_nil ?_
  | with_reducible refine r_test ?_ | with_reducible refine r_b ?_ | with_reducible refine r_bl ?_
  | with_reducible refine r_addI ?_ | with_reducible refine r_subI ?_ | with_reducible refine r_ltI ?_ | with_reducible refine r_gtI ?_ | with_reducible refine r_geI ?_ | with_reducible refine r_eqI ?_ | with_reducible refine r_int ?_
  | with_reducible refine r_mulI (by with_unfolding_all exact .inl ⟨by decide, by decide⟩) ?_ | with_reducible refine r_mulI (by with_unfolding_all exact .inr ⟨by decide, by decide⟩) ?_ | with_reducible refine r_mulI (cmulL (by omega) (by omega)) ?_
  | with_reducible refine r_divI (by with_unfolding_all exact ⟨by decide, by decide⟩) ?_ | with_reducible refine r_divI (by exact ⟨by assumption, by assumption⟩) ?_
  | (with_reducible refine r_modG (by first | with_unfolding_all decide | assumption) ?_; intro x hx0 hx1)
  | with_reducible refine r_ix (by assumption) (by with_unfolding_all exact rfl) ?_
  | ((with_reducible show rLenU _ [.ref _] _ _); refine r_len (by assumption) ?_)
  | with_reducible refine ex_st (by first | (dsimp only [List.set]; done) | (dsimp only [List.set]; rfl)) ?_
  | (with_reducible refine and_brT ?_) | (with_reducible refine and_brF ?_) | (with_reducible refine and_br ?_ ?_)
  | (with_reducible refine br_t ?_; intro h) | (with_reducible refine br_f ?_; intro h))
theorem at0 {x : V} {xs : List V} : atI (x :: xs) 0 = some x := by simp [atI, ixN]
theorem ix0 {x : V} {xs : List V} : ixN (x :: xs).length 0 = some 0 := by simp [ixN]
theorem r_tail {K : PySem.W.Frag} {H H0 : Hp} {Q : VK} {p c : Addr} {m s n k : Int} {ws : List V} (m0 : 0 < m) (m1 : m < 1073741824) (hne : c ≠ p) (hp : H p = some (.lst [.ref c, .int s, .int n, .int k])) (hc : H c = some (.lst ws)) (hw : ∃ gs : List Int, ws = gs.map V.int)
    (st : ∀ b o, b ≠ p → b ≠ c → H0 b = some o → H b = some o) (fin : ∀ r H', 0 ≤ r → r < m → Bag H' p c → (∀ b o, b ≠ p → b ≠ c → H0 b = some o → H' b = some o) → Q (.int r) H') :
    (tSeq (tAsg (tOp (rAddU K) (tOp (rIx K) (tVar 0) (tC (.int 3))) (tC (.int 1))) (gSub (tVar 0) (tC (.int 3)) rSetL))
  (tSeq (tAsg (tOp rModI (tCB rIntU (tCons (tOp (rAddU K) (tOp (rMulU K) (tOp (rAddU K) (tOp (rIx K) (tVar 0) (tC (.int 1))) (tOp (rMulU K) (tC (.int 7919)) (tOp (rIx K) (tVar 0) (tC (.int 3))))) (tC (.int 48271))) (tC (.int 11))) tNil)) (tC (.int 2147483647))) (gName 2))
  (tSeq (tAsg (tOp rModI (tCB rIntU (tCons (tOp (rAddU K) (tOp (rMulU K) (tVar 2) (tOp (rAddU K) (tOp rDivI (tVar 2) (tC (.int 1009))) (tC (.int 69621)))) (tOp (rIx K) (tVar 0) (tC (.int 3)))) tNil)) (tC (.int 2147483399))) (gName 2))
  (tSeq (tAsg (tOp rModI (tCB rIntU (tCons (tOp (rAddU K) (tOp (rIx K) (tVar 0) (tC (.int 1))) (tVar 2)) tNil)) (tC (.int 2147483629))) (gSub (tVar 0) (tC (.int 1)) rSetL))
  (tRet (tOp rModI (tCB rIntU (tCons (tOp rDivI (tVar 2) (tC (.int 16))) tNil)) (tVar 1))))))) { nx := fun _ H' => Q .non H', rt := Q } [some (.ref p), some (.int m), none] H := by
  obtain ⟨gs, hw⟩ := hw
  subst hw
  repeat' walk_at "pk"
  refine r_set hp (k := 3) rfl fun H2 h2 st2 => ?_
  have hp2 : H2 p = some (.lst [.ref c, .int s, .int n, .int (k + 1)]) := h2
  have hc2 : H2 c = some (.lst (gs.map V.int)) := (st2 c hne).trans hc
  have st3 : ∀ b o, b ≠ p → b ≠ c → H0 b = some o → H2 b = some o := fun b o n1 n2 e => (st2 b n1).trans (st b o n1 n2 e)
  clear h2
  repeat' walk_at "pk"
  rename_i x hx0 hx1 y hy0 hy1 z hz0 hz1
  refine r_set hp2 (k := 1) rfl fun H4 h4 st4 => ?_
  have hp4 : H4 p = some (.lst [.ref c, .int z, .int n, .int (k + 1)]) := h4
  have hc4 : H4 c = some (.lst (gs.map V.int)) := (st4 c hne).trans hc2
  have st5 : ∀ b o, b ≠ p → b ≠ c → H0 b = some o → H4 b = some o := fun b o n1 n2 e => (st4 b n1).trans (st3 b o n1 n2 e)
  clear h4
  repeat' walk_at "pk"
  rename_i r hr0 hr1
  exact fin r H4 hr0 hr1 ⟨hne, gs, z, n, k + 1, hp4, hc4⟩ st5
local macro_rules | `(tactic| walk_at "pt") => `(tactic| first
  | with_reducible refine r_tail (by assumption) (by assumption) (by assumption) (by assumption) (by assumption) ?_ (fun _ _ _ _ e => e) (by assumption)
  | walk_at "pk")
theorem body_law_pick {K : PySem.W.Frag} {vs : List V} {H : Hp} {Q : VK} {E : XK} (h : spPick K vs H Q E) : t_law_pick K { nx := fun _ H' => Q .non H', rt := Q } (L2.start ["bag", "many", "number"] vs) H := by
  obtain ⟨p, c, m, rfl, m0, m1, ⟨hne, gs, s, n, k, hp, hc⟩, fin⟩ := h
  unfold t_law_pick
  rw [show L2.start ["bag", "many", "number"] [.ref p, .int m] = [some (.ref p), some (.int m), none] from rfl]
  cases gs with
  | nil =>
    have hc : H c = some (.lst []) := hc
    repeat' walk_at "pt"
    · exact fin 0 H (Int.le_refl 0) m0 ⟨hne, [], s, n, k, hp, hc⟩ fun b o _ _ e => e
    · rename_i h
      exact absurd h (by decide)
    · exact ⟨[], rfl⟩
  | cons g gs =>
    have hc : H c = some (.lst (.int g :: gs.map V.int)) := hc
    repeat' walk_at "pt"
    · exact fin 0 H (Int.le_refl 0) m0 ⟨hne, g :: gs, s, n, k, hp, hc⟩ fun b o _ _ e => e
    · refine r_ix hc at0 ?_
      repeat' walk_at "pk"
      refine r_set hc ix0 fun H2 h2 st2 => ?_
      have hp2 : H2 p = some (.lst [.ref c, .int s, .int n, .int k]) := (st2 p (Ne.symm hne)).trans hp
      have hc2 : H2 c = some (.lst (.int (g / m) :: gs.map V.int)) := h2
      have st3 : ∀ b o, b ≠ p → b ≠ c → H b = some o → H2 b = some o := fun b o n1 n2 e => (st2 b n2).trans e
      clear h2
      repeat' walk_at "pk"
      · show (tOp (rIx K) (tVar 0) (tC (.int 0))) [some (.ref p), some (.int m), some (.int g)] H2 _
        repeat' walk_at "pk"
        refine ⟨.inl ⟨rfl, _, SqL.of hc2⟩, ?_⟩
        repeat' walk_at "pk"
        refine ⟨c, _, 0, 0, .int (g / m), rfl, rfl, hc2, by decide, by decide, ?_, rfl, ?_⟩
        · simp [seqIndex?]
        have hp3 : upd H2 c (.lst (gs.map V.int)) p = some (.lst [.ref c, .int s, .int n, .int k]) := by rw [upd_ne (Ne.symm hne)]; exact hp2
        rw [List.eraseIdx_cons_zero]
        repeat' walk_at "pk"
        rename_i r hr0 hr1
        exact fin r _ hr0 hr1 ⟨hne, gs, s, n, k, hp3, upd_same⟩ fun b o n1 n2 e => by rw [upd_ne n2]; exact st3 b o n1 n2 e
      · rename_i r hr0 hr1
        exact fin r _ hr0 hr1 ⟨hne, g / m :: gs, s, n, k, hp2, hc2⟩ st3
    · rename_i h
      exfalso
      have h := of_decide_eq_false h
      simp only [List.length_cons] at h
      omega
    all_goals trace_state

end LawK00
end
section
namespace LawK00
open PySem PySem.Spec PyProof.Rows L2 C8 PW
theorem r_call {sp : Sp} {E : XK} {ta : TA} {σ : L2.St} {H : Hp} {Q : VK} (h : ta σ H fun vs H1 => sp (vs ++ []) H1 Q E) : tCall sp [] E ta σ H Q := h
theorem body_law_some {K : PySem.W.Frag} {vs : List V} {H : Hp} {Q : VK} {E : XK} (h : spSome K vs H Q E) : t_law_some K { nx := fun _ H' => Q .non H', rt := Q } (L2.start ["bag", "things"] vs) H := by
  obtain ⟨p, c, t, xs, rfl, hB, n1, n2, ht, hx, hl, fin⟩ := h
  unfold t_law_some
  rw [show L2.start ["bag", "things"] [.ref p, .ref t] = [some (.ref p), some (.ref t)] from rfl]
  refine r_ret (r_op (r_var rfl (r_call (r_cons (r_var rfl (r_cons (r_cb (r_cons (r_var rfl (r_nil (r_len ht (r_nil ?_))))))))))))
  have hpos : 0 < xs.length := List.length_pos_iff.mpr hx
  refine ⟨p, c, xs.length, rfl, by omega, by omega, hB, fun r H' r0 r1 hB' st => ?_⟩
  have ht' : H' t = some (.lst xs) := st t _ n1 n2 ht
  have hr : r.toNat < xs.length := by omega
  refine r_ix ht' (w := xs[r.toNat]) ?_ (fin _ H' (List.getElem_mem hr) hB' st)
  unfold atI ixN
  rw [if_pos r0, if_pos r1]
  simp [hr]
theorem sql_ext {K : PySem.W.Frag} {H H' : Hp} {a : Addr} {xs : List V} (h : SqL K H a xs) (e : PW.Ext H H') : SqL K H' a xs := by
  rcases h with (h | ⟨o, h⟩) | h
  · exact .inl (.inl (e _ _ h))
  · exact .inl (.inr ⟨o, e _ _ h⟩)
  · exact .inr h
theorem cut_ints {ns : List Int} {lo hi : Option Int} : ∃ ms : List Int, cutV (ns.map V.int) lo hi = ms.map V.int ∧ ms.length ≤ ns.length := by
  refine ⟨(ns.drop (HT.sIx ns.length 0 lo)).take (HT.sIx ns.length ns.length hi - HT.sIx ns.length 0 lo), ?_, ?_⟩
  · unfold cutV
    rw [List.length_map, List.map_take, List.map_drop]
  · rw [List.length_take, List.length_drop]
    omega
/-- script[:63] walked -/
theorem r_script {K : PySem.W.Frag} {H : Hp} {σ : L2.St} {a : Addr} {ns : List Int} {R : It → Hp → Prop} (h0 : σ[0]? = some (some (.ref a))) (hs : SqL K H a (ns.map V.int)) (q : ∀ (p : Addr) (ms : List Int) (H' : Hp), PW.Ext H H' → H' p = some (.lst (ms.map V.int)) → ms.length ≤ ns.length → R (Itl K p) H') :
    iSeqU K (tSl (rSlU K) (tVar 0) tNoPart (tPart (tC (.int 63)))) σ H R := by
  obtain ⟨ms, e, hl⟩ := cut_ints (ns := ns) (lo := none) (hi := some 63)
  refine ⟨.ref a, h0, 63, rfl, .inl (.inl ⟨a, ns.map V.int, rfl, hs, fun p hp => ?_⟩)⟩
  refine .inl ⟨p, rfl, .inl ⟨⟨_, SqL.of upd_same⟩, ?_⟩⟩
  refine q p ms _ (PW.Ext.new hp) ?_ hl
  rw [upd_same, e]
theorem r_absI {H : Hp} {Q : VK} {i : Int} (q : ∀ j, Q (.int j) H) : rAbsU [.int i] H Q := ⟨i, rfl, q _⟩
theorem r_intB {H : Hp} {Q : VK} {b : Bool} (q : ∀ j, Q (.int j) H) : rIntU [.bl b] H Q := .inr ⟨b, rfl, q _⟩
local macro_rules | `(tactic| walk_at "bg") => `(tactic| first
  | with_reducible refine r_seq ?_ | with_reducible refine r_next ?_ | with_reducible refine r_ret ?_ | with_reducible refine r_asg ?_
  | with_reducible refine r_var (by with_unfolding_all exact rfl) ?_ | with_reducible refine r_c ?_ | with_reducible refine r_op ?_ | with_reducible refine r_cb ?_ | with_reducible refine r_cons ?_ | with_reducible refine r_nil ?_
  | with_reducible refine r_test ?_ | with_reducible refine r_b ?_ | with_reducible refine r_bl ?_
  | with_reducible refine r_addI ?_ | with_reducible refine r_ltI ?_ | with_reducible refine r_geI ?_ | with_reducible refine r_int ?_
  | (with_reducible refine r_absI ?_; intro j) | (with_reducible refine r_intB ?_; intro j)
  | with_reducible refine r_mulI (by with_unfolding_all exact .inl ⟨by decide, by decide⟩) ?_ | with_reducible refine r_mulI (by with_unfolding_all exact .inr ⟨by decide, by decide⟩) ?_
  | with_reducible refine r_powI (by with_unfolding_all exact ⟨by decide, by decide, by decide⟩) ?_
  | (with_reducible refine r_modI (by with_unfolding_all decide) ?_)
  | with_reducible refine ex_st (by first | (dsimp only [List.set]; done) | (dsimp only [List.set]; rfl)) ?_)
theorem body_law_bag {K : PySem.W.Frag} {vs : List V} {H : Hp} {Q : VK} {E : XK} (h : spBag K vs H Q E) : t_law_bag K { nx := fun _ H' => Q .non H', rt := Q } (L2.start ["script", "great", "seed", "cell"] vs) H := by
  obtain ⟨a, ns, rfl, hs, hl, fin⟩ := h
  unfold t_law_bag
  rw [show L2.start ["script", "great", "seed", "cell"] [.ref a] = [some (.ref a), none, none, none] from rfl]
  refine r_seq (r_asg ?_)
  refine r_script rfl hs fun p ms H1 x1 hp hm => ?_
  intro D hD
  have pD : p ≠ D := fun z => by rw [z, hD] at hp; cases hp
  have x2 : PW.Ext H1 (upd H1 D (.lst [])) := PW.Ext.new hD
  refine lc_list (xs := ms.map V.int) (fun i H' => (∀ b o, b ≠ D → H1 b = some o → H' b = some o) ∧ ∃ acc : List Int, H' D = some (.lst (acc.map V.int)) ∧ acc.length ≤ i) ⟨fun b o _ e => x2 b o e, [], upd_same, Nat.le_refl 0⟩ (fun i H' _ ⟨st, _⟩ => SqL.of (st p _ pD hp)) (fun i x H' hx ⟨st, acc, hacc, hla⟩ => ?_) (fun H' ⟨st, acc, hacc, hla⟩ => ?_)
  · rw [List.getElem?_map] at hx
    obtain ⟨z, hz, ez⟩ := Option.map_eq_some_iff.mp hx
    subst ez
    have hi : i < ms.length := (List.getElem?_eq_some_iff.mp hz).1
    refine ⟨rfl, ?_⟩
    show (tTest _) [some (.ref a), none, none, some (.int z)] H' _
    repeat' walk_at "bg"
    have hi2 : i ≤ sizeLine := by rw [sizeLine_eq]; omega
    split
    · repeat' walk_at "bg"
      rename_i j
      refine ⟨acc.map V.int, hacc, by rw [List.length_map, sizeLine_eq]; omega, fun b o hb e => by rw [upd_ne hb]; exact st b o hb e, acc ++ [j], by rw [upd_same, List.map_append]; rfl, by rw [List.length_append]; show acc.length + 1 ≤ i + 1; omega⟩
    · exact ⟨st, acc, hacc, by omega⟩
  · refine ex_st (σ2 := [some (.ref a), some (.ref D), none, none]) rfl ?_
    have x3 : PW.Ext H H' := fun b o e => st b o (fun z => by have := x1 b o e; rw [z, hD] at this; cases this) (x1 b o e)
    repeat' walk_at "bg"
    refine r_script (σ := [some (.ref a), some (.ref D), some (.int 300), none]) rfl (sql_ext hs x3) fun p2 ms2 H2 x4 hp2 hm2 => ?_
    refine for_list (xs := ms2.map V.int) (fun i σ H' => PW.Ext H2 H' ∧ ∃ (s : Int) (y : Option V), σ = [some (.ref a), some (.ref D), some (.int s), y]) ⟨Ext.refl _, 300, none, rfl⟩ (fun i σ H' _ ⟨e, _⟩ => SqL.of (e _ _ hp2)) (fun i x σ H' hx ⟨e, s, y, es⟩ => ?_) (fun σ H' ⟨e, s, y, es⟩ => ?_)
    · subst es
      rw [List.getElem?_map] at hx
      obtain ⟨z, hz, ez⟩ := Option.map_eq_some_iff.mp hx
      subst ez
      show (tAsg _ _) _ [some (.ref a), some (.ref D), some (.int s), some (.int z)] H'
      repeat' walk_at "bg"
      exact ⟨e, _, _, rfl⟩
    · subst es
      have x5 : PW.Ext H H' := x3.trans (x4.trans e)
      dsimp only
      refine r_ret ?_
      refine ⟨.ref D, rfl, .int s, rfl, .ref a, rfl, ?_⟩
      refine ⟨.ref a, (ns.map V.int).length, rfl, .inl ⟨_, sql_ext hs x5, rfl⟩, ?_⟩
      show 4 ≤ sizeLine ∧ _
      refine ⟨by decide, fun q hq => ?_⟩
      have x6 : PW.Ext H' (upd H' q (.lst [.ref D, .int s, .int (ns.map V.int).length, .int 0])) := PW.Ext.new hq
      have hD5 : H' D = some (.lst (acc.map V.int)) := e _ _ (x4 _ _ hacc)
      have hDq : D ≠ q := fun z => by
        rw [z, hq] at hD5
        cases hD5
      exact fin q D _ (x5.trans x6) ⟨hDq, acc, s, _, 0, upd_same, x6 _ _ hD5⟩

end LawK00
end
section
namespace LawK00
open PySem PySem.Spec PyProof.Rows L2 C8 PW
abbrev M0 : Addr → Prop := fun _ => False
theorem Bag.ext {H H' : Hp} {p c : Addr} (b : Bag H p c) (x : PW.Ext H H') : Bag H' p c := by
  obtain ⟨n, gs, s, m, k, h1, h2⟩ := b
  exact ⟨n, gs, s, m, k, x _ _ h1, x _ _ h2⟩
def IsTh (d : D) : Prop := (∃ i, d = .int i) ∨ d = .non ∨ d = .bl true ∨ d = .str "part" ∨ d = .tup [.str "ground", .int 3] ∨ d = .lst [.int 1] ∨ d = .emp
section
variable {K : PySem.W.Frag} {H : Hp} {v : V} {d : D} {Q : VK}
theorem da_ext {H' : Hp} (h : Da M0 K H v d) (x : PW.Ext H H') : Da M0 K H' v d := h.mono fun b o _ e => ⟨(fun z => z), x _ _ e⟩
theorem th_isi (h : Da M0 K H v d) (t : IsTh d) (q : Q (.bl d.isBool) H) : rIsi K [v, .ty "bool"] H Q := by
  have hb : d.isBuiltin = true := by
    rcases t with ⟨i, e⟩ | e | e | e | e | e | e <;> (rw [e]; rfl)
  exact ⟨v, .ty "bool", .type d.tyn, .type "bool", d.isBool, rfl, .ty "bool", ty_of (M := M0) hb (.inl h), kit_ty (isi_bool d hb), q⟩
theorem ne_self (h : Da M0 K H v d) (hs : d.sh = true) (q : Q (.bl false) H) : rNeD K v v H Q := by
  have hd := h.dp (D.sh_pln hs)
  refine ⟨d.py, d.py, hd, hd, D.sh_shaped hs, D.sh_shaped hs, ?_⟩
  rw [SeqAt.eqv_refl _ (Bool.and_eq_true_iff.mp (D.sh_shaped hs)).1]
  exact q
theorem ne_two {w : V} (h : Da M0 K H v d) (h2 : Da M0 K H w d) (hs : d.sh = true) (q : Q (.bl false) H) : rNeD K v w H Q := by
  refine ⟨d.py, d.py, h.dp (D.sh_pln hs), h2.dp (D.sh_pln hs), D.sh_shaped hs, D.sh_shaped hs, ?_⟩
  rw [SeqAt.eqv_refl _ (Bool.and_eq_true_iff.mp (D.sh_shaped hs)).1]
  exact q
theorem th_ne (h : Da M0 K H v d) (t : IsTh d) (q : Q (.bl false) H) : rNeU K v v H Q := by
  rcases t with ⟨i, e⟩ | e | e | e | e | e | e
  · exact .inl (ne_self h (by rw [e]; rfl) q)
  · exact .inl (ne_self h (by rw [e]; rfl) q)
  · exact .inl (ne_self h (by rw [e]; rfl) q)
  · exact .inl (ne_self h (by rw [e]; decide +kernel) q)
  · exact .inl (ne_self h (by rw [e]; decide +kernel) q)
  · exact .inl (ne_self h (by rw [e]; decide +kernel) q)
  · subst e
    obtain ⟨a, ea, _, ha⟩ := h
    exact .inr ⟨a, a, [], [], ea, ea, ha, ha, rfl, (fun p hp => nomatch hp), q⟩
theorem bools_pln : ∀ bs : List Bool, D.plnL (bs.map D.bl) = true ∧ PyData.canLayAll0 (D.pyL (bs.map D.bl)) = true ∧ PyData.depthAll (D.pyL (bs.map D.bl)) ≤ 1
  | [] => ⟨rfl, by simp only [List.map_nil, D.pyL, PyData.canLayAll0], by simp only [List.map_nil, D.pyL, PyData.depthAll]; omega⟩
  | b :: bs => by
    obtain ⟨h1, h2, h3⟩ := bools_pln bs
    refine ⟨?_, ?_, ?_⟩
    · show (true && D.plnL (bs.map D.bl)) = true
      rw [h1]; rfl
    · show PyData.canLayAll0 (.bool b :: D.pyL (bs.map D.bl)) = true
      simp only [PyData.canLayAll0, h2, PyData.canLay0, Bool.and_self]
    · show PyData.depthAll (.bool b :: D.pyL (bs.map D.bl)) ≤ 1
      simp only [PyData.depthAll, PyData.depth]
      omega
theorem bools_sh (bs : List Bool) : (D.lst (bs.map D.bl)).sh = true := by
  obtain ⟨h1, h2, h3⟩ := bools_pln bs
  refine Bool.and_eq_true_iff.mpr ⟨h1, ?_⟩
  show (PyData.canLay0 (.list (D.pyL (bs.map D.bl))) && decide (PyData.depth (.list (D.pyL (bs.map D.bl))) ≤ 64)) = true
  refine Bool.and_eq_true_iff.mpr ⟨by simpa only [PyData.canLay0] using h2, decide_eq_true ?_⟩
  simp only [PyData.depth]
  omega
theorem bools_da : ∀ bs : List Bool, DaAll M0 K H (bs.map V.bl) (bs.map D.bl)
  | [] => rfl
  | b :: bs => ⟨.bl b, bs.map V.bl, rfl, rfl, bools_da bs⟩
theorem lst_da {a : Addr} {bs : List Bool} (h : H a = some (.lst (bs.map V.bl))) : Da M0 K H (.ref a) (.lst (bs.map D.bl)) := ⟨a, _, rfl, ⟨(fun z => z), h⟩, bools_da bs⟩
end
section
variable {K : PySem.W.Frag} {H : Hp} {σ : L2.St} {Q : VK} {te : TE} {D : Ends} {g : TG}
theorem r_asgG (h : te σ H fun v H1 => g v σ H1 fun σ2 H2 => D.nx σ2 H2) : tAsg te g D σ H := h
theorem r_neg {i : Int} (q : Q (.int (-i)) H) : tUn rNegI (tC (.int i)) σ H Q := ⟨i, rfl, q⟩
theorem r_not {Q : Bool → Hp → Prop} {t : TT} (h : t σ H fun b H1 => Q (!b) H1) : tNot t σ H Q := h
theorem r_or {Q : Bool → Hp → Prop} {t u : TT} (h : t σ H fun c H1 => (c = true → Q true H1) ∧ (c = false → u σ H1 Q)) : tOr t u σ H Q := by
  have e : (fun (c : Bool) (H1 : Hp) => (c = true → Q true H1) ∧ (c = false → u σ H1 Q)) = fun c H1 => if c = true then Q true H1 else u σ H1 Q := by
    funext c H1
    cases c <;> simp
  show t σ H fun c H1 => if c = true then Q true H1 else u σ H1 Q
  rw [← e]
  exact h
theorem r_isP {mg : Str → Option Value} (G : Gx K mg) {e : Addr} {i n : Nat} {c : V} {cv : Value} (hi : i < 32) (he : ErrAt K H e i) (hc : ∀ u, RelV c u → u = cv) (hk : PySem.W.kitOne K (.ref (He.ga K (errN i))) cv = some true) (h0 : σ[n]? = some (some (.ref e))) (q : Q (.bl true) H) :
    tCB (rIsH K (Errs K)) (tCons (tVar n) (tCons (tC c) tNil)) σ H Q := by
  obtain ⟨d, h1, h2⟩ := he
  exact ⟨.ref e, h0, e, He.ga K (errN i), d, c, cv, true, ⟨i, hi, rfl⟩, rfl, h1, h2, hc, hk, q⟩
end

end LawK00
end
section
namespace LawK00
open PySem PySem.Spec PyProof.Rows L2 C8 PW
local macro_rules | `(tactic| walk_at "lw") => `(tactic| first
  | with_reducible refine r_seq ?_ | with_reducible refine r_ret ?_ | with_reducible refine r_asg ?_ | with_reducible refine r_call ?_ | with_reducible refine r_neg ?_
  | with_reducible refine r_var (by with_unfolding_all exact rfl) ?_ | with_reducible refine r_c ?_ | with_reducible refine r_op ?_ | with_reducible refine r_cb ?_ | with_reducible refine r_cons ?_ | with_reducible refine r_nil ?_
  | with_reducible refine r_lst ?_ | with_reducible refine r_tup ?_
  | with_reducible refine r_powI (by with_unfolding_all exact ⟨by decide, by decide, by decide⟩) ?_
  | with_reducible refine ex_st (by first | (dsimp only [List.set]; done) | (dsimp only [List.set]; rfl)) ?_)
/-- the flags of e are those due -/
theorem r_flags {K : PySem.W.Frag} {mg : Str → Option Value} (G : Gx K mg) {H : Hp} {Q : Bool → Hp → Prop} {e er : Addr} {i : Nat} {ws : List V} (hi : i < 32) (he : ErrAt K H e i) (hw : H er = some (.lst ws)) (hl : ws.length = 32)
    {a0 a1 a2 a3 a4 a8 a9 : Option V} (q : ∀ H', PW.Ext H H' → Q false H') :
    (tTest (tOp (rNeD K) (tCall (spFlags K) [] L2.E0 (tCons (tVar 7) tNil)) (tLc (iRng1 (tCons (tCB (rLenU K) (tCons (tVar 5) tNil)) tNil)) (gName 9) tYes (tOp (rEqD K) (tVar 6) (tVar 9)) [9]))) [a0, a1, a2, a3, a4, some (.ref er), some (.int i), some (.ref e), a8, a9] H Q := by
  refine r_test (r_op (r_call (r_cons (r_var rfl (r_nil ?_)))))
  refine ⟨e, i, rfl, hi, he, fun q1 H2 x2 hq1 => ?_⟩
  have hw2 := x2 _ _ hw
  refine ⟨.ref er, rfl, .ref er, 32, rfl, .inl ⟨ws, SqL.of hw2, by rw [hl]⟩, ?_⟩
  refine ⟨32, rfl, by decide, by decide, ?_⟩
  intro D hD
  have x3 : PW.Ext H2 (upd H2 D (.lst [])) := PW.Ext.new hD
  refine lc_range (lo := 0) (n := 32) (fun j H' => (∀ b o, b ≠ D → H2 b = some o → H' b = some o) ∧ H' D = some (.lst ((List.range j).map fun k => V.bl (decide (i = k))))) ⟨fun b o _ e => x3 b o e, upd_same⟩ (fun j H' hj ⟨st, hd⟩ => ?_) (fun H' ⟨st, hd⟩ => ?_)
  · refine ⟨rfl, ?_⟩
    show (tOp (rEqD K) (tVar 6) (tVar 9)) [a0, a1, a2, a3, a4, some (.ref er), some (.int i), some (.ref e), a8, some (.int (0 + j))] H' _
    refine r_op (r_var rfl (r_var rfl (r_eqI ?_)))
    refine ⟨_, hd, by rw [List.length_map, List.length_range, sizeLine_eq]; omega, fun b o n z => by rw [upd_ne n]; exact st b o n z, ?_⟩
    rw [upd_same, List.range_succ, List.map_append]
    have e1 : decide ((i : Int) = 0 + (j : Int)) = decide (i = j) := by
      by_cases z : i = j
      · rw [decide_eq_true z, decide_eq_true (by omega)]
      · rw [decide_eq_false z, decide_eq_false (by omega)]
    rw [e1]
    rfl
  · have hn : q1 ≠ D := fun z => by
      rw [z, hD] at hq1
      cases hq1
    have e2 : H' q1 = some (.lst (((List.range 32).map fun k => decide (i = k)).map V.bl)) := by
      rw [List.map_map]
      exact st q1 _ hn hq1
    have e3 : H' D = some (.lst (((List.range 32).map fun k => decide (i = k)).map V.bl)) := by
      rw [List.map_map]
      exact hd
    have x4 : PW.Ext H H' := fun b o z => by
      have z2 := x2 b o z
      exact st b o (fun y => by rw [y, hD] at z2; cases z2) z2
    exact ne_two (lst_da e2) (lst_da e3) (bools_sh _) ⟨false, rfl, q H' x4⟩
theorem body_law {K : PySem.W.Frag} {mg : Str → Option Value} (G : Gx K mg) {vs : List V} {H : Hp} {Q : VK} {E : XK} (h : spLaw K vs H Q E) : t_law_main K { nx := fun _ H' => Q .non H', rt := Q } (L2.start ["script", "bag", "thing", "told", "fields", "errors", "at", "e", "field", "other"] vs) H := by
  obtain ⟨a, ns, rfl, hs, hl, fin⟩ := h
  unfold t_law_main
  rw [show L2.start ["script", "bag", "thing", "told", "fields", "errors", "at", "e", "field", "other"] [.ref a] = [some (.ref a), none, none, none, none, none, none, none, none, none] from rfl]
  repeat' walk_at "lw"
  refine ⟨a, ns, rfl, hs, hl, fun p c H1 x1 hB1 => ?_⟩
  refine ex_st (σ2 := [some (.ref a), some (.ref p), none, none, none, none, none, none, none, none]) rfl ?_
  dsimp only
  -- the thing
  repeat' walk_at "lw"
  refine ⟨p, c, 1000000000, rfl, by decide, by decide, hB1, fun r H2 _ _ hB2 st2 => ?_⟩
  repeat' walk_at "lw"
  refine ⟨by show 2 ≤ sizeLine; decide, fun t1 ht1 => ?_⟩
  have x3 : PW.Ext H2 (upd H2 t1 (.tup [.str "ground", .int 3])) := PW.Ext.new ht1
  have k3 : upd H2 t1 (.tup [.str "ground", .int 3]) t1 = some (.tup [.str "ground", .int 3]) := upd_same
  generalize upd H2 t1 (.tup [.str "ground", .int 3]) = H3 at x3 k3 ⊢
  repeat' walk_at "lw"
  refine ⟨by show 1 ≤ sizeLine; decide, fun l1 hl1 => ?_⟩
  have x4 : PW.Ext H3 (upd H3 l1 (.lst [.int 1])) := PW.Ext.new hl1
  have k4 : upd H3 l1 (.lst [.int 1]) l1 = some (.lst [.int 1]) := upd_same
  generalize upd H3 l1 (.lst [.int 1]) = H4 at x4 k4 ⊢
  repeat' walk_at "lw"
  intro d1 hd1
  have x5 : PW.Ext H4 (upd H4 d1 (.dK [])) := PW.Ext.new hd1
  have k5 : upd H4 d1 (.dK []) d1 = some (.dK []) := upd_same
  generalize upd H4 d1 (.dK []) = H5 at x5 k5 ⊢
  repeat' walk_at "lw"
  refine ⟨by show 9 ≤ sizeLine; decide, fun t ht => ?_⟩
  repeat' walk_at "lw"
  have hB5 := hB2.ext (x3.trans (x4.trans x5))
  have x6 : PW.Ext H5 (upd H5 t (.lst [.int 0, .int r, .int (-1), .non, .bl true, .str "part", .ref t1, .ref l1, .ref d1])) := PW.Ext.new ht
  have k6 : upd H5 t (.lst [.int 0, .int r, .int (-1), .non, .bl true, .str "part", .ref t1, .ref l1, .ref d1]) t = _ := upd_same
  have hB6 := hB5.ext x6
  generalize upd H5 t (.lst [.int 0, .int r, .int (-1), .non, .bl true, .str "part", .ref t1, .ref l1, .ref d1]) = H6 at x6 k6 hB6 ⊢
  have t3 := x6 _ _ (x5 _ _ (x4 _ _ k3))
  have t4 := x6 _ _ (x5 _ _ k4)
  have t5 := x6 _ _ k5
  have off : ∀ {b : Addr} {o : HO}, H2 b = none ∨ H3 b = none ∨ H4 b = none ∨ H5 b = none → b ≠ p ∧ b ≠ c := fun {b o} z => by
    obtain ⟨n, gs, s, m, k, h1, h2⟩ := hB2
    have g1 := x3 _ _ h1
    have g2 := x4 _ _ g1
    have g3 := x5 _ _ g2
    have f1 := x3 _ _ h2
    have f2 := x4 _ _ f1
    have f3 := x5 _ _ f2
    refine ⟨fun y => ?_, fun y => ?_⟩ <;> subst y <;> rcases z with z | z | z | z <;> simp_all
  have o1 := off (o := .set (fun _ => true) 0) (.inl ht1)
  have o2 := off (o := .set (fun _ => true) 0) (.inr (.inl hl1))
  have o3 := off (o := .set (fun _ => true) 0) (.inr (.inr (.inl hd1)))
  have o4 := off (o := .set (fun _ => true) 0) (.inr (.inr (.inr ht)))
  refine ⟨p, c, t, _, rfl, hB6, o4.1, o4.2, k6, (by simp), (by show 9 < 1073741824; decide), fun v H7 hv hB7 st7 => ?_⟩
  have u3 := st7 _ _ o1.1 o1.2 t3
  have u4 := st7 _ _ o2.1 o2.2 t4
  have u5 := st7 _ _ o3.1 o3.2 t5
  have hth : ∃ d, Da M0 K H7 v d ∧ IsTh d := by
    simp only [List.mem_cons, List.not_mem_nil, or_false] at hv
    rcases hv with e | e | e | e | e | e | e | e | e <;> rw [e]
    · exact ⟨.int 0, rfl, .inl ⟨_, rfl⟩⟩
    · exact ⟨.int r, rfl, .inl ⟨_, rfl⟩⟩
    · exact ⟨.int (-1), rfl, .inl ⟨_, rfl⟩⟩
    · exact ⟨.non, rfl, .inr (.inl rfl)⟩
    · exact ⟨.bl true, rfl, .inr (.inr (.inl rfl))⟩
    · exact ⟨.str "part", rfl, .inr (.inr (.inr (.inl rfl)))⟩
    · exact ⟨.tup [.str "ground", .int 3], ⟨t1, _, rfl, .inl ⟨(fun z => z), .inl u3⟩, .str "ground", _, rfl, rfl, .int 3, _, rfl, rfl, rfl⟩, .inr (.inr (.inr (.inr (.inl rfl))))⟩
    · exact ⟨.lst [.int 1], ⟨l1, _, rfl, ⟨(fun z => z), u4⟩, .int 1, _, rfl, rfl, rfl⟩, .inr (.inr (.inr (.inr (.inr (.inl rfl)))))⟩
    · exact ⟨.emp, ⟨d1, rfl, (fun z => z), u5⟩, .inr (.inr (.inr (.inr (.inr (.inr rfl)))))⟩
  obtain ⟨d, hd, td⟩ := hth
  clear hv u3 u4 u5 t3 t4 t5 o1 o2 o3 o4 off k6 k5 k4 k3
  refine ex_st (σ2 := [some (.ref a), some (.ref p), some v, none, none, none, none, none, none, none]) rfl ?_
  dsimp only
  -- told, fields
  refine r_seq (r_asgG (r_call (r_cons (r_var rfl (r_nil ?_)))))
  refine ⟨v, rfl, fun tt l1 l2 es H8 x8 ht1 ht2 ht3 hes herr => ?_⟩
  refine ⟨tt, _, rfl, .inl (.inl ht1), rfl, .ref l1, _, rfl, .ref l2, _, rfl, rfl, ?_⟩
  dsimp only [List.set]
  -- errors
  repeat' walk_at "lw"
  refine ⟨rfl, fun p2 es1 H9 x9 hp2 hl2 herr2 => ?_⟩
  repeat' walk_at "lw"
  refine (.inr ⟨p2, l1, es1.map V.ref, es.map V.ref, rfl, rfl, hp2, x9 _ _ ht2, by rw [List.length_map, List.length_map, hes, hl2, sizeLine_eq]; omega, fun er her => ?_⟩)
  rw [← List.map_append]
  have x10 : PW.Ext H9 (upd H9 er (.lst ((es1 ++ es).map V.ref))) := PW.Ext.new her
  have k10 : upd H9 er (.lst ((es1 ++ es).map V.ref)) er = some (.lst ((es1 ++ es).map V.ref)) := upd_same
  generalize upd H9 er (.lst ((es1 ++ es).map V.ref)) = H10 at x10 k10 ⊢
  have hlen : (es1 ++ es).length = 32 := by rw [List.length_append, hes, hl2]
  have herrs : Errs0 K H10 0 (es1 ++ es) := fun i e z => by
    rw [Nat.zero_add]
    by_cases hi : i < es1.length
    · rw [List.getElem?_append_left hi] at z
      have := (herr2 i e z).ext x10
      rw [Nat.zero_add] at this
      exact this
    · rw [List.getElem?_append_right (by omega)] at z
      have := ((herr _ e z).ext x9).ext x10
      rw [show 21 + (i - es1.length) = i by omega] at this
      exact this
  refine ex_st (σ2 := [some (.ref a), some (.ref p), some v, some (.ref l1), some (.ref l2), some (.ref er), none, none, none, none]) rfl ?_
  dsimp only
  -- each error
  refine r_seq ?_
  refine ⟨.ref er, rfl, er, rfl, .inl ⟨⟨_, SqL.of k10⟩, ?_⟩⟩
  refine for_it (walk_enum (xs := (es1 ++ es).map V.ref)) (fun i σ H' => PW.Ext H10 H' ∧ ∃ y6 y7, σ = [some (.ref a), some (.ref p), some v, some (.ref l1), some (.ref l2), some (.ref er), y6, y7, none, none]) ⟨Ext.refl _, none, none, rfl⟩ (fun i σ H' _ ⟨e, _⟩ => SqL.of (e _ _ k10)) (fun i x σ H' H'' hi ⟨e, y6, y7, es⟩ hY => ?_) (fun σ H' ⟨e, y6, y7, es⟩ => ?_)
  · subst es
    obtain ⟨T, z1, z2, ex, hT, eH, e1, e2⟩ := hY
    subst ex eH
    cases e1
    have e2 := (show ((es1 ++ es).map V.ref)[i]? = some z2 from e2)
    rw [List.getElem?_map] at e2
    obtain ⟨ei, hei, eei⟩ := Option.map_eq_some_iff.mp e2
    subst eei
    rw [List.length_map, hlen] at hi
    refine ⟨T, _, rfl, .inl (.inl upd_same), rfl, .int i, _, rfl, .ref ei, _, rfl, rfl, ?_⟩
    have x12 : PW.Ext H10 (upd H' T (.tup [.int i, .ref ei])) := e.trans (PW.Ext.new hT)
    generalize upd H' T (.tup [.int i, .ref ei]) = H12 at x12 ⊢
    dsimp only [List.set]
    have hE : ErrAt K H12 ei i := by
      have := (herrs i ei hei).ext x12
      rw [Nat.zero_add] at this
      exact this
    refine r_seq (r_if (r_or (r_not (r_b (r_isP G hi hE (fun u r => r) (G.kitP i hi) rfl ?_)))))
    refine ⟨true, rfl, (fun z => nomatch z), fun _ => ?_⟩
    refine r_not (r_b (r_isP G hi hE (fun u r => r) (G.kitV i hi) rfl ?_))
    refine ⟨true, rfl, (fun z => nomatch z), fun _ => ?_⟩
    refine r_next ?_
    dsimp only
    refine r_if (r_flags G hi hE (x12 _ _ k10) (by rw [List.length_map, hlen]) fun H13 x13 => ⟨(fun z => nomatch z), fun _ => ?_⟩)
    refine r_next ?_
    exact ⟨x12.trans x13, _, _, rfl⟩
  · subst es
    dsimp only
    have m2 := e _ _ (x10 _ _ (x9 _ _ ht3))
    have dv := da_ext hd (x8.trans (x9.trans (x10.trans e)))
    refine r_seq ?_
    refine ⟨.ref l2, rfl, .inl ⟨l2, rfl, .inl ⟨⟨_, SqL.of m2⟩, ?_⟩⟩⟩
    refine for_list (xs := List.replicate 11 v) (fun i σ H'' => PW.Ext H' H'' ∧ ∃ y8, σ = [some (.ref a), some (.ref p), some v, some (.ref l1), some (.ref l2), some (.ref er), y6, y7, y8, none]) ⟨Ext.refl _, none, rfl⟩ (fun i σ H'' _ ⟨e2, _⟩ => SqL.of (e2 _ _ m2)) (fun i x σ H'' hx ⟨e2, y8, es2⟩ => ?_) (fun σ H'' ⟨e2, y8, es2⟩ => ?_)
    · subst es2
      have ex : x = v := (List.mem_replicate.mp (List.mem_of_getElem? hx)).2
      subst ex
      have d2 := da_ext dv e2
      show (tIfS _ _ _) _ [some (.ref a), some (.ref p), some x, some (.ref l1), some (.ref l2), some (.ref er), y6, y7, some x, none] H''
      refine r_if (r_or ?_)
      repeat' walk_at "lw"
      refine r_test ?_
      repeat' walk_at "lw"
      refine th_isi d2 td ?_
      repeat' walk_at "lw"
      refine th_isi d2 td ?_
      refine ne_two (d := .bl d.isBool) rfl rfl rfl ⟨false, rfl, (fun z => nomatch z), fun _ => ?_⟩
      refine r_test ?_
      repeat' walk_at "lw"
      refine th_ne d2 td ⟨false, rfl, (fun z => nomatch z), fun _ => ?_⟩
      refine r_next ?_
      exact ⟨e2, _, rfl⟩
    · subst es2
      dsimp only
      repeat' walk_at "lw"
      refine r_len (e2 _ _ (e _ _ k10)) ?_
      repeat' walk_at "lw"
      refine r_eqI ?_
      rw [List.length_map, hlen]
      exact fin H''

theorem pe_c0 {X : Cx} {k j : Nat} {x : Str} {sp : Sp} {dvs : List V} {p pos : Pos} (c : Cal X.prog X.w X.K X.mg X.base k x sp dvs) (hr : Room j X.A) (hk : k ≤ j) (hg : Gl X x) (hdb : (x == ("__debug__" : Str)) = false := by decide) : PE X (.Call (.Name x p) [] [] pos) (tCall sp dvs L2.E0 tNil) := by
  obtain ⟨f, fd, ps, ds, F, hm, kp, b, d⟩ := c.ex
  exact pe_call0 F (hr.mono hk) hg hm kp b d C8.pass0 hdb

end LawK00
end
section
namespace LawK00
open PySem PySem.Spec PyProof.Rows L2 C8 PW
theorem c_law_bag {w : World} {K : PySem.W.Frag} {mg : Str → Option Value} {base : Heap} (G : Gx K mg) : Cal hP w K mg base 1 "_law_bag" (spBag K) [] := by
  obtain ⟨f, fd, F, hm⟩ := G.f_law_bag
  refine ⟨f, fd, ["script"], [], F.ok sc_law_bag (fun vs H Q E h => len_law_bag h) (fun cdv A outer s H vs Q E hr h => ⟨t_law_bag K, PSs.nox ?_, body_law_bag h⟩), hm, F.kp, F.bindsN (fun _ _ _ _ _ _ us hl => match us, hl with | [_], _ => rfl), .nil⟩
  exact (pss_cons (ps_setLc (i := 1) (own := [("cell", 3)]) rfl sc_law_bag.nd rfl rfl (sw_true rfl rfl rfl (by decide +kernel)) (pi_seqU (pe_slice sl_U (pv 0) po_none (po_some pe_int))) (blkOk_by (N := ["script", "great", "seed", "cell"]) (sc := defScope s_law_bag) (by decide +kernel)) (fun _ _ _ _ _ => (pg_name (i := 3) sc_law_bag.nd rfl (by first | exact Or.inl rfl | exact Or.inr rfl))) (fun _ _ _ _ _ => (pts_one (pt_cmpR op_geU (pe_callB call_absU rfl G.b_abs (by decide +kernel) (pa_cons (pe_callTy call_intU rfl G.b_int (by decide +kernel) (pa_cons (pv 3) pa_nil)) pa_nil)) (pe_op op_powU pe_int pe_int) (nomark _)))) (fun _ _ _ _ _ => (pe_callB call_absU rfl G.b_abs (by decide +kernel) (pa_cons (pe_callTy call_intU rfl G.b_int (by decide +kernel) (pa_cons (pv 3) pa_nil)) pa_nil))))
  (pss_cons (ps_set (i := 2) sc_law_bag.nd rfl (by first | exact Or.inl rfl | exact Or.inr rfl) pe_int)
  (pss_cons (ps_for PassesOwn.never rfl (pi_seqU (pe_slice sl_U (pv 0) po_none (po_some pe_int))) (pg_name (i := 3) sc_law_bag.nd rfl (by first | exact Or.inl rfl | exact Or.inr rfl))
  (pss_one (ps_set (i := 2) sc_law_bag.nd rfl (by first | exact Or.inl rfl | exact Or.inr rfl) (pe_op op_modU (pe_callTy call_intU rfl G.b_int (by decide +kernel) (pa_cons (pe_op op_addU (pe_op op_addU (pe_op op_addU (pe_op op_mulU (pv 2) pe_int) (pe_op op_mulU (pe_callB call_absU rfl G.b_abs (by decide +kernel) (pa_cons (pe_callTy call_intU rfl G.b_int (by decide +kernel) (pa_cons (pv 3) pa_nil)) pa_nil)) pe_int)) (pe_callTy call_intU rfl G.b_int (by decide +kernel) (pa_cons (pe_cmpR op_ltU (pe_callTy call_intU rfl G.b_int (by decide +kernel) (pa_cons (pv 3) pa_nil)) pe_int (nomark _)) pa_nil))) pe_int) pa_nil)) pe_int))))
  (pss_one (ps_ret (pe_lst (pa_cons (pv 1) (pa_cons (pv 2) (pa_cons (pe_callB call_lenU rfl G.b_len (by decide +kernel) (pa_cons (pv 0) pa_nil)) (pa_cons pe_int pa_nil))))))))))
theorem c_law_pick {w : World} {K : PySem.W.Frag} {mg : Str → Option Value} {base : Heap} (G : Gx K mg) : Cal hP w K mg base 1 "_law_pick" (spPick K) [] := by
  obtain ⟨f, fd, F, hm⟩ := G.f_law_pick
  refine ⟨f, fd, ["bag", "many"], [], F.ok sc_law_pick (fun vs H Q E h => len_law_pick h) (fun cdv A outer s H vs Q E hr h => ⟨t_law_pick K, PSs.nox ?_, body_law_pick h⟩), hm, F.kp, F.bindsN (fun _ _ _ _ _ _ us hl => match us, hl with | [_, _], _ => rfl), .nil⟩
  exact (pss_cons (ps_if (pt_cmpR (op_eqD (hu64 hr)) (pe_ix ix_seq (pv 0) pe_int (fun _ _ => rfl)) pe_int (nomark _))
  (pss_one (ps_ret pe_int))
  pss_nil)
  (pss_cons (ps_if (pt_cmpR op_gtU (pe_callB call_lenU rfl G.b_len (by decide +kernel) (pa_cons (pe_ix ix_seq (pv 0) pe_int (fun _ _ => rfl)) pa_nil)) pe_int (nomark _))
  (pss_cons (ps_set (i := 2) sc_law_pick.nd rfl (by first | exact Or.inl rfl | exact Or.inr rfl) (pe_ix ix_seq (pe_ix ix_seq (pv 0) pe_int (fun _ _ => rfl)) pe_int (fun _ _ => rfl)))
  (pss_cons (ps_asg (pe_op op_divU (pv 2) (pv 1)) (pg_sub (pe_ix ix_seq (pv 0) pe_int (fun _ _ => rfl)) pe_int set_list))
  (pss_cons (ps_if (pt_cmpR op_ltU (pv 2) (pv 1) (nomark _))
  (pss_one (ps_expr (pe_bm PySem.F.plainAttrs_list PySem.F.slot_list_pop PySem.F.type_list_pop mt_popAt (pe_ix ix_seq (pv 0) pe_int (fun _ _ => rfl)) (pa_cons pe_int pa_nil))))
  pss_nil)
  (pss_one (ps_ret (pe_op op_modU (pe_callTy call_intU rfl G.b_int (by decide +kernel) (pa_cons (pv 2) pa_nil)) (pv 1)))))))
  pss_nil)
  (pss_cons (ps_asg (pe_op op_addU (pe_ix ix_seq (pv 0) pe_int (fun _ _ => rfl)) pe_int) (pg_sub (pv 0) pe_int set_list))
  (pss_cons (ps_set (i := 2) sc_law_pick.nd rfl (by first | exact Or.inl rfl | exact Or.inr rfl) (pe_op op_modU (pe_callTy call_intU rfl G.b_int (by decide +kernel) (pa_cons (pe_op op_addU (pe_op op_mulU (pe_op op_addU (pe_ix ix_seq (pv 0) pe_int (fun _ _ => rfl)) (pe_op op_mulU pe_int (pe_ix ix_seq (pv 0) pe_int (fun _ _ => rfl)))) pe_int) pe_int) pa_nil)) pe_int))
  (pss_cons (ps_set (i := 2) sc_law_pick.nd rfl (by first | exact Or.inl rfl | exact Or.inr rfl) (pe_op op_modU (pe_callTy call_intU rfl G.b_int (by decide +kernel) (pa_cons (pe_op op_addU (pe_op op_mulU (pv 2) (pe_op op_addU (pe_op op_divU (pv 2) pe_int) pe_int)) (pe_ix ix_seq (pv 0) pe_int (fun _ _ => rfl))) pa_nil)) pe_int))
  (pss_cons (ps_asg (pe_op op_modU (pe_callTy call_intU rfl G.b_int (by decide +kernel) (pa_cons (pe_op op_addU (pe_ix ix_seq (pv 0) pe_int (fun _ _ => rfl)) (pv 2)) pa_nil)) pe_int) (pg_sub (pv 0) pe_int set_list))
  (pss_one (ps_ret (pe_op op_modU (pe_callTy call_intU rfl G.b_int (by decide +kernel) (pa_cons (pe_op op_divU (pv 2) pe_int) pa_nil)) (pv 1))))))))))
theorem c_law_some {w : World} {K : PySem.W.Frag} {mg : Str → Option Value} {base : Heap} (G : Gx K mg) : Cal hP w K mg base 2 "_law_some" (spSome K) [] := by
  obtain ⟨f, fd, F, hm⟩ := G.f_law_some
  refine ⟨f, fd, ["bag", "things"], [], F.ok sc_law_some (fun vs H Q E h => len_law_some h) (fun cdv A outer s H vs Q E hr h => ⟨t_law_some K, PSs.nox ?_, body_law_some h⟩), hm, F.kp, F.bindsN (fun _ _ _ _ _ _ us hl => match us, hl with | [_, _], _ => rfl), .nil⟩
  exact (pss_one (ps_ret (pe_ix ix_seq (pv 1) (pe_c (c_law_pick G) hr (by decide) rfl (pa_cons (pv 0) (pa_cons (pe_callB call_lenU rfl G.b_len (by decide +kernel) (pa_cons (pv 1) pa_nil)) pa_nil))) (fun _ _ => rfl))))
theorem c_law_plain {w : World} {K : PySem.W.Frag} {mg : Str → Option Value} {base : Heap} (G : Gx K mg) : Cal hP w K mg base 1 "_law_plain" (spPlain K) [] := by
  obtain ⟨f, fd, F, hm⟩ := G.f_law_plain
  refine ⟨f, fd, [], [], F.ok sc_law_plain (fun vs H Q E h => len_law_plain h) (fun cdv A outer s H vs Q E hr h => ⟨t_law_plain K, PSs.nox ?_, body_law_plain h⟩), hm, F.kp, F.bindsN (fun _ _ _ _ _ _ us hl => match us, hl with | [], _ => rfl), .nil⟩
  exact (pss_cons (ps_set (i := 0) sc_law_plain.nd rfl (by first | exact Or.inl rfl | exact Or.inr rfl) (pe_lst (pa_cons (pe_held0 PySem.F.excBase_ValueError G.e_NoKind.1 G.c_NoKind G.e_NoKind.2 rfl) (pa_cons (pe_held0 PySem.F.excBase_ValueError G.e_NoParts.1 G.c_NoParts G.e_NoParts.2 rfl) (pa_cons (pe_held0 PySem.F.excBase_ValueError G.e_NoTerm.1 G.c_NoTerm G.e_NoTerm.2 rfl) (pa_cons (pe_held0 PySem.F.excBase_ValueError G.e_NoTerms.1 G.c_NoTerms G.e_NoTerms.2 rfl) (pa_cons (pe_held0 PySem.F.excBase_ValueError G.e_NoBag.1 G.c_NoBag G.e_NoBag.2 rfl) (pa_cons (pe_held0 PySem.F.excBase_ValueError G.e_NoBags.1 G.c_NoBags G.e_NoBags.2 rfl) (pa_cons (pe_held0 PySem.F.excBase_ValueError G.e_NoName.1 G.c_NoName G.e_NoName.2 rfl) (pa_cons (pe_held0 PySem.F.excBase_ValueError G.e_NoLock.1 G.c_NoLock G.e_NoLock.2 rfl) (pa_cons (pe_held0 PySem.F.excBase_ValueError G.e_NoLeaf.1 G.c_NoLeaf G.e_NoLeaf.2 rfl) (pa_cons (pe_held0 PySem.F.excBase_ValueError G.e_NoNode.1 G.c_NoNode G.e_NoNode.2 rfl) pa_nil))))))))))))
  (pss_cons (ps_set (i := 1) sc_law_plain.nd rfl (by first | exact Or.inl rfl | exact Or.inr rfl) (pe_lst (pa_cons (pe_held0 PySem.F.excBase_ValueError G.e_Named.1 G.c_Named G.e_Named.2 rfl) (pa_cons (pe_held0 PySem.F.excBase_ValueError G.e_TreeFull.1 G.c_TreeFull G.e_TreeFull.2 rfl) (pa_cons (pe_held0 PySem.F.excBase_ValueError G.e_NoLocks.1 G.c_NoLocks G.e_NoLocks.2 rfl) (pa_cons (pe_held0 PySem.F.excBase_ValueError G.e_NoRoom.1 G.c_NoRoom G.e_NoRoom.2 rfl) (pa_cons (pe_held0 PySem.F.excBase_ValueError G.e_NoWords.1 G.c_NoWords G.e_NoWords.2 rfl) (pa_cons (pe_held0 PySem.F.excBase_ValueError G.e_NoLetter.1 G.c_NoLetter G.e_NoLetter.2 rfl) (pa_cons (pe_held0 PySem.F.excBase_ValueError G.e_Unknown.1 G.c_Unknown G.e_Unknown.2 rfl) (pa_cons (pe_held0 PySem.F.excBase_ValueError G.e_NoLot.1 G.c_NoLot G.e_NoLot.2 rfl) (pa_cons (pe_held0 PySem.F.excBase_ValueError G.e_NoFact.1 G.c_NoFact G.e_NoFact.2 rfl) (pa_cons (pe_held0 PySem.F.excBase_ValueError G.e_NoTheft.1 G.c_NoTheft G.e_NoTheft.2 rfl) pa_nil))))))))))))
  (pss_one (ps_ret (pe_op op_addU (pe_op op_addU (pv 0) (pv 1)) (pe_lst (pa_cons (pe_held0 PySem.F.excBase_ValueError G.e_NoEpoch.1 G.c_NoEpoch G.e_NoEpoch.2 rfl) pa_nil)))))))
theorem c_law_told {w : World} {K : PySem.W.Frag} {mg : Str → Option Value} {base : Heap} (G : Gx K mg) : Cal hP w K mg base 1 "_law_told" (spTold K) [] := by
  obtain ⟨f, fd, F, hm⟩ := G.f_law_told
  refine ⟨f, fd, ["thing"], [], F.ok sc_law_told (fun vs H Q E h => len_law_told h) (fun cdv A outer s H vs Q E hr h => ⟨t_law_told K, PSs.nox ?_, body_law_told G h⟩), hm, F.kp, F.bindsN (fun _ _ _ _ _ _ us hl => match us, hl with | [_], _ => rfl), .nil⟩
  exact (pss_cons (ps_par3 rfl sc_law_told.nd (i := 1) (j := 2) (l := 3) rfl rfl rfl (by decide) (by decide) (by decide) rfl rfl rfl (pa_cons (pe_held1 G.s_BadTerm G.c_BadTerm hr rfl (pa_cons (pv 0) pa_nil)) (pa_cons (pe_held1 G.s_TooLong G.c_TooLong hr rfl (pa_cons (pv 0) pa_nil)) (pa_cons (pe_held1 G.s_BadTree G.c_BadTree hr rfl (pa_cons (pv 0) pa_nil)) pa_nil))) (by with_unfolding_all rfl))
  (pss_cons (ps_par3 rfl sc_law_told.nd (i := 4) (j := 5) (l := 6) rfl rfl rfl (by decide) (by decide) (by decide) rfl rfl rfl (pa_cons (pe_held1 G.s_BadWorld G.c_BadWorld hr rfl (pa_cons (pv 0) pa_nil)) (pa_cons (pe_held1 G.s_BadWish G.c_BadWish hr rfl (pa_cons (pv 0) pa_nil)) (pa_cons (pe_held1 G.s_BadRule G.c_BadRule hr rfl (pa_cons (pv 0) pa_nil)) pa_nil))) (by with_unfolding_all rfl))
  (pss_cons (ps_par3 rfl sc_law_told.nd (i := 7) (j := 8) (l := 9) rfl rfl rfl (by decide) (by decide) (by decide) rfl rfl rfl (pa_cons (pe_held1 G.s_TooMany G.c_TooMany hr rfl (pa_cons (pv 0) pa_nil)) (pa_cons (pe_held1 G.s_BadImage G.c_BadImage hr rfl (pa_cons (pv 0) pa_nil)) (pa_cons (pe_held1 G.s_Unsound G.c_Unsound hr rfl (pa_cons (pv 0) pa_nil)) pa_nil))) (by with_unfolding_all rfl))
  (pss_cons (ps_par rfl sc_law_told.nd (i := 10) (j := 11) rfl rfl (by decide) rfl rfl (pa_cons (pe_held1 G.s_BadLine G.c_BadLine hr rfl (pa_cons (pv 0) pa_nil)) (pa_cons (pe_held1 G.s_BadRows G.c_BadRows hr rfl (pa_cons (pv 0) pa_nil)) pa_nil)) (by with_unfolding_all rfl))
  (pss_cons (ps_set (i := 12) sc_law_told.nd rfl (by first | exact Or.inl rfl | exact Or.inr rfl) (pe_lst (pa_cons (pe_heldF ⟨G.s_BadTerm.ga, G.s_BadTerm.gg, G.s_BadTerm.exC, G.s_BadTerm.hdC⟩ G.s_BadTerm.noN (pv 1)) (pa_cons (pe_heldF ⟨G.s_TooLong.ga, G.s_TooLong.gg, G.s_TooLong.exC, G.s_TooLong.hdC⟩ G.s_TooLong.noN (pv 2)) (pa_cons (pe_heldF ⟨G.s_BadTree.ga, G.s_BadTree.gg, G.s_BadTree.exC, G.s_BadTree.hdC⟩ G.s_BadTree.noN (pv 3)) (pa_cons (pe_heldF ⟨G.s_BadWorld.ga, G.s_BadWorld.gg, G.s_BadWorld.exC, G.s_BadWorld.hdC⟩ G.s_BadWorld.noN (pv 4)) (pa_cons (pe_heldF ⟨G.s_BadWish.ga, G.s_BadWish.gg, G.s_BadWish.exC, G.s_BadWish.hdC⟩ G.s_BadWish.noN (pv 5)) (pa_cons (pe_heldF ⟨G.s_BadRule.ga, G.s_BadRule.gg, G.s_BadRule.exC, G.s_BadRule.hdC⟩ G.s_BadRule.noN (pv 6)) (pa_cons (pe_heldF ⟨G.s_TooMany.ga, G.s_TooMany.gg, G.s_TooMany.exC, G.s_TooMany.hdC⟩ G.s_TooMany.noN (pv 7)) (pa_cons (pe_heldF ⟨G.s_BadImage.ga, G.s_BadImage.gg, G.s_BadImage.exC, G.s_BadImage.hdC⟩ G.s_BadImage.noN (pv 8)) (pa_cons (pe_heldF ⟨G.s_Unsound.ga, G.s_Unsound.gg, G.s_Unsound.exC, G.s_Unsound.hdC⟩ G.s_Unsound.noN (pv 9)) pa_nil)))))))))))
  (pss_one (ps_ret (pe_tup (pa_cons (pe_lst (pa_cons (pv 1) (pa_cons (pv 2) (pa_cons (pv 3) (pa_cons (pv 4) (pa_cons (pv 5) (pa_cons (pv 6) (pa_cons (pv 7) (pa_cons (pv 8) (pa_cons (pv 9) (pa_cons (pv 10) (pa_cons (pv 11) pa_nil)))))))))))) (pa_cons (pe_op op_addU (pv 12) (pe_lst (pa_cons (pe_heldF ⟨G.s_BadLine.ga, G.s_BadLine.gg, G.s_BadLine.exC, G.s_BadLine.hdC⟩ G.s_BadLine.noN (pv 10)) (pa_cons (pe_heldF ⟨G.s_BadRows.ga, G.s_BadRows.gg, G.s_BadRows.exC, G.s_BadRows.hdC⟩ G.s_BadRows.noN (pv 11)) pa_nil)))) pa_nil))))))))))
theorem c_law_flags {w : World} {K : PySem.W.Frag} {mg : Str → Option Value} {base : Heap} (G : Gx K mg) : Cal hP w K mg base 1 "_law_flags" (spFlags K) [] := by
  obtain ⟨f, fd, F, hm⟩ := G.f_law_flags
  refine ⟨f, fd, ["e"], [], F.ok sc_law_flags (fun vs H Q E h => len_law_flags h) (fun cdv A outer s H vs Q E hr h => ⟨t_law_flags K, PSs.nox ?_, body_law_flags G h⟩), hm, F.kp, F.bindsN (fun _ _ _ _ _ _ us hl => match us, hl with | [_], _ => rfl), .nil⟩
  exact (pss_cons (ps_set (i := 1) sc_law_flags.nd rfl (by first | exact Or.inl rfl | exact Or.inr rfl) (pe_lst (pa_cons (pe_callB (call_isH G.errs) rfl G.b_isinstance (by decide +kernel) (pa_cons (pv 0) (pa_cons (pe_gc rfl ⟨_, G.c_NoKind, rfl⟩) pa_nil))) (pa_cons (pe_callB (call_isH G.errs) rfl G.b_isinstance (by decide +kernel) (pa_cons (pv 0) (pa_cons (pe_gc rfl ⟨_, G.c_NoParts, rfl⟩) pa_nil))) (pa_cons (pe_callB (call_isH G.errs) rfl G.b_isinstance (by decide +kernel) (pa_cons (pv 0) (pa_cons (pe_gc rfl ⟨_, G.c_NoTerm, rfl⟩) pa_nil))) (pa_cons (pe_callB (call_isH G.errs) rfl G.b_isinstance (by decide +kernel) (pa_cons (pv 0) (pa_cons (pe_gc rfl ⟨_, G.c_NoTerms, rfl⟩) pa_nil))) pa_nil))))))
  (pss_cons (ps_set (i := 1) sc_law_flags.nd rfl (by first | exact Or.inl rfl | exact Or.inr rfl) (pe_op op_addU (pv 1) (pe_lst (pa_cons (pe_callB (call_isH G.errs) rfl G.b_isinstance (by decide +kernel) (pa_cons (pv 0) (pa_cons (pe_gc rfl ⟨_, G.c_NoBag, rfl⟩) pa_nil))) (pa_cons (pe_callB (call_isH G.errs) rfl G.b_isinstance (by decide +kernel) (pa_cons (pv 0) (pa_cons (pe_gc rfl ⟨_, G.c_NoBags, rfl⟩) pa_nil))) (pa_cons (pe_callB (call_isH G.errs) rfl G.b_isinstance (by decide +kernel) (pa_cons (pv 0) (pa_cons (pe_gc rfl ⟨_, G.c_NoName, rfl⟩) pa_nil))) (pa_cons (pe_callB (call_isH G.errs) rfl G.b_isinstance (by decide +kernel) (pa_cons (pv 0) (pa_cons (pe_gc rfl ⟨_, G.c_NoLock, rfl⟩) pa_nil))) pa_nil)))))))
  (pss_cons (ps_set (i := 1) sc_law_flags.nd rfl (by first | exact Or.inl rfl | exact Or.inr rfl) (pe_op op_addU (pv 1) (pe_lst (pa_cons (pe_callB (call_isH G.errs) rfl G.b_isinstance (by decide +kernel) (pa_cons (pv 0) (pa_cons (pe_gc rfl ⟨_, G.c_NoLeaf, rfl⟩) pa_nil))) (pa_cons (pe_callB (call_isH G.errs) rfl G.b_isinstance (by decide +kernel) (pa_cons (pv 0) (pa_cons (pe_gc rfl ⟨_, G.c_NoNode, rfl⟩) pa_nil))) (pa_cons (pe_callB (call_isH G.errs) rfl G.b_isinstance (by decide +kernel) (pa_cons (pv 0) (pa_cons (pe_gc rfl ⟨_, G.c_Named, rfl⟩) pa_nil))) (pa_cons (pe_callB (call_isH G.errs) rfl G.b_isinstance (by decide +kernel) (pa_cons (pv 0) (pa_cons (pe_gc rfl ⟨_, G.c_TreeFull, rfl⟩) pa_nil))) pa_nil)))))))
  (pss_cons (ps_set (i := 1) sc_law_flags.nd rfl (by first | exact Or.inl rfl | exact Or.inr rfl) (pe_op op_addU (pv 1) (pe_lst (pa_cons (pe_callB (call_isH G.errs) rfl G.b_isinstance (by decide +kernel) (pa_cons (pv 0) (pa_cons (pe_gc rfl ⟨_, G.c_NoLocks, rfl⟩) pa_nil))) (pa_cons (pe_callB (call_isH G.errs) rfl G.b_isinstance (by decide +kernel) (pa_cons (pv 0) (pa_cons (pe_gc rfl ⟨_, G.c_NoRoom, rfl⟩) pa_nil))) (pa_cons (pe_callB (call_isH G.errs) rfl G.b_isinstance (by decide +kernel) (pa_cons (pv 0) (pa_cons (pe_gc rfl ⟨_, G.c_NoWords, rfl⟩) pa_nil))) (pa_cons (pe_callB (call_isH G.errs) rfl G.b_isinstance (by decide +kernel) (pa_cons (pv 0) (pa_cons (pe_gc rfl ⟨_, G.c_NoLetter, rfl⟩) pa_nil))) pa_nil)))))))
  (pss_cons (ps_set (i := 1) sc_law_flags.nd rfl (by first | exact Or.inl rfl | exact Or.inr rfl) (pe_op op_addU (pv 1) (pe_lst (pa_cons (pe_callB (call_isH G.errs) rfl G.b_isinstance (by decide +kernel) (pa_cons (pv 0) (pa_cons (pe_gc rfl ⟨_, G.c_Unknown, rfl⟩) pa_nil))) (pa_cons (pe_callB (call_isH G.errs) rfl G.b_isinstance (by decide +kernel) (pa_cons (pv 0) (pa_cons (pe_gc rfl ⟨_, G.c_NoLot, rfl⟩) pa_nil))) (pa_cons (pe_callB (call_isH G.errs) rfl G.b_isinstance (by decide +kernel) (pa_cons (pv 0) (pa_cons (pe_gc rfl ⟨_, G.c_NoFact, rfl⟩) pa_nil))) (pa_cons (pe_callB (call_isH G.errs) rfl G.b_isinstance (by decide +kernel) (pa_cons (pv 0) (pa_cons (pe_gc rfl ⟨_, G.c_NoTheft, rfl⟩) pa_nil))) pa_nil)))))))
  (pss_cons (ps_set (i := 1) sc_law_flags.nd rfl (by first | exact Or.inl rfl | exact Or.inr rfl) (pe_op op_addU (pv 1) (pe_lst (pa_cons (pe_callB (call_isH G.errs) rfl G.b_isinstance (by decide +kernel) (pa_cons (pv 0) (pa_cons (pe_gc rfl ⟨_, G.c_NoEpoch, rfl⟩) pa_nil))) (pa_cons (pe_callB (call_isH G.errs) rfl G.b_isinstance (by decide +kernel) (pa_cons (pv 0) (pa_cons (pe_gc rfl ⟨_, G.c_BadTerm, rfl⟩) pa_nil))) (pa_cons (pe_callB (call_isH G.errs) rfl G.b_isinstance (by decide +kernel) (pa_cons (pv 0) (pa_cons (pe_gc rfl ⟨_, G.c_TooLong, rfl⟩) pa_nil))) (pa_cons (pe_callB (call_isH G.errs) rfl G.b_isinstance (by decide +kernel) (pa_cons (pv 0) (pa_cons (pe_gc rfl ⟨_, G.c_BadTree, rfl⟩) pa_nil))) pa_nil)))))))
  (pss_cons (ps_set (i := 1) sc_law_flags.nd rfl (by first | exact Or.inl rfl | exact Or.inr rfl) (pe_op op_addU (pv 1) (pe_lst (pa_cons (pe_callB (call_isH G.errs) rfl G.b_isinstance (by decide +kernel) (pa_cons (pv 0) (pa_cons (pe_gc rfl ⟨_, G.c_BadWorld, rfl⟩) pa_nil))) (pa_cons (pe_callB (call_isH G.errs) rfl G.b_isinstance (by decide +kernel) (pa_cons (pv 0) (pa_cons (pe_gc rfl ⟨_, G.c_BadWish, rfl⟩) pa_nil))) (pa_cons (pe_callB (call_isH G.errs) rfl G.b_isinstance (by decide +kernel) (pa_cons (pv 0) (pa_cons (pe_gc rfl ⟨_, G.c_BadRule, rfl⟩) pa_nil))) (pa_cons (pe_callB (call_isH G.errs) rfl G.b_isinstance (by decide +kernel) (pa_cons (pv 0) (pa_cons (pe_gc rfl ⟨_, G.c_TooMany, rfl⟩) pa_nil))) pa_nil)))))))
  (pss_cons (ps_set (i := 1) sc_law_flags.nd rfl (by first | exact Or.inl rfl | exact Or.inr rfl) (pe_op op_addU (pv 1) (pe_lst (pa_cons (pe_callB (call_isH G.errs) rfl G.b_isinstance (by decide +kernel) (pa_cons (pv 0) (pa_cons (pe_gc rfl ⟨_, G.c_BadImage, rfl⟩) pa_nil))) (pa_cons (pe_callB (call_isH G.errs) rfl G.b_isinstance (by decide +kernel) (pa_cons (pv 0) (pa_cons (pe_gc rfl ⟨_, G.c_Unsound, rfl⟩) pa_nil))) (pa_cons (pe_callB (call_isH G.errs) rfl G.b_isinstance (by decide +kernel) (pa_cons (pv 0) (pa_cons (pe_gc rfl ⟨_, G.c_BadLine, rfl⟩) pa_nil))) (pa_cons (pe_callB (call_isH G.errs) rfl G.b_isinstance (by decide +kernel) (pa_cons (pv 0) (pa_cons (pe_gc rfl ⟨_, G.c_BadRows, rfl⟩) pa_nil))) pa_nil)))))))
  (pss_one (ps_ret (pv 1)))))))))))
theorem c_law_main {w : World} {K : PySem.W.Frag} {mg : Str → Option Value} {base : Heap} (G : Gx K mg) : Cal hP w K mg base 3 "law" (spLaw K) [] := by
  obtain ⟨f, fd, F, hm⟩ := G.f_law_main
  refine ⟨f, fd, ["script"], [], F.ok sc_law_main (fun vs H Q E h => len_law h) (fun cdv A outer s H vs Q E hr h => ⟨t_law_main K, PSs.nox ?_, body_law G h⟩), hm, F.kp, F.bindsN (fun _ _ _ _ _ _ us hl => match us, hl with | [_], _ => rfl), .nil⟩
  exact (pss_cons (ps_set (i := 1) sc_law_main.nd rfl (by first | exact Or.inl rfl | exact Or.inr rfl) (pe_c (c_law_bag G) hr (by decide) rfl (pa_cons (pv 0) pa_nil)))
  (pss_cons (ps_set (i := 2) sc_law_main.nd rfl (by first | exact Or.inl rfl | exact Or.inr rfl) (pe_c (c_law_some G) hr (by decide) rfl (pa_cons (pv 1) (pa_cons (pe_lst (pa_cons pe_int (pa_cons (pe_c (c_law_pick G) hr (by decide) rfl (pa_cons (pv 1) (pa_cons (pe_op op_powU pe_int pe_int) pa_nil))) (pa_cons (pe_un un_negU pe_int) (pa_cons pe_non (pa_cons pe_bl (pa_cons pe_str (pa_cons (pe_tup (pa_cons pe_str (pa_cons pe_int pa_nil))) (pa_cons (pe_lst (pa_cons pe_int pa_nil)) (pa_cons pe_dnewK pa_nil)))))))))) pa_nil))))
  (pss_cons (ps_asg (pe_c (c_law_told G) hr (by decide) rfl (pa_cons (pv 2) pa_nil)) (pg_tup rfl (pgs_cons (pg_name (i := 3) sc_law_main.nd rfl (by first | exact Or.inl rfl | exact Or.inr rfl)) (pgs_cons (pg_name (i := 4) sc_law_main.nd rfl (by first | exact Or.inl rfl | exact Or.inr rfl)) pgs_nil))))
  (pss_cons (ps_set (i := 5) sc_law_main.nd rfl (by first | exact Or.inl rfl | exact Or.inr rfl) (pe_op op_addU (pe_c0 (c_law_plain G) hr (by decide) rfl) (pv 3)))
  (pss_cons (ps_for PassesOwn.never rfl (pi_enuU rfl G.b_enumerate (pa_cons (pv 5) pa_nil)) (pg_tup rfl (pgs_cons (pg_name (i := 6) sc_law_main.nd rfl (by first | exact Or.inl rfl | exact Or.inr rfl)) (pgs_cons (pg_name (i := 7) sc_law_main.nd rfl (by first | exact Or.inl rfl | exact Or.inr rfl)) pgs_nil)))
  (pss_cons (ps_if (L2.PW.pt (pw_or (pt_not (pt_val (pe_callB (call_isH G.errs) rfl G.b_isinstance (by decide +kernel) (pa_cons (pv 7) (pa_cons (pe_gc rfl ⟨_, G.c_PostError, rfl⟩) pa_nil))))) (pw_or1 (pt_not (pt_val (pe_callB (call_isH G.errs) rfl G.b_isinstance (by decide +kernel) (pa_cons (pv 7) (pa_cons (pe_bltn (v := .ty "ValueError") rfl G.b_ValueError (by decide +kernel) rfl) pa_nil))))))))
  (pss_one (ps_ret pe_bl))
  pss_nil)
  (pss_one (ps_if (pt_cmpR (op_neD (hu64 hr)) (pe_c (c_law_flags G) hr (by decide) rfl (pa_cons (pv 7) pa_nil)) (pe_lc (own := [("other", 9)]) rfl sc_law_main.nd (pi_range1 rfl G.b_range (pa_cons (pe_callB call_lenU rfl G.b_len (by decide +kernel) (pa_cons (pv 5) pa_nil)) pa_nil)) (blkOk_by (N := ["script", "bag", "thing", "told", "fields", "errors", "at", "e", "field", "other"]) (sc := defScope s_law_main) (by decide +kernel)) (fun _ _ _ _ _ => (pg_name (i := 9) sc_law_main.nd rfl (by first | exact Or.inl rfl | exact Or.inr rfl))) (fun _ _ _ _ _ => pts_nil) (fun _ _ _ _ _ => (pe_cmpR (op_eqD (hu64 hr)) (pv 6) (pv 9) (nomark _)))) (nomark _))
  (pss_one (ps_ret pe_bl))
  pss_nil))))
  (pss_cons (ps_for PassesOwn.never rfl (pi_seqU (pv 4)) (pg_name (i := 8) sc_law_main.nd rfl (by first | exact Or.inl rfl | exact Or.inr rfl))
  (pss_one (ps_if (L2.PW.pt (pw_or (pt_cmpR (op_neD (hu64 hr)) (pe_callB call_isi rfl G.b_isinstance (by decide +kernel) (pa_cons (pv 8) (pa_cons (pe_bltn (v := .ty "bool") rfl G.b_bool (by decide +kernel) rfl) pa_nil))) (pe_callB call_isi rfl G.b_isinstance (by decide +kernel) (pa_cons (pv 2) (pa_cons (pe_bltn (v := .ty "bool") rfl G.b_bool (by decide +kernel) rfl) pa_nil))) (nomark _)) (pw_or1 (pt_cmpR (op_neU (hu64 hr) (hu0 hr)) (pv 8) (pv 2) (nomark _)))))
  (pss_one (ps_ret pe_bl))
  pss_nil)))
  (pss_one (ps_ret (pe_cmpR (op_eqD (hu64 hr)) (pe_callB call_lenU rfl G.b_len (by decide +kernel) (pa_cons (pv 5) pa_nil)) pe_int (nomark _))))))))))
end LawK00
end
section
set_option maxHeartbeats 0
namespace LawK00
open PySem PySem.Spec PyProof.Rows L2 C8 PW
def hfa0 : List He.Fa := [.free "ValueError", .free "abs", .free "bool", .free "enumerate", .free "int", .free "isinstance", .free "len", .free "range", .glo "_law_bag", .glo "_law_pick", .glo "_law_some", .glo "_law_plain", .glo "_law_told", .glo "_law_flags", .glo "law", .glo "NoKind", .glo "NoParts", .glo "NoTerm", .glo "NoTerms", .glo "NoBag", .glo "NoBags", .glo "NoName", .glo "NoLock", .glo "NoLeaf", .glo "NoNode"]
def hfa1 : List He.Fa := [.glo "Named", .glo "TreeFull", .glo "NoLocks", .glo "NoRoom", .glo "NoWords", .glo "NoLetter", .glo "Unknown", .glo "NoLot", .glo "NoFact", .glo "NoTheft", .glo "NoEpoch", .glo "BadTerm", .glo "TooLong", .glo "BadTree", .glo "BadWorld", .glo "BadWish", .glo "BadRule", .glo "TooMany", .glo "BadImage", .glo "Unsound", .glo "BadLine", .glo "BadRows", .glo "PostError", .exc "NoKind", .exc "NoParts"]
def hfa2 : List He.Fa := [.exc "NoTerm", .exc "NoTerms", .exc "NoBag", .exc "NoBags", .exc "NoName", .exc "NoLock", .exc "NoLeaf", .exc "NoNode", .exc "Named", .exc "TreeFull", .exc "NoLocks", .exc "NoRoom", .exc "NoWords", .exc "NoLetter", .exc "Unknown", .exc "NoLot", .exc "NoFact", .exc "NoTheft", .exc "NoEpoch"]
def hfa : List He.Fa := hfa0 ++ hfa1 ++ hfa2
def hd0 : He.DefD := ⟨(("_law_bag" : Str), (none : Option Str)), "_law_bag", "_law_bag", defArgs s_law_bag, defBody s_law_bag, defScope s_law_bag, [], []⟩
def hd1 : He.DefD := ⟨(("_law_pick" : Str), (none : Option Str)), "_law_pick", "_law_pick", defArgs s_law_pick, defBody s_law_pick, defScope s_law_pick, [], []⟩
def hd2 : He.DefD := ⟨(("_law_some" : Str), (none : Option Str)), "_law_some", "_law_some", defArgs s_law_some, defBody s_law_some, defScope s_law_some, [], []⟩
def hd3 : He.DefD := ⟨(("_law_plain" : Str), (none : Option Str)), "_law_plain", "_law_plain", defArgs s_law_plain, defBody s_law_plain, defScope s_law_plain, [], []⟩
def hd4 : He.DefD := ⟨(("_law_told" : Str), (none : Option Str)), "_law_told", "_law_told", defArgs s_law_told, defBody s_law_told, defScope s_law_told, [], []⟩
def hd5 : He.DefD := ⟨(("_law_flags" : Str), (none : Option Str)), "_law_flags", "_law_flags", defArgs s_law_flags, defBody s_law_flags, defScope s_law_flags, [], []⟩
def hd6 : He.DefD := ⟨(("law" : Str), (none : Option Str)), "law", "law", defArgs s_law_main, defBody s_law_main, defScope s_law_main, [], []⟩
def hfn : List He.DefD := [hd0, hd1, hd2, hd3, hd4, hd5, hd6]
def st_BadTerm : Stmt := inClass (top 2) 0
def st_TooLong : Stmt := inClass (top 3) 0
def st_BadTree : Stmt := inClass (top 10) 0
def st_BadWorld : Stmt := inClass (top 28) 0
def st_BadWish : Stmt := inClass (top 29) 0
def st_BadRule : Stmt := inClass (top 18) 0
def st_TooMany : Stmt := inClass (top 21) 0
def st_BadImage : Stmt := inClass (top 24) 0
def st_Unsound : Stmt := inClass (top 25) 0
def st_BadLine : Stmt := inClass (top 26) 0
def st_BadRows : Stmt := inClass (top 27) 0
def supAll (K : PySem.W.Frag) : List Bool := [PySem.SupX.supB K (He.ga K "BadTerm") (He.ma K (He.ga K "BadTerm") "__init__") "at" "BadTerm.__init__" "/claim/cut.py",
  PySem.SupX.supB K (He.ga K "TooLong") (He.ma K (He.ga K "TooLong") "__init__") "most" "TooLong.__init__" "/claim/cut.py",
  PySem.SupX.supB K (He.ga K "BadTree") (He.ma K (He.ga K "BadTree") "__init__") "part" "BadTree.__init__" "/claim/cut.py",
  PySem.SupX.supB K (He.ga K "BadWorld") (He.ma K (He.ga K "BadWorld") "__init__") "part" "BadWorld.__init__" "/claim/cut.py",
  PySem.SupX.supB K (He.ga K "BadWish") (He.ma K (He.ga K "BadWish") "__init__") "at" "BadWish.__init__" "/claim/cut.py",
  PySem.SupX.supB K (He.ga K "BadRule") (He.ma K (He.ga K "BadRule") "__init__") "part" "BadRule.__init__" "/claim/cut.py",
  PySem.SupX.supB K (He.ga K "TooMany") (He.ma K (He.ga K "TooMany") "__init__") "most" "TooMany.__init__" "/claim/cut.py",
  PySem.SupX.supB K (He.ga K "BadImage") (He.ma K (He.ga K "BadImage") "__init__") "line" "BadImage.__init__" "/claim/cut.py",
  PySem.SupX.supB K (He.ga K "Unsound") (He.ma K (He.ga K "Unsound") "__init__") "sentence" "Unsound.__init__" "/claim/cut.py",
  PySem.SupX.supB K (He.ga K "BadLine") (He.ma K (He.ga K "BadLine") "__init__") "line" "BadLine.__init__" "/claim/cut.py",
  PySem.SupX.supB K (He.ga K "BadRows") (He.ma K (He.ga K "BadRows") "__init__") "at" "BadRows.__init__" "/claim/cut.py"]
def xb1 (K : PySem.W.Frag) : Bool := (supAll K).all id
def xb2 (K : PySem.W.Frag) : Bool := (List.range 32).all fun i => HeY.excB K (He.ga K (errN i))
def xb3 (K : PySem.W.Frag) : Bool := (List.range 32).all fun i => (List.range 32).all fun j => decide (PySem.W.kitOne K (.ref (He.ga K (errN i))) (.ref (He.ga K (errN j))) = some (decide (i = j)))
def xb4 (K : PySem.W.Frag) : Bool := (List.range 32).all fun i => decide (PySem.W.kitOne K (.ref (He.ga K (errN i))) (.ref (He.ga K "PostError")) = some true)
def xb5 (K : PySem.W.Frag) : Bool := (List.range 32).all fun i => decide (PySem.W.kitOne K (.ref (He.ga K (errN i))) (.type "ValueError") = some true)
def xb (K : PySem.W.Frag) : Bool := xb1 K && (xb2 K && (xb3 K && (xb4 K && xb5 K)))
def xf (K : PySem.W.Frag) : List PySem.SupX.FnY := [PySem.SupX.fnY K (He.ma K (He.ga K "BadTerm") "__init__"), PySem.SupX.fnY K (He.ma K (He.ga K "TooLong") "__init__"), PySem.SupX.fnY K (He.ma K (He.ga K "BadTree") "__init__"), PySem.SupX.fnY K (He.ma K (He.ga K "BadWorld") "__init__"), PySem.SupX.fnY K (He.ma K (He.ga K "BadWish") "__init__"), PySem.SupX.fnY K (He.ma K (He.ga K "BadRule") "__init__"), PySem.SupX.fnY K (He.ma K (He.ga K "TooMany") "__init__"), PySem.SupX.fnY K (He.ma K (He.ga K "BadImage") "__init__"), PySem.SupX.fnY K (He.ma K (He.ga K "Unsound") "__init__"), PySem.SupX.fnY K (He.ma K (He.ga K "BadLine") "__init__"), PySem.SupX.fnY K (He.ma K (He.ga K "BadRows") "__init__")]
def xv : List PySem.SupX.FnY := [some (("__init__" : Str), ("BadTerm.__init__" : Str), defArgs st_BadTerm, .stmts (defBody st_BadTerm), defScope st_BadTerm, mainGlobals, [("__class__" : Str)], builtinsNs),
  some (("__init__" : Str), ("TooLong.__init__" : Str), defArgs st_TooLong, .stmts (defBody st_TooLong), defScope st_TooLong, mainGlobals, [("__class__" : Str)], builtinsNs),
  some (("__init__" : Str), ("BadTree.__init__" : Str), defArgs st_BadTree, .stmts (defBody st_BadTree), defScope st_BadTree, mainGlobals, [("__class__" : Str)], builtinsNs),
  some (("__init__" : Str), ("BadWorld.__init__" : Str), defArgs st_BadWorld, .stmts (defBody st_BadWorld), defScope st_BadWorld, mainGlobals, [("__class__" : Str)], builtinsNs),
  some (("__init__" : Str), ("BadWish.__init__" : Str), defArgs st_BadWish, .stmts (defBody st_BadWish), defScope st_BadWish, mainGlobals, [("__class__" : Str)], builtinsNs),
  some (("__init__" : Str), ("BadRule.__init__" : Str), defArgs st_BadRule, .stmts (defBody st_BadRule), defScope st_BadRule, mainGlobals, [("__class__" : Str)], builtinsNs),
  some (("__init__" : Str), ("TooMany.__init__" : Str), defArgs st_TooMany, .stmts (defBody st_TooMany), defScope st_TooMany, mainGlobals, [("__class__" : Str)], builtinsNs),
  some (("__init__" : Str), ("BadImage.__init__" : Str), defArgs st_BadImage, .stmts (defBody st_BadImage), defScope st_BadImage, mainGlobals, [("__class__" : Str)], builtinsNs),
  some (("__init__" : Str), ("Unsound.__init__" : Str), defArgs st_Unsound, .stmts (defBody st_Unsound), defScope st_Unsound, mainGlobals, [("__class__" : Str)], builtinsNs),
  some (("__init__" : Str), ("BadLine.__init__" : Str), defArgs st_BadLine, .stmts (defBody st_BadLine), defScope st_BadLine, mainGlobals, [("__class__" : Str)], builtinsNs),
  some (("__init__" : Str), ("BadRows.__init__" : Str), defArgs st_BadRows, .stmts (defBody st_BadRows), defScope st_BadRows, mainGlobals, [("__class__" : Str)], builtinsNs)]
def loose0 : List PySem.Str := ["PostError", "BadTerm", "TooLong", "NoKind", "NoParts", "NoTerm", "NoTerms", "NoBag", "NoBags", "BadTree", "NoLeaf", "NoNode", "NoName", "NoLock", "Named", "TreeFull", "NoLocks", "BadRule", "NoLot", "NoFact"]
def loose1 : List PySem.Str := ["TooMany", "NoTheft", "NoEpoch", "BadImage", "Unsound", "BadLine", "BadRows", "BadWorld", "BadWish", "NoRoom", "NoLetter", "NoWords", "Unknown", "_law_bag", "_law_pick", "_law_some", "_law_plain", "_law_told", "_law_flags"]
def loose : List PySem.Str := loose0 ++ loose1
abbrev hR : PySem.W.OpenRow := PySem.W.OpenLaw.row PySem.Challenge.rw_strangerspost_k00_errors_and_their_field
abbrev hk : PySem.W.Hook := HeY.hookY 4 hfa hfn xb xf xv
def ob (s : PySem.W.SharedT) : He.AlD × Bool × List PySem.SupX.FnY := HeY.obsYG 4 hfa hfn xb xf (HandSHeadRun.getT s)
theorem ob_eq (s : PySem.W.SharedT) : ob s = hk.obs s.abs := HeY.obsY_eq (HandSHeadRun.getT_eq s)
theorem run (w : World) : HandSHeadRun.RunEq hR (PySem.W.view hR.prog [41]) hk ob 12000 loose w := by
  intro os
  kernel_rfl
theorem sa_BadTerm : defArgs st_BadTerm = PySem.SupX.sArg "at" ⟨6, 17, 6, 21⟩ ⟨6, 23, 6, 25⟩ := by kernel_rfl
theorem sb_BadTerm : defBody st_BadTerm = [PySem.SupX.sExp "at" ⟨7, 8, 7, 13⟩ ⟨7, 8, 7, 15⟩ ⟨7, 8, 7, 24⟩ ⟨7, 25, 7, 27⟩ ⟨7, 8, 7, 28⟩ ⟨7, 8, 7, 28⟩, PySem.SupX.sAsg "at" ⟨8, 8, 8, 12⟩ ⟨8, 8, 8, 15⟩ ⟨8, 18, 8, 20⟩ ⟨8, 8, 8, 20⟩] := by kernel_rfl
theorem ss_BadTerm : defScope st_BadTerm = PySem.SupX.sSc "at" := by kernel_rfl
theorem sup_BadTerm {K : PySem.W.Frag} (x : xb1 K = true) (e : xf K = xv) : PySem.SupX.SupC hP K (He.ga K "BadTerm") (He.ma K (He.ga K "BadTerm") "__init__") "at" "BadTerm.__init__" := by
  have e1 : (xf K)[0]? = xv[0]? := by rw [e]
  have e2 : PySem.SupX.fnY K (He.ma K (He.ga K "BadTerm") "__init__") = some (("__init__" : Str), ("BadTerm.__init__" : Str), PySem.SupX.sArg "at" ⟨6, 17, 6, 21⟩ ⟨6, 23, 6, 25⟩, FuncBody.stmts [PySem.SupX.sExp "at" ⟨7, 8, 7, 13⟩ ⟨7, 8, 7, 15⟩ ⟨7, 8, 7, 24⟩ ⟨7, 25, 7, 27⟩ ⟨7, 8, 7, 28⟩ ⟨7, 8, 7, 28⟩, PySem.SupX.sAsg "at" ⟨8, 8, 8, 12⟩ ⟨8, 8, 8, 15⟩ ⟨8, 18, 8, 20⟩ ⟨8, 8, 8, 20⟩], PySem.SupX.sSc "at", mainGlobals, [("__class__" : Str)], builtinsNs) := by
    rw [← sa_BadTerm, ← sb_BadTerm, ← ss_BadTerm]
    exact Option.some.inj e1
  have b : PySem.SupX.supB K (He.ga K "BadTerm") (He.ma K (He.ga K "BadTerm") "__init__") "at" "BadTerm.__init__" "/claim/cut.py" = true := List.all_eq_true.mp x _ (List.mem_of_getElem? (show (supAll K)[0]? = some _ from rfl))
  exact PySem.SupX.sup_of e2 b (by decide +kernel) (by decide +kernel) ⟨by decide +kernel, by decide +kernel, by decide +kernel, by decide +kernel⟩ ⟨by decide +kernel, by decide +kernel⟩ ⟨_, fun _ => rfl⟩ (fun _ _ _ _ _ _ _ _ _ _ _ => rfl)
theorem sa_TooLong : defArgs st_TooLong = PySem.SupX.sArg "most" ⟨11, 17, 11, 21⟩ ⟨11, 23, 11, 27⟩ := by kernel_rfl
theorem sb_TooLong : defBody st_TooLong = [PySem.SupX.sExp "most" ⟨12, 8, 12, 13⟩ ⟨12, 8, 12, 15⟩ ⟨12, 8, 12, 24⟩ ⟨12, 25, 12, 29⟩ ⟨12, 8, 12, 30⟩ ⟨12, 8, 12, 30⟩, PySem.SupX.sAsg "most" ⟨13, 8, 13, 12⟩ ⟨13, 8, 13, 17⟩ ⟨13, 20, 13, 24⟩ ⟨13, 8, 13, 24⟩] := by kernel_rfl
theorem ss_TooLong : defScope st_TooLong = PySem.SupX.sSc "most" := by kernel_rfl
theorem sup_TooLong {K : PySem.W.Frag} (x : xb1 K = true) (e : xf K = xv) : PySem.SupX.SupC hP K (He.ga K "TooLong") (He.ma K (He.ga K "TooLong") "__init__") "most" "TooLong.__init__" := by
  have e1 : (xf K)[1]? = xv[1]? := by rw [e]
  have e2 : PySem.SupX.fnY K (He.ma K (He.ga K "TooLong") "__init__") = some (("__init__" : Str), ("TooLong.__init__" : Str), PySem.SupX.sArg "most" ⟨11, 17, 11, 21⟩ ⟨11, 23, 11, 27⟩, FuncBody.stmts [PySem.SupX.sExp "most" ⟨12, 8, 12, 13⟩ ⟨12, 8, 12, 15⟩ ⟨12, 8, 12, 24⟩ ⟨12, 25, 12, 29⟩ ⟨12, 8, 12, 30⟩ ⟨12, 8, 12, 30⟩, PySem.SupX.sAsg "most" ⟨13, 8, 13, 12⟩ ⟨13, 8, 13, 17⟩ ⟨13, 20, 13, 24⟩ ⟨13, 8, 13, 24⟩], PySem.SupX.sSc "most", mainGlobals, [("__class__" : Str)], builtinsNs) := by
    rw [← sa_TooLong, ← sb_TooLong, ← ss_TooLong]
    exact Option.some.inj e1
  have b : PySem.SupX.supB K (He.ga K "TooLong") (He.ma K (He.ga K "TooLong") "__init__") "most" "TooLong.__init__" "/claim/cut.py" = true := List.all_eq_true.mp x _ (List.mem_of_getElem? (show (supAll K)[1]? = some _ from rfl))
  exact PySem.SupX.sup_of e2 b (by decide +kernel) (by decide +kernel) ⟨by decide +kernel, by decide +kernel, by decide +kernel, by decide +kernel⟩ ⟨by decide +kernel, by decide +kernel⟩ ⟨_, fun _ => rfl⟩ (fun _ _ _ _ _ _ _ _ _ _ _ => rfl)
theorem sa_BadTree : defArgs st_BadTree = PySem.SupX.sArg "part" ⟨28, 17, 28, 21⟩ ⟨28, 23, 28, 27⟩ := by kernel_rfl
theorem sb_BadTree : defBody st_BadTree = [PySem.SupX.sExp "part" ⟨29, 8, 29, 13⟩ ⟨29, 8, 29, 15⟩ ⟨29, 8, 29, 24⟩ ⟨29, 25, 29, 29⟩ ⟨29, 8, 29, 30⟩ ⟨29, 8, 29, 30⟩, PySem.SupX.sAsg "part" ⟨30, 8, 30, 12⟩ ⟨30, 8, 30, 17⟩ ⟨30, 20, 30, 24⟩ ⟨30, 8, 30, 24⟩] := by kernel_rfl
theorem ss_BadTree : defScope st_BadTree = PySem.SupX.sSc "part" := by kernel_rfl
theorem sup_BadTree {K : PySem.W.Frag} (x : xb1 K = true) (e : xf K = xv) : PySem.SupX.SupC hP K (He.ga K "BadTree") (He.ma K (He.ga K "BadTree") "__init__") "part" "BadTree.__init__" := by
  have e1 : (xf K)[2]? = xv[2]? := by rw [e]
  have e2 : PySem.SupX.fnY K (He.ma K (He.ga K "BadTree") "__init__") = some (("__init__" : Str), ("BadTree.__init__" : Str), PySem.SupX.sArg "part" ⟨28, 17, 28, 21⟩ ⟨28, 23, 28, 27⟩, FuncBody.stmts [PySem.SupX.sExp "part" ⟨29, 8, 29, 13⟩ ⟨29, 8, 29, 15⟩ ⟨29, 8, 29, 24⟩ ⟨29, 25, 29, 29⟩ ⟨29, 8, 29, 30⟩ ⟨29, 8, 29, 30⟩, PySem.SupX.sAsg "part" ⟨30, 8, 30, 12⟩ ⟨30, 8, 30, 17⟩ ⟨30, 20, 30, 24⟩ ⟨30, 8, 30, 24⟩], PySem.SupX.sSc "part", mainGlobals, [("__class__" : Str)], builtinsNs) := by
    rw [← sa_BadTree, ← sb_BadTree, ← ss_BadTree]
    exact Option.some.inj e1
  have b : PySem.SupX.supB K (He.ga K "BadTree") (He.ma K (He.ga K "BadTree") "__init__") "part" "BadTree.__init__" "/claim/cut.py" = true := List.all_eq_true.mp x _ (List.mem_of_getElem? (show (supAll K)[2]? = some _ from rfl))
  exact PySem.SupX.sup_of e2 b (by decide +kernel) (by decide +kernel) ⟨by decide +kernel, by decide +kernel, by decide +kernel, by decide +kernel⟩ ⟨by decide +kernel, by decide +kernel⟩ ⟨_, fun _ => rfl⟩ (fun _ _ _ _ _ _ _ _ _ _ _ => rfl)
theorem sa_BadWorld : defArgs st_BadWorld = PySem.SupX.sArg "part" ⟨85, 17, 85, 21⟩ ⟨85, 23, 85, 27⟩ := by kernel_rfl
theorem sb_BadWorld : defBody st_BadWorld = [PySem.SupX.sExp "part" ⟨86, 8, 86, 13⟩ ⟨86, 8, 86, 15⟩ ⟨86, 8, 86, 24⟩ ⟨86, 25, 86, 29⟩ ⟨86, 8, 86, 30⟩ ⟨86, 8, 86, 30⟩, PySem.SupX.sAsg "part" ⟨87, 8, 87, 12⟩ ⟨87, 8, 87, 17⟩ ⟨87, 20, 87, 24⟩ ⟨87, 8, 87, 24⟩] := by kernel_rfl
theorem ss_BadWorld : defScope st_BadWorld = PySem.SupX.sSc "part" := by kernel_rfl
theorem sup_BadWorld {K : PySem.W.Frag} (x : xb1 K = true) (e : xf K = xv) : PySem.SupX.SupC hP K (He.ga K "BadWorld") (He.ma K (He.ga K "BadWorld") "__init__") "part" "BadWorld.__init__" := by
  have e1 : (xf K)[3]? = xv[3]? := by rw [e]
  have e2 : PySem.SupX.fnY K (He.ma K (He.ga K "BadWorld") "__init__") = some (("__init__" : Str), ("BadWorld.__init__" : Str), PySem.SupX.sArg "part" ⟨85, 17, 85, 21⟩ ⟨85, 23, 85, 27⟩, FuncBody.stmts [PySem.SupX.sExp "part" ⟨86, 8, 86, 13⟩ ⟨86, 8, 86, 15⟩ ⟨86, 8, 86, 24⟩ ⟨86, 25, 86, 29⟩ ⟨86, 8, 86, 30⟩ ⟨86, 8, 86, 30⟩, PySem.SupX.sAsg "part" ⟨87, 8, 87, 12⟩ ⟨87, 8, 87, 17⟩ ⟨87, 20, 87, 24⟩ ⟨87, 8, 87, 24⟩], PySem.SupX.sSc "part", mainGlobals, [("__class__" : Str)], builtinsNs) := by
    rw [← sa_BadWorld, ← sb_BadWorld, ← ss_BadWorld]
    exact Option.some.inj e1
  have b : PySem.SupX.supB K (He.ga K "BadWorld") (He.ma K (He.ga K "BadWorld") "__init__") "part" "BadWorld.__init__" "/claim/cut.py" = true := List.all_eq_true.mp x _ (List.mem_of_getElem? (show (supAll K)[3]? = some _ from rfl))
  exact PySem.SupX.sup_of e2 b (by decide +kernel) (by decide +kernel) ⟨by decide +kernel, by decide +kernel, by decide +kernel, by decide +kernel⟩ ⟨by decide +kernel, by decide +kernel⟩ ⟨_, fun _ => rfl⟩ (fun _ _ _ _ _ _ _ _ _ _ _ => rfl)
theorem sa_BadWish : defArgs st_BadWish = PySem.SupX.sArg "at" ⟨90, 17, 90, 21⟩ ⟨90, 23, 90, 25⟩ := by kernel_rfl
theorem sb_BadWish : defBody st_BadWish = [PySem.SupX.sExp "at" ⟨91, 8, 91, 13⟩ ⟨91, 8, 91, 15⟩ ⟨91, 8, 91, 24⟩ ⟨91, 25, 91, 27⟩ ⟨91, 8, 91, 28⟩ ⟨91, 8, 91, 28⟩, PySem.SupX.sAsg "at" ⟨92, 8, 92, 12⟩ ⟨92, 8, 92, 15⟩ ⟨92, 18, 92, 20⟩ ⟨92, 8, 92, 20⟩] := by kernel_rfl
theorem ss_BadWish : defScope st_BadWish = PySem.SupX.sSc "at" := by kernel_rfl
theorem sup_BadWish {K : PySem.W.Frag} (x : xb1 K = true) (e : xf K = xv) : PySem.SupX.SupC hP K (He.ga K "BadWish") (He.ma K (He.ga K "BadWish") "__init__") "at" "BadWish.__init__" := by
  have e1 : (xf K)[4]? = xv[4]? := by rw [e]
  have e2 : PySem.SupX.fnY K (He.ma K (He.ga K "BadWish") "__init__") = some (("__init__" : Str), ("BadWish.__init__" : Str), PySem.SupX.sArg "at" ⟨90, 17, 90, 21⟩ ⟨90, 23, 90, 25⟩, FuncBody.stmts [PySem.SupX.sExp "at" ⟨91, 8, 91, 13⟩ ⟨91, 8, 91, 15⟩ ⟨91, 8, 91, 24⟩ ⟨91, 25, 91, 27⟩ ⟨91, 8, 91, 28⟩ ⟨91, 8, 91, 28⟩, PySem.SupX.sAsg "at" ⟨92, 8, 92, 12⟩ ⟨92, 8, 92, 15⟩ ⟨92, 18, 92, 20⟩ ⟨92, 8, 92, 20⟩], PySem.SupX.sSc "at", mainGlobals, [("__class__" : Str)], builtinsNs) := by
    rw [← sa_BadWish, ← sb_BadWish, ← ss_BadWish]
    exact Option.some.inj e1
  have b : PySem.SupX.supB K (He.ga K "BadWish") (He.ma K (He.ga K "BadWish") "__init__") "at" "BadWish.__init__" "/claim/cut.py" = true := List.all_eq_true.mp x _ (List.mem_of_getElem? (show (supAll K)[4]? = some _ from rfl))
  exact PySem.SupX.sup_of e2 b (by decide +kernel) (by decide +kernel) ⟨by decide +kernel, by decide +kernel, by decide +kernel, by decide +kernel⟩ ⟨by decide +kernel, by decide +kernel⟩ ⟨_, fun _ => rfl⟩ (fun _ _ _ _ _ _ _ _ _ _ _ => rfl)
theorem sa_BadRule : defArgs st_BadRule = PySem.SupX.sArg "part" ⟨47, 17, 47, 21⟩ ⟨47, 23, 47, 27⟩ := by kernel_rfl
theorem sb_BadRule : defBody st_BadRule = [PySem.SupX.sExp "part" ⟨48, 8, 48, 13⟩ ⟨48, 8, 48, 15⟩ ⟨48, 8, 48, 24⟩ ⟨48, 25, 48, 29⟩ ⟨48, 8, 48, 30⟩ ⟨48, 8, 48, 30⟩, PySem.SupX.sAsg "part" ⟨49, 8, 49, 12⟩ ⟨49, 8, 49, 17⟩ ⟨49, 20, 49, 24⟩ ⟨49, 8, 49, 24⟩] := by kernel_rfl
theorem ss_BadRule : defScope st_BadRule = PySem.SupX.sSc "part" := by kernel_rfl
theorem sup_BadRule {K : PySem.W.Frag} (x : xb1 K = true) (e : xf K = xv) : PySem.SupX.SupC hP K (He.ga K "BadRule") (He.ma K (He.ga K "BadRule") "__init__") "part" "BadRule.__init__" := by
  have e1 : (xf K)[5]? = xv[5]? := by rw [e]
  have e2 : PySem.SupX.fnY K (He.ma K (He.ga K "BadRule") "__init__") = some (("__init__" : Str), ("BadRule.__init__" : Str), PySem.SupX.sArg "part" ⟨47, 17, 47, 21⟩ ⟨47, 23, 47, 27⟩, FuncBody.stmts [PySem.SupX.sExp "part" ⟨48, 8, 48, 13⟩ ⟨48, 8, 48, 15⟩ ⟨48, 8, 48, 24⟩ ⟨48, 25, 48, 29⟩ ⟨48, 8, 48, 30⟩ ⟨48, 8, 48, 30⟩, PySem.SupX.sAsg "part" ⟨49, 8, 49, 12⟩ ⟨49, 8, 49, 17⟩ ⟨49, 20, 49, 24⟩ ⟨49, 8, 49, 24⟩], PySem.SupX.sSc "part", mainGlobals, [("__class__" : Str)], builtinsNs) := by
    rw [← sa_BadRule, ← sb_BadRule, ← ss_BadRule]
    exact Option.some.inj e1
  have b : PySem.SupX.supB K (He.ga K "BadRule") (He.ma K (He.ga K "BadRule") "__init__") "part" "BadRule.__init__" "/claim/cut.py" = true := List.all_eq_true.mp x _ (List.mem_of_getElem? (show (supAll K)[5]? = some _ from rfl))
  exact PySem.SupX.sup_of e2 b (by decide +kernel) (by decide +kernel) ⟨by decide +kernel, by decide +kernel, by decide +kernel, by decide +kernel⟩ ⟨by decide +kernel, by decide +kernel⟩ ⟨_, fun _ => rfl⟩ (fun _ _ _ _ _ _ _ _ _ _ _ => rfl)
theorem sa_TooMany : defArgs st_TooMany = PySem.SupX.sArg "most" ⟨56, 17, 56, 21⟩ ⟨56, 23, 56, 27⟩ := by kernel_rfl
theorem sb_TooMany : defBody st_TooMany = [PySem.SupX.sExp "most" ⟨57, 8, 57, 13⟩ ⟨57, 8, 57, 15⟩ ⟨57, 8, 57, 24⟩ ⟨57, 25, 57, 29⟩ ⟨57, 8, 57, 30⟩ ⟨57, 8, 57, 30⟩, PySem.SupX.sAsg "most" ⟨58, 8, 58, 12⟩ ⟨58, 8, 58, 17⟩ ⟨58, 20, 58, 24⟩ ⟨58, 8, 58, 24⟩] := by kernel_rfl
theorem ss_TooMany : defScope st_TooMany = PySem.SupX.sSc "most" := by kernel_rfl
theorem sup_TooMany {K : PySem.W.Frag} (x : xb1 K = true) (e : xf K = xv) : PySem.SupX.SupC hP K (He.ga K "TooMany") (He.ma K (He.ga K "TooMany") "__init__") "most" "TooMany.__init__" := by
  have e1 : (xf K)[6]? = xv[6]? := by rw [e]
  have e2 : PySem.SupX.fnY K (He.ma K (He.ga K "TooMany") "__init__") = some (("__init__" : Str), ("TooMany.__init__" : Str), PySem.SupX.sArg "most" ⟨56, 17, 56, 21⟩ ⟨56, 23, 56, 27⟩, FuncBody.stmts [PySem.SupX.sExp "most" ⟨57, 8, 57, 13⟩ ⟨57, 8, 57, 15⟩ ⟨57, 8, 57, 24⟩ ⟨57, 25, 57, 29⟩ ⟨57, 8, 57, 30⟩ ⟨57, 8, 57, 30⟩, PySem.SupX.sAsg "most" ⟨58, 8, 58, 12⟩ ⟨58, 8, 58, 17⟩ ⟨58, 20, 58, 24⟩ ⟨58, 8, 58, 24⟩], PySem.SupX.sSc "most", mainGlobals, [("__class__" : Str)], builtinsNs) := by
    rw [← sa_TooMany, ← sb_TooMany, ← ss_TooMany]
    exact Option.some.inj e1
  have b : PySem.SupX.supB K (He.ga K "TooMany") (He.ma K (He.ga K "TooMany") "__init__") "most" "TooMany.__init__" "/claim/cut.py" = true := List.all_eq_true.mp x _ (List.mem_of_getElem? (show (supAll K)[6]? = some _ from rfl))
  exact PySem.SupX.sup_of e2 b (by decide +kernel) (by decide +kernel) ⟨by decide +kernel, by decide +kernel, by decide +kernel, by decide +kernel⟩ ⟨by decide +kernel, by decide +kernel⟩ ⟨_, fun _ => rfl⟩ (fun _ _ _ _ _ _ _ _ _ _ _ => rfl)
theorem sa_BadImage : defArgs st_BadImage = PySem.SupX.sArg "line" ⟨65, 17, 65, 21⟩ ⟨65, 23, 65, 27⟩ := by kernel_rfl
theorem sb_BadImage : defBody st_BadImage = [PySem.SupX.sExp "line" ⟨66, 8, 66, 13⟩ ⟨66, 8, 66, 15⟩ ⟨66, 8, 66, 24⟩ ⟨66, 25, 66, 29⟩ ⟨66, 8, 66, 30⟩ ⟨66, 8, 66, 30⟩, PySem.SupX.sAsg "line" ⟨67, 8, 67, 12⟩ ⟨67, 8, 67, 17⟩ ⟨67, 20, 67, 24⟩ ⟨67, 8, 67, 24⟩] := by kernel_rfl
theorem ss_BadImage : defScope st_BadImage = PySem.SupX.sSc "line" := by kernel_rfl
theorem sup_BadImage {K : PySem.W.Frag} (x : xb1 K = true) (e : xf K = xv) : PySem.SupX.SupC hP K (He.ga K "BadImage") (He.ma K (He.ga K "BadImage") "__init__") "line" "BadImage.__init__" := by
  have e1 : (xf K)[7]? = xv[7]? := by rw [e]
  have e2 : PySem.SupX.fnY K (He.ma K (He.ga K "BadImage") "__init__") = some (("__init__" : Str), ("BadImage.__init__" : Str), PySem.SupX.sArg "line" ⟨65, 17, 65, 21⟩ ⟨65, 23, 65, 27⟩, FuncBody.stmts [PySem.SupX.sExp "line" ⟨66, 8, 66, 13⟩ ⟨66, 8, 66, 15⟩ ⟨66, 8, 66, 24⟩ ⟨66, 25, 66, 29⟩ ⟨66, 8, 66, 30⟩ ⟨66, 8, 66, 30⟩, PySem.SupX.sAsg "line" ⟨67, 8, 67, 12⟩ ⟨67, 8, 67, 17⟩ ⟨67, 20, 67, 24⟩ ⟨67, 8, 67, 24⟩], PySem.SupX.sSc "line", mainGlobals, [("__class__" : Str)], builtinsNs) := by
    rw [← sa_BadImage, ← sb_BadImage, ← ss_BadImage]
    exact Option.some.inj e1
  have b : PySem.SupX.supB K (He.ga K "BadImage") (He.ma K (He.ga K "BadImage") "__init__") "line" "BadImage.__init__" "/claim/cut.py" = true := List.all_eq_true.mp x _ (List.mem_of_getElem? (show (supAll K)[7]? = some _ from rfl))
  exact PySem.SupX.sup_of e2 b (by decide +kernel) (by decide +kernel) ⟨by decide +kernel, by decide +kernel, by decide +kernel, by decide +kernel⟩ ⟨by decide +kernel, by decide +kernel⟩ ⟨_, fun _ => rfl⟩ (fun _ _ _ _ _ _ _ _ _ _ _ => rfl)
theorem sa_Unsound : defArgs st_Unsound = PySem.SupX.sArg "sentence" ⟨70, 17, 70, 21⟩ ⟨70, 23, 70, 31⟩ := by kernel_rfl
theorem sb_Unsound : defBody st_Unsound = [PySem.SupX.sExp "sentence" ⟨71, 8, 71, 13⟩ ⟨71, 8, 71, 15⟩ ⟨71, 8, 71, 24⟩ ⟨71, 25, 71, 33⟩ ⟨71, 8, 71, 34⟩ ⟨71, 8, 71, 34⟩, PySem.SupX.sAsg "sentence" ⟨72, 8, 72, 12⟩ ⟨72, 8, 72, 21⟩ ⟨72, 24, 72, 32⟩ ⟨72, 8, 72, 32⟩] := by kernel_rfl
theorem ss_Unsound : defScope st_Unsound = PySem.SupX.sSc "sentence" := by kernel_rfl
theorem sup_Unsound {K : PySem.W.Frag} (x : xb1 K = true) (e : xf K = xv) : PySem.SupX.SupC hP K (He.ga K "Unsound") (He.ma K (He.ga K "Unsound") "__init__") "sentence" "Unsound.__init__" := by
  have e1 : (xf K)[8]? = xv[8]? := by rw [e]
  have e2 : PySem.SupX.fnY K (He.ma K (He.ga K "Unsound") "__init__") = some (("__init__" : Str), ("Unsound.__init__" : Str), PySem.SupX.sArg "sentence" ⟨70, 17, 70, 21⟩ ⟨70, 23, 70, 31⟩, FuncBody.stmts [PySem.SupX.sExp "sentence" ⟨71, 8, 71, 13⟩ ⟨71, 8, 71, 15⟩ ⟨71, 8, 71, 24⟩ ⟨71, 25, 71, 33⟩ ⟨71, 8, 71, 34⟩ ⟨71, 8, 71, 34⟩, PySem.SupX.sAsg "sentence" ⟨72, 8, 72, 12⟩ ⟨72, 8, 72, 21⟩ ⟨72, 24, 72, 32⟩ ⟨72, 8, 72, 32⟩], PySem.SupX.sSc "sentence", mainGlobals, [("__class__" : Str)], builtinsNs) := by
    rw [← sa_Unsound, ← sb_Unsound, ← ss_Unsound]
    exact Option.some.inj e1
  have b : PySem.SupX.supB K (He.ga K "Unsound") (He.ma K (He.ga K "Unsound") "__init__") "sentence" "Unsound.__init__" "/claim/cut.py" = true := List.all_eq_true.mp x _ (List.mem_of_getElem? (show (supAll K)[8]? = some _ from rfl))
  exact PySem.SupX.sup_of e2 b (by decide +kernel) (by decide +kernel) ⟨by decide +kernel, by decide +kernel, by decide +kernel, by decide +kernel⟩ ⟨by decide +kernel, by decide +kernel⟩ ⟨_, fun _ => rfl⟩ (fun _ _ _ _ _ _ _ _ _ _ _ => rfl)
theorem sa_BadLine : defArgs st_BadLine = PySem.SupX.sArg "line" ⟨75, 17, 75, 21⟩ ⟨75, 23, 75, 27⟩ := by kernel_rfl
theorem sb_BadLine : defBody st_BadLine = [PySem.SupX.sExp "line" ⟨76, 8, 76, 13⟩ ⟨76, 8, 76, 15⟩ ⟨76, 8, 76, 24⟩ ⟨76, 25, 76, 29⟩ ⟨76, 8, 76, 30⟩ ⟨76, 8, 76, 30⟩, PySem.SupX.sAsg "line" ⟨77, 8, 77, 12⟩ ⟨77, 8, 77, 17⟩ ⟨77, 20, 77, 24⟩ ⟨77, 8, 77, 24⟩] := by kernel_rfl
theorem ss_BadLine : defScope st_BadLine = PySem.SupX.sSc "line" := by kernel_rfl
theorem sup_BadLine {K : PySem.W.Frag} (x : xb1 K = true) (e : xf K = xv) : PySem.SupX.SupC hP K (He.ga K "BadLine") (He.ma K (He.ga K "BadLine") "__init__") "line" "BadLine.__init__" := by
  have e1 : (xf K)[9]? = xv[9]? := by rw [e]
  have e2 : PySem.SupX.fnY K (He.ma K (He.ga K "BadLine") "__init__") = some (("__init__" : Str), ("BadLine.__init__" : Str), PySem.SupX.sArg "line" ⟨75, 17, 75, 21⟩ ⟨75, 23, 75, 27⟩, FuncBody.stmts [PySem.SupX.sExp "line" ⟨76, 8, 76, 13⟩ ⟨76, 8, 76, 15⟩ ⟨76, 8, 76, 24⟩ ⟨76, 25, 76, 29⟩ ⟨76, 8, 76, 30⟩ ⟨76, 8, 76, 30⟩, PySem.SupX.sAsg "line" ⟨77, 8, 77, 12⟩ ⟨77, 8, 77, 17⟩ ⟨77, 20, 77, 24⟩ ⟨77, 8, 77, 24⟩], PySem.SupX.sSc "line", mainGlobals, [("__class__" : Str)], builtinsNs) := by
    rw [← sa_BadLine, ← sb_BadLine, ← ss_BadLine]
    exact Option.some.inj e1
  have b : PySem.SupX.supB K (He.ga K "BadLine") (He.ma K (He.ga K "BadLine") "__init__") "line" "BadLine.__init__" "/claim/cut.py" = true := List.all_eq_true.mp x _ (List.mem_of_getElem? (show (supAll K)[9]? = some _ from rfl))
  exact PySem.SupX.sup_of e2 b (by decide +kernel) (by decide +kernel) ⟨by decide +kernel, by decide +kernel, by decide +kernel, by decide +kernel⟩ ⟨by decide +kernel, by decide +kernel⟩ ⟨_, fun _ => rfl⟩ (fun _ _ _ _ _ _ _ _ _ _ _ => rfl)
theorem sa_BadRows : defArgs st_BadRows = PySem.SupX.sArg "at" ⟨80, 17, 80, 21⟩ ⟨80, 23, 80, 25⟩ := by kernel_rfl
theorem sb_BadRows : defBody st_BadRows = [PySem.SupX.sExp "at" ⟨81, 8, 81, 13⟩ ⟨81, 8, 81, 15⟩ ⟨81, 8, 81, 24⟩ ⟨81, 25, 81, 27⟩ ⟨81, 8, 81, 28⟩ ⟨81, 8, 81, 28⟩, PySem.SupX.sAsg "at" ⟨82, 8, 82, 12⟩ ⟨82, 8, 82, 15⟩ ⟨82, 18, 82, 20⟩ ⟨82, 8, 82, 20⟩] := by kernel_rfl
theorem ss_BadRows : defScope st_BadRows = PySem.SupX.sSc "at" := by kernel_rfl
theorem sup_BadRows {K : PySem.W.Frag} (x : xb1 K = true) (e : xf K = xv) : PySem.SupX.SupC hP K (He.ga K "BadRows") (He.ma K (He.ga K "BadRows") "__init__") "at" "BadRows.__init__" := by
  have e1 : (xf K)[10]? = xv[10]? := by rw [e]
  have e2 : PySem.SupX.fnY K (He.ma K (He.ga K "BadRows") "__init__") = some (("__init__" : Str), ("BadRows.__init__" : Str), PySem.SupX.sArg "at" ⟨80, 17, 80, 21⟩ ⟨80, 23, 80, 25⟩, FuncBody.stmts [PySem.SupX.sExp "at" ⟨81, 8, 81, 13⟩ ⟨81, 8, 81, 15⟩ ⟨81, 8, 81, 24⟩ ⟨81, 25, 81, 27⟩ ⟨81, 8, 81, 28⟩ ⟨81, 8, 81, 28⟩, PySem.SupX.sAsg "at" ⟨82, 8, 82, 12⟩ ⟨82, 8, 82, 15⟩ ⟨82, 18, 82, 20⟩ ⟨82, 8, 82, 20⟩], PySem.SupX.sSc "at", mainGlobals, [("__class__" : Str)], builtinsNs) := by
    rw [← sa_BadRows, ← sb_BadRows, ← ss_BadRows]
    exact Option.some.inj e1
  have b : PySem.SupX.supB K (He.ga K "BadRows") (He.ma K (He.ga K "BadRows") "__init__") "at" "BadRows.__init__" "/claim/cut.py" = true := List.all_eq_true.mp x _ (List.mem_of_getElem? (show (supAll K)[10]? = some _ from rfl))
  exact PySem.SupX.sup_of e2 b (by decide +kernel) (by decide +kernel) ⟨by decide +kernel, by decide +kernel, by decide +kernel, by decide +kernel⟩ ⟨by decide +kernel, by decide +kernel⟩ ⟨_, fun _ => rfl⟩ (fun _ _ _ _ _ _ _ _ _ _ _ => rfl)
theorem rng_all {p : Nat → Bool} (h : (List.range 32).all p = true) (i : Nat) (hi : i < 32) : p i = true := List.all_eq_true.mp h i (List.mem_range.mpr hi)
theorem gx_of {K : PySem.W.Frag} {h : Heap} {mg : Str → Option Value} (X : K.In h) (G : h.Ns mainGlobals mg) (c : HeY.obsY hfa hfn xb xf K = (He.valD hfn, true, xv)) : Gx K mg := by
  have c1 : He.SaysD hfa hfn K := congrArg (fun z : He.AlD × Bool × List PySem.SupX.FnY => z.1) c
  have x : xb K = true := congrArg (fun z : He.AlD × Bool × List PySem.SupX.FnY => z.2.1) c
  have e : xf K = xv := congrArg (fun z : He.AlD × Bool × List PySem.SupX.FnY => z.2.2) c
  obtain ⟨x1, x⟩ := He.ba x
  obtain ⟨x2, x⟩ := He.ba x
  obtain ⟨x3, x⟩ := He.ba x
  obtain ⟨x4, x5⟩ := He.ba x
  exact {
    b_ValueError := He.free_ok X G (c1.fact 0 (f := .free "ValueError") rfl)
    b_abs := He.free_ok X G (c1.fact 1 (f := .free "abs") rfl)
    b_bool := He.free_ok X G (c1.fact 2 (f := .free "bool") rfl)
    b_enumerate := He.free_ok X G (c1.fact 3 (f := .free "enumerate") rfl)
    b_int := He.free_ok X G (c1.fact 4 (f := .free "int") rfl)
    b_isinstance := He.free_ok X G (c1.fact 5 (f := .free "isinstance") rfl)
    b_len := He.free_ok X G (c1.fact 6 (f := .free "len") rfl)
    b_range := He.free_ok X G (c1.fact 7 (f := .free "range") rfl)
    f_law_bag := by obtain ⟨fd, F⟩ := c1.def_ 0 (d := hd0) rfl; exact ⟨_, fd, F, He.glo_ok X G (c1.fact 8 (f := .glo "_law_bag") rfl)⟩
    f_law_pick := by obtain ⟨fd, F⟩ := c1.def_ 1 (d := hd1) rfl; exact ⟨_, fd, F, He.glo_ok X G (c1.fact 9 (f := .glo "_law_pick") rfl)⟩
    f_law_some := by obtain ⟨fd, F⟩ := c1.def_ 2 (d := hd2) rfl; exact ⟨_, fd, F, He.glo_ok X G (c1.fact 10 (f := .glo "_law_some") rfl)⟩
    f_law_plain := by obtain ⟨fd, F⟩ := c1.def_ 3 (d := hd3) rfl; exact ⟨_, fd, F, He.glo_ok X G (c1.fact 11 (f := .glo "_law_plain") rfl)⟩
    f_law_told := by obtain ⟨fd, F⟩ := c1.def_ 4 (d := hd4) rfl; exact ⟨_, fd, F, He.glo_ok X G (c1.fact 12 (f := .glo "_law_told") rfl)⟩
    f_law_flags := by obtain ⟨fd, F⟩ := c1.def_ 5 (d := hd5) rfl; exact ⟨_, fd, F, He.glo_ok X G (c1.fact 13 (f := .glo "_law_flags") rfl)⟩
    f_law_main := by obtain ⟨fd, F⟩ := c1.def_ 6 (d := hd6) rfl; exact ⟨_, fd, F, He.glo_ok X G (c1.fact 14 (f := .glo "law") rfl)⟩
    c_NoKind := He.glo_ok X G (c1.fact 15 (f := .glo "NoKind") rfl)
    c_NoParts := He.glo_ok X G (c1.fact 16 (f := .glo "NoParts") rfl)
    c_NoTerm := He.glo_ok X G (c1.fact 17 (f := .glo "NoTerm") rfl)
    c_NoTerms := He.glo_ok X G (c1.fact 18 (f := .glo "NoTerms") rfl)
    c_NoBag := He.glo_ok X G (c1.fact 19 (f := .glo "NoBag") rfl)
    c_NoBags := He.glo_ok X G (c1.fact 20 (f := .glo "NoBags") rfl)
    c_NoName := He.glo_ok X G (c1.fact 21 (f := .glo "NoName") rfl)
    c_NoLock := He.glo_ok X G (c1.fact 22 (f := .glo "NoLock") rfl)
    c_NoLeaf := He.glo_ok X G (c1.fact 23 (f := .glo "NoLeaf") rfl)
    c_NoNode := He.glo_ok X G (c1.fact 24 (f := .glo "NoNode") rfl)
    c_Named := He.glo_ok X G (c1.fact 25 (f := .glo "Named") rfl)
    c_TreeFull := He.glo_ok X G (c1.fact 26 (f := .glo "TreeFull") rfl)
    c_NoLocks := He.glo_ok X G (c1.fact 27 (f := .glo "NoLocks") rfl)
    c_NoRoom := He.glo_ok X G (c1.fact 28 (f := .glo "NoRoom") rfl)
    c_NoWords := He.glo_ok X G (c1.fact 29 (f := .glo "NoWords") rfl)
    c_NoLetter := He.glo_ok X G (c1.fact 30 (f := .glo "NoLetter") rfl)
    c_Unknown := He.glo_ok X G (c1.fact 31 (f := .glo "Unknown") rfl)
    c_NoLot := He.glo_ok X G (c1.fact 32 (f := .glo "NoLot") rfl)
    c_NoFact := He.glo_ok X G (c1.fact 33 (f := .glo "NoFact") rfl)
    c_NoTheft := He.glo_ok X G (c1.fact 34 (f := .glo "NoTheft") rfl)
    c_NoEpoch := He.glo_ok X G (c1.fact 35 (f := .glo "NoEpoch") rfl)
    c_BadTerm := He.glo_ok X G (c1.fact 36 (f := .glo "BadTerm") rfl)
    c_TooLong := He.glo_ok X G (c1.fact 37 (f := .glo "TooLong") rfl)
    c_BadTree := He.glo_ok X G (c1.fact 38 (f := .glo "BadTree") rfl)
    c_BadWorld := He.glo_ok X G (c1.fact 39 (f := .glo "BadWorld") rfl)
    c_BadWish := He.glo_ok X G (c1.fact 40 (f := .glo "BadWish") rfl)
    c_BadRule := He.glo_ok X G (c1.fact 41 (f := .glo "BadRule") rfl)
    c_TooMany := He.glo_ok X G (c1.fact 42 (f := .glo "TooMany") rfl)
    c_BadImage := He.glo_ok X G (c1.fact 43 (f := .glo "BadImage") rfl)
    c_Unsound := He.glo_ok X G (c1.fact 44 (f := .glo "Unsound") rfl)
    c_BadLine := He.glo_ok X G (c1.fact 45 (f := .glo "BadLine") rfl)
    c_BadRows := He.glo_ok X G (c1.fact 46 (f := .glo "BadRows") rfl)
    c_PostError := He.glo_ok X G (c1.fact 47 (f := .glo "PostError") rfl)
    e_NoKind := ⟨(He.exc_ok (c1.fact 48 (f := .exc "NoKind") rfl)).1, (He.exc_ok (c1.fact 48 (f := .exc "NoKind") rfl)).2.1⟩
    e_NoParts := ⟨(He.exc_ok (c1.fact 49 (f := .exc "NoParts") rfl)).1, (He.exc_ok (c1.fact 49 (f := .exc "NoParts") rfl)).2.1⟩
    e_NoTerm := ⟨(He.exc_ok (c1.fact 50 (f := .exc "NoTerm") rfl)).1, (He.exc_ok (c1.fact 50 (f := .exc "NoTerm") rfl)).2.1⟩
    e_NoTerms := ⟨(He.exc_ok (c1.fact 51 (f := .exc "NoTerms") rfl)).1, (He.exc_ok (c1.fact 51 (f := .exc "NoTerms") rfl)).2.1⟩
    e_NoBag := ⟨(He.exc_ok (c1.fact 52 (f := .exc "NoBag") rfl)).1, (He.exc_ok (c1.fact 52 (f := .exc "NoBag") rfl)).2.1⟩
    e_NoBags := ⟨(He.exc_ok (c1.fact 53 (f := .exc "NoBags") rfl)).1, (He.exc_ok (c1.fact 53 (f := .exc "NoBags") rfl)).2.1⟩
    e_NoName := ⟨(He.exc_ok (c1.fact 54 (f := .exc "NoName") rfl)).1, (He.exc_ok (c1.fact 54 (f := .exc "NoName") rfl)).2.1⟩
    e_NoLock := ⟨(He.exc_ok (c1.fact 55 (f := .exc "NoLock") rfl)).1, (He.exc_ok (c1.fact 55 (f := .exc "NoLock") rfl)).2.1⟩
    e_NoLeaf := ⟨(He.exc_ok (c1.fact 56 (f := .exc "NoLeaf") rfl)).1, (He.exc_ok (c1.fact 56 (f := .exc "NoLeaf") rfl)).2.1⟩
    e_NoNode := ⟨(He.exc_ok (c1.fact 57 (f := .exc "NoNode") rfl)).1, (He.exc_ok (c1.fact 57 (f := .exc "NoNode") rfl)).2.1⟩
    e_Named := ⟨(He.exc_ok (c1.fact 58 (f := .exc "Named") rfl)).1, (He.exc_ok (c1.fact 58 (f := .exc "Named") rfl)).2.1⟩
    e_TreeFull := ⟨(He.exc_ok (c1.fact 59 (f := .exc "TreeFull") rfl)).1, (He.exc_ok (c1.fact 59 (f := .exc "TreeFull") rfl)).2.1⟩
    e_NoLocks := ⟨(He.exc_ok (c1.fact 60 (f := .exc "NoLocks") rfl)).1, (He.exc_ok (c1.fact 60 (f := .exc "NoLocks") rfl)).2.1⟩
    e_NoRoom := ⟨(He.exc_ok (c1.fact 61 (f := .exc "NoRoom") rfl)).1, (He.exc_ok (c1.fact 61 (f := .exc "NoRoom") rfl)).2.1⟩
    e_NoWords := ⟨(He.exc_ok (c1.fact 62 (f := .exc "NoWords") rfl)).1, (He.exc_ok (c1.fact 62 (f := .exc "NoWords") rfl)).2.1⟩
    e_NoLetter := ⟨(He.exc_ok (c1.fact 63 (f := .exc "NoLetter") rfl)).1, (He.exc_ok (c1.fact 63 (f := .exc "NoLetter") rfl)).2.1⟩
    e_Unknown := ⟨(He.exc_ok (c1.fact 64 (f := .exc "Unknown") rfl)).1, (He.exc_ok (c1.fact 64 (f := .exc "Unknown") rfl)).2.1⟩
    e_NoLot := ⟨(He.exc_ok (c1.fact 65 (f := .exc "NoLot") rfl)).1, (He.exc_ok (c1.fact 65 (f := .exc "NoLot") rfl)).2.1⟩
    e_NoFact := ⟨(He.exc_ok (c1.fact 66 (f := .exc "NoFact") rfl)).1, (He.exc_ok (c1.fact 66 (f := .exc "NoFact") rfl)).2.1⟩
    e_NoTheft := ⟨(He.exc_ok (c1.fact 67 (f := .exc "NoTheft") rfl)).1, (He.exc_ok (c1.fact 67 (f := .exc "NoTheft") rfl)).2.1⟩
    e_NoEpoch := ⟨(He.exc_ok (c1.fact 68 (f := .exc "NoEpoch") rfl)).1, (He.exc_ok (c1.fact 68 (f := .exc "NoEpoch") rfl)).2.1⟩
    s_BadTerm := sup_BadTerm x1 e
    s_TooLong := sup_TooLong x1 e
    s_BadTree := sup_BadTree x1 e
    s_BadWorld := sup_BadWorld x1 e
    s_BadWish := sup_BadWish x1 e
    s_BadRule := sup_BadRule x1 e
    s_TooMany := sup_TooMany x1 e
    s_BadImage := sup_BadImage x1 e
    s_Unsound := sup_Unsound x1 e
    s_BadLine := sup_BadLine x1 e
    s_BadRows := sup_BadRows x1 e
    errs := fun D hD => by
      obtain ⟨i, hi, ei⟩ := hD
      rw [ei]
      exact HeY.excB_ok (rng_all x2 i hi)
    kit := fun i j hi hj => of_decide_eq_true (rng_all (rng_all x3 i hi) j hj)
    kitP := fun i hi => of_decide_eq_true (rng_all x4 i hi)
    kitV := fun i hi => of_decide_eq_true (rng_all x5 i hi) }
theorem ok_law {w : World} {K : PySem.W.Frag} {mg : Str → Option Value} {base : Heap} {f : Addr} {fd : FuncData} (G : Gx K mg) (F : FunD K "law" "law" (defArgs s_law_main) (defBody s_law_main) (defScope s_law_main) [] [] f fd) : FnOk hP w K mg base L2.CX0 12 f fd ["script"] (spLaw K) := by
  refine F.ok sc_law_main (fun vs H Q E h => len_law h) (fun cdv A outer s H vs Q E hr h => ⟨t_law_main K, PSs.nox ?_, body_law G h⟩)
  exact (pss_cons (ps_set (i := 1) sc_law_main.nd rfl (by first | exact Or.inl rfl | exact Or.inr rfl) (pe_c (c_law_bag G) hr (by decide) rfl (pa_cons (pv 0) pa_nil)))
  (pss_cons (ps_set (i := 2) sc_law_main.nd rfl (by first | exact Or.inl rfl | exact Or.inr rfl) (pe_c (c_law_some G) hr (by decide) rfl (pa_cons (pv 1) (pa_cons (pe_lst (pa_cons pe_int (pa_cons (pe_c (c_law_pick G) hr (by decide) rfl (pa_cons (pv 1) (pa_cons (pe_op op_powU pe_int pe_int) pa_nil))) (pa_cons (pe_un un_negU pe_int) (pa_cons pe_non (pa_cons pe_bl (pa_cons pe_str (pa_cons (pe_tup (pa_cons pe_str (pa_cons pe_int pa_nil))) (pa_cons (pe_lst (pa_cons pe_int pa_nil)) (pa_cons pe_dnewK pa_nil)))))))))) pa_nil))))
  (pss_cons (ps_asg (pe_c (c_law_told G) hr (by decide) rfl (pa_cons (pv 2) pa_nil)) (pg_tup rfl (pgs_cons (pg_name (i := 3) sc_law_main.nd rfl (by first | exact Or.inl rfl | exact Or.inr rfl)) (pgs_cons (pg_name (i := 4) sc_law_main.nd rfl (by first | exact Or.inl rfl | exact Or.inr rfl)) pgs_nil))))
  (pss_cons (ps_set (i := 5) sc_law_main.nd rfl (by first | exact Or.inl rfl | exact Or.inr rfl) (pe_op op_addU (pe_c0 (c_law_plain G) hr (by decide) rfl) (pv 3)))
  (pss_cons (ps_for PassesOwn.never rfl (pi_enuU rfl G.b_enumerate (pa_cons (pv 5) pa_nil)) (pg_tup rfl (pgs_cons (pg_name (i := 6) sc_law_main.nd rfl (by first | exact Or.inl rfl | exact Or.inr rfl)) (pgs_cons (pg_name (i := 7) sc_law_main.nd rfl (by first | exact Or.inl rfl | exact Or.inr rfl)) pgs_nil)))
  (pss_cons (ps_if (L2.PW.pt (pw_or (pt_not (pt_val (pe_callB (call_isH G.errs) rfl G.b_isinstance (by decide +kernel) (pa_cons (pv 7) (pa_cons (pe_gc rfl ⟨_, G.c_PostError, rfl⟩) pa_nil))))) (pw_or1 (pt_not (pt_val (pe_callB (call_isH G.errs) rfl G.b_isinstance (by decide +kernel) (pa_cons (pv 7) (pa_cons (pe_bltn (v := .ty "ValueError") rfl G.b_ValueError (by decide +kernel) rfl) pa_nil))))))))
  (pss_one (ps_ret pe_bl))
  pss_nil)
  (pss_one (ps_if (pt_cmpR (op_neD (hu64 hr)) (pe_c (c_law_flags G) hr (by decide) rfl (pa_cons (pv 7) pa_nil)) (pe_lc (own := [("other", 9)]) rfl sc_law_main.nd (pi_range1 rfl G.b_range (pa_cons (pe_callB call_lenU rfl G.b_len (by decide +kernel) (pa_cons (pv 5) pa_nil)) pa_nil)) (blkOk_by (N := ["script", "bag", "thing", "told", "fields", "errors", "at", "e", "field", "other"]) (sc := defScope s_law_main) (by decide +kernel)) (fun _ _ _ _ _ => (pg_name (i := 9) sc_law_main.nd rfl (by first | exact Or.inl rfl | exact Or.inr rfl))) (fun _ _ _ _ _ => pts_nil) (fun _ _ _ _ _ => (pe_cmpR (op_eqD (hu64 hr)) (pv 6) (pv 9) (nomark _)))) (nomark _))
  (pss_one (ps_ret pe_bl))
  pss_nil))))
  (pss_cons (ps_for PassesOwn.never rfl (pi_seqU (pv 4)) (pg_name (i := 8) sc_law_main.nd rfl (by first | exact Or.inl rfl | exact Or.inr rfl))
  (pss_one (ps_if (L2.PW.pt (pw_or (pt_cmpR (op_neD (hu64 hr)) (pe_callB call_isi rfl G.b_isinstance (by decide +kernel) (pa_cons (pv 8) (pa_cons (pe_bltn (v := .ty "bool") rfl G.b_bool (by decide +kernel) rfl) pa_nil))) (pe_callB call_isi rfl G.b_isinstance (by decide +kernel) (pa_cons (pv 2) (pa_cons (pe_bltn (v := .ty "bool") rfl G.b_bool (by decide +kernel) rfl) pa_nil))) (nomark _)) (pw_or1 (pt_cmpR (op_neU (hu64 hr) (hu0 hr)) (pv 8) (pv 2) (nomark _)))))
  (pss_one (ps_ret pe_bl))
  pss_nil)))
  (pss_one (ps_ret (pe_cmpR (op_eqD (hu64 hr)) (pe_callB call_lenU rfl G.b_len (by decide +kernel) (pa_cons (pv 5) pa_nil)) pe_int (nomark _))))))))))
end LawK00
end
set_option maxHeartbeats 0
open PySem PySem.W PySem.Calls PyProof.Rows
theorem PySem.Challenge.cw_strangerspost_k00_errors_and_their_field_holds : PySem.Challenge.rw_strangerspost_k00_errors_and_their_field.Holds := by
  w_on; o_law
  refine HandSHeadRun.head_any (r := OpenLaw.row PySem.Challenge.rw_strangerspost_k00_errors_and_their_field) (q := view (OpenLaw.row PySem.Challenge.rw_strangerspost_k00_errors_and_their_field).prog [41]) (H := LawK00.hk) (ob := LawK00.ob) (M := 12000) (loose := LawK00.loose) (d := HandSHeadRun.topDef (OpenLaw.row PySem.Challenge.rw_strangerspost_k00_errors_and_their_field).prog 41) (kwd := []) LawK00.ob_eq
    (by kernel_rfl) (fun s => by kernel_rfl) LawK00.run (by kernel_rfl) (by kernel_rfl) (by kernel_rfl) (by rfl) (by first | assumption | decide +kernel) (by decide +kernel) ⟨rfl, rfl, rfl, rfl, rfl, by decide +kernel⟩ ?hw ?hc
  case hw => w_witness2
  case hc =>
    refine L2.walk_ofE (l := PySem.Challenge.rw_strangerspost_k00_errors_and_their_field) (n := 63) (k := 12) (x := "script") (CX := L2.CX0) rfl (by decide) (by kernel_rfl) ⟨rfl, by decide, by decide⟩ ?F (fun _ _ _ _ z => z)
    intro w mg fa h Y G hmg0
    obtain ⟨K, KX, c⟩ := Y
    have hmg : mg ("law" : PySem.Str) = some (.ref fa) := by
      have e : (HandSHeadRun.topDef (OpenLaw.row PySem.Challenge.rw_strangerspost_k00_errors_and_their_field).prog 41).name = ("law" : PySem.Str) := by kernel_rfl
      rw [← e]
      exact hmg0
    have T := LawK00.gx_of KX G c
    obtain ⟨f, fd, F, hf⟩ := T.f_law_main
    obtain rfl : fa = f := by
      have e := hmg.symm.trans hf
      cases e
      rfl
    have b := L2.FunD.bindsA (ps := ["script"]) F fun _ _ _ _ _ _ us hl => match us, hl with | [_], _ => rfl
    refine ⟨K, fd, LawK00.spLaw K, KX, fun s v => b s [v] rfl, fun H a ns hl _ hS => ⟨a, ns, rfl, hS, Nat.le_trans hl (by decide), fun _ => rfl⟩, fun base _ _ => ?_⟩
    exact LawK00.ok_law T F
