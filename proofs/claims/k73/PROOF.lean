import PyProof.Rows.All
import Wide.All
import OpenK.AllK
import Wide.FinOn
import HandS.ForMost
import HandS.Flow
import HandS.TupAny
import HandS.Conv
import KE.KDictKeyed
import KE.KeyNested
import KE.DataCmp
import KE.DataMinMax
import KE.DataMinKey
import KE.SortData
import KE.DataEq
import HandS.IsInst
import KE.DataAny
import HandS.TupSets
import HandS.SortKw
import HandS.Style
import KE.KRevSl
import PySem.Challenge.RW_choicesalike_k73_shadow
set_option Elab.async false
set_option linter.all false
set_option maxRecDepth 100000
set_option maxHeartbeats 4000000
/-! DL1: values as plain data over the hand layer: frozen heaps, slots, the readings of expressions and statements. -/
namespace DL
open PySem PySem.Spec PyProof.Rows L2

abbrev D := PyData
/-- what the data hang on beside the heap -/
structure Pm where
  P : Program
  w : World
  K : PySem.W.Frag
abbrev pmOf (X : Cx) : Pm := ⟨X.prog, X.w, X.K⟩

/-! ### heaps that grow: G is the frozen part of H -/
structure Gr (G H G' H' : Hp) : Prop where
  g : Same G G'
  s : Same G' H'
  h : Same H H'
  n : ∀ a o, H a = some o → G a = none → G' a = none
theorem Gr.refl {G H : Hp} (s : Same G H) : Gr G H G H := ⟨Same.refl _, s, Same.refl _, fun _ _ _ h => h⟩
theorem Gr.trans {G H G1 H1 G2 H2 : Hp} (a : Gr G H G1 H1) (b : Gr G1 H1 G2 H2) : Gr G H G2 H2 :=
  ⟨a.g.trans b.g, b.s, a.h.trans b.h, fun c o h1 h2 => b.n c o (a.h c o h1) (a.n c o h1 h2)⟩
theorem same_upd {H : Hp} {p : Addr} {o : HO} (h : H p = none) : Same H (upd H p o) := fun b x e => by
  rw [upd_ne (ne_of_none e h)]
  exact e
/-- a new object, frozen at once -/
theorem Gr.new {G H : Hp} (s : Same G H) {p : Addr} (o : HO) (h : H p = none) : Gr G H (upd G p o) (upd H p o) where
  g := same_upd (s.free h)
  s := fun b x e => by
    by_cases hb : b = p
    · subst hb; rw [upd_same] at e ⊢; exact e
    · rw [upd_ne hb] at e ⊢; exact s b x e
  h := same_upd h
  n := fun a x e1 e2 => by rw [upd_ne (ne_of_none e1 h)]; exact e2
/-- a new object that is not frozen -/
theorem Gr.own {G H : Hp} (s : Same G H) {p : Addr} (o : HO) (h : H p = none) : Gr G H G (upd H p o) :=
  ⟨Same.refl _, s.trans (same_upd h), same_upd h, fun _ _ _ e => e⟩
/-- an object of H that was new is frozen now -/
theorem Gr.freeze {G H G' H' : Hp} (g : Gr G H G' H') {p : Addr} {o : HO} (h : H p = none) (h' : H' p = some o) (hn : G' p = none) : Gr G H (upd G' p o) H' where
  g := g.g.trans (same_upd hn)
  s := fun b x e => by
    by_cases hb : b = p
    · subst hb; rw [upd_same] at e; rw [← e]; exact h'
    · rw [upd_ne hb] at e; exact g.s b x e
  h := g.h
  n := fun a x e1 e2 => by rw [upd_ne (ne_of_none e1 h)]; exact g.n a x e1 e2

/-! ### data in a frozen heap -/
theorem Same.sqt {K : PySem.W.Frag} {H H' : Hp} {a : Addr} {xs : List V} (e : Same H H') (h : SqT K H a xs) : SqT K H' a xs := by
  rcases h with (h | ⟨o, h⟩) | h
  · exact .inl (.inl (e _ _ h))
  · exact .inl (.inr ⟨o, e _ _ h⟩)
  · exact .inr h
mutual
/-- the value v is the datum d, lists and tuples in G (lists tracked) -/
inductive Dq (K : PySem.W.Frag) (G : Hp) : V → D → Prop
  | non : Dq K G .non .none
  | bl (b : Bool) : Dq K G (.bl b) (.bool b)
  | int (i : Int) : Dq K G (.int i) (.int i)
  | str (x : Str) : Dq K G (.str x) (.str x)
  | lst {a : Addr} {xs : List V} {ds : List D} : G a = some (.lst xs) → DqAll K G xs ds → Dq K G (.ref a) (.list ds)
  | tup {a : Addr} {xs : List V} {ds : List D} : SqT K G a xs → DqAll K G xs ds → Dq K G (.ref a) (.tuple ds)
inductive DqAll (K : PySem.W.Frag) (G : Hp) : List V → List D → Prop
  | nil : DqAll K G [] []
  | cons {v : V} {vs : List V} {d : D} {ds : List D} : Dq K G v d → DqAll K G vs ds → DqAll K G (v :: vs) (d :: ds)
end
mutual
theorem Dq.up {K : PySem.W.Frag} {G G' : Hp} (s : Same G G') : ∀ (d : D) (v : V), Dq K G v d → Dq K G' v d
  | _, _, .non => .non
  | _, _, .bl b => .bl b
  | _, _, .int i => .int i
  | _, _, .str x => .str x
  | _, _, .lst h t => .lst (s _ _ h) (DqAll.up s _ _ t)
  | _, _, .tup h t => .tup (DL.Same.sqt s h) (DqAll.up s _ _ t)
theorem DqAll.up {K : PySem.W.Frag} {G G' : Hp} (s : Same G G') : ∀ (ds : List D) (vs : List V), DqAll K G vs ds → DqAll K G' vs ds
  | _, _, .nil => .nil
  | _, _, .cons h t => .cons (Dq.up s _ _ h) (DqAll.up s _ _ t)
end
mutual
theorem Dq.toDp {K : PySem.W.Frag} {G : Hp} : ∀ (d : D) (v : V), Dq K G v d → Dp K G v d
  | _, _, .non => .non
  | _, _, .bl b => .bl b
  | _, _, .int i => .int i
  | _, _, .str x => .str x
  | _, _, .lst h t => .lst (.inl (.inl h)) (DqAll.toDp _ _ t)
  | _, _, .tup h t => .tup h (DqAll.toDp _ _ t)
theorem DqAll.toDp {K : PySem.W.Frag} {G : Hp} : ∀ (ds : List D) (vs : List V), DqAll K G vs ds → DpAll K G vs ds
  | _, _, .nil => .nil
  | _, _, .cons h t => .cons (Dq.toDp _ _ h) (DqAll.toDp _ _ t)
end
theorem dpall_len {K : PySem.W.Frag} {G : Hp} : ∀ {ds : List D} {vs : List V}, DqAll K G vs ds → vs.length = ds.length
  | _, _, .nil => rfl
  | _, _, .cons _ t => congrArg (· + 1) (dpall_len t)
theorem dpall_at {K : PySem.W.Frag} {G : Hp} : ∀ {ds : List D} {vs : List V}, DqAll K G vs ds → ∀ {i : Nat} {v : V}, vs[i]? = some v → ∃ d, ds[i]? = some d ∧ Dq K G v d
  | _, _, .nil, i, v, h => by simp at h
  | _, _, .cons r t, 0, v, h => by simp at h; subst h; exact ⟨_, rfl, r⟩
  | _, _, .cons r t, i + 1, v, h => by
    obtain ⟨d, e, q⟩ := dpall_at t (i := i) (v := v) (by simpa using h)
    exact ⟨d, by simpa using e, q⟩
theorem dpall_at' {K : PySem.W.Frag} {G : Hp} : ∀ {ds : List D} {vs : List V}, DqAll K G vs ds → ∀ {i : Nat} {d : D}, ds[i]? = some d → ∃ v, vs[i]? = some v ∧ Dq K G v d
  | _, _, .nil, i, v, h => by simp at h
  | _, _, .cons r t, 0, v, h => by simp at h; subst h; exact ⟨_, rfl, r⟩
  | _, _, .cons r t, i + 1, v, h => by
    obtain ⟨d, e, q⟩ := dpall_at' t (i := i) (d := v) (by simpa using h)
    exact ⟨d, by simpa using e, q⟩
theorem dpall_app {K : PySem.W.Frag} {G : Hp} : ∀ {ds es : List D} {vs ws : List V}, DqAll K G vs ds → DqAll K G ws es → DqAll K G (vs ++ ws) (ds ++ es)
  | _, _, _, _, .nil, s => s
  | _, _, _, _, .cons r t, s => .cons r (dpall_app t s)
theorem dpall_take {K : PySem.W.Frag} {G : Hp} : ∀ {ds : List D} {vs : List V} (n : Nat), DqAll K G vs ds → DqAll K G (vs.take n) (ds.take n)
  | _, _, 0, _ => .nil
  | _, _, _ + 1, .nil => .nil
  | _, _, n + 1, .cons r t => .cons r (dpall_take n t)
theorem dpall_drop {K : PySem.W.Frag} {G : Hp} : ∀ {ds : List D} {vs : List V} (n : Nat), DqAll K G vs ds → DqAll K G (vs.drop n) (ds.drop n)
  | _, _, 0, r => r
  | _, _, _ + 1, .nil => .nil
  | _, _, n + 1, .cons _ t => dpall_drop n t
theorem dpall_set {K : PySem.W.Frag} {G : Hp} {d : D} {v : V} (r : Dq K G v d) : ∀ {ds : List D} {vs : List V} (i : Nat), DqAll K G vs ds → DqAll K G (vs.set i v) (ds.set i d)
  | _, _, _, .nil => .nil
  | _, _, 0, .cons _ t => .cons r t
  | _, _, i + 1, .cons q t => .cons q (dpall_set r i t)
theorem dpall_rev {K : PySem.W.Frag} {G : Hp} : ∀ {ds : List D} {vs : List V}, DqAll K G vs ds → DqAll K G vs.reverse ds.reverse
  | _, _, .nil => .nil
  | _, _, .cons r t => by
    rw [List.reverse_cons, List.reverse_cons]
    exact dpall_app (dpall_rev t) (.cons r .nil)
theorem dpall_rep {K : PySem.W.Frag} {G : Hp} {ds : List D} {vs : List V} (h : DqAll K G vs ds) : ∀ n : Nat, DqAll K G (List.replicate n vs).flatten (List.replicate n ds).flatten
  | 0 => .nil
  | n + 1 => by
    rw [List.replicate_succ, List.replicate_succ, List.flatten_cons, List.flatten_cons]
    exact dpall_app h (dpall_rep h n)
theorem dpall_ints {K : PySem.W.Frag} {G : Hp} : ∀ ns : List Int, DqAll K G (ns.map V.int) (ns.map PyData.int)
  | [] => .nil
  | n :: ns => .cons (.int n) (dpall_ints ns)
theorem dpall_bls {K : PySem.W.Frag} {G : Hp} : ∀ ns : List Bool, DqAll K G (ns.map V.bl) (ns.map PyData.bool)
  | [] => .nil
  | n :: ns => .cons (.bl n) (dpall_bls ns)
theorem ints_of {K : PySem.W.Frag} {G : Hp} : ∀ {ns : List Int} {vs : List V}, DqAll K G vs (ns.map PyData.int) → vs = ns.map V.int
  | [], _, h => by cases h; rfl
  | n :: ns, _, h => by
    cases h with
    | cons r t =>
      cases r
      rw [ints_of t]
      rfl
theorem bls_of {K : PySem.W.Frag} {G : Hp} : ∀ {ns : List Bool} {vs : List V}, DqAll K G vs (ns.map PyData.bool) → vs = ns.map V.bl
  | [], _, h => by cases h; rfl
  | n :: ns, _, h => by
    cases h with
    | cons r t =>
      cases r
      rw [bls_of t]
      rfl

/-! ### dicts: keys ints, or tuples (nested) of ints, texts, None -/
mutual
def nk : D → NestedKey
  | .none => .none
  | .bool b => .num (if b then 1 else 0)
  | .int i => .num i
  | .str x => .text x
  | .tuple ds => .tup (nks ds)
  | .list ds => .tup (nks ds)
  | .dict _ => .none
def nks : List D → List NestedKey
  | [] => []
  | d :: ds => nk d :: nks ds
end
/-- a dict with tuple keys as it stands at an address, the tuples themselves apart -/
def RawT (M : Pm) (d : Addr) (xs : List (NestedKey × Addr × Value)) (h : Heap) : Prop :=
  xs.length ≤ sizeLine ∧ (d == sysModules) = false ∧ ∃ o es ep, h.get? d = some o ∧ o.ExactDict ∧ o.data = .dict es ep ∧ es.toList = xs.map (entryOfKey (nestedKind M.P M.w)) ∧ (xs.map (·.1)).Nodup
def dtO (M : Pm) (d : Addr) (xs : List (NestedKey × Addr × Value)) : HO := .ext (RawT M d xs)
inductive PairK (M : Pm) (G : Hp) : List (Key × V) → List (D × D) → Prop
  | nil : PairK M G [] []
  | cons {i : Int} {v : V} {d : D} {r : List (Key × V)} {s : List (D × D)} : Dq M.K G v d → PairK M G r s → PairK M G ((.inl i, v) :: r) ((.int i, d) :: s)
inductive PairT (M : Pm) (G : Hp) : List (NestedKey × Addr × Value) → List (D × D) → Prop
  | nil : PairT M G [] []
  | cons {a : Addr} {u : Value} {v : V} {k d : D} {r : List (NestedKey × Addr × Value)} {s : List (D × D)} : Dq M.K G (.ref a) k → RelV v u → Dq M.K G v d → PairT M G r s → PairT M G ((nk k, a, u) :: r) ((k, d) :: s)
theorem PairK.up {M : Pm} {G G' : Hp} (s : Same G G') {r : List (Key × V)} {q : List (D × D)} (h : PairK M G r q) : PairK M G' r q := by
  induction h with
  | nil => exact .nil
  | cons a _ ih => exact .cons (Dq.up s _ _ a) ih
theorem PairT.up {M : Pm} {G G' : Hp} (s : Same G G') {r : List (NestedKey × Addr × Value)} {q : List (D × D)} (h : PairT M G r q) : PairT M G' r q := by
  induction h with
  | nil => exact .nil
  | cons a b c _ ih => exact .cons (Dq.up s _ _ a) b (Dq.up s _ _ c) ih

/-- what an object holds, its items in G -/
inductive At (M : Pm) (G : Hp) : Addr → HO → D → Prop
  | lst {a : Addr} {vs : List V} {ds : List D} : DqAll M.K G vs ds → At M G a (.lst vs) (.list ds)
  | dk {a : Addr} {r : List (Key × V)} {q : List (D × D)} : PairK M G r q → At M G a (.dK r) (.dict q)
  | dt {a : Addr} {r : List (NestedKey × Addr × Value)} {q : List (D × D)} : PairT M G r q → At M G a (dtO M a r) (.dict q)
theorem At.up {M : Pm} {G G' : Hp} (s : Same G G') {a : Addr} {o : HO} {d : D} (h : At M G a o d) : At M G' a o d := by
  cases h with
  | lst h => exact .lst (DqAll.up s _ _ h)
  | dk h => exact .dk (h.up s)
  | dt h => exact .dt (h.up s)

/-- the law's script as a datum: a list that is read alone -/
def scrD (ns : List Int) : D := .dict [(.none, .list (ns.map PyData.int))]
/-- the value v is d, all of it frozen -/
inductive Da (M : Pm) (G : Hp) : V → D → Prop
  | dp {v : V} {d : D} : Dq M.K G v d → Da M G v d
  | scr {a : Addr} {ns : List Int} : SqL M.K G a (ns.map V.int) → Da M G (.ref a) (scrD ns)
  | at {a : Addr} {o : HO} {d : D} : G a = some o → At M G a o d → Da M G (.ref a) d
theorem Da.up {M : Pm} {G G' : Hp} (s : Same G G') {v : V} {d : D} (h : Da M G v d) : Da M G' v d := by
  cases h with
  | dp h => exact .dp (Dq.up s _ _ h)
  | scr h => exact .scr (Same.seq s h)
  | «at» e h => exact .at (s _ _ e) (h.up s)
/-- .. or its outermost object is one of H's that may still change -/
inductive Db (M : Pm) (G H : Hp) : V → D → Prop
  | da {v : V} {d : D} : Da M G v d → Db M G H v d
  | at {a : Addr} {o : HO} {d : D} : H a = some o → At M G a o d → Db M G H (.ref a) d
theorem Db.up {M : Pm} {G H G' H' : Hp} (g : Gr G H G' H') {v : V} {d : D} (h : Db M G H v d) : Db M G' H' v d := by
  cases h with
  | da h => exact .da (h.up g.g)
  | «at» e h => exact .at (g.h _ _ e) (h.up g.g)
/-- no dict in it -/
def noD : D → Bool
  | .dict _ => false
  | _ => true
theorem Da.toDq {M : Pm} {G : Hp} {v : V} {d : D} (h : Da M G v d) (n : noD d = true) : Dq M.K G v d := by
  cases h with
  | dp h => exact h
  | scr h => exact absurd (show false = true from n) Bool.false_ne_true
  | «at» e h =>
    cases h with
    | lst h => exact .lst e h
    | dk _ => exact absurd (show false = true from n) Bool.false_ne_true
    | dt _ => exact absurd (show false = true from n) Bool.false_ne_true
/-- no dict in it: it can be read in H -/
theorem Db.toDp {M : Pm} {G H : Hp} (s : Same G H) {v : V} {d : D} (h : Db M G H v d) (n : noD d = true) : Dp M.K H v d := by
  cases h with
  | da h => exact Dq.toDp _ _ (Dq.up s _ _ (h.toDq n))
  | «at» e h =>
    cases h with
    | lst h => exact .lst (.inl (.inl e)) (DqAll.toDp _ _ (DqAll.up s _ _ h))
    | dk _ => exact absurd (show false = true from n) Bool.false_ne_true
    | dt _ => exact absurd (show false = true from n) Bool.false_ne_true
theorem Db.toDq {M : Pm} {G H : Hp} (s : Same G H) {v : V} {d : D} (h : Db M G H v d) (n : noD d = true) : Dq M.K H v d := by
  cases h with
  | da h => exact Dq.up s _ _ (h.toDq n)
  | «at» e h =>
    cases h with
    | lst h => exact .lst e (DqAll.up s _ _ h)
    | dk _ => exact absurd (show false = true from n) Bool.false_ne_true
    | dt _ => exact absurd (show false = true from n) Bool.false_ne_true
theorem Da.int {M : Pm} {G : Hp} {v : V} {i : Int} (h : Da M G v (.int i)) : v = .int i := by
  cases h.toDq rfl
  rfl
theorem Da.bl {M : Pm} {G : Hp} {v : V} {b : Bool} (h : Da M G v (.bool b)) : v = .bl b := by
  cases h.toDq rfl
  rfl
theorem Da.non {M : Pm} {G : Hp} {v : V} (h : Da M G v .none) : v = .non := by
  cases h.toDq rfl
  rfl
theorem Da.str {M : Pm} {G : Hp} {v : V} {x : Str} (h : Da M G v (.str x)) : v = .str x := by
  cases h.toDq rfl
  rfl
theorem Db.int {M : Pm} {G H : Hp} {v : V} {i : Int} (h : Db M G H v (.int i)) : v = .int i := by
  cases h with
  | da h => exact h.int
  | «at» _ h => cases h
theorem Db.bl {M : Pm} {G H : Hp} {v : V} {b : Bool} (h : Db M G H v (.bool b)) : v = .bl b := by
  cases h with
  | da h => exact h.bl
  | «at» _ h => cases h
theorem Db.non {M : Pm} {G H : Hp} {v : V} (h : Db M G H v .none) : v = .non := by
  cases h with
  | da h => exact h.non
  | «at» _ h => cases h
theorem Db.str {M : Pm} {G H : Hp} {v : V} {x : Str} (h : Db M G H v (.str x)) : v = .str x := by
  cases h with
  | da h => exact h.str
  | «at» _ h => cases h
/-- a list that is read: where it stands, its items frozen -/
theorem Db.list {M : Pm} {G H : Hp} (s : Same G H) {v : V} {ds : List D} (h : Db M G H v (.list ds)) : ∃ a vs, v = .ref a ∧ H a = some (.lst vs) ∧ DqAll M.K G vs ds := by
  cases h with
  | da h =>
    cases h.toDq rfl with
    | lst h' t => exact ⟨_, _, rfl, s _ _ h', t⟩
  | «at» e h =>
    cases h with
    | lst h => exact ⟨_, _, rfl, e, h⟩
theorem Da.tup {M : Pm} {G : Hp} {v : V} {ds : List D} (h : Da M G v (.tuple ds)) : ∃ a vs, v = .ref a ∧ SqT M.K G a vs ∧ DqAll M.K G vs ds := by
  cases h.toDq rfl with
  | tup h' t => exact ⟨_, _, rfl, h', t⟩
theorem Db.tup {M : Pm} {G H : Hp} (s : Same G H) {v : V} {ds : List D} (h : Db M G H v (.tuple ds)) : ∃ a vs, v = .ref a ∧ SqT M.K G a vs ∧ SqT M.K H a vs ∧ DqAll M.K G vs ds := by
  cases h with
  | da h =>
    obtain ⟨a, vs, e, q, t⟩ := h.tup
    exact ⟨a, vs, e, q, DL.Same.sqt s q, t⟩
  | «at» e h => cases h
theorem Da.list {M : Pm} {G : Hp} {v : V} {ds : List D} (h : Da M G v (.list ds)) : ∃ a vs, v = .ref a ∧ G a = some (.lst vs) ∧ DqAll M.K G vs ds := by
  cases h.toDq rfl with
  | lst h' t => exact ⟨_, _, rfl, h', t⟩
/-- .. the script too: as a sequence -/
theorem Db.scr {M : Pm} {G H : Hp} (s : Same G H) {v : V} {ds : List D} (h : Db M G H v (.dict [(.none, .list ds)])) : ∃ a vs, v = .ref a ∧ SqL M.K H a vs ∧ DqAll M.K G vs ds := by
  have no : ∀ {a : Addr} {o : HO}, ¬ At M G a o (.dict [(.none, .list ds)]) := fun {a o} h => by
    cases h with
    | dk h => cases h
    | dt h =>
      cases h with
      | cons h => cases h
  cases h with
  | da h =>
    cases h with
    | dp h => cases h
    | scr h => exact ⟨_, _, rfl, Same.seq s h, dpall_ints _⟩
    | «at» e h => exact (no h).elim
  | «at» e h => exact (no h).elim
theorem da_int {M : Pm} {G : Hp} (i : Int) : Da M G (.int i) (.int i) := .dp (.int i)
theorem da_bl {M : Pm} {G : Hp} (b : Bool) : Da M G (.bl b) (.bool b) := .dp (.bl b)
theorem da_non {M : Pm} {G : Hp} : Da M G .non .none := .dp .non
theorem da_tup {M : Pm} {G : Hp} {a : Addr} {vs : List V} {ds : List D} (h : SqT M.K G a vs) (t : DqAll M.K G vs ds) : Da M G (.ref a) (.tuple ds) := .dp (.tup h t)
theorem da_lst {M : Pm} {G : Hp} {a : Addr} {vs : List V} {ds : List D} (h : G a = some (.lst vs)) (t : DqAll M.K G vs ds) : Da M G (.ref a) (.list ds) := .dp (.lst h t)

/-! ### slots -/
inductive Sl where
  | un | dat (d : D) | own (d : D)
abbrev En := List Sl
def SlotOk (M : Pm) (H0 G H : Hp) (a : Addr) : Option Sl → Option (Option V) → Prop
  | some (.dat d), s => ∃ v, s = some (some v) ∧ Da M G v d
  | some (.own d), s => s = some (some (.ref a)) ∧ G a = none ∧ H0 a = none ∧ ∃ o, H a = some o ∧ At M G a o d
  | _, _ => True
def isOwn : Option Sl → Prop
  | some (.own _) => True
  | _ => False
/-- σ, H hold ρ; B: the heaps at the def's entry -/
structure Rep (M : Pm) (B : Hp × Hp) (ρ : En) (G : Hp) (σ : L2.St) (H : Hp) : Prop where
  gr : Gr B.1 B.2 G H
  len : σ.length = ρ.length
  slot : ∃ O : Nat → Addr, (∀ i, SlotOk M B.2 G H (O i) (ρ[i]?) (σ[i]?)) ∧ ∀ i j, isOwn (ρ[i]?) → isOwn (ρ[j]?) → O i = O j → i = j
section
variable {M : Pm} {B : Hp × Hp} {ρ : En} {G H G' H' : Hp} {σ : L2.St}
theorem SlotOk.up {H0 : Hp} (g : Gr G H G' H') {a : Addr} {x : Option Sl} {s : Option (Option V)} (h : SlotOk M H0 G H a x s) : SlotOk M H0 G' H' a x s := by
  match x, h with
  | some (.dat d), ⟨v, e, q⟩ => exact ⟨v, e, q.up g.g⟩
  | some (.own d), ⟨e, h1, h2, o, h3, h4⟩ => exact ⟨e, g.n _ _ h3 h1, h2, o, g.h _ _ h3, h4.up g.g⟩
  | some .un, _ => exact trivial
  | none, _ => exact trivial
theorem Rep.s (R : Rep M B ρ G σ H) : Same G H := R.gr.s
theorem Rep.up (R : Rep M B ρ G σ H) (g : Gr G H G' H') : Rep M B ρ G' σ H' := by
  obtain ⟨O, h1, h2⟩ := R.slot
  exact ⟨R.gr.trans g, R.len, O, fun i => (h1 i).up g, h2⟩
/-- a slot gets a frozen value -/
theorem Rep.set (R : Rep M B ρ G σ H) (i : Nat) {v : V} {d : D} (h : Da M G v d) : Rep M B (ρ.set i (.dat d)) G (σ.set i (some v)) H := by
  obtain ⟨O, h1, h2⟩ := R.slot
  refine ⟨R.gr, by rw [List.length_set, List.length_set]; exact R.len, O, fun j => ?_, fun j k hj hk e => ?_⟩
  · by_cases hj : i = j
    · subst hj
      by_cases hl : i < ρ.length
      · rw [List.getElem?_set_self hl, List.getElem?_set_self (by rw [R.len]; exact hl)]
        exact ⟨v, rfl, h⟩
      · rw [List.getElem?_eq_none (by rw [List.length_set]; omega)]
        trivial
    · rw [List.getElem?_set_ne hj, List.getElem?_set_ne hj]
      exact h1 j
  · have no : ∀ m, isOwn ((ρ.set i (.dat d))[m]?) → isOwn (ρ[m]?) := fun m hm => by
      by_cases z : i = m
      · subst z
        by_cases hl : i < ρ.length
        · rw [List.getElem?_set_self hl] at hm; exact hm.elim
        · rw [List.getElem?_eq_none (by rw [List.length_set]; omega)] at hm; exact hm.elim
      · rw [List.getElem?_set_ne z] at hm; exact hm
    exact h2 j k (no j hj) (no k hk) e
/-- a slot is forgotten -/
theorem Rep.wipe1 (R : Rep M B ρ G σ H) (i : Nat) : Rep M B (ρ.set i .un) G σ H := by
  obtain ⟨O, h1, h2⟩ := R.slot
  refine ⟨R.gr, by rw [List.length_set]; exact R.len, O, fun j => ?_, fun j k hj hk e => ?_⟩
  · by_cases hj : i = j
    · subst hj
      by_cases hl : i < ρ.length
      · rw [List.getElem?_set_self hl]; trivial
      · rw [List.getElem?_eq_none (by rw [List.length_set]; omega)]; trivial
    · rw [List.getElem?_set_ne hj]
      exact h1 j
  · have no : ∀ m, isOwn ((ρ.set i .un)[m]?) → isOwn (ρ[m]?) := fun m hm => by
      by_cases z : i = m
      · subst z
        by_cases hl : i < ρ.length
        · rw [List.getElem?_set_self hl] at hm; exact hm.elim
        · rw [List.getElem?_eq_none (by rw [List.length_set]; omega)] at hm; exact hm.elim
      · rw [List.getElem?_set_ne z] at hm; exact hm
    exact h2 j k (no j hj) (no k hk) e
/-- .. on the side of the values too -/
theorem Rep.wipeV (R : Rep M B ρ G σ H) (i : Nat) (x : Option V) : Rep M B (ρ.set i .un) G (σ.set i x) H := by
  obtain ⟨O, h1, h2⟩ := R.slot
  refine ⟨R.gr, by rw [List.length_set, List.length_set]; exact R.len, O, fun j => ?_, (R.wipe1 i).slot.elim fun _ _ => fun j k hj hk e => ?_⟩
  · by_cases hj : i = j
    · subst hj
      by_cases hl : i < ρ.length
      · rw [List.getElem?_set_self hl]; trivial
      · rw [List.getElem?_eq_none (by rw [List.length_set]; omega)]; trivial
    · rw [List.getElem?_set_ne hj, List.getElem?_set_ne hj]
      exact h1 j
  · have no : ∀ m, isOwn ((ρ.set i .un)[m]?) → isOwn (ρ[m]?) := fun m hm => by
      by_cases z : i = m
      · subst z
        by_cases hl : i < ρ.length
        · rw [List.getElem?_set_self hl] at hm; exact hm.elim
        · rw [List.getElem?_eq_none (by rw [List.length_set]; omega)] at hm; exact hm.elim
      · rw [List.getElem?_set_ne z] at hm; exact hm
    exact h2 j k (no j hj) (no k hk) e
/-- a slot gets an object of its own: H0 is a heap ahead of it -/
theorem Rep.setOwn {H0 : Hp} (R : Rep M B ρ G σ H0) (g : Gr G H0 G' H') (i : Nat) {a : Addr} {o : HO} {d : D} (hn : H0 a = none) (hg : G' a = none) (ho : H' a = some o) (h : At M G' a o d) : Rep M B (ρ.set i (.own d)) G' (σ.set i (some (.ref a))) H' := by
  have R' := R.up g
  obtain ⟨O, h1, h2⟩ := R.slot
  have apart : ∀ j, isOwn (ρ[j]?) → O j ≠ a := fun j hj e => by
    have q := h1 j
    match hx : ρ[j]?, hj with
    | some (.own d'), _ =>
      rw [hx] at q
      obtain ⟨_, _, _, o', h3, _⟩ := q
      rw [e, hn] at h3
      cases h3
  have h1' : ∀ j, SlotOk M B.2 G' H' (O j) (ρ[j]?) (σ[j]?) := fun j => (h1 j).up g
  refine ⟨R'.gr, by rw [List.length_set, List.length_set]; exact R.len, fun j => if j = i then a else O j, fun j => ?_, fun j k hj hk e => ?_⟩
  · by_cases hj : i = j
    · subst hj
      by_cases hl : i < ρ.length
      · rw [List.getElem?_set_self hl, List.getElem?_set_self (by rw [R.len]; exact hl)]
        simp only [if_true]
        refine ⟨rfl, hg, ?_, o, ho, h⟩
        cases q : B.2 a with
        | none => rfl
        | some z => rw [R.gr.h _ _ q] at hn; cases hn
      · rw [List.getElem?_eq_none (by rw [List.length_set]; omega)]
        trivial
    · rw [List.getElem?_set_ne hj, List.getElem?_set_ne hj]
      show SlotOk M B.2 G' H' (if j = i then a else O j) _ _
      rw [if_neg (fun z : j = i => hj z.symm)]
      exact h1' j
  · have own' : ∀ m, m ≠ i → isOwn ((ρ.set i (.own d))[m]?) → isOwn (ρ[m]?) := fun m hm hx => by
      rw [List.getElem?_set_ne (fun z => hm z.symm)] at hx; exact hx
    by_cases z1 : j = i
    · by_cases z2 : k = i
      · rw [z1, z2]
      · dsimp only at e
        rw [if_pos z1, if_neg z2] at e
        exact absurd e.symm (apart k (own' k z2 hk))
    · by_cases z2 : k = i
      · dsimp only at e
        rw [if_neg z1, if_pos z2] at e
        exact absurd e (apart j (own' j z1 hj))
      · dsimp only at e
        rw [if_neg z1, if_neg z2] at e
        exact h2 j k (own' j z1 hj) (own' k z2 hk) e
/-- the object that a slot owns -/
theorem Rep.owned (R : Rep M B ρ G σ H) {i : Nat} {d : D} (e : ρ[i]? = some (.own d)) : ∃ a o, σ[i]? = some (some (.ref a)) ∧ G a = none ∧ B.2 a = none ∧ H a = some o ∧ At M G a o d ∧
    ∀ o' d', At M G a o' d' → Rep M B (ρ.set i (.own d')) G σ (upd H a o') := by
  obtain ⟨O, h1, h2⟩ := R.slot
  have q := h1 i
  rw [e] at q
  obtain ⟨q1, q2, q3, o, q4, q5⟩ := q
  refine ⟨O i, o, q1, q2, q3, q4, q5, fun o' d' h' => ?_⟩
  have hs : Same G (upd H (O i) o') := fun b x z => by
    have nb : b ≠ O i := fun t => by rw [t, q2] at z; cases z
    rw [upd_ne nb]
    exact R.s b x z
  have own' : ∀ m, isOwn ((ρ.set i (.own d'))[m]?) → isOwn (ρ[m]?) := fun m hx => by
    by_cases z : m = i
    · subst z; rw [e]; trivial
    · rw [List.getElem?_set_ne (fun t => z t.symm)] at hx; exact hx
  refine ⟨⟨R.gr.g, hs, fun b x z => ?_, R.gr.n⟩, by rw [List.length_set]; exact R.len, O, fun j => ?_, fun j k hj hk => h2 j k (own' j hj) (own' k hk)⟩
  · have nb : b ≠ O i := fun t => by rw [t, q3] at z; cases z
    rw [upd_ne nb]
    exact R.gr.h b x z
  · by_cases hj : i = j
    · subst hj
      have hl : i < ρ.length := (List.getElem?_eq_some_iff.mp e).1
      rw [List.getElem?_set_self hl]
      exact ⟨q1, q2, q3, o', upd_same, h'⟩
    · rw [List.getElem?_set_ne hj]
      have r := h1 j
      match hx : ρ[j]?, r with
      | some (.dat d2), r => exact r
      | some (.own d2), ⟨r1, r2, r3, o2, r4, r5⟩ =>
        have nj : O j ≠ O i := fun z => hj (h2 i j (by rw [e]; trivial) (by rw [hx]; trivial) z.symm)
        exact ⟨r1, r2, r3, o2, by rw [upd_ne nj]; exact r4, r5⟩
      | some .un, _ => trivial
      | none, _ => trivial
/-- a slot's own object is frozen -/
theorem Rep.frz (R : Rep M B ρ G σ H) {i : Nat} {d : D} (e : ρ[i]? = some (.own d)) : ∃ G', Same G G' ∧ Rep M B (ρ.set i (.dat d)) G' σ H := by
  obtain ⟨O, h1, h2⟩ := R.slot
  have q := h1 i
  rw [e] at q
  obtain ⟨q1, q2, q3, o, q4, q5⟩ := q
  have hg : Same G (upd G (O i) o) := same_upd q2
  have own' : ∀ m, isOwn ((ρ.set i (.dat d))[m]?) → m ≠ i ∧ isOwn (ρ[m]?) := fun m hx => by
    by_cases z : m = i
    · subst z
      rw [List.getElem?_set_self (List.getElem?_eq_some_iff.mp e).1] at hx; exact hx.elim
    · rw [List.getElem?_set_ne (fun t => z t.symm)] at hx; exact ⟨z, hx⟩
  refine ⟨upd G (O i) o, hg, ⟨R.gr.g.trans hg, fun b x z => ?_, R.gr.h, fun b x z1 z2 => ?_⟩, by rw [List.length_set]; exact R.len, O, fun j => ?_, fun j k hj hk => h2 j k (own' j hj).2 (own' k hk).2⟩
  · by_cases hb : b = O i
    · subst hb; rw [upd_same] at z; rw [← z]; exact q4
    · rw [upd_ne hb] at z; exact R.s b x z
  · have nb : b ≠ O i := fun t => by rw [t, q3] at z1; cases z1
    rw [upd_ne nb]; exact R.gr.n b x z1 z2
  · by_cases hj : i = j
    · subst hj
      rw [List.getElem?_set_self (List.getElem?_eq_some_iff.mp e).1]
      exact ⟨_, q1, .at upd_same (q5.up hg)⟩
    · rw [List.getElem?_set_ne hj]
      have r := h1 j
      match hx : ρ[j]?, r with
      | some (.dat d2), ⟨v, r1, r2⟩ => exact ⟨v, r1, r2.up hg⟩
      | some (.own d2), ⟨r1, r2, r3, o2, r4, r5⟩ =>
        have nj : O j ≠ O i := fun z => hj (h2 i j (by rw [e]; trivial) (by rw [hx]; trivial) z.symm)
        exact ⟨r1, by rw [upd_ne nj]; exact r2, r3, o2, r4, r5.up hg⟩
      | some .un, _ => trivial
      | none, _ => trivial
theorem Rep.dat (R : Rep M B ρ G σ H) {i : Nat} {d : D} (e : ρ[i]? = some (.dat d)) : ∃ v, σ[i]? = some (some v) ∧ Da M G v d := by
  obtain ⟨O, h1, _⟩ := R.slot
  have q := h1 i
  rw [e] at q
  exact q
end
end DL

/-! DL2: the readings, expressions. -/
namespace DL
open PySem PySem.Spec PyProof.Rows L2

theorem PE.mono {X : Cx} {e : Expr} {t t' : TE} (h : PE X e t) (m : ∀ σ H Q, t' σ H Q → t σ H Q) : PE X e t' := ⟨fun pins s σ H Q I q => h.run pins s σ H Q I (m σ H Q q)⟩
theorem PT.mono {X : Cx} {e : Expr} {t t' : TT} (h : PT X e t) (m : ∀ σ H Q, t' σ H Q → t σ H Q) : PT X e t' := ⟨fun pins s σ H Q I q => h.run pins s σ H Q I (m σ H Q q)⟩
theorem PA.mono {X : Cx} {e : List Expr} {t t' : TA} (h : PA X e t) (m : ∀ σ H Q, t' σ H Q → t σ H Q) : PA X e t' := ⟨fun pos pins s σ H Q I q => h.run pos pins s σ H Q I (m σ H Q q)⟩

/-! ### what is wanted of a datum -/
def KF (M : Pm) (G H : Hp) (d : D) (Q : VK) : Prop := ∀ u G' H', Gr G H G' H' → Da M G' u d → Q u H'
def KB (M : Pm) (G H : Hp) (d : D) (Q : VK) : Prop := ∀ u G' H', Gr G H G' H' → Db M G' H' u d → Q u H'
def KN (M : Pm) (G H : Hp) (d : D) (Q : VK) : Prop := ∀ a ob G' H', Gr G H G' H' → H a = none → G' a = none → H' a = some ob → At M G' a ob d → Q (.ref a) H'
section
variable {M : Pm} {G H : Hp} {d : D} {Q : VK}
theorem KF.n (h : KF M G H d Q) : KN M G H d Q := fun a ob G' H' g h1 h2 h3 h4 => h _ (upd G' a ob) H' (g.freeze h1 h3 h2) (.at upd_same (h4.up (same_upd h2)))
theorem KB.f (h : KB M G H d Q) : KF M G H d Q := fun u G' H' g q => h u G' H' g (.da q)
theorem KB.n (h : KB M G H d Q) : KN M G H d Q := fun a ob G' H' g h1 h2 h3 h4 => h _ G' H' g (.at h3 h4)
theorem KF.tr {G1 H1 : Hp} (h : KF M G H d Q) (g : Gr G H G1 H1) : KF M G1 H1 d Q := fun u G' H' g' q => h u G' H' (g.trans g') q
theorem KB.tr {G1 H1 : Hp} (h : KB M G H d Q) (g : Gr G H G1 H1) : KB M G1 H1 d Q := fun u G' H' g' q => h u G' H' (g.trans g') q
theorem KN.tr {G1 H1 : Hp} (h : KN M G H d Q) (g : Gr G H G1 H1) : KN M G1 H1 d Q := fun a ob G' H' g' h1 h2 h3 h4 => h a ob G' H' (g.trans g') (Same.free g.h h1) h2 h3 h4
/-- a value that needs no heap -/
theorem KF.flat (s : Same G H) (h : KF M G H d Q) {v : V} (q : Da M G v d) : Q v H := h v G H (Gr.refl s) q
/-- a new tuple -/
theorem KF.tup {ds : List D} {vs : List V} {p : Addr} (s : Same G H) (h : KF M G H (.tuple ds) Q) (hp : H p = none) (q : DqAll M.K G vs ds) : Q (.ref p) (upd H p (.tup vs)) :=
  h _ (upd G p (.tup vs)) _ (Gr.new s _ hp) (da_tup (.inl (.inl upd_same)) (DqAll.up (same_upd (s.free hp)) _ _ q))
/-- a new list -/
theorem KN.lst {ds : List D} {vs : List V} {p : Addr} (s : Same G H) (h : KN M G H (.list ds) Q) (hp : H p = none) (q : DqAll M.K G vs ds) : Q (.ref p) (upd H p (.lst vs)) :=
  h _ _ G _ (Gr.own s _ hp) hp (s.free hp) upd_same (.lst q)
end

/-! ### the readings -/
def tF (M : Pm) (F : En → Option D) : TE := fun σ H Q => ∃ B ρ G d, Rep M B ρ G σ H ∧ F ρ = some d ∧ KF M G H d Q
def tB (M : Pm) (F : En → Option D) : TE := fun σ H Q => ∃ B ρ G d, Rep M B ρ G σ H ∧ F ρ = some d ∧ KB M G H d Q
def tN (M : Pm) (F : En → Option D) : TE := fun σ H Q => ∃ B ρ G d, Rep M B ρ G σ H ∧ F ρ = some d ∧ KN M G H d Q
def tT (M : Pm) (C : En → Option Bool) : TT := fun σ H Q => ∃ B ρ G b, Rep M B ρ G σ H ∧ C ρ = some b ∧ ∀ G' H', Gr G H G' H' → Q b H'
/-- argument lists -/
def tFs (M : Pm) (Fs : En → Option (List D)) : TA := fun σ H Q => ∃ B ρ G ds, Rep M B ρ G σ H ∧ Fs ρ = some ds ∧ ∀ us G' H', Gr G H G' H' → Paired (Da M G') us ds → Q us H'
def tBs (M : Pm) (Fs : En → Option (List D)) : TA := fun σ H Q => ∃ B ρ G ds, Rep M B ρ G σ H ∧ Fs ρ = some ds ∧ ∀ us G' H', Gr G H G' H' → Paired (Db M G' H') us ds → Q us H'

section
variable {X : Cx} {e : Expr} {F : En → Option D}
theorem PE.fb {M : Pm} (h : PE X e (tF M F)) : PE X e (tB M F) := PE.mono h fun _ _ _ ⟨B, ρ, G, d, R, e, k⟩ => ⟨B, ρ, G, d, R, e, k.f⟩
theorem PE.nb {M : Pm} (h : PE X e (tN M F)) : PE X e (tB M F) := PE.mono h fun _ _ _ ⟨B, ρ, G, d, R, e, k⟩ => ⟨B, ρ, G, d, R, e, k.n⟩
theorem PE.nf {M : Pm} (h : PE X e (tN M F)) : PE X e (tF M F) := PE.mono h fun _ _ _ ⟨B, ρ, G, d, R, e, k⟩ => ⟨B, ρ, G, d, R, e, k.n⟩
end

/-! ### D's operations -/
def sz : Nat := 16777216
theorem sz_line : sz = sizeLine := sizeLine_eq.symm
def bin (o : D → D → Option D) (F1 F2 : En → Option D) : En → Option D := fun ρ => (F1 ρ).bind fun x => (F2 ρ).bind fun y => o x y
def una (o : D → Option D) (F : En → Option D) : En → Option D := fun ρ => (F ρ).bind o
def varF (i : Nat) : En → Option D := fun ρ => match ρ[i]? with | some (.dat d) => some d | _ => none
def ownF (i : Nat) : En → Option D := fun ρ => match ρ[i]? with | some (.dat d) => some d | some (.own d) => some d | _ => none
def cF (d : D) : En → Option D := fun _ => some d
def consF (F : En → Option D) (Fs : En → Option (List D)) : En → Option (List D) := fun ρ => (F ρ).bind fun d => (Fs ρ).bind fun ds => some (d :: ds)
def nilF : En → Option (List D) := fun _ => some []
def asB : D → Option Bool
  | .bool b => some b
  | _ => none
def trD : D → Option Bool
  | .bool b => some b
  | .int i => some (i != 0)
  | .none => some false
  | .list xs => some (!xs.isEmpty)
  | .tuple xs => some (!xs.isEmpty)
  | .str x => if x.length ≤ sz then some ((x.length : Int) != 0) else none
  | .dict _ => none
def boolT (F : En → Option D) : En → Option Bool := fun ρ => (F ρ).bind asB
def truT (F : En → Option D) : En → Option Bool := fun ρ => (F ρ).bind trD
def andT (C1 C2 : En → Option Bool) : En → Option Bool := fun ρ => (C1 ρ).bind fun b => if b = true then C2 ρ else some false
def orT (C1 C2 : En → Option Bool) : En → Option Bool := fun ρ => (C1 ρ).bind fun b => if b = true then some true else C2 ρ
def notT (C : En → Option Bool) : En → Option Bool := fun ρ => (C ρ).bind fun b => some (!b)
def andF (F1 F2 : En → Option D) : En → Option D := fun ρ => (boolT F1 ρ).bind fun b => if b = true then F2 ρ else some (.bool false)
def orF (F1 F2 : En → Option D) : En → Option D := fun ρ => (boolT F1 ρ).bind fun b => if b = true then some (.bool true) else F2 ρ
def notF (F : En → Option D) : En → Option D := fun ρ => (boolT F ρ).bind fun b => some (.bool (!b))
def ifF (C : En → Option Bool) (F1 F2 : En → Option D) : En → Option D := fun ρ => (C ρ).bind fun b => if b = true then F1 ρ else F2 ρ

def addD : D → D → Option D
  | .int i, .int j => some (.int (i + j))
  | .tuple xs, .tuple ys => if xs.length + ys.length ≤ sz then some (.tuple (xs ++ ys)) else none
  | .list xs, .list ys => if xs.length + ys.length ≤ sz then some (.list (xs ++ ys)) else none
  | _, _ => none
def subD : D → D → Option D
  | .int i, .int j => some (.int (i - j))
  | _, _ => none
def mulD : D → D → Option D
  | .int i, .int j => if i.natAbs < 2 ^ 64 ∨ j.natAbs < 2 ^ 64 then some (.int (i * j)) else none
  | .list xs, .int k => if -(2 ^ 63) ≤ k ∧ k < 2 ^ 63 ∧ xs.length * k.toNat ≤ sz then some (.list (List.replicate k.toNat xs).flatten) else none
  | _, _ => none
def fdivD : D → D → Option D
  | .int i, .int j => if j ≠ 0 ∧ j.natAbs < 1073741824 then some (.int (i.fdiv j)) else none
  | _, _ => none
def modD : D → D → Option D
  | .int i, .int j => if j ≠ 0 then some (.int (i.fmod j)) else none
  | _, _ => none
def powD : D → D → Option D
  | .int i, .int j => if 0 ≤ j ∧ j ≤ 1000000 ∧ i.natAbs < 2 ^ 64 then some (.int (i ^ j.toNat)) else none
  | _, _ => none
def shlD : D → D → Option D
  | .int i, .int j => if 0 ≤ j ∧ j ≤ 1000000 ∧ i.natAbs < 2 ^ 64 then some (.int (i * 2 ^ j.toNat)) else none
  | _, _ => none
def shrD : D → D → Option D
  | .int i, .int j => if 0 ≤ j then some (.int (i / 2 ^ j.toNat)) else none
  | _, _ => none
def bandD : D → D → Option D
  | .int i, .int j => some (.int (Builtin.bitAnd i j))
  | _, _ => none
def borD : D → D → Option D
  | .int i, .int j => some (.int (Builtin.bitOr i j))
  | _, _ => none
def bxorD : D → D → Option D
  | .int i, .int j => some (.int (Builtin.bitXor i j))
  | _, _ => none
def negD : D → Option D
  | .int i => some (.int (-i))
  | _ => none
def invD : D → Option D
  | .int i => some (.int (Builtin.bitNot i))
  | _ => none
/-- deep at most 60 -/
def okd (d : D) : Bool := decide (d.depth ≤ 60)
def eqD (x y : D) : Option D := if noD x = true ∧ noD y = true ∧ (okd x = true ∨ okd y = true) then some (.bool (PyData.eqv x y)) else none
def neD (x y : D) : Option D := if noD x = true ∧ noD y = true ∧ (okd x = true ∨ okd y = true) then some (.bool (!PyData.eqv x y)) else none
def isNoD : D → Bool
  | .none => true
  | _ => false
def cmpOk (x y : D) : Prop := noD x = true ∧ noD y = true ∧ okd x = true ∧ PySem.W.alike x y = true ∧ isNoD x = false
instance (x y : D) : Decidable (cmpOk x y) := by unfold cmpOk; infer_instance
def ltD (x y : D) : Option D := if cmpOk x y then some (.bool (PySem.W.dataLt x y)) else none
def gtD (x y : D) : Option D := if cmpOk x y then some (.bool (PySem.W.dataLt y x)) else none
def leD (x y : D) : Option D := if cmpOk x y then some (.bool (!PySem.W.dataLt y x)) else none
def geD (x y : D) : Option D := if cmpOk x y then some (.bool (!PySem.W.dataLt x y)) else none
def isNonD (x y : D) : Option D := match y with | .none => some (.bool (isNoD x)) | _ => none
def notNonD (x y : D) : Option D := match y with | .none => some (.bool (!isNoD x)) | _ => none
def itemsD : D → Option (List D)
  | .list xs => some xs
  | .tuple xs => some xs
  | _ => none
def inD (x c : D) : Option D := (itemsD c).bind fun xs => if noD x = true ∧ okd x = true then some (.bool (xs.any fun y => PyData.eqv y x)) else none
def ninD (x c : D) : Option D := (itemsD c).bind fun xs => if noD x = true ∧ okd x = true then some (.bool (!(xs.any fun y => PyData.eqv y x))) else none
def idxD (c i : D) : Option D := match c, i with
  | .list xs, .int i => atI xs i
  | .tuple xs, .int i => atI xs i
  | .dict [(.none, .list xs)], .int i => atI xs i
  | _, _ => none

/-! ### names, constants -/
section
variable {X : Cx}
theorem fv (i : Nat) {x : Str} {pos : Pos} (hN : X.N[i]? = some x := by rfl) (hv : Vis X.env.scope x := by first | exact Or.inl rfl | exact Or.inr (Or.inl rfl) | exact Or.inr (Or.inr rfl)) (hd : (x == ("__debug__" : Str)) = false := by decide)
    (hcd : (x == ("__classdict__" : Str)) = false := by decide) : PE X (.Name x pos) (tF (pmOf X) (varF i)) := by
  refine PE.mono (pe_var (i := i) hN hv hd hcd) fun σ H Q ⟨B, ρ, G, d, R, e, k⟩ => ?_
  have e' : ρ[i]? = some (.dat d) := by
    unfold varF at e
    split at e
    · rename_i d' h; cases e; exact h
    · cases e
  obtain ⟨v, h1, h2⟩ := R.dat e'
  exact ⟨v, h1, KF.flat R.s k h2⟩
theorem bv (i : Nat) {x : Str} {pos : Pos} (hN : X.N[i]? = some x := by rfl) (hv : Vis X.env.scope x := by first | exact Or.inl rfl | exact Or.inr (Or.inl rfl) | exact Or.inr (Or.inr rfl)) (hd : (x == ("__debug__" : Str)) = false := by decide)
    (hcd : (x == ("__classdict__" : Str)) = false := by decide) : PE X (.Name x pos) (tB (pmOf X) (ownF i)) := by
  refine PE.mono (pe_var (i := i) hN hv hd hcd) fun σ H Q ⟨B, ρ, G, d, R, e, k⟩ => ?_
  have e' : ρ[i]? = some (.dat d) ∨ ρ[i]? = some (.own d) := by
    unfold ownF at e
    split at e
    · rename_i d' h; cases e; exact .inl h
    · rename_i d' h; cases e; exact .inr h
    · cases e
  rcases e' with e' | e'
  · obtain ⟨v, h1, h2⟩ := R.dat e'
    exact ⟨v, h1, k v G H (Gr.refl R.s) (.da h2)⟩
  · obtain ⟨a, o, h1, h2, h3, h4, h5, _⟩ := R.owned e'
    exact ⟨_, h1, k _ G H (Gr.refl R.s) (.at h4 h5)⟩
theorem const_imp {M : Pm} {v : V} {d : D} (h : ∀ G, Da M G v d) : ∀ σ H Q, tF M (cF d) σ H Q → tC v σ H Q := fun σ H Q ⟨B, ρ, G, d', R, e, k⟩ => by
  cases e
  exact KF.flat R.s k (h G)
theorem fint {i j pos} : PE X (.Constant (.int i) j pos) (tF (pmOf X) (cF (.int i))) := PE.mono pe_int (const_imp fun _ => da_int i)
theorem fbl {b j pos} : PE X (.Constant (.bool b) j pos) (tF (pmOf X) (cF (.bool b))) := PE.mono pe_bl (const_imp fun _ => da_bl b)
theorem fnon {j pos} : PE X (.Constant .none j pos) (tF (pmOf X) (cF .none)) := PE.mono pe_non (const_imp fun _ => da_non)
theorem fstr {x j pos} : PE X (.Constant (.str x) j pos) (tF (pmOf X) (cF (.str x))) := PE.mono pe_str (const_imp fun _ => .dp (.str x))

/-! ### two operands -/
def OkOp (M : Pm) (r : R2) (o : D → D → Option D) : Prop :=
  ∀ x y d, o x y = some d → ∀ G H v w Q, Same G H → Db M G H v x → Db M G H w y → KF M G H d Q → r v w H Q
def NewOp (M : Pm) (r : R2) (o : D → D → Option D) : Prop :=
  ∀ x y d, o x y = some d → ∀ G H v w Q, Same G H → Db M G H v x → Db M G H w y → KN M G H d Q → r v w H Q
theorem bin_imp {M : Pm} {r : R2} {o : D → D → Option D} {Fa Fb : En → Option D} (h : OkOp M r o) : ∀ σ H Q, tF M (bin o Fa Fb) σ H Q → tOp r (tB M Fa) (tB M Fb) σ H Q := by
  rintro σ H Q ⟨B, ρ, G, d, R, e, k⟩
  obtain ⟨x, e1, e⟩ := Option.bind_eq_some_iff.mp e
  obtain ⟨y, e2, e3⟩ := Option.bind_eq_some_iff.mp e
  refine ⟨B, ρ, G, x, R, e1, fun u G1 H1 g1 d1 => ⟨B, ρ, G1, y, R.up g1, e2, fun w G2 H2 g2 d2 => ?_⟩⟩
  exact h x y d e3 G2 H2 u w Q g2.s (d1.up g2) d2 (k.tr (g1.trans g2))
theorem binN_imp {M : Pm} {r : R2} {o : D → D → Option D} {Fa Fb : En → Option D} (h : NewOp M r o) : ∀ σ H Q, tN M (bin o Fa Fb) σ H Q → tOp r (tB M Fa) (tB M Fb) σ H Q := by
  rintro σ H Q ⟨B, ρ, G, d, R, e, k⟩
  obtain ⟨x, e1, e⟩ := Option.bind_eq_some_iff.mp e
  obtain ⟨y, e2, e3⟩ := Option.bind_eq_some_iff.mp e
  refine ⟨B, ρ, G, x, R, e1, fun u G1 H1 g1 d1 => ⟨B, ρ, G1, y, R.up g1, e2, fun w G2 H2 g2 d2 => ?_⟩⟩
  exact h x y d e3 G2 H2 u w Q g2.s (d1.up g2) d2 (k.tr (g1.trans g2))
variable {a b c : Expr} {pos : Pos} {Fa Fb Fc F : En → Option D}
theorem f_bin {op : Operator} {r : R2} {o : D → D → Option D} (ho : OpR X (binaryOp op) r) (hk : OkOp (pmOf X) r o) (ha : PE X a (tB (pmOf X) Fa)) (hb : PE X b (tB (pmOf X) Fb)) : PE X (.BinOp a op b pos) (tF (pmOf X) (bin o Fa Fb)) :=
  PE.mono (pe_op ho ha hb) (bin_imp hk)
theorem n_bin {op : Operator} {r : R2} {o : D → D → Option D} (ho : OpR X (binaryOp op) r) (hk : NewOp (pmOf X) r o) (ha : PE X a (tB (pmOf X) Fa)) (hb : PE X b (tB (pmOf X) Fb)) : PE X (.BinOp a op b pos) (tN (pmOf X) (bin o Fa Fb)) :=
  PE.mono (pe_op ho ha hb) (binN_imp hk)
/-- ints to an int -/
theorem ok_int {M : Pm} {C : Int → Int → Prop} {g : Int → Int → Int} {o : D → D → Option D} (h : ∀ x y d, o x y = some d → ∃ i j, x = .int i ∧ y = .int j ∧ C i j ∧ d = .int (g i j)) : OkOp M (rI C fun i j => .int (g i j)) o := by
  intro x y d e G H v w Q s hx hy k
  obtain ⟨i, j, rfl, rfl, hc, rfl⟩ := h x y d e
  exact ⟨i, j, hx.int, hy.int, hc, KF.flat s k (da_int _)⟩
theorem ok_int0 {M : Pm} {g : Int → Int → Int} {o : D → D → Option D} (h : ∀ x y d, o x y = some d → ∃ i j, x = .int i ∧ y = .int j ∧ d = .int (g i j)) : OkOp M (rI0 fun i j => .int (g i j)) o := by
  intro x y d e G H v w Q s hx hy k
  obtain ⟨i, j, rfl, rfl, rfl⟩ := h x y d e
  exact ⟨i, j, hx.int, hy.int, KF.flat s k (da_int _)⟩
def rAddA (K : PySem.W.Frag) : R2 := fun x y H Q => (rI0 (fun i j => .int (i + j)) x y H Q ∨ rCatA K x y H Q) ∨ rCat x y H Q
theorem op_addA : OpR X (binaryOp .Add) (rAddA X.K) := (op_add.or op_catA).or op_cat
theorem ok_add : OkOp (pmOf X) (rAddA X.K) addD := by
  intro x y d e G H v w Q s hx hy k
  match x, y, e with
  | .int i, .int j, e =>
    cases e
    exact .inl (.inl ⟨i, j, hx.int, hy.int, KF.flat s k (da_int _)⟩)
  | .tuple xs, .tuple ys, e =>
    have e' : (if xs.length + ys.length ≤ sz then some (PyData.tuple (xs ++ ys)) else none) = some d := e
    split at e'
    · rename_i hz
      cases e'
      obtain ⟨a, vs, rfl, g1, h1, t1⟩ := hx.tup s
      obtain ⟨b, ws, rfl, g2, h2, t2⟩ := hy.tup s
      refine .inl (.inr ⟨a, b, vs, ws, rfl, rfl, h1, h2, by rw [dpall_len t1, dpall_len t2, ← sz_line]; exact hz, fun z => ?_, fun _ z => ?_, fun _ _ p hp => KF.tup s k hp (dpall_app t1 t2)⟩)
      · subst z
        cases t1
        exact KF.flat s k (da_tup g2 t2)
      · subst z
        cases t2
        rw [List.append_nil] at k
        exact KF.flat s k (da_tup g1 t1)
    · cases e'
  | .list xs, .list ys, e =>
    have e' : (if xs.length + ys.length ≤ sz then some (PyData.list (xs ++ ys)) else none) = some d := e
    split at e'
    · rename_i hz
      cases e'
      obtain ⟨a, vs, rfl, h1, t1⟩ := hx.list s
      obtain ⟨b, ws, rfl, h2, t2⟩ := hy.list s
      exact .inr ⟨a, b, vs, ws, rfl, rfl, h1, h2, by rw [dpall_len t1, dpall_len t2, ← sz_line]; exact hz, fun p hp => KN.lst s k.n hp (dpall_app t1 t2)⟩
    · cases e'
theorem f_add (ha : PE X a (tB (pmOf X) Fa)) (hb : PE X b (tB (pmOf X) Fb)) : PE X (.BinOp a .Add b pos) (tF (pmOf X) (bin addD Fa Fb)) := f_bin op_addA ok_add ha hb
theorem f_sub (ha : PE X a (tB (pmOf X) Fa)) (hb : PE X b (tB (pmOf X) Fb)) : PE X (.BinOp a .Sub b pos) (tF (pmOf X) (bin subD Fa Fb)) :=
  f_bin op_sub (ok_int0 fun x y d e => by
    match x, y, e with
    | .int i, .int j, e => cases e; exact ⟨i, j, rfl, rfl, rfl⟩) ha hb
def rMulA : R2 := fun x y H Q => rI CMul (fun i j => .int (i * j)) x y H Q ∨ rRep x y H Q
theorem op_mulA : OpR X (binaryOp .Mult) rMulA := op_mul.or op_rep
theorem cmul_of {i j : Int} (h : i.natAbs < 2 ^ 64 ∨ j.natAbs < 2 ^ 64) : CMul i j := by
  rcases h with h | h
  · exact .inl ⟨by omega, by omega⟩
  · exact .inr ⟨by omega, by omega⟩
theorem ok_mul : OkOp (pmOf X) rMulA mulD := by
  intro x y d e G H v w Q s hx hy k
  match x, y, e with
  | .int i, .int j, e =>
    have e' : (if i.natAbs < 2 ^ 64 ∨ j.natAbs < 2 ^ 64 then some (PyData.int (i * j)) else none) = some d := e
    split at e'
    · rename_i hz
      cases e'
      exact .inl ⟨i, j, hx.int, hy.int, cmul_of hz, KF.flat s k (da_int _)⟩
    · cases e'
  | .list xs, .int j, e =>
    have e' : (if -(2 ^ 63) ≤ j ∧ j < 2 ^ 63 ∧ xs.length * j.toNat ≤ sz then some (PyData.list (List.replicate j.toNat xs).flatten) else none) = some d := e
    split at e'
    · rename_i hz
      cases e'
      obtain ⟨a, vs, rfl, h1, t1⟩ := hx.list s
      exact .inr ⟨a, j, vs, rfl, hy.int, h1, hz.1, hz.2.1, by rw [dpall_len t1, ← sz_line]; exact hz.2.2, fun p hp => KN.lst s k.n hp (dpall_rep t1 _)⟩
    · cases e'
theorem f_mul (ha : PE X a (tB (pmOf X) Fa)) (hb : PE X b (tB (pmOf X) Fb)) : PE X (.BinOp a .Mult b pos) (tF (pmOf X) (bin mulD Fa Fb)) := f_bin op_mulA ok_mul ha hb
/-- list * int, a new list -/
def repD : D → D → Option D
  | .list xs, .int k => if -(2 ^ 63) ≤ k ∧ k < 2 ^ 63 ∧ xs.length * k.toNat ≤ sz then some (.list (List.replicate k.toNat xs).flatten) else none
  | _, _ => none
theorem n_rep (ha : PE X a (tB (pmOf X) Fa)) (hb : PE X b (tB (pmOf X) Fb)) : PE X (.BinOp a .Mult b pos) (tN (pmOf X) (bin repD Fa Fb)) := by
  refine n_bin op_rep (fun x y d e G H v w Q s hx hy k => ?_) ha hb
  match x, y, e with
  | .list xs, .int j, e =>
    have e' : (if -(2 ^ 63) ≤ j ∧ j < 2 ^ 63 ∧ xs.length * j.toNat ≤ sz then some (PyData.list (List.replicate j.toNat xs).flatten) else none) = some d := e
    split at e'
    · rename_i hz
      cases e'
      obtain ⟨a, vs, rfl, h1, t1⟩ := hx.list s
      exact ⟨a, j, vs, rfl, hy.int, h1, hz.1, hz.2.1, by rw [dpall_len t1, ← sz_line]; exact hz.2.2, fun p hp => KN.lst s k hp (dpall_rep t1 _)⟩
    · cases e'
/-- list + list, a new list -/
def catD : D → D → Option D
  | .list xs, .list ys => if xs.length + ys.length ≤ sz then some (.list (xs ++ ys)) else none
  | _, _ => none
theorem n_cat (ha : PE X a (tB (pmOf X) Fa)) (hb : PE X b (tB (pmOf X) Fb)) : PE X (.BinOp a .Add b pos) (tN (pmOf X) (bin catD Fa Fb)) := by
  refine n_bin op_cat (fun x y d e G H v w Q s hx hy k => ?_) ha hb
  match x, y, e with
  | .list xs, .list ys, e =>
    have e' : (if xs.length + ys.length ≤ sz then some (PyData.list (xs ++ ys)) else none) = some d := e
    split at e'
    · rename_i hz
      cases e'
      obtain ⟨a, vs, rfl, h1, t1⟩ := hx.list s
      obtain ⟨b, ws, rfl, h2, t2⟩ := hy.list s
      exact ⟨a, b, vs, ws, rfl, rfl, h1, h2, by rw [dpall_len t1, dpall_len t2, ← sz_line]; exact hz, fun p hp => KN.lst s k hp (dpall_app t1 t2)⟩
    · cases e'
theorem if_some {α : Type} {c : Prop} [Decidable c] {x : α} {y : α} (e : (if c then some x else none) = some y) : c ∧ x = y := by
  split at e
  · exact ⟨by assumption, Option.some.inj e⟩
  · cases e
theorem f_fdiv (ha : PE X a (tB (pmOf X) Fa)) (hb : PE X b (tB (pmOf X) Fb)) : PE X (.BinOp a .FloorDiv b pos) (tF (pmOf X) (bin fdivD Fa Fb)) :=
  f_bin op_fdivN (ok_int fun x y d e => by
    match x, y, e with
    | .int i, .int j, e =>
      obtain ⟨h, rfl⟩ := if_some (show (if j ≠ 0 ∧ j.natAbs < 1073741824 then some (PyData.int (i.fdiv j)) else none) = some d from e)
      exact ⟨i, j, rfl, rfl, h, rfl⟩) ha hb
theorem f_mod (ha : PE X a (tB (pmOf X) Fa)) (hb : PE X b (tB (pmOf X) Fb)) : PE X (.BinOp a .Mod b pos) (tF (pmOf X) (bin modD Fa Fb)) :=
  f_bin op_modN (ok_int fun x y d e => by
    match x, y, e with
    | .int i, .int j, e =>
      obtain ⟨h, rfl⟩ := if_some (show (if j ≠ 0 then some (PyData.int (i.fmod j)) else none) = some d from e)
      exact ⟨i, j, rfl, rfl, h, rfl⟩) ha hb
theorem f_pow (ha : PE X a (tB (pmOf X) Fa)) (hb : PE X b (tB (pmOf X) Fb)) : PE X (.BinOp a .Pow b pos) (tF (pmOf X) (bin powD Fa Fb)) :=
  f_bin op_pow (ok_int fun x y d e => by
    match x, y, e with
    | .int i, .int j, e =>
      obtain ⟨h, rfl⟩ := if_some (show (if 0 ≤ j ∧ j ≤ 1000000 ∧ i.natAbs < 2 ^ 64 then some (PyData.int (i ^ j.toNat)) else none) = some d from e)
      exact ⟨i, j, rfl, rfl, h, rfl⟩) ha hb
theorem f_shl (ha : PE X a (tB (pmOf X) Fa)) (hb : PE X b (tB (pmOf X) Fb)) : PE X (.BinOp a .LShift b pos) (tF (pmOf X) (bin shlD Fa Fb)) :=
  f_bin op_shl (ok_int fun x y d e => by
    match x, y, e with
    | .int i, .int j, e =>
      obtain ⟨h, rfl⟩ := if_some (show (if 0 ≤ j ∧ j ≤ 1000000 ∧ i.natAbs < 2 ^ 64 then some (PyData.int (i * 2 ^ j.toNat)) else none) = some d from e)
      exact ⟨i, j, rfl, rfl, h, rfl⟩) ha hb
theorem f_shr (ha : PE X a (tB (pmOf X) Fa)) (hb : PE X b (tB (pmOf X) Fb)) : PE X (.BinOp a .RShift b pos) (tF (pmOf X) (bin shrD Fa Fb)) :=
  f_bin op_shr (ok_int fun x y d e => by
    match x, y, e with
    | .int i, .int j, e =>
      obtain ⟨h, rfl⟩ := if_some (show (if 0 ≤ j then some (PyData.int (i / 2 ^ j.toNat)) else none) = some d from e)
      exact ⟨i, j, rfl, rfl, h, rfl⟩) ha hb
theorem f_band (ha : PE X a (tB (pmOf X) Fa)) (hb : PE X b (tB (pmOf X) Fb)) : PE X (.BinOp a .BitAnd b pos) (tF (pmOf X) (bin bandD Fa Fb)) :=
  f_bin op_and (ok_int0 fun x y d e => by
    match x, y, e with
    | .int i, .int j, e => cases e; exact ⟨i, j, rfl, rfl, rfl⟩) ha hb
theorem f_bor (ha : PE X a (tB (pmOf X) Fa)) (hb : PE X b (tB (pmOf X) Fb)) : PE X (.BinOp a .BitOr b pos) (tF (pmOf X) (bin borD Fa Fb)) :=
  f_bin op_or (ok_int0 fun x y d e => by
    match x, y, e with
    | .int i, .int j, e => cases e; exact ⟨i, j, rfl, rfl, rfl⟩) ha hb
theorem f_bxor (ha : PE X a (tB (pmOf X) Fa)) (hb : PE X b (tB (pmOf X) Fb)) : PE X (.BinOp a .BitXor b pos) (tF (pmOf X) (bin bxorD Fa Fb)) :=
  f_bin op_xor (ok_int0 fun x y d e => by
    match x, y, e with
    | .int i, .int j, e => cases e; exact ⟨i, j, rfl, rfl, rfl⟩) ha hb
theorem una_imp {M : Pm} {g : Int → Int} {o : D → Option D} (h : ∀ x d, o x = some d → ∃ i, x = .int i ∧ d = .int (g i)) : ∀ σ H Q, tF M (una o Fa) σ H Q → tUn (rU fun i => .int (g i)) (tB M Fa) σ H Q := by
  rintro σ H Q ⟨B, ρ, G, d, R, e, k⟩
  obtain ⟨x, e1, e⟩ := Option.bind_eq_some_iff.mp e
  obtain ⟨i, rfl, rfl⟩ := h x d e
  exact ⟨B, ρ, G, _, R, e1, fun u G1 H1 g1 d1 => ⟨i, d1.int, KF.flat g1.s (k.tr g1) (da_int _)⟩⟩
theorem f_neg (ha : PE X a (tB (pmOf X) Fa)) : PE X (.UnaryOp .USub a pos) (tF (pmOf X) (una negD Fa)) :=
  PE.mono (pe_un un_neg ha) (una_imp fun x d e => by
    match x, e with
    | .int i, e => cases e; exact ⟨i, rfl, rfl⟩)
theorem f_inv (ha : PE X a (tB (pmOf X) Fa)) : PE X (.UnaryOp .Invert a pos) (tF (pmOf X) (una invD Fa)) :=
  PE.mono (pe_un un_inv ha) (una_imp fun x d e => by
    match x, e with
    | .int i, e => cases e; exact ⟨i, rfl, rfl⟩)

/-! ### comparisons -/
mutual
theorem dq_plain {K : PySem.W.Frag} {G : Hp} : ∀ (d : D) (v : V), Dq K G v d → d.plain = true
  | _, _, .non => rfl
  | _, _, .bl _ => rfl
  | _, _, .int _ => rfl
  | _, _, .str _ => rfl
  | .list ds, _, .lst _ t => by rw [PyData.plain]; exact dqs_plain _ _ t
  | .tuple ds, _, .tup _ t => by rw [PyData.plain]; exact dqs_plain _ _ t
theorem dqs_plain {K : PySem.W.Frag} {G : Hp} : ∀ (ds : List D) (vs : List V), DqAll K G vs ds → PyData.plainAll ds = true
  | _, _, .nil => rfl
  | _, _, .cons h t => by rw [PyData.plainAll, dq_plain _ _ h, dqs_plain _ _ t]; rfl
end
theorem okd_le {d : D} (h : okd d = true) : d.depth ≤ 60 := of_decide_eq_true h
/-- == of data -/
def rEqP (K : PySem.W.Frag) (f : Bool → Bool) : R2 := fun x y H Q => ∃ d e, Dp K H x d ∧ Dp K H y e ∧ d.plain = true ∧ e.plain = true ∧ min d.depth e.depth ≤ 60 ∧ Q (.bl (f (PyData.eqv d e))) H
theorem op_eqP (hu : X.A.units + 64 < cLine) : OpR X (compareOp .Eq) (rEqP X.K id) := by
  intro pins s σ H x y v u Q I rx ry h
  obtain ⟨d, e, hd, he, sd, se, hz, q⟩ := h
  obtain ⟨as, r1⟩ := L2.Dp.reads I d x v hd rx
  obtain ⟨bs, r2⟩ := L2.Dp.reads I e y u he ry
  exact PySem.SeqAt.eq_plain r1 r2 sd se (by omega) ⟨.bl _, H, I, rfl, q⟩
theorem op_neP (hu : X.A.units + 64 < cLine) : OpR X (compareOp .NotEq) (rEqP X.K not) := by
  intro pins s σ H x y v u Q I rx ry h
  obtain ⟨d, e, hd, he, sd, se, hz, q⟩ := h
  obtain ⟨as, r1⟩ := L2.Dp.reads I d x v hd rx
  obtain ⟨bs, r2⟩ := L2.Dp.reads I e y u he ry
  exact PySem.SeqAt.ne_plain r1 r2 sd se (by omega) ⟨.bl _, H, I, rfl, q⟩
theorem ok_eq {M : Pm} : OkOp M (rEqP M.K id) eqD := by
  intro x y d e G H v w Q s hx hy k
  obtain ⟨⟨n1, n2, h⟩, rfl⟩ := if_some (show (if noD x = true ∧ noD y = true ∧ (okd x = true ∨ okd y = true) then some (PyData.bool (PyData.eqv x y)) else none) = some d from e)
  refine ⟨x, y, hx.toDp s n1, hy.toDp s n2, dq_plain _ _ (hx.toDq s n1), dq_plain _ _ (hy.toDq s n2), ?_, KF.flat s k (da_bl _)⟩
  rcases h with h | h <;> have := okd_le h <;> omega
theorem ok_ne {M : Pm} : OkOp M (rEqP M.K not) neD := by
  intro x y d e G H v w Q s hx hy k
  obtain ⟨⟨n1, n2, h⟩, rfl⟩ := if_some (show (if noD x = true ∧ noD y = true ∧ (okd x = true ∨ okd y = true) then some (PyData.bool (!PyData.eqv x y)) else none) = some d from e)
  refine ⟨x, y, hx.toDp s n1, hy.toDp s n2, dq_plain _ _ (hx.toDq s n1), dq_plain _ _ (hy.toDq s n2), ?_, KF.flat s k (da_bl _)⟩
  rcases h with h | h <;> have := okd_le h <;> omega
def rCmpP (K : PySem.W.Frag) (f : D → D → Bool) : R2 := fun x y H Q => ∃ d e, Dp K H x d ∧ Dp K H y e ∧ PySem.W.alike d e = true ∧ d ≠ .none ∧ d.depth ≤ 60 ∧ Q (.bl (f d e)) H
theorem op_ltP (hu : X.A.units + 64 < cLine) : OpR X (compareOp .Lt) (rCmpP X.K fun d e => PySem.W.dataLt d e) := by
  intro pins s σ H x y v u Q I rx ry h
  obtain ⟨d, e, hd, he, ha, hn, hz, q⟩ := h
  obtain ⟨as, r1⟩ := L2.Dp.reads I d x v hd rx
  obtain ⟨bs, r2⟩ := L2.Dp.reads I e y u he ry
  exact PySem.W.lt_data r1 r2 ha hn (by omega) ⟨.bl _, H, I, rfl, q⟩
theorem op_gtP (hu : X.A.units + 64 < cLine) : OpR X (compareOp .Gt) (rCmpP X.K fun d e => PySem.W.dataLt e d) := by
  intro pins s σ H x y v u Q I rx ry h
  obtain ⟨d, e, hd, he, ha, hn, hz, q⟩ := h
  obtain ⟨as, r1⟩ := L2.Dp.reads I d x v hd rx
  obtain ⟨bs, r2⟩ := L2.Dp.reads I e y u he ry
  exact PySem.W.gt_data r1 r2 ha hn (by omega) ⟨.bl _, H, I, rfl, q⟩
theorem op_leP (hu : X.A.units + 64 < cLine) : OpR X (compareOp .LtE) (rCmpP X.K fun d e => !PySem.W.dataLt e d) := by
  intro pins s σ H x y v u Q I rx ry h
  obtain ⟨d, e, hd, he, ha, hn, hz, q⟩ := h
  obtain ⟨as, r1⟩ := L2.Dp.reads I d x v hd rx
  obtain ⟨bs, r2⟩ := L2.Dp.reads I e y u he ry
  exact PySem.W.le_data r1 r2 ha hn (by omega) ⟨.bl _, H, I, rfl, q⟩
theorem op_geP (hu : X.A.units + 64 < cLine) : OpR X (compareOp .GtE) (rCmpP X.K fun d e => !PySem.W.dataLt d e) := by
  intro pins s σ H x y v u Q I rx ry h
  obtain ⟨d, e, hd, he, ha, hn, hz, q⟩ := h
  obtain ⟨as, r1⟩ := L2.Dp.reads I d x v hd rx
  obtain ⟨bs, r2⟩ := L2.Dp.reads I e y u he ry
  exact PySem.W.ge_data r1 r2 ha hn (by omega) ⟨.bl _, H, I, rfl, q⟩
theorem ok_cmp {M : Pm} {f : D → D → Bool} : OkOp M (rCmpP M.K f) (fun x y => if cmpOk x y then some (.bool (f x y)) else none) := by
  intro x y d e G H v w Q s hx hy k
  obtain ⟨⟨n1, n2, h1, h2, h3⟩, rfl⟩ := if_some e
  exact ⟨x, y, hx.toDp s n1, hy.toDp s n2, h2, (fun z => by rw [z] at h3; cases h3), okd_le h1, KF.flat s k (da_bl _)⟩
theorem non_iff {M : Pm} {G H : Hp} {v : V} {x : D} (h : Db M G H v x) : decide (v = .non) = isNoD x := by
  cases h with
  | da h =>
    cases h with
    | dp h => cases h <;> rfl
    | scr h => rfl
    | «at» e h => cases h <;> rfl
  | «at» e h => cases h <;> rfl
theorem ok_isN {M : Pm} : OkOp M (fun x y H Q => y = .non ∧ Q (.bl (decide (x = .non))) H) isNonD := by
  intro x y d e G H v w Q s hx hy k
  match y, e with
  | .none, e =>
    cases e
    refine ⟨hy.non, ?_⟩
    rw [non_iff hx]
    exact KF.flat s k (da_bl _)
theorem ok_notN {M : Pm} : OkOp M (fun x y H Q => y = .non ∧ Q (.bl (!decide (x = .non))) H) notNonD := by
  intro x y d e G H v w Q s hx hy k
  match y, e with
  | .none, e =>
    cases e
    refine ⟨hy.non, ?_⟩
    rw [non_iff hx]
    exact KF.flat s k (da_bl _)
/-- x in c -/
def rInP (K : PySem.W.Frag) (f : Bool → Bool) : R2 := fun x y H Q => ∃ d c xs, (c = .list xs ∨ c = .tuple xs) ∧ Dp K H x d ∧ Dp K H y c ∧ PyData.plainAll xs = true ∧ d.plain = true ∧ d.depth ≤ 60 ∧ Q (.bl (f (xs.any fun y => PyData.eqv y d))) H
theorem op_inP (hu : X.A.units + 64 < cLine) : OpR X (compareOp .In) (rInP X.K id) := by
  intro pins s σ H x y v u Q I rx ry h
  obtain ⟨d, c, xs, hc, hd, he, sd, se, hz, q⟩ := h
  obtain ⟨as, r1⟩ := L2.Dp.reads I d x v hd rx
  obtain ⟨bs, r2⟩ := L2.Dp.reads I c y u he ry
  rcases hc with rfl | rfl
  · exact PySem.SeqAt.in_list_data r2 r1 sd se (by omega) ⟨.bl _, H, I, rfl, q⟩
  · exact PySem.SeqAt.in_tuple_data r2 r1 sd se (by omega) ⟨.bl _, H, I, rfl, q⟩
theorem op_ninP (hu : X.A.units + 64 < cLine) : OpR X (compareOp .NotIn) (rInP X.K not) := by
  intro pins s σ H x y v u Q I rx ry h
  obtain ⟨d, c, xs, hc, hd, he, sd, se, hz, q⟩ := h
  obtain ⟨as, r1⟩ := L2.Dp.reads I d x v hd rx
  obtain ⟨bs, r2⟩ := L2.Dp.reads I c y u he ry
  rcases hc with rfl | rfl
  · exact PySem.SeqAt.notIn_list_data r2 r1 sd se (by omega) ⟨.bl _, H, I, rfl, q⟩
  · exact PySem.SeqAt.notIn_tuple_data r2 r1 sd se (by omega) ⟨.bl _, H, I, rfl, q⟩
theorem ok_inP {M : Pm} {f : Bool → Bool} : OkOp M (rInP M.K f) (fun x c => (itemsD c).bind fun xs => if noD x = true ∧ okd x = true then some (.bool (f (xs.any fun y => PyData.eqv y x))) else none) := by
  intro x c d e G H v w Q s hx hy k
  obtain ⟨xs, e1, e⟩ := Option.bind_eq_some_iff.mp e
  obtain ⟨⟨n1, n2⟩, rfl⟩ := if_some e
  have fin : ∀ (c : D), (c = .list xs ∨ c = .tuple xs) → noD c = true → Db M G H w c → rInP M.K f v w H Q := fun c hc hn hy => by
    have p := dq_plain _ _ (hy.toDq s hn)
    refine ⟨x, c, xs, hc, hx.toDp s n1, hy.toDp s hn, ?_, dq_plain _ _ (hx.toDq s n1), okd_le n2, KF.flat s k (da_bl _)⟩
    rcases hc with rfl | rfl
    · rw [PyData.plain] at p; exact p
    · rw [PyData.plain] at p; exact p
  match c, e1, hy with
  | .list ys, e1, hy => cases e1; exact fin _ (.inl rfl) rfl hy
  | .tuple ys, e1, hy => cases e1; exact fin _ (.inr rfl) rfl hy
theorem f_cmp {op : CmpOp} {r : R2} {o : D → D → Option D} (ho : OpR X (compareOp op) r) (hk : OkOp (pmOf X) r o) (ha : PE X a (tB (pmOf X) Fa)) (hb : PE X b (tB (pmOf X) Fb)) (hm : behindInMarks op b = false) : PE X (.Compare a [op] [b] pos) (tF (pmOf X) (bin o Fa Fb)) :=
  PE.mono (pe_cmpR ho ha hb hm) (bin_imp hk)
theorem test_imp {M : Pm} {t : TE} {F : En → Option D} (h : ∀ σ H Q, tF M F σ H Q → t σ H Q) : ∀ σ H Q, tT M (boolT F) σ H Q → tTest t σ H Q := by
  rintro σ H Q ⟨B, ρ, G, b, R, e, k⟩
  obtain ⟨x, e1, e⟩ := Option.bind_eq_some_iff.mp e
  match x, e with
  | .bool c, e =>
    cases e
    exact h σ H _ ⟨B, ρ, G, _, R, e1, fun u G' H' g d => ⟨b, d.bl, k G' H' g⟩⟩
theorem t_cmp {op : CmpOp} {r : R2} {o : D → D → Option D} (ho : OpR X (compareOp op) r) (hk : OkOp (pmOf X) r o) (ha : PE X a (tB (pmOf X) Fa)) (hb : PE X b (tB (pmOf X) Fb)) (hm : behindInMarks op b = false) : PT X (.Compare a [op] [b] pos) (tT (pmOf X) (boolT (bin o Fa Fb))) :=
  PT.mono (pt_cmpR ho ha hb hm) (test_imp (bin_imp hk))
/-- a chain of two -/
def chF (o o' : D → D → Option D) (Fa Fb Fc : En → Option D) : En → Option D := fun ρ => (Fa ρ).bind fun x => (Fb ρ).bind fun y => (o x y).bind fun r => (asB r).bind fun k => if k = true then (Fc ρ).bind fun z => o' y z else some (.bool false)
theorem chain_imp {M : Pm} {r r' : R2} {o o' : D → D → Option D} (h : OkOp M r o) (h' : OkOp M r' o') : ∀ σ H Q, tF M (chF o o' Fa Fb Fc) σ H Q → tChain r r' (tB M Fa) (tB M Fb) (tB M Fc) σ H Q := by
  rintro σ H Q ⟨B, ρ, G, d, R, e, k⟩
  obtain ⟨x, e1, e⟩ := Option.bind_eq_some_iff.mp e
  obtain ⟨y, e2, e⟩ := Option.bind_eq_some_iff.mp e
  obtain ⟨q, e3, e⟩ := Option.bind_eq_some_iff.mp e
  obtain ⟨c, e4, e⟩ := Option.bind_eq_some_iff.mp e
  refine ⟨B, ρ, G, x, R, e1, fun u G1 H1 g1 d1 => ⟨B, ρ, G1, y, R.up g1, e2, fun w G2 H2 g2 d2 => ?_⟩⟩
  refine h x y q e3 G2 H2 u w _ g2.s (d1.up g2) d2 fun z G3 H3 g3 d3 => ?_
  have eq : q = .bool c := by
    match q, e4 with
    | .bool b, e4 => cases e4; rfl
  subst eq
  refine ⟨c, d3.bl, ?_⟩
  cases c with
  | false =>
    have e' : some (PyData.bool false) = some d := e
    cases e'
    exact KF.flat g3.s (k.tr ((g1.trans g2).trans g3)) (da_bl _)
  | true =>
    obtain ⟨z, e5, e6⟩ := Option.bind_eq_some_iff.mp (show ((Fc ρ).bind fun z => o' y z) = some d from e)
    refine ⟨B, ρ, G3, z, R.up ((g1.trans g2).trans g3), e5, fun w' G4 H4 g4 d4 => ?_⟩
    exact h' y z d e6 G4 H4 w w' Q g4.s ((d2.up g3).up g4) d4 (k.tr (((g1.trans g2).trans g3).trans g4))
theorem f_chain {op op' : CmpOp} {r r' : R2} {o o' : D → D → Option D} (ho : OpR X (compareOp op) r) (hk : OkOp (pmOf X) r o) (ho' : OpR X (compareOp op') r') (hk' : OkOp (pmOf X) r' o') (ha : PE X a (tB (pmOf X) Fa)) (hb : PE X b (tB (pmOf X) Fb)) (hc : PE X c (tB (pmOf X) Fc))
    (hm : lastMarks [op, op'] [b, c] = false := by with_unfolding_all rfl) : PE X (.Compare a [op, op'] [b, c] pos) (tF (pmOf X) (chF o o' Fa Fb Fc)) := PE.mono (pe_chain ho ho' ha hb hc hm) (chain_imp hk hk')
theorem t_chain {op op' : CmpOp} {r r' : R2} {o o' : D → D → Option D} (ho : OpR X (compareOp op) r) (hk : OkOp (pmOf X) r o) (ho' : OpR X (compareOp op') r') (hk' : OkOp (pmOf X) r' o') (ha : PE X a (tB (pmOf X) Fa)) (hb : PE X b (tB (pmOf X) Fb)) (hc : PE X c (tB (pmOf X) Fc))
    (hm : lastMarks [op, op'] [b, c] = false := by with_unfolding_all rfl) : PT X (.Compare a [op, op'] [b, c] pos) (tT (pmOf X) (boolT (chF o o' Fa Fb Fc))) := PT.mono (pt_chain ho ho' ha hb hc hm) (test_imp (chain_imp hk hk'))

/-! ### tests -/
variable {C C1 C2 : En → Option Bool} {rest : List Expr}
theorem tru_of {M : Pm} {G H : Hp} (s : Same G H) {v : V} {x : D} {k : Bool} (h : Db M G H v x) (e : trD x = some k) : TruV M.K v H k := by
  cases x with
  | bool b =>
    rw [h.bl]
    exact (Option.some.inj e).symm
  | int i =>
    rw [h.int]
    exact (Option.some.inj e).symm
  | none =>
    rw [h.non]
    exact (Option.some.inj e).symm
  | str z =>
    obtain ⟨h1, h2⟩ := if_some e
    rw [h.str]
    exact ⟨Nat.le_trans h1 (Nat.le_of_eq sz_line), h2.symm⟩
  | list xs =>
    obtain ⟨a, vs, rfl, h1, t⟩ := h.list s
    refine .inl ⟨vs, .inl (.inl h1), (Option.some.inj e).symm.trans ?_⟩
    cases t <;> rfl
  | tuple xs =>
    obtain ⟨a, vs, rfl, h1, h2, t⟩ := h.tup s
    refine .inr (.inl ⟨vs, h2, (Option.some.inj e).symm.trans ?_⟩)
    cases t <;> rfl
  | dict kvs => cases e
theorem t_tru (ha : PE X a (tB (pmOf X) Fa)) (he : ∀ whole, isTrue a X.env whole = (do let v ← whole; standAt a.pos; holding [v] (truthy v)) := by intro _; rfl) : PT X a (tT (pmOf X) (truT Fa)) := by
  refine PT.mono (pt_truth ha he) ?_
  rintro σ H Q ⟨B, ρ, G, b, R, e, k⟩
  obtain ⟨x, e1, e⟩ := Option.bind_eq_some_iff.mp e
  exact ⟨B, ρ, G, x, R, e1, fun u G' H' g d => ⟨b, tru_of g.s d e, k G' H' g⟩⟩
theorem PW.mono {e : Expr} {t t' : TT} (h : PW X e t) (m : ∀ σ H Q, t' σ H Q → t σ H Q) : PW X e t' := ⟨fun wh pins s σ H Q I q => h.run wh pins s σ H Q I (m σ H Q q)⟩
theorem w_and1 (ha : PT X a (tT (pmOf X) C1)) : PW X (.BoolOp .And [a] pos) (tT (pmOf X) C1) := pw_and1 ha
theorem w_or1 (ha : PT X a (tT (pmOf X) C1)) : PW X (.BoolOp .Or [a] pos) (tT (pmOf X) C1) := pw_or1 ha
theorem w_and (ha : PT X a (tT (pmOf X) C1)) (hb : PW X (.BoolOp .And (b :: rest) pos) (tT (pmOf X) C2)) : PW X (.BoolOp .And (a :: b :: rest) pos) (tT (pmOf X) (andT C1 C2)) := by
  refine PW.mono (pw_and ha hb) ?_
  rintro σ H Q ⟨B, ρ, G, k, R, e, q⟩
  obtain ⟨c, e1, e⟩ := Option.bind_eq_some_iff.mp e
  refine ⟨B, ρ, G, c, R, e1, fun G' H' g => ?_⟩
  cases c with
  | true => exact ⟨B, ρ, G', k, R.up g, e, fun G2 H2 g2 => q G2 H2 (g.trans g2)⟩
  | false =>
    have e' : some false = some k := e
    cases e'
    exact q G' H' g
theorem w_or (ha : PT X a (tT (pmOf X) C1)) (hb : PW X (.BoolOp .Or (b :: rest) pos) (tT (pmOf X) C2)) : PW X (.BoolOp .Or (a :: b :: rest) pos) (tT (pmOf X) (orT C1 C2)) := by
  refine PW.mono (pw_or ha hb) ?_
  rintro σ H Q ⟨B, ρ, G, k, R, e, q⟩
  obtain ⟨c, e1, e⟩ := Option.bind_eq_some_iff.mp e
  refine ⟨B, ρ, G, c, R, e1, fun G' H' g => ?_⟩
  cases c with
  | false => exact ⟨B, ρ, G', k, R.up g, e, fun G2 H2 g2 => q G2 H2 (g.trans g2)⟩
  | true =>
    have e' : some true = some k := e
    cases e'
    exact q G' H' g
theorem t_not (ha : PT X a (tT (pmOf X) C)) : PT X (.UnaryOp .Not a pos) (tT (pmOf X) (notT C)) := by
  refine PT.mono (pt_not ha) ?_
  rintro σ H Q ⟨B, ρ, G, k, R, e, q⟩
  obtain ⟨c, e1, e⟩ := Option.bind_eq_some_iff.mp e
  cases e
  exact ⟨B, ρ, G, c, R, e1, q⟩
theorem bl_of {x : D} {b : Bool} (e : asB x = some b) : x = .bool b := by
  match x, e with
  | .bool c, e => cases e; rfl
theorem f_one {op} (h : PE X a (tF (pmOf X) Fa)) : PE X (.BoolOp op [a] pos) (tF (pmOf X) Fa) := pe_one h
theorem f_and (ha : PE X a (tF (pmOf X) Fa)) (hb : PE X (.BoolOp .And (b :: rest) pos) (tF (pmOf X) Fb)) : PE X (.BoolOp .And (a :: b :: rest) pos) (tF (pmOf X) (andF Fa Fb)) := by
  refine PE.mono (pe_and ha hb) ?_
  rintro σ H Q ⟨B, ρ, G, d, R, e, k⟩
  obtain ⟨c, e1, e⟩ := Option.bind_eq_some_iff.mp e
  obtain ⟨x, e0, e1⟩ := Option.bind_eq_some_iff.mp e1
  cases bl_of e1
  refine ⟨B, ρ, G, _, R, e0, fun u G' H' g q => ⟨c, q.bl, ?_⟩⟩
  cases c with
  | true => exact ⟨B, ρ, G', d, R.up g, e, k.tr g⟩
  | false =>
    have e' : some (PyData.bool false) = some d := e
    cases e'
    exact KF.flat g.s (k.tr g) (da_bl _)
theorem f_or (ha : PE X a (tF (pmOf X) Fa)) (hb : PE X (.BoolOp .Or (b :: rest) pos) (tF (pmOf X) Fb)) : PE X (.BoolOp .Or (a :: b :: rest) pos) (tF (pmOf X) (orF Fa Fb)) := by
  refine PE.mono (pe_or ha hb) ?_
  rintro σ H Q ⟨B, ρ, G, d, R, e, k⟩
  obtain ⟨c, e1, e⟩ := Option.bind_eq_some_iff.mp e
  obtain ⟨x, e0, e1⟩ := Option.bind_eq_some_iff.mp e1
  cases bl_of e1
  refine ⟨B, ρ, G, _, R, e0, fun u G' H' g q => ⟨c, q.bl, ?_⟩⟩
  cases c with
  | false => exact ⟨B, ρ, G', d, R.up g, e, k.tr g⟩
  | true =>
    have e' : some (PyData.bool true) = some d := e
    cases e'
    exact KF.flat g.s (k.tr g) (da_bl _)
theorem f_not (ha : PE X a (tF (pmOf X) Fa)) : PE X (.UnaryOp .Not a pos) (tF (pmOf X) (notF Fa)) := by
  refine PE.mono (pe_not ha) ?_
  rintro σ H Q ⟨B, ρ, G, d, R, e, k⟩
  obtain ⟨c, e1, e⟩ := Option.bind_eq_some_iff.mp e
  obtain ⟨x, e0, e1⟩ := Option.bind_eq_some_iff.mp e1
  cases bl_of e1
  cases e
  exact ⟨B, ρ, G, _, R, e0, fun u G' H' g q => ⟨c, q.bl, KF.flat g.s (k.tr g) (da_bl _)⟩⟩
theorem f_ifE (hc : PT X c (tT (pmOf X) C)) (ha : PE X a (tF (pmOf X) Fa)) (hb : PE X b (tF (pmOf X) Fb)) : PE X (.IfExp c a b pos) (tF (pmOf X) (ifF C Fa Fb)) := by
  refine PE.mono (pe_ifExp hc ha hb) ?_
  rintro σ H Q ⟨B, ρ, G, d, R, e, k⟩
  obtain ⟨c, e1, e⟩ := Option.bind_eq_some_iff.mp e
  refine ⟨B, ρ, G, c, R, e1, fun G' H' g => ?_⟩
  cases c with
  | true => exact ⟨B, ρ, G', d, R.up g, e, k.tr g⟩
  | false => exact ⟨B, ρ, G', d, R.up g, e, k.tr g⟩
/-- a test's value as an expression of bool -/
theorem t_val (h : PE X a (tF (pmOf X) Fa)) (he : ∀ whole, isTrue a X.env whole = (do let v ← whole; standAt a.pos; holding [v] (truthy v)) := by intro _; rfl) : PT X a (tT (pmOf X) (boolT Fa)) := by
  refine PT.mono (pt_val h he) ?_
  rintro σ H Q ⟨B, ρ, G, b, R, e, k⟩
  obtain ⟨x, e1, e⟩ := Option.bind_eq_some_iff.mp e
  cases bl_of e
  exact ⟨B, ρ, G, _, R, e1, fun u G' H' g d => ⟨b, d.bl, k G' H' g⟩⟩
end
end DL

/-! DL3: arguments, displays, calls of built-ins, subscripts, slices. -/
namespace DL
open PySem PySem.Spec PyProof.Rows L2

/-! ### arguments -/
section
variable {X : Cx} {a b c e : Expr} {es : List Expr} {pos : Pos} {Fa Fb Fc F : En → Option D} {Fs : En → Option (List D)}
theorem paired_up {M : Pm} {G G' : Hp} (s : Same G G') {us : List V} {ds : List D} (h : Paired (Da M G) us ds) : Paired (Da M G') us ds := by
  induction h with
  | nil => exact .nil
  | cons a _ ih => exact .cons (a.up s) ih
theorem pairedB_up {M : Pm} {G H G' H' : Hp} (s : Gr G H G' H') {us : List V} {ds : List D} (h : Paired (Db M G H) us ds) : Paired (Db M G' H') us ds := by
  induction h with
  | nil => exact .nil
  | cons a _ ih => exact .cons (a.up s) ih
theorem fa_nil : PA X [] (tFs (pmOf X) nilF) := by
  refine PA.mono pa_nil ?_
  rintro σ H Q ⟨B, ρ, G, ds, R, e, k⟩
  cases e
  exact k [] G H (Gr.refl R.s) .nil
theorem fa_cons (he : PE X e (tF (pmOf X) F)) (hr : PA X es (tFs (pmOf X) Fs)) (hs : starEach (e :: es) X.env = (false, eval e X.env) :: starEach es X.env := by rfl) : PA X (e :: es) (tFs (pmOf X) (consF F Fs)) := by
  refine PA.mono (pa_cons he hr hs) ?_
  rintro σ H Q ⟨B, ρ, G, ds, R, e, k⟩
  obtain ⟨d, e1, e⟩ := Option.bind_eq_some_iff.mp e
  obtain ⟨r, e2, e3⟩ := Option.bind_eq_some_iff.mp e
  cases e3
  exact ⟨B, ρ, G, d, R, e1, fun u G1 H1 g1 d1 => ⟨B, ρ, G1, r, R.up g1, e2, fun us G2 H2 g2 q => k _ G2 H2 (g1.trans g2) (.cons (d1.up g2.g) q)⟩⟩
theorem ba_nil : PA X [] (tBs (pmOf X) nilF) := by
  refine PA.mono pa_nil ?_
  rintro σ H Q ⟨B, ρ, G, ds, R, e, k⟩
  cases e
  exact k [] G H (Gr.refl R.s) .nil
theorem ba_cons (he : PE X e (tB (pmOf X) F)) (hr : PA X es (tBs (pmOf X) Fs)) (hs : starEach (e :: es) X.env = (false, eval e X.env) :: starEach es X.env := by rfl) : PA X (e :: es) (tBs (pmOf X) (consF F Fs)) := by
  refine PA.mono (pa_cons he hr hs) ?_
  rintro σ H Q ⟨B, ρ, G, ds, R, e, k⟩
  obtain ⟨d, e1, e⟩ := Option.bind_eq_some_iff.mp e
  obtain ⟨r, e2, e3⟩ := Option.bind_eq_some_iff.mp e
  cases e3
  exact ⟨B, ρ, G, d, R, e1, fun u G1 H1 g1 d1 => ⟨B, ρ, G1, r, R.up g1, e2, fun us G2 H2 g2 q => k _ G2 H2 (g1.trans g2) (.cons (d1.up g2) q)⟩⟩
theorem ba1 (he : PE X e (tB (pmOf X) F)) (hs : starEach [e] X.env = (false, eval e X.env) :: starEach [] X.env := by rfl) : PA X [e] (tBs (pmOf X) (consF F nilF)) := ba_cons he ba_nil hs
theorem paired_len {M : Pm} {G : Hp} {us : List V} {ds : List D} (h : Paired (Da M G) us ds) : us.length = ds.length := Paired.length h
theorem dqs_of {M : Pm} {G : Hp} {us : List V} {ds : List D} (h : Paired (Da M G) us ds) : ds.all noD = true → DqAll M.K G us ds := by
  induction h with
  | nil => intro _; exact .nil
  | cons a _ ih =>
    intro e
    rw [List.all_cons, Bool.and_eq_true] at e
    exact .cons (a.toDq e.1) (ih e.2)

/-! ### displays -/
def tupD (ds : List D) : Option D := if ds.all noD = true ∧ ds.length ≤ sz then some (.tuple ds) else none
def lstD (ds : List D) : Option D := if ds.all noD = true ∧ ds.length ≤ sz then some (.list ds) else none
def appF (o : List D → Option D) (Fs : En → Option (List D)) : En → Option D := fun ρ => (Fs ρ).bind o
theorem f_tup {x1} (h : PA X es (tFs (pmOf X) Fs)) : PE X (.Tuple es x1 pos) (tF (pmOf X) (appF tupD Fs)) := by
  refine PE.mono (pe_tup h) ?_
  rintro σ H Q ⟨B, ρ, G, d, R, e, k⟩
  obtain ⟨ds, e1, e⟩ := Option.bind_eq_some_iff.mp e
  obtain ⟨⟨n, z⟩, rfl⟩ := if_some e
  refine ⟨B, ρ, G, ds, R, e1, fun us G' H' g q => ⟨by rw [paired_len q, ← sz_line]; exact z, fun p hp => KF.tup g.s (k.tr g) hp (dqs_of q n)⟩⟩
theorem n_lst (h : PA X es (tFs (pmOf X) Fs)) : PE X (.List es pos) (tN (pmOf X) (appF lstD Fs)) := by
  refine PE.mono (pe_lst h) ?_
  rintro σ H Q ⟨B, ρ, G, d, R, e, k⟩
  obtain ⟨ds, e1, e⟩ := Option.bind_eq_some_iff.mp e
  obtain ⟨⟨n, z⟩, rfl⟩ := if_some e
  refine ⟨B, ρ, G, ds, R, e1, fun us G' H' g q => ⟨by rw [paired_len q, ← sz_line]; exact z, fun p hp => KN.lst g.s (k.tr g) hp (dqs_of q n)⟩⟩

/-! ### built-ins called by values -/
def OkCall (M : Pm) (r : List V → Hp → VK → Prop) (o : List D → Option D) : Prop :=
  ∀ ds d, o ds = some d → ∀ G H vs Q, Same G H → Paired (Db M G H) vs ds → KF M G H d Q → r vs H Q
def NewCall (M : Pm) (r : List V → Hp → VK → Prop) (o : List D → Option D) : Prop :=
  ∀ ds d, o ds = some d → ∀ G H vs Q, Same G H → Paired (Db M G H) vs ds → KN M G H d Q → r vs H Q
theorem NewCall.ok {M : Pm} {r : List V → Hp → VK → Prop} {o : List D → Option D} (h : NewCall M r o) : OkCall M r o := fun ds d e G H vs Q s p k => h ds d e G H vs Q s p k.n
theorem call_imp {M : Pm} {r : List V → Hp → VK → Prop} {o : List D → Option D} (h : OkCall M r o) : ∀ σ H Q, tF M (appF o Fs) σ H Q → tCB r (tBs M Fs) σ H Q := by
  rintro σ H Q ⟨B, ρ, G, d, R, e, k⟩
  obtain ⟨ds, e1, e⟩ := Option.bind_eq_some_iff.mp e
  exact ⟨B, ρ, G, ds, R, e1, fun us G' H' g q => h ds d e G' H' us Q g.s q (k.tr g)⟩
theorem callN_imp {M : Pm} {r : List V → Hp → VK → Prop} {o : List D → Option D} (h : NewCall M r o) : ∀ σ H Q, tN M (appF o Fs) σ H Q → tCB r (tBs M Fs) σ H Q := by
  rintro σ H Q ⟨B, ρ, G, d, R, e, k⟩
  obtain ⟨ds, e1, e⟩ := Option.bind_eq_some_iff.mp e
  exact ⟨B, ρ, G, ds, R, e1, fun us G' H' g q => h ds d e G' H' us Q g.s q (k.tr g)⟩
variable {x : Str} {p : Pos} {id T : String} {r : List V → Hp → VK → Prop} {o : List D → Option D}
theorem f_callB (hc : CallR X (.builtin id) r) (hk : OkCall (pmOf X) r o) (hg : Gl X x) (hm : X.mg x = none) (hv : bootBuiltins x = some (.builtin id)) (ha : PA X (e :: es) (tBs (pmOf X) Fs)) (hn : x ≠ "__name__" := by decide) (hdb : (x == ("__debug__" : Str)) = false := by decide)
    (he : starEach (e :: es) X.env = (false, eval e X.env) :: starEach es X.env := by rfl) (hpl : (backTo pos (starEach es X.env)).any (·.1) = false := by rfl) : PE X (.Call (.Name x p) (e :: es) [] pos) (tF (pmOf X) (appF o Fs)) :=
  PE.mono (pe_callB hc hg hm hv ha hn hdb he hpl) (call_imp hk)
theorem n_callB (hc : CallR X (.builtin id) r) (hk : NewCall (pmOf X) r o) (hg : Gl X x) (hm : X.mg x = none) (hv : bootBuiltins x = some (.builtin id)) (ha : PA X (e :: es) (tBs (pmOf X) Fs)) (hn : x ≠ "__name__" := by decide) (hdb : (x == ("__debug__" : Str)) = false := by decide)
    (he : starEach (e :: es) X.env = (false, eval e X.env) :: starEach es X.env := by rfl) (hpl : (backTo pos (starEach es X.env)).any (·.1) = false := by rfl) : PE X (.Call (.Name x p) (e :: es) [] pos) (tN (pmOf X) (appF o Fs)) :=
  PE.mono (pe_callB hc hg hm hv ha hn hdb he hpl) (callN_imp hk)
theorem f_callTy (hc : CallR X (.type T) r) (hk : OkCall (pmOf X) r o) (hg : Gl X x) (hm : X.mg x = none) (hv : bootBuiltins x = some (.type T)) (ha : PA X (e :: es) (tBs (pmOf X) Fs)) (hn : x ≠ "__name__" := by decide) (hdb : (x == ("__debug__" : Str)) = false := by decide)
    (he : starEach (e :: es) X.env = (false, eval e X.env) :: starEach es X.env := by rfl) (hpl : (backTo pos (starEach es X.env)).any (·.1) = false := by rfl) : PE X (.Call (.Name x p) (e :: es) [] pos) (tF (pmOf X) (appF o Fs)) :=
  PE.mono (pe_callTy hc hg hm hv ha hn hdb he hpl) (call_imp hk)
theorem n_callTy (hc : CallR X (.type T) r) (hk : NewCall (pmOf X) r o) (hg : Gl X x) (hm : X.mg x = none) (hv : bootBuiltins x = some (.type T)) (ha : PA X (e :: es) (tBs (pmOf X) Fs)) (hn : x ≠ "__name__" := by decide) (hdb : (x == ("__debug__" : Str)) = false := by decide)
    (he : starEach (e :: es) X.env = (false, eval e X.env) :: starEach es X.env := by rfl) (hpl : (backTo pos (starEach es X.env)).any (·.1) = false := by rfl) : PE X (.Call (.Name x p) (e :: es) [] pos) (tN (pmOf X) (appF o Fs)) :=
  PE.mono (pe_callTy hc hg hm hv ha hn hdb he hpl) (callN_imp hk)
theorem p1 {M : Pm} {G H : Hp} {vs : List V} {d : D} (h : Paired (Db M G H) vs [d]) : ∃ v, vs = [v] ∧ Db M G H v d := by
  cases h with
  | cons a t => cases t; exact ⟨_, rfl, a⟩
theorem p2 {M : Pm} {G H : Hp} {vs : List V} {d d' : D} (h : Paired (Db M G H) vs [d, d']) : ∃ v w, vs = [v, w] ∧ Db M G H v d ∧ Db M G H w d' := by
  cases h with
  | cons a t =>
    cases t with
    | cons b t => cases t; exact ⟨_, _, rfl, a, b⟩
def lenO : List D → Option D
  | [.list xs] => some (.int xs.length)
  | [.tuple xs] => some (.int xs.length)
  | [.dict [(.none, .list xs)]] => some (.int xs.length)
  | _ => none
theorem ok_len {M : Pm} : OkCall M (fun xs H Q => ∃ x n, xs = [x] ∧ LenV M.K x H n ∧ Q (.int n) H) lenO := by
  intro ds d e G H vs Q s h k
  match ds, e, h with
  | [.list xs], e, h =>
    cases e
    obtain ⟨v, rfl, hv⟩ := p1 h
    obtain ⟨a, us, rfl, h1, t⟩ := hv.list s
    exact ⟨_, us.length, rfl, .inl ⟨us, .inl (.inl h1), rfl⟩, by rw [dpall_len t]; exact KF.flat s k (da_int _)⟩
  | [.tuple xs], e, h =>
    cases e
    obtain ⟨v, rfl, hv⟩ := p1 h
    obtain ⟨a, us, rfl, h1, h2, t⟩ := hv.tup s
    exact ⟨_, us.length, rfl, .inr ⟨us, h2, rfl⟩, by rw [dpall_len t]; exact KF.flat s k (da_int _)⟩
  | [.dict [(.none, .list xs)]], e, h =>
    cases e
    obtain ⟨v, rfl, hv⟩ := p1 h
    obtain ⟨a, us, rfl, h2, t⟩ := hv.scr s
    exact ⟨_, us.length, rfl, .inl ⟨us, h2, rfl⟩, by rw [dpall_len t]; exact KF.flat s k (da_int _)⟩
theorem f_len (hg : Gl X "len") (hm : X.mg "len" = none) (ha : PA X (e :: es) (tBs (pmOf X) Fs)) (he : starEach (e :: es) X.env = (false, eval e X.env) :: starEach es X.env := by rfl) (hpl : (backTo pos (starEach es X.env)).any (·.1) = false := by rfl) :
    PE X (.Call (.Name "len" p) (e :: es) [] pos) (tF (pmOf X) (appF lenO Fs)) := f_callB call_len ok_len hg hm PySem.boot_len ha (by decide) (by decide) he hpl
def intO : List D → Option D
  | [.int i] => some (.int i)
  | [.bool b] => some (.int (if b = true then 1 else 0))
  | _ => none
theorem ok_toint {M : Pm} : OkCall M (fun xs H Q => (∃ i, xs = [.int i] ∧ Q (.int i) H) ∨ ∃ k, xs = [.bl k] ∧ Q (.int (if k = true then 1 else 0)) H) intO := by
  intro ds d e G H vs Q s h k
  match ds, e, h with
  | [.int i], e, h =>
    cases e
    obtain ⟨v, rfl, hv⟩ := p1 h
    exact .inl ⟨i, by rw [hv.int], KF.flat s k (da_int _)⟩
  | [.bool b], e, h =>
    cases e
    obtain ⟨v, rfl, hv⟩ := p1 h
    exact .inr ⟨b, by rw [hv.bl], KF.flat s k (da_int _)⟩
theorem f_int (hg : Gl X "int") (hm : X.mg "int" = none) (ha : PA X (e :: es) (tBs (pmOf X) Fs)) (he : starEach (e :: es) X.env = (false, eval e X.env) :: starEach es X.env := by rfl) (hpl : (backTo pos (starEach es X.env)).any (·.1) = false := by rfl) :
    PE X (.Call (.Name "int" p) (e :: es) [] pos) (tF (pmOf X) (appF intO Fs)) := f_callTy call_int1 ok_toint hg hm (by decide +kernel) ha (by decide) (by decide) he hpl
def absO : List D → Option D
  | [.int i] => some (.int (if i < 0 then -i else i))
  | _ => none
theorem ok_abs {M : Pm} : OkCall M (fun xs H Q => ∃ i, xs = [.int i] ∧ Q (.int (if i < 0 then -i else i)) H) absO := by
  intro ds d e G H vs Q s h k
  match ds, e, h with
  | [.int i], e, h =>
    cases e
    obtain ⟨v, rfl, hv⟩ := p1 h
    exact ⟨i, by rw [hv.int], KF.flat s k (da_int _)⟩
def max2O : List D → Option D
  | [.int i, .int j] => some (.int (if j > i then j else i))
  | _ => none
def min2O : List D → Option D
  | [.int i, .int j] => some (.int (if j < i then j else i))
  | _ => none
theorem ok_max2 {M : Pm} : OkCall M (fun xs H Q => ∃ i j, xs = [.int i, .int j] ∧ Q (.int (if j > i then j else i)) H) max2O := by
  intro ds d e G H vs Q s h k
  match ds, e, h with
  | [.int i, .int j], e, h =>
    cases e
    obtain ⟨v, w, rfl, h1, h2⟩ := p2 h
    exact ⟨i, j, by rw [h1.int, h2.int], KF.flat s k (da_int _)⟩
theorem ok_min2 {M : Pm} : OkCall M (fun xs H Q => ∃ i j, xs = [.int i, .int j] ∧ Q (.int (if j < i then j else i)) H) min2O := by
  intro ds d e G H vs Q s h k
  match ds, e, h with
  | [.int i, .int j], e, h =>
    cases e
    obtain ⟨v, w, rfl, h1, h2⟩ := p2 h
    exact ⟨i, j, by rw [h1.int, h2.int], KF.flat s k (da_int _)⟩

/-! ### sums, any, all -/
def toInts : List D → Option (List Int)
  | [] => some []
  | .int i :: r => (toInts r).map (i :: ·)
  | _ => none
theorem toInts_eq : ∀ {ds : List D} {ns : List Int}, toInts ds = some ns → ds = ns.map PyData.int
  | [], ns, e => by cases e; rfl
  | d :: ds, ns, e => by
    match d, e with
    | .int i, e =>
      obtain ⟨m, e1, e2⟩ := Option.map_eq_some_iff.mp (show (toInts ds).map (i :: ·) = some ns from e)
      rw [← e2, toInts_eq e1]
      rfl
theorem toInts_map : ∀ ns : List Int, toInts (ns.map PyData.int) = some ns
  | [] => rfl
  | n :: ns => by
    show (toInts (ns.map PyData.int)).map (n :: ·) = _
    rw [toInts_map ns]
    rfl
def sumO : List D → Option D
  | [d] => (itemsD d).bind fun xs => (toInts xs).map fun ns => .int ns.sum
  | _ => none
theorem sum_rawT {prog : Program} {w : World} {A : Around} {E : Value → Shared → Prop} {s : Shared} {l : Addr} {its : List Value} {ns : List Int} {Q : Value → Shared → Prop} (hh : A.handled = none) (hl : s.heap.IsTuple l its.toArray) (hi : IntsAre its ns)
    (h : ∀ h' tk t', (∀ b o, s.heap.get? b = some o → h'.get? b = some o) → Q (.int ns.sum t') { s with heap := h', toks := tk }) : wpAny (model prog w) A (call (.builtin "sum") [.ref l]) Q E s := by
  obtain ⟨xs, e⟩ := hi.allInts.items
  have hn : numsOf (intItems xs).toList = ns := by rw [← e]; exact hi.numsOf
  rw [nums_intItems] at hn
  rw [e] at hl
  have hlt : l < s.heap.objs.size := by obtain ⟨_, e, _⟩ := hl; exact Heap.lt_size e
  refine PySem.call_sum_walkG (wpAny_pyIter_tuple hl ?_)
  refine ⟨_, _, _, _, _, _, PySem.numAt xs, rfl, PySem.Walks.tuple (A := A.in1) hh _ l (Nat.ne_of_lt hlt) (intItems xs), ⟨⟨_, Heap.get?_push_size _ rfl, rfl, rfl⟩, hl.push _⟩, fun b hb => ?_, (fun _ _ => intItems_at), fun h' tk t' hk => ?_⟩
  · show b < (s.heap.push _).objs.size
    rw [Heap.size_push]
    rcases List.mem_cons.mp hb with rfl | hb
    · exact Nat.lt_succ_self _
    · rcases List.mem_cons.mp hb with rfl | hb
      · exact Nat.lt_succ_of_lt hlt
      · cases hb
  · have hq := h h' tk t' fun b o eb => hk b o (fun z => by
      have z' := List.mem_singleton.mp z
      rw [z'] at eb
      exact absurd (Heap.lt_size eb) (Nat.lt_irrefl _)) (Heap.get?_push_of_some _ eb)
    rw [← hn] at hq
    have e2 : PySem.preSum (PySem.numAt xs) (intItems xs).size = (xs.toList.map Prod.fst).sum := by
      rw [preSum_eq, List.take_of_length_le (by simp [intItems])]
    rw [e2]
    exact hq
def rSumA (K : PySem.W.Frag) : List V → Hp → VK → Prop := fun vs H Q => ∃ (a : Addr) (ns : List Int), vs = [V.ref a] ∧ (SqL K H a (ns.map V.int) ∨ SqT K H a (ns.map V.int)) ∧ Q (.int ns.sum) H
theorem cr_sumA (hc : X.calm = true) : CallR X (.builtin "sum") (rSumA X.K) := by
  intro pins s σ H vs us Q I r h
  obtain ⟨a, ns, rfl, hs, q⟩ := h
  rw [Vals.ref1 r]
  rcases hs with hs | hs
  · obtain ⟨its, rv, hl, _⟩ := I.list hs
    exact sum_raw (I.ok.hd hc) hl.isList rv.ints fun h' tk t' hk => ⟨.int _, H, I.kept hk, ⟨_, rfl⟩, q⟩
  · obtain ⟨its, rv, hl, _⟩ := I.tuple hs
    exact sum_rawT (I.ok.hd hc) hl rv.ints fun h' tk t' hk => ⟨.int _, H, I.kept hk, ⟨_, rfl⟩, q⟩
/-- a list or a tuple that is read -/
theorem Db.items {M : Pm} {G H : Hp} (s : Same G H) {v : V} {c : D} {ds : List D} (h : Db M G H v c) (e : itemsD c = some ds) : ∃ a vs, v = .ref a ∧ (SqL M.K H a vs ∨ SqT M.K H a vs) ∧ DqAll M.K G vs ds := by
  cases c with
  | list xs =>
    have e' : xs = ds := Option.some.inj e
    subst e'
    obtain ⟨a, us, e1, h1, t⟩ := h.list s
    exact ⟨a, us, e1, .inl (.inl (.inl h1)), t⟩
  | tuple xs =>
    have e' : xs = ds := Option.some.inj e
    subst e'
    obtain ⟨a, us, e1, h1, h2, t⟩ := h.tup s
    exact ⟨a, us, e1, .inr h2, t⟩
  | _ => cases e
theorem ok_sum {M : Pm} : OkCall M (rSumA M.K) sumO := by
  intro ds d e G H vs Q s h k
  match ds, e, h with
  | [c], e, h =>
    obtain ⟨v, rfl, hv⟩ := p1 h
    obtain ⟨xs, e1, e⟩ := Option.bind_eq_some_iff.mp e
    obtain ⟨ns, e2, rfl⟩ := Option.map_eq_some_iff.mp e
    obtain ⟨a, us, rfl, h1, t⟩ := hv.items s e1
    rw [toInts_eq e2] at t
    have eu := ints_of t
    subst eu
    exact ⟨a, ns, rfl, h1, KF.flat s k (da_int _)⟩
theorem f_sum (hc : X.calm = true) (hg : Gl X "sum") (hm : X.mg "sum" = none) (ha : PA X (e :: es) (tBs (pmOf X) Fs)) (he : starEach (e :: es) X.env = (false, eval e X.env) :: starEach es X.env := by rfl) (hpl : (backTo pos (starEach es X.env)).any (·.1) = false := by rfl) :
    PE X (.Call (.Name "sum" p) (e :: es) [] pos) (tF (pmOf X) (appF sumO Fs)) := f_callB (cr_sumA hc) ok_sum hg hm (by decide +kernel) ha (by decide) (by decide) he hpl
/-- bools and ints -/
def isBI : D → Bool
  | .bool _ => true
  | .int _ => true
  | _ => false
def anyO : List D → Option D
  | [d] => (itemsD d).bind fun xs => if xs.all isBI = true then some (.bool (xs.any PyData.truthy)) else none
  | _ => none
def allO : List D → Option D
  | [d] => (itemsD d).bind fun xs => if xs.all isBI = true then some (.bool (xs.all PyData.truthy)) else none
  | _ => none
def rAnyA (K : PySem.W.Frag) (f : List D → Bool) : List V → Hp → VK → Prop := fun vs H Q => ∃ (a : Addr) (us : List V) (ds : List D), vs = [V.ref a] ∧ (SqL K H a us ∨ SqT K H a us) ∧ DpAll K H us ds ∧ ds.all isBI = true ∧ Q (.bl (f ds)) H
theorem bi_plain : ∀ {ds : List D}, ds.all isBI = true → PyData.plainAll ds = true
  | [], _ => rfl
  | d :: ds, h => by
    rw [List.all_cons, Bool.and_eq_true] at h
    rw [PyData.plainAll, bi_plain h.2]
    match d, h.1 with
    | .bool _, _ => rfl
    | .int _, _ => rfl
theorem bi_fits {ds : List D} (h : ds.all isBI = true) : ∀ x ∈ ds, PyData.fits63 x := fun x hx => by
  have q := List.all_eq_true.mp h x hx
  match x, q with
  | .bool _, _ => trivial
  | .int _, _ => trivial
theorem cr_anyA (hc : X.calm = true) : CallR X (.builtin "any") (rAnyA X.K fun ds => ds.any PyData.truthy) := by
  intro pins s σ H vs us Q I r h
  obtain ⟨a, xs, ds, rfl, hs, hd, hb, q⟩ := h
  rw [Vals.ref1 r]
  rcases hs with hs | hs
  · obtain ⟨its, rv, hl, _⟩ := I.list hs
    obtain ⟨as, hr⟩ := L2.Dp.readsAll I ds xs its hd rv
    exact PySem.W.any_list_data (I.ok.hd hc) hl.isList hr (bi_plain hb) (bi_fits hb) fun h' tk hk => ⟨.bl _, H, I.kept hk, rfl, q⟩
  · obtain ⟨its, rv, hl, _⟩ := I.tuple hs
    obtain ⟨as, hr⟩ := L2.Dp.readsAll I ds xs its hd rv
    exact PySem.W.any_tuple_data (I.ok.hd hc) hl hr (bi_plain hb) (bi_fits hb) fun h' tk hk => ⟨.bl _, H, I.kept hk, rfl, q⟩
theorem cr_allA (hc : X.calm = true) : CallR X (.builtin "all") (rAnyA X.K fun ds => ds.all PyData.truthy) := by
  intro pins s σ H vs us Q I r h
  obtain ⟨a, xs, ds, rfl, hs, hd, hb, q⟩ := h
  rw [Vals.ref1 r]
  rcases hs with hs | hs
  · obtain ⟨its, rv, hl, _⟩ := I.list hs
    obtain ⟨as, hr⟩ := L2.Dp.readsAll I ds xs its hd rv
    exact PySem.W.all_list_data (I.ok.hd hc) hl.isList hr (bi_plain hb) (bi_fits hb) fun h' tk hk => ⟨.bl _, H, I.kept hk, rfl, q⟩
  · obtain ⟨its, rv, hl, _⟩ := I.tuple hs
    obtain ⟨as, hr⟩ := L2.Dp.readsAll I ds xs its hd rv
    exact PySem.W.all_tuple_data (I.ok.hd hc) hl hr (bi_plain hb) (bi_fits hb) fun h' tk hk => ⟨.bl _, H, I.kept hk, rfl, q⟩
theorem ok_anyA {M : Pm} {f : List D → Bool} : OkCall M (rAnyA M.K f) (fun | [d] => (itemsD d).bind fun xs => if xs.all isBI = true then some (.bool (f xs)) else none | _ => none) := by
  intro ds d e G H vs Q s h k
  match ds, e, h with
  | [c], e, h =>
    obtain ⟨v, rfl, hv⟩ := p1 h
    obtain ⟨xs, e1, e⟩ := Option.bind_eq_some_iff.mp e
    obtain ⟨hb, rfl⟩ := if_some e
    obtain ⟨a, us, rfl, h1, t⟩ := hv.items s e1
    exact ⟨a, us, xs, rfl, h1, DqAll.toDp _ _ (DqAll.up s _ _ t), hb, KF.flat s k (da_bl _)⟩
theorem ok_any {M : Pm} : OkCall M (rAnyA M.K fun ds => ds.any PyData.truthy) anyO := fun ds d e => ok_anyA ds d (by
  match ds, e with
  | [c], e => exact e)
theorem ok_all {M : Pm} : OkCall M (rAnyA M.K fun ds => ds.all PyData.truthy) allO := fun ds d e => ok_anyA ds d (by
  match ds, e with
  | [c], e => exact e)
theorem f_any (hc : X.calm = true) (hg : Gl X "any") (hm : X.mg "any" = none) (ha : PA X (e :: es) (tBs (pmOf X) Fs)) (he : starEach (e :: es) X.env = (false, eval e X.env) :: starEach es X.env := by rfl) (hpl : (backTo pos (starEach es X.env)).any (·.1) = false := by rfl) :
    PE X (.Call (.Name "any" p) (e :: es) [] pos) (tF (pmOf X) (appF anyO Fs)) := f_callB (cr_anyA hc) ok_any hg hm (by decide +kernel) ha (by decide) (by decide) he hpl
theorem f_all (hc : X.calm = true) (hg : Gl X "all") (hm : X.mg "all" = none) (ha : PA X (e :: es) (tBs (pmOf X) Fs)) (he : starEach (e :: es) X.env = (false, eval e X.env) :: starEach es X.env := by rfl) (hpl : (backTo pos (starEach es X.env)).any (·.1) = false := by rfl) :
    PE X (.Call (.Name "all" p) (e :: es) [] pos) (tF (pmOf X) (appF allO Fs)) := f_callB (cr_allA hc) ok_all hg hm (by decide +kernel) ha (by decide) (by decide) he hpl
theorem f_abs (hg : Gl X "abs") (hm : X.mg "abs" = none) (ha : PA X (e :: es) (tBs (pmOf X) Fs)) (he : starEach (e :: es) X.env = (false, eval e X.env) :: starEach es X.env := by rfl) (hpl : (backTo pos (starEach es X.env)).any (·.1) = false := by rfl) :
    PE X (.Call (.Name "abs" p) (e :: es) [] pos) (tF (pmOf X) (appF absO Fs)) := f_callB call_abs ok_abs hg hm (by decide +kernel) ha (by decide) (by decide) he hpl
theorem f_max2 (hc : X.calm = true) (hg : Gl X "max") (hm : X.mg "max" = none) (ha : PA X (e :: es) (tBs (pmOf X) Fs)) (he : starEach (e :: es) X.env = (false, eval e X.env) :: starEach es X.env := by rfl) (hpl : (backTo pos (starEach es X.env)).any (·.1) = false := by rfl) :
    PE X (.Call (.Name "max" p) (e :: es) [] pos) (tF (pmOf X) (appF max2O Fs)) := f_callB (call_max2 hc) ok_max2 hg hm (by decide +kernel) ha (by decide) (by decide) he hpl
theorem f_min2 (hc : X.calm = true) (hg : Gl X "min") (hm : X.mg "min" = none) (ha : PA X (e :: es) (tBs (pmOf X) Fs)) (he : starEach (e :: es) X.env = (false, eval e X.env) :: starEach es X.env := by rfl) (hpl : (backTo pos (starEach es X.env)).any (·.1) = false := by rfl) :
    PE X (.Call (.Name "min" p) (e :: es) [] pos) (tF (pmOf X) (appF min2O Fs)) := f_callB (call_min2 hc) ok_min2 hg hm (by decide +kernel) ha (by decide) (by decide) he hpl

/-! ### list(x), tuple(x) -/
def listO : List D → Option D
  | [d] => (itemsD d).map .list
  | _ => none
def tupleO : List D → Option D
  | [d] => (itemsD d).map .tuple
  | _ => none
theorem new_list {M : Pm} : NewCall M (fun xs H Q => ∃ p ys, xs = [.ref p] ∧ (SqL M.K H p ys ∨ SqT M.K H p ys) ∧ ∀ l, H l = none → Q (.ref l) (upd H l (.lst ys))) listO := by
  intro ds d e G H vs Q s h k
  match ds, e, h with
  | [c], e, h =>
    obtain ⟨v, rfl, hv⟩ := p1 h
    obtain ⟨xs, e1, rfl⟩ := Option.map_eq_some_iff.mp e
    obtain ⟨a, us, rfl, h1, t⟩ := hv.items s e1
    exact ⟨a, us, rfl, h1, fun l hl => KN.lst s k hl t⟩
theorem ok_tuple {M : Pm} : OkCall M (fun xs H Q => ∃ p ys, xs = [.ref p] ∧ ((SqL M.K H p ys ∧ ∀ l, H l = none → Q (.ref l) (upd H l (.tup ys))) ∨ (SqT M.K H p ys ∧ Q (.ref p) H))) tupleO := by
  intro ds d e G H vs Q s h k
  match ds, e, h with
  | [c], e, h =>
    obtain ⟨v, rfl, hv⟩ := p1 h
    obtain ⟨xs, e1, rfl⟩ := Option.map_eq_some_iff.mp e
    cases c with
    | list ys =>
      have e' : ys = xs := Option.some.inj e1
      subst e'
      obtain ⟨a, us, rfl, h1, t⟩ := hv.list s
      exact ⟨a, us, rfl, .inl ⟨.inl (.inl h1), fun l hl => KF.tup s k hl t⟩⟩
    | tuple ys =>
      have e' : ys = xs := Option.some.inj e1
      subst e'
      obtain ⟨a, us, rfl, h1, h2, t⟩ := hv.tup s
      exact ⟨a, us, rfl, .inr ⟨h2, KF.flat s k (da_tup h1 t)⟩⟩
    | _ => cases e1
theorem n_list (hg : Gl X "list") (hm : X.mg "list" = none) (ha : PA X (e :: es) (tBs (pmOf X) Fs)) (he : starEach (e :: es) X.env = (false, eval e X.env) :: starEach es X.env := by rfl) (hpl : (backTo pos (starEach es X.env)).any (·.1) = false := by rfl) :
    PE X (.Call (.Name "list" p) (e :: es) [] pos) (tN (pmOf X) (appF listO Fs)) := n_callTy call_list_of new_list hg hm (by decide +kernel) ha (by decide) (by decide) he hpl
theorem f_tuple (hg : Gl X "tuple") (hm : X.mg "tuple" = none) (ha : PA X (e :: es) (tBs (pmOf X) Fs)) (he : starEach (e :: es) X.env = (false, eval e X.env) :: starEach es X.env := by rfl) (hpl : (backTo pos (starEach es X.env)).any (·.1) = false := by rfl) :
    PE X (.Call (.Name "tuple" p) (e :: es) [] pos) (tF (pmOf X) (appF tupleO Fs)) := f_callTy call_tuple_of ok_tuple hg hm (by decide +kernel) ha (by decide) (by decide) he hpl
/-- the ints lo, lo + 1, .. below hi -/
def rgL (a b : Int) : List D := (List.range (b - a).toNat).map fun i => PyData.int (a + (i : Nat))
theorem rg_dq {K : PySem.W.Frag} {G : Hp} (a b : Int) : DqAll K G (rgV a b) (rgL a b) := by
  have e : rgV a b = ((List.range (b - a).toNat).map fun i : Nat => a + (i : Int)).map V.int := by unfold rgV; rw [List.map_map]; rfl
  have e2 : rgL a b = ((List.range (b - a).toNat).map fun i : Nat => a + (i : Int)).map PyData.int := by unfold rgL; rw [List.map_map]; rfl
  rw [e, e2]
  exact dpall_ints _
/-- range's ends -/
def rgF : List D → Option (Int × Int)
  | [.int n] => some (0, n)
  | [.int a, .int b] => some (a, b)
  | _ => none
def rgOk (a b : Int) : Bool := decide (-(2 ^ 62) ≤ a ∧ a < 2 ^ 62 ∧ -(2 ^ 62) ≤ b ∧ b < 2 ^ 62 ∧ (b - a).toNat ≤ 2 ^ 24)
def listRgF (Fs : En → Option (List D)) : En → Option D := fun ρ => (Fs ρ).bind fun ds => (rgF ds).bind fun ab => if rgOk ab.1 ab.2 = true then some (.list (rgL ab.1 ab.2)) else none
def tupRgF (Fs : En → Option (List D)) : En → Option D := fun ρ => (Fs ρ).bind fun ds => (rgF ds).bind fun ab => if rgOk ab.1 ab.2 = true then some (.tuple (rgL ab.1 ab.2)) else none
theorem rgOk_iff {a b : Int} (h : rgOk a b = true) : RgOk a b := of_decide_eq_true (p := -(2 ^ 62) ≤ a ∧ a < 2 ^ 62 ∧ -(2 ^ 62) ≤ b ∧ b < 2 ^ 62 ∧ (b - a).toNat ≤ 2 ^ 24) h
theorem n_listRg1 {p2 pos2 : Pos} (hc : X.calm = true) (hg : Gl X "list") (hm : X.mg "list" = none) (hg2 : Gl X "range") (hm2 : X.mg "range" = none) (ha : PE X a (tB (pmOf X) Fa))
    (na : starEach [a] X.env = (false, eval a X.env) :: starEach [] X.env := by rfl) (na2 : starEach [.Call (.Name "range" p2) [a] [] pos2] X.env = (false, eval (.Call (.Name "range" p2) [a] [] pos2) X.env) :: starEach [] X.env := by rfl) :
    PE X (.Call (.Name "list" p) [.Call (.Name "range" p2) [a] [] pos2] [] pos) (tN (pmOf X) (listRgF (consF Fa nilF))) := by
  refine PE.mono (pe_listRg hc hg hm (prg_1 hg2 hm2 ha na) na2) ?_
  rintro σ H Q ⟨B, ρ, G, d, R, e, k⟩
  obtain ⟨ds, e1, e⟩ := Option.bind_eq_some_iff.mp e
  obtain ⟨x, e0, e1⟩ := Option.bind_eq_some_iff.mp e1
  cases e1
  obtain ⟨ab, e2, e⟩ := Option.bind_eq_some_iff.mp e
  obtain ⟨z, rfl⟩ := if_some e
  match x, e2 with
  | .int n, e2 =>
    cases e2
    exact ⟨B, ρ, G, _, R, e0, fun u G' H' g q => ⟨n, q.int, rgOk_iff z, fun l hl => KN.lst g.s (k.tr g) hl (rg_dq 0 n)⟩⟩
theorem f_tupRg1 {p2 pos2 : Pos} (hc : X.calm = true) (hg : Gl X "tuple") (hm : X.mg "tuple" = none) (hg2 : Gl X "range") (hm2 : X.mg "range" = none) (ha : PE X a (tB (pmOf X) Fa))
    (na : starEach [a] X.env = (false, eval a X.env) :: starEach [] X.env := by rfl) (na2 : starEach [.Call (.Name "range" p2) [a] [] pos2] X.env = (false, eval (.Call (.Name "range" p2) [a] [] pos2) X.env) :: starEach [] X.env := by rfl) :
    PE X (.Call (.Name "tuple" p) [.Call (.Name "range" p2) [a] [] pos2] [] pos) (tF (pmOf X) (tupRgF (consF Fa nilF))) := by
  refine PE.mono (pe_tupRg hc hg hm (prg_1 hg2 hm2 ha na) na2) ?_
  rintro σ H Q ⟨B, ρ, G, d, R, e, k⟩
  obtain ⟨ds, e1, e⟩ := Option.bind_eq_some_iff.mp e
  obtain ⟨x, e0, e1⟩ := Option.bind_eq_some_iff.mp e1
  cases e1
  obtain ⟨ab, e2, e⟩ := Option.bind_eq_some_iff.mp e
  obtain ⟨z, rfl⟩ := if_some e
  match x, e2 with
  | .int n, e2 =>
    cases e2
    exact ⟨B, ρ, G, _, R, e0, fun u G' H' g q => ⟨n, q.int, rgOk_iff z, fun l hl => KF.tup g.s (k.tr g) hl (rg_dq 0 n)⟩⟩

/-! ### subscripts -/
theorem atI_dq {K : PySem.W.Frag} {G : Hp} {ds : List D} {vs : List V} (t : DqAll K G vs ds) {i : Int} {d : D} (e : atI ds i = some d) : ∃ v, atI vs i = some v ∧ Dq K G v d := by
  unfold atI at e ⊢
  rw [dpall_len t]
  obtain ⟨j, e1, e2⟩ := Option.bind_eq_some_iff.mp e
  obtain ⟨v, h1, h2⟩ := dpall_at' t e2
  exact ⟨v, by rw [e1]; exact h1, h2⟩
theorem ok_ix {M : Pm} : OkOp M (rIx M.K) idxD := by
  intro x y d e G H v w Q s hx hy k
  match x, y, e, hx with
  | .list xs, .int i, e, hx =>
    obtain ⟨a, us, rfl, h1, t⟩ := hx.list s
    obtain ⟨u, e1, q⟩ := atI_dq t e
    exact .inl ⟨a, us, i, u, rfl, hy.int, .inl (.inl h1), e1, KF.flat s k (.dp q)⟩
  | .tuple xs, .int i, e, hx =>
    obtain ⟨a, us, rfl, h1, h2, t⟩ := hx.tup s
    obtain ⟨u, e1, q⟩ := atI_dq t e
    exact .inr (.inl ⟨a, us, i, u, rfl, hy.int, h2, e1, KF.flat s k (.dp q)⟩)
  | .dict [(.none, .list xs)], .int i, e, hx =>
    obtain ⟨a, us, rfl, h2, t⟩ := hx.scr s
    obtain ⟨u, e1, q⟩ := atI_dq t e
    exact .inl ⟨a, us, i, u, rfl, hy.int, h2, e1, KF.flat s k (.dp q)⟩
theorem f_ix (ha : PE X a (tB (pmOf X) Fa)) (hb : PE X b (tB (pmOf X) Fb)) (hs : PlainIx b := by intro _ _; rfl) : PE X (.Subscript a b pos) (tF (pmOf X) (bin idxD Fa Fb)) := PE.mono (pe_ix ix_seq ha hb hs) (bin_imp ok_ix)

/-! ### slices -/
def tOo (M : Pm) (Fo : En → Option (Option Int)) : L2.TO := fun σ H Q => ∃ B ρ G o, Rep M B ρ G σ H ∧ Fo ρ = some o ∧ ∀ G' H', Gr G H G' H' → Q o H'
def noPart : En → Option (Option Int) := fun _ => some none
def asI : D → Option Int
  | .int i => some i
  | _ => none
def partF (F : En → Option D) : En → Option (Option Int) := fun ρ => (F ρ).bind fun d => (asI d).map some
theorem PO.mono {e : Option Expr} {t t' : L2.TO} (h : PO X e t) (m : ∀ σ H Q, t' σ H Q → t σ H Q) : PO X e t' := ⟨fun pins s σ H Q I q => h.run pins s σ H Q I (m σ H Q q)⟩
theorem o_none : PO X none (tOo (pmOf X) noPart) := by
  refine PO.mono po_none ?_
  rintro σ H Q ⟨B, ρ, G, o, R, e, k⟩
  cases e
  exact k G H (Gr.refl R.s)
theorem o_some (h : PE X e (tB (pmOf X) F)) : PO X (some e) (tOo (pmOf X) (partF F)) := by
  refine PO.mono (po_some h) ?_
  rintro σ H Q ⟨B, ρ, G, o, R, e, k⟩
  obtain ⟨d, e1, e⟩ := Option.bind_eq_some_iff.mp e
  obtain ⟨i, e2, rfl⟩ := Option.map_eq_some_iff.mp e
  match d, e2 with
  | .int j, e2 =>
    cases e2
    exact ⟨B, ρ, G, _, R, e1, fun u G' H' g q => ⟨_, q.int, k G' H' g⟩⟩
def cutD (xs : List D) (lo hi : Option Int) : List D := (xs.drop (HT.sIx xs.length 0 lo)).take (HT.sIx xs.length xs.length hi - HT.sIx xs.length 0 lo)
def sliceD (c : D) (lo hi : Option Int) : Option D := match c with
  | .list xs => some (.list (cutD xs lo hi))
  | .tuple xs => some (.tuple (cutD xs lo hi))
  | _ => none
def sliceF (F : En → Option D) (Fl Fh : En → Option (Option Int)) : En → Option D := fun ρ => (F ρ).bind fun c => (Fl ρ).bind fun l => (Fh ρ).bind fun h => sliceD c l h
theorem cut_dq {K : PySem.W.Frag} {G : Hp} {ds : List D} {vs : List V} (t : DqAll K G vs ds) (lo hi : Option Int) : DqAll K G (cutV vs lo hi) (cutD ds lo hi) := by
  unfold cutV cutD
  rw [dpall_len t]
  exact dpall_take _ (dpall_drop _ t)
def rSlB (K : PySem.W.Frag) : V → Option Int → Option Int → Hp → VK → Prop := fun x lo hi H Q => rSlL K x lo hi H Q ∨ rSlA K x lo hi H Q
theorem sl_B : SlR X (rSlB X.K) := sl_list.or sl_tupA
theorem f_slice {lo hi : Option Expr} {q2 : Pos} {Fl Fh : En → Option (Option Int)} (he : PE X e (tB (pmOf X) F)) (hl : PO X lo (tOo (pmOf X) Fl)) (hu : PO X hi (tOo (pmOf X) Fh)) : PE X (.Subscript e (.Slice lo hi none q2) pos) (tF (pmOf X) (sliceF F Fl Fh)) := by
  refine PE.mono (pe_slice sl_B he hl hu) ?_
  rintro σ H Q ⟨B, ρ, G, d, R, e, k⟩
  obtain ⟨c, e1, e⟩ := Option.bind_eq_some_iff.mp e
  obtain ⟨l, e2, e⟩ := Option.bind_eq_some_iff.mp e
  obtain ⟨h, e3, e⟩ := Option.bind_eq_some_iff.mp e
  refine ⟨B, ρ, G, c, R, e1, fun u G1 H1 g1 d1 => ⟨B, ρ, G1, l, R.up g1, e2, fun G2 H2 g2 => ⟨B, ρ, G2, h, R.up (g1.trans g2), e3, fun G3 H3 g3 => ?_⟩⟩⟩
  have d3 := (d1.up g2).up g3
  have k3 := k.tr ((g1.trans g2).trans g3)
  match c, e, d3 with
  | .list xs, e, d3 =>
    cases e
    obtain ⟨a, us, rfl, h1, t⟩ := d3.list g3.s
    exact .inl ⟨a, us, rfl, .inl (.inl h1), fun p hp => KN.lst g3.s k3.n hp (cut_dq t l h)⟩
  | .tuple xs, e, d3 =>
    cases e
    obtain ⟨a, us, rfl, h1, h2, t⟩ := d3.tup g3.s
    refine .inr ⟨a, us, rfl, h2, fun hw => ?_, fun hw p hp => KF.tup g3.s k3 hp (cut_dq t l h)⟩
    have ew : cutD xs l h = xs := by
      unfold cutD
      rw [← dpall_len t, hw.1, hw.2, dpall_len t, List.drop_zero, Nat.sub_zero, List.take_length]
    rw [ew] at k3
    exact KF.flat g3.s k3 (da_tup h1 t)
end
end DL

/-! DL4: targets, statements, loops, comprehensions. -/
namespace DL
open PySem PySem.Spec PyProof.Rows L2

theorem PS.mono {X : Cx} {s : Stmt} {t t' : TS} (h : PS X s t) (m : ∀ D σ H, t' D σ H → t D σ H) : PS X s t' := ⟨fun pins s σ H D I q => h.run pins s σ H D I (m D σ H q)⟩
theorem PSs.mono {X : Cx} {s : List Stmt} {t t' : TS} (h : PSs X s t) (m : ∀ D σ H, t' D σ H → t D σ H) : PSs X s t' := ⟨fun pins s σ H D I q => h.run pins s σ H D I (m D σ H q)⟩
theorem PG.mono {X : Cx} {e : Expr} {t t' : TG} (h : PG X e t) (m : ∀ v σ H Q, t' v σ H Q → t v σ H Q) : PG X e t' := ⟨fun pins s σ H v u Q I r q => h.run pins s σ H v u Q I r (m v σ H Q q)⟩
theorem PGs.mono {X : Cx} {e : List Expr} {t t' : TGs} (h : PGs X e t) (m : ∀ v σ H Q, t' v σ H Q → t v σ H Q) : PGs X e t' := ⟨fun pins s σ H v u Q I r q => h.run pins s σ H v u Q I r (m v σ H Q q)⟩
theorem PI.mono {X : Cx} {tg e : Expr} {t t' : TI} (h : PI X tg e t) (m : ∀ σ H R, t' σ H R → t σ H R) : PI X tg e t' := ⟨fun pins s σ H R I q => h.run pins s σ H R I (m σ H R q)⟩

/-! ### forgetting -/
def wipeE (ρ : En) : List Nat → En
  | [] => ρ
  | v :: vs => (wipeE ρ vs).set v .un
theorem Rep.wipeE {M : Pm} {B : Hp × Hp} {ρ : En} {G H : Hp} {σ : L2.St} (R : Rep M B ρ G σ H) : ∀ vs : List Nat, Rep M B (DL.wipeE ρ vs) G σ H
  | [] => R
  | v :: vs => (R.wipeE vs).wipe1 v
theorem Rep.wipeEV {M : Pm} {B : Hp × Hp} {ρ : En} {G H : Hp} {σ : L2.St} (R : Rep M B ρ G σ H) : ∀ vs : List Nat, Rep M B (DL.wipeE ρ vs) G (wipe σ vs) H
  | [] => R
  | v :: vs => (R.wipeEV vs).wipeV v none
theorem wipe_get {σ : L2.St} {i : Nat} : ∀ {vs : List Nat}, i ∈ vs → i < σ.length → (wipe σ vs)[i]? = some none
  | v :: vs, h, hl => by
    unfold wipe
    by_cases e : v = i
    · subst e
      rw [List.getElem?_set_self (by rw [wipe_length]; exact hl)]
    · rw [List.getElem?_set_ne e]
      exact wipe_get ((List.mem_cons.mp h).resolve_left fun z => e z.symm) hl
theorem wipe_eq {σ σ2 : L2.St} {W vs : List Nat} (hW : ∀ i ∈ W, i ∈ vs) (hl : σ2.length = (wipe σ vs).length) (h : ∀ i, i ∉ W → σ2[i]? = (wipe σ vs)[i]?) : wipe σ2 vs = wipe σ vs := by
  rw [wipe_length] at hl
  refine List.ext_getElem? fun i => ?_
  by_cases hi : i ∈ vs
  · by_cases hz : i < σ.length
    · rw [wipe_get hi (by rw [hl]; exact hz), wipe_get hi hz]
    · rw [List.getElem?_eq_none (by rw [wipe_length]; omega), List.getElem?_eq_none (by rw [wipe_length]; omega)]
  · rw [wipe_out hi]
    exact h i fun z => hi (hW i z)

/-! ### targets -/
def tG (M : Pm) (W : List Nat) (g : D → En → Option En) : TG := fun v σ H Q => ∃ B ρ G d ρ', Rep M B ρ G σ H ∧ Da M G v d ∧ g d ρ = some ρ' ∧
  ∀ σ', Rep M B ρ' G σ' H → σ'.length = σ.length → (∀ i, i ∉ W → σ'[i]? = σ[i]?) → Q σ' H
def tGs (M : Pm) (W : List Nat) (g : List D → En → Option En) : TGs := fun vs σ H Q => ∃ B ρ G ds ρ', Rep M B ρ G σ H ∧ DqAll M.K G vs ds ∧ g ds ρ = some ρ' ∧
  ∀ σ', Rep M B ρ' G σ' H → σ'.length = σ.length → (∀ i, i ∉ W → σ'[i]? = σ[i]?) → Q σ' H
def nameG (i : Nat) : D → En → Option En := fun d ρ => some (ρ.set i (.dat d))
def nilG : List D → En → Option En
  | [], ρ => some ρ
  | _, _ => none
def consG (g : D → En → Option En) (gs : List D → En → Option En) : List D → En → Option En
  | d :: ds, ρ => (g d ρ).bind (gs ds)
  | [], _ => none
def tupG (gs : List D → En → Option En) : D → En → Option En
  | .tuple ds, ρ => gs ds ρ
  | _, _ => none
section
variable {X : Cx} {e : Expr} {es : List Expr} {pos : Pos}
theorem g_name {i : Nat} {x : Str} (hN : X.N.Nodup) (hi : X.N[i]? = some x) (hx : Loc X.env.scope x) (hf : X.fn x = true ∨ X.env.scope.names.lookup x = some .local := by first | exact .inl rfl | exact .inr rfl | assumption) : PG X (.Name x pos) (tG (pmOf X) [i] (nameG i)) := by
  refine PG.mono (pg_name hN hi hx hf) ?_
  rintro v σ H Q ⟨B, ρ, G, d, ρ', R, hd, e, k⟩
  cases e
  refine k _ (R.set i hd) (List.length_set ..) fun j hj => ?_
  rw [List.getElem?_set_ne fun z => hj (by rw [z]; exact List.mem_singleton.mpr rfl)]
theorem gs_nil : PGs X [] (tGs (pmOf X) [] nilG) := by
  refine PGs.mono pgs_nil ?_
  rintro v σ H Q ⟨B, ρ, G, ds, ρ', R, hd, e, k⟩
  match ds, e, hd with
  | [], e, .nil =>
    cases e
    exact ⟨rfl, k σ R rfl fun _ _ => rfl⟩
theorem gs_cons {W Ws : List Nat} {g : D → En → Option En} {gs : List D → En → Option En} (h1 : PG X e (tG (pmOf X) W g)) (h2 : PGs X es (tGs (pmOf X) Ws gs))
    (hs : (assignEach (e :: es) X.env).map (·.2) = assign e X.env :: (assignEach es X.env).map (·.2) := by rfl) : PGs X (e :: es) (tGs (pmOf X) (W ++ Ws) (consG g gs)) := by
  refine PGs.mono (pgs_cons h1 h2 hs) ?_
  rintro v σ H Q ⟨B, ρ, G, ds, ρ', R, hd, e, k⟩
  match ds, e, hd with
  | d :: ds, e, .cons a t =>
    obtain ⟨ρ1, e1, e2⟩ := Option.bind_eq_some_iff.mp e
    refine ⟨_, _, rfl, B, ρ, G, d, ρ1, R, .dp a, e1, fun σ1 R1 l1 n1 => ⟨B, ρ1, G, ds, ρ', R1, t, e2, fun σ2 R2 l2 n2 => k σ2 R2 (l2.trans l1) fun i hi => ?_⟩⟩
    rw [List.mem_append, not_or] at hi
    exact (n2 i hi.2).trans (n1 i hi.1)
theorem g_tup {k n : Nat} {W : List Nat} {gs : List D → En → Option En} (hc : X.calm = true) (h : PGs X es (tGs (pmOf X) W gs)) (hn : (assignEach es X.env).length = n := by rfl) (hst : (assignEach es X.env).findIdx? (·.1) = none := by rfl)
    (hg : ∀ ds ρ ρ', gs ds ρ = some ρ' → ds.length = n) : PG X (.Tuple es k pos) (tG (pmOf X) W (tupG gs)) := by
  refine PG.mono (pg_tup hc h hn hst) ?_
  rintro v σ H Q ⟨B, ρ, G, d, ρ', R, hd, e, k⟩
  match d, e, hd with
  | .tuple ds, e, hd =>
    obtain ⟨a, vs, rfl, h1, t⟩ := hd.tup
    exact ⟨a, vs, rfl, DL.Same.sqt R.s h1, by rw [dpall_len t]; exact hg ds ρ ρ' e, B, ρ, G, ds, ρ', R, t, e, k⟩
theorem nilG_len : ∀ ds ρ ρ', nilG ds ρ = some ρ' → ds.length = 0
  | [], _, _, _ => rfl
theorem consG_len {g : D → En → Option En} {gs : List D → En → Option En} {n : Nat} (h : ∀ ds ρ ρ', gs ds ρ = some ρ' → ds.length = n) : ∀ ds ρ ρ', consG g gs ds ρ = some ρ' → ds.length = n + 1
  | d :: ds, ρ, ρ', e => by
    obtain ⟨ρ1, e1, e2⟩ := Option.bind_eq_some_iff.mp (show (g d ρ).bind (gs ds) = some ρ' from e)
    exact congrArg (· + 1) (h ds ρ1 ρ' e2)
end

/-! ### statements -/
inductive Out where
  | nx (ρ : En) | rt (d : D) | bk (ρ : En) | ct (ρ : En)
def Fin (M : Pm) (B : Hp × Hp) (G : Hp) (E : Ends) : Out → Prop
  | .nx ρ => ∀ G' σ' H', Same G G' → Rep M B ρ G' σ' H' → E.nx σ' H'
  | .rt d => ∀ v G' H', Same G G' → Gr B.1 B.2 G' H' → Da M G' v d → E.rt v H'
  | .bk ρ => ∀ G' σ' H', Same G G' → Rep M B ρ G' σ' H' → E.bk σ' H'
  | .ct ρ => ∀ G' σ' H', Same G G' → Rep M B ρ G' σ' H' → E.ct σ' H'
theorem Fin.tr {M : Pm} {B : Hp × Hp} {G G1 : Hp} {E : Ends} {o : Out} (h : Fin M B G E o) (g : Same G G1) : Fin M B G1 E o := by
  cases o with
  | nx ρ => exact fun G' σ' H' s R => h G' σ' H' (g.trans s) R
  | rt d => exact fun v G' H' s r q => h v G' H' (g.trans s) r q
  | bk ρ => exact fun G' σ' H' s R => h G' σ' H' (g.trans s) R
  | ct ρ => exact fun G' σ' H' s R => h G' σ' H' (g.trans s) R
def tS (M : Pm) (F : En → Option Out) : TS := fun E σ H => ∃ B ρ G o, Rep M B ρ G σ H ∧ F ρ = some o ∧ Fin M B G E o
def nxS : En → Option Out := fun ρ => some (.nx ρ)
def bkS : En → Option Out := fun ρ => some (.bk ρ)
def ctS : En → Option Out := fun ρ => some (.ct ρ)
def seqO (F2 : En → Option Out) : Out → Option Out
  | .nx ρ => F2 ρ
  | o => some o
def seqS (F1 F2 : En → Option Out) : En → Option Out := fun ρ => (F1 ρ).bind (seqO F2)
def ifS (C : En → Option Bool) (F1 F2 : En → Option Out) : En → Option Out := fun ρ => (C ρ).bind fun b => if b = true then F1 ρ else F2 ρ
def retS (F : En → Option D) : En → Option Out := fun ρ => (F ρ).map .rt
def setS (i : Nat) (F : En → Option D) : En → Option Out := fun ρ => (F ρ).bind fun d => some (.nx (ρ.set i (.dat d)))
def ownS (i : Nat) (F : En → Option D) : En → Option Out := fun ρ => (F ρ).bind fun d => some (.nx (ρ.set i (.own d)))
def asgS (g : D → En → Option En) (F : En → Option D) : En → Option Out := fun ρ => (F ρ).bind fun d => (g d ρ).map .nx
def parS (i j : Nat) (Fs : En → Option (List D)) : En → Option Out := fun ρ => (Fs ρ).bind fun ds => match ds with
  | [d, e] => some (.nx ((ρ.set i (.dat d)).set j (.dat e)))
  | _ => none
def augS (i : Nat) (o : D → D → Option D) (F : En → Option D) : En → Option Out := fun ρ => (varF i ρ).bind fun x => (F ρ).bind fun y => (o x y).bind fun z => some (.nx (ρ.set i (.dat z)))
def dropS (F : En → Option D) : En → Option Out := fun ρ => (F ρ).bind fun _ => some (.nx ρ)
def apS (i : Nat) (F : En → Option D) : En → Option Out := fun ρ => match ρ[i]? with
  | some (.own (.list ds)) => (F ρ).bind fun d => if noD d = true ∧ ds.length < sz then some (.nx (ρ.set i (.own (.list (ds ++ [d]))))) else none
  | _ => none
def exS (i : Nat) (F : En → Option D) : En → Option Out := fun ρ => match ρ[i]? with
  | some (.own (.list ds)) => (F ρ).bind fun d => match d with
    | .list es => if ds.length + es.length ≤ sz then some (.nx (ρ.set i (.own (.list (ds ++ es))))) else none
    | _ => none
  | _ => none
/-- slot i's own object is frozen ahead -/
def frE (i : Nat) (ρ : En) : En := match ρ[i]? with
  | some (.own d) => ρ.set i (.dat d)
  | _ => ρ
def frS (i : Nat) (F : En → Option Out) : En → Option Out := fun ρ => F (frE i ρ)
section
variable {X : Cx} {st : Stmt} {rest : List Stmt} {e c : Expr} {pos : Pos} {F : En → Option D} {F1 F2 : En → Option Out} {C : En → Option Bool}
theorem s_nil : PSs X [] (tS (pmOf X) nxS) := by
  refine PSs.mono pss_nil ?_
  rintro E σ H ⟨B, ρ, G, o, R, e, k⟩
  cases e
  exact k G σ H (Same.refl _) R
theorem seq_imp {M : Pm} : ∀ E σ H, tS M (seqS F1 F2) E σ H → tSeq (tS M F1) (tS M F2) E σ H := by
  rintro E σ H ⟨B, ρ, G, o, R, e, k⟩
  obtain ⟨o1, e1, e2⟩ := Option.bind_eq_some_iff.mp e
  refine ⟨B, ρ, G, o1, R, e1, ?_⟩
  cases o1 with
  | nx ρ1 => exact fun G' σ' H' s R' => ⟨B, ρ1, G', o, R', e2, k.tr s⟩
  | rt d => cases e2; exact k
  | bk ρ1 => cases e2; exact k
  | ct ρ1 => cases e2; exact k
theorem s_cons (h1 : PS X st (tS (pmOf X) F1)) (h2 : PSs X rest (tS (pmOf X) F2)) : PSs X (st :: rest) (tS (pmOf X) (seqS F1 F2)) := PSs.mono (pss_cons h1 h2) seq_imp
theorem s_one (h1 : PS X st (tS (pmOf X) F1)) : PSs X [st] (tS (pmOf X) F1) := pss_one h1
theorem s_pass : PS X (.Pass pos) (tS (pmOf X) nxS) := by
  refine PS.mono ps_pass ?_
  rintro E σ H ⟨B, ρ, G, o, R, e, k⟩
  cases e
  exact k G σ H (Same.refl _) R
theorem s_break : PS X (.Break pos) (tS (pmOf X) bkS) := by
  refine PS.mono ps_break ?_
  rintro E σ H ⟨B, ρ, G, o, R, e, k⟩
  cases e
  exact k G σ H (Same.refl _) R
theorem s_cont : PS X (.Continue pos) (tS (pmOf X) ctS) := by
  refine PS.mono ps_continue ?_
  rintro E σ H ⟨B, ρ, G, o, R, e, k⟩
  cases e
  exact k G σ H (Same.refl _) R
theorem s_never : PS X st (tS (pmOf X) fun _ => none) := ⟨fun pins s σ H E I q => by
  obtain ⟨B, ρ, G, o, R, e, k⟩ := q
  cases e⟩
theorem s_ret (he : PE X e (tF (pmOf X) F)) : PS X (.Return (some e) pos) (tS (pmOf X) (retS F)) := by
  refine PS.mono (ps_ret he) ?_
  rintro E σ H ⟨B, ρ, G, o, R, e, k⟩
  obtain ⟨d, e1, rfl⟩ := Option.map_eq_some_iff.mp e
  exact ⟨B, ρ, G, d, R, e1, fun u G' H' g q => k u G' H' g.g (R.gr.trans g) q⟩
theorem s_retN : PS X (.Return none pos) (tS (pmOf X) (retS (cF .none))) := by
  refine PS.mono ps_retN ?_
  rintro E σ H ⟨B, ρ, G, o, R, e, k⟩
  cases e
  exact k _ G H (Same.refl _) R.gr da_non
theorem s_if {a b : List Stmt} (hc : PT X c (tT (pmOf X) C)) (ha : PSs X a (tS (pmOf X) F1)) (hb : PSs X b (tS (pmOf X) F2)) : PS X (.If c a b pos) (tS (pmOf X) (ifS C F1 F2)) := by
  refine PS.mono (ps_if hc ha hb) ?_
  rintro E σ H ⟨B, ρ, G, o, R, e, k⟩
  obtain ⟨c, e1, e2⟩ := Option.bind_eq_some_iff.mp e
  refine ⟨B, ρ, G, c, R, e1, fun G' H' g => ?_⟩
  cases c with
  | true => exact ⟨B, ρ, G', o, R.up g, e2, k.tr g.g⟩
  | false => exact ⟨B, ρ, G', o, R.up g, e2, k.tr g.g⟩
theorem set_imp {M : Pm} {i : Nat} {te : TE} (h : ∀ σ H Q, tF M F σ H Q → te σ H Q) : ∀ E σ H, tS M (setS i F) E σ H → tAsg te (gName i) E σ H := by
  rintro E σ H ⟨B, ρ, G, o, R, e, k⟩
  obtain ⟨d, e1, e2⟩ := Option.bind_eq_some_iff.mp e
  cases e2
  exact h σ H _ ⟨B, ρ, G, d, R, e1, fun u G' H' g q => k G' _ H' g.g ((R.up g).set i q)⟩
theorem own_imp {M : Pm} {i : Nat} {te : TE} (h : ∀ σ H Q, tN M F σ H Q → te σ H Q) : ∀ E σ H, tS M (ownS i F) E σ H → tAsg te (gName i) E σ H := by
  rintro E σ H ⟨B, ρ, G, o, R, e, k⟩
  obtain ⟨d, e1, e2⟩ := Option.bind_eq_some_iff.mp e
  cases e2
  exact h σ H _ ⟨B, ρ, G, d, R, e1, fun a ob G' H' g h1 h2 h3 h4 => k G' _ H' g.g (R.setOwn g i h1 h2 h3 h4)⟩
theorem s_set {i : Nat} {x : Str} {pos' : Pos} (hN : X.N.Nodup) (hi : X.N[i]? = some x) (hx : Loc X.env.scope x) (he : PE X e (tF (pmOf X) F)) (hs : swapsWith e (some (.Name x pos')) pos.line X.env = pure false := by rfl)
    (hf : X.fn x = true ∨ X.env.scope.names.lookup x = some .local := by first | exact .inl rfl | exact .inr rfl | assumption) : PS X (.Assign [.Name x pos'] e pos) (tS (pmOf X) (setS i F)) := PS.mono (ps_set hN hi hx he hs hf) (set_imp fun _ _ _ q => q)
theorem s_own {i : Nat} {x : Str} {pos' : Pos} (hN : X.N.Nodup) (hi : X.N[i]? = some x) (hx : Loc X.env.scope x) (he : PE X e (tN (pmOf X) F)) (hs : swapsWith e (some (.Name x pos')) pos.line X.env = pure false := by rfl)
    (hf : X.fn x = true ∨ X.env.scope.names.lookup x = some .local := by first | exact .inl rfl | exact .inr rfl | assumption) : PS X (.Assign [.Name x pos'] e pos) (tS (pmOf X) (ownS i F)) := PS.mono (ps_set hN hi hx he hs hf) (own_imp fun _ _ _ q => q)
theorem s_asg {tg : Expr} {W : List Nat} {g : D → En → Option En} (he : PE X e (tF (pmOf X) F)) (hg : PG X tg (tG (pmOf X) W g)) (hs : swapsWithSole [tg] e pos.line X.env = pure false := by rfl) (hw : swappedStores [tg] e X.env = pure none := by rfl)
    (h1 : (assignEach [tg] X.env).map (·.2) = [assign tg X.env] := by rfl) : PS X (.Assign [tg] e pos) (tS (pmOf X) (asgS g F)) := by
  refine PS.mono (ps_asg he hg hs hw h1) ?_
  rintro E σ H ⟨B, ρ, G, o, R, e, k⟩
  obtain ⟨d, e1, e2⟩ := Option.bind_eq_some_iff.mp e
  obtain ⟨ρ', e3, rfl⟩ := Option.map_eq_some_iff.mp e2
  exact ⟨B, ρ, G, d, R, e1, fun u G' H' g q => ⟨B, ρ, G', d, ρ', R.up g, q, e3, fun σ' R' _ _ => k G' σ' H' g.g R'⟩⟩
theorem s_par {i j : Nat} {x y : Str} {a b : Expr} {Fs : En → Option (List D)} {px py pt : Pos} {kt k2 pt2} (hc : X.calm = true) (hN : X.N.Nodup) (hi : X.N[i]? = some x) (hj : X.N[j]? = some y) (hij : i ≠ j)
    (hx : X.env.scope.names.lookup x = some .local) (hy : X.env.scope.names.lookup y = some .local) (ha : PA X [a, b] (tFs (pmOf X) Fs))
    (hw : swappedStores [.Tuple [.Name x px, .Name y py] kt pt] (.Tuple [a, b] k2 pt2) X.env = pure (some [x, y]))
    (hs : swapsWithSole [.Tuple [.Name x px, .Name y py] kt pt] (.Tuple [a, b] k2 pt2) pos.line X.env = pure false := by rfl) :
    PS X (.Assign [.Tuple [.Name x px, .Name y py] kt pt] (.Tuple [a, b] k2 pt2) pos) (tS (pmOf X) (parS i j Fs)) := by
  refine PS.mono (ps_par hc hN hi hj hij hx hy ha hw hs) ?_
  rintro E σ H ⟨B, ρ, G, o, R, e, k⟩
  obtain ⟨ds, e1, e2⟩ := Option.bind_eq_some_iff.mp e
  match ds, e2, e1 with
  | [d, d'], e2, e1 =>
    cases e2
    refine ⟨B, ρ, G, _, R, e1, fun us G' H' g q => ?_⟩
    cases q with
    | cons q1 q =>
      cases q with
      | cons q2 q =>
        cases q
        exact ⟨_, _, rfl, k G' _ H' g.g (((R.up g).set i q1).set j q2)⟩
theorem s_augI {i : Nat} {x : Str} {op : Operator} {f : Int → Int → Int} {o : D → D → Option D} {pos' : Pos} (hN : X.N.Nodup) (hi : X.N[i]? = some x) (hx : Loc X.env.scope x) (he : PE X e (tF (pmOf X) F)) (ho : PIp X op (ipI f)) (hk : ∀ x y d, o x y = some d → ∃ i j, x = .int i ∧ y = .int j ∧ d = .int (f i j))
    (hf : X.fn x = true ∨ X.env.scope.names.lookup x = some .local := by first | exact .inl rfl | exact .inr rfl | assumption) : PS X (.AugAssign (.Name x pos') op e pos) (tS (pmOf X) (augS i o F)) := by
  refine PS.mono (ps_aug hN hi hx he ho hf) ?_
  rintro E σ H ⟨B, ρ, G, q, R, e, k⟩
  obtain ⟨a, e1, e⟩ := Option.bind_eq_some_iff.mp e
  obtain ⟨b, e2, e⟩ := Option.bind_eq_some_iff.mp e
  obtain ⟨z, e3, e⟩ := Option.bind_eq_some_iff.mp e
  cases e
  obtain ⟨m, n, rfl, rfl, rfl⟩ := hk a b z e3
  have e' : ρ[i]? = some (.dat (.int m)) := by
    unfold varF at e1
    split at e1
    · rename_i d' h; cases e1; exact h
    · cases e1
  obtain ⟨v, h1, h2⟩ := R.dat e'
  have hv : v = .int m := h2.int
  subst hv
  exact ⟨_, h1, B, ρ, G, _, R, e2, fun u G' H' g d => ⟨m, n, rfl, d.int, k G' _ H' g.g ((R.up g).set i (da_int _))⟩⟩
theorem s_aug_add {i : Nat} {x : Str} {pos' : Pos} (hN : X.N.Nodup) (hi : X.N[i]? = some x) (hx : Loc X.env.scope x) (he : PE X e (tF (pmOf X) F)) (hf : X.fn x = true ∨ X.env.scope.names.lookup x = some .local := by first | exact .inl rfl | exact .inr rfl | assumption) :
    PS X (.AugAssign (.Name x pos') .Add e pos) (tS (pmOf X) (augS i (fun x y => match x, y with | .int i, .int j => some (.int (i + j)) | _, _ => none) F)) :=
  s_augI hN hi hx he ip_add (fun x y d e => by
    match x, y, e with
    | .int i, .int j, e => cases e; exact ⟨i, j, rfl, rfl, rfl⟩) hf
theorem s_aug_sub {i : Nat} {x : Str} {pos' : Pos} (hN : X.N.Nodup) (hi : X.N[i]? = some x) (hx : Loc X.env.scope x) (he : PE X e (tF (pmOf X) F)) (hf : X.fn x = true ∨ X.env.scope.names.lookup x = some .local := by first | exact .inl rfl | exact .inr rfl | assumption) :
    PS X (.AugAssign (.Name x pos') .Sub e pos) (tS (pmOf X) (augS i subD F)) :=
  s_augI hN hi hx he ip_sub (fun x y d e => by
    match x, y, e with
    | .int i, .int j, e => cases e; exact ⟨i, j, rfl, rfl, rfl⟩) hf
theorem s_drop (he : PE X e (tF (pmOf X) F)) (hs : swapsWith e none pos.line X.env = pure false := by rfl) : PS X (.Expr e pos) (tS (pmOf X) (dropS F)) := by
  refine PS.mono (ps_expr he hs) ?_
  rintro E σ H ⟨B, ρ, G, o, R, e, k⟩
  obtain ⟨d, e1, e2⟩ := Option.bind_eq_some_iff.mp e
  cases e2
  exact ⟨B, ρ, G, d, R, e1, fun u G' H' g q => k G' σ H' g.g (R.up g)⟩
/-- x.append(e) -/
theorem s_app (i : Nat) {x : Str} {px apos cpos : Pos} (he : PE X e (tF (pmOf X) F)) (hN : X.N[i]? = some x := by rfl) (hv : Vis X.env.scope x := by first | exact Or.inl rfl | exact Or.inr (Or.inl rfl) | exact Or.inr (Or.inr rfl)) (hd : (x == ("__debug__" : Str)) = false := by decide)
    (hcd : (x == ("__classdict__" : Str)) = false := by decide)
    (hbase : attributeBase (.Name x px) "append" X.env (eval (.Name x px) X.env) = eval (.Name x px) X.env := by rfl)
    (hfew : ((backTo cpos (starEach (e :: []) X.env)).all (fun x => !x.1) && (backToKw cpos (keywordEach [] X.env)).all (fun x => x.1.isSome)
      && decide ((e :: []).length + ([] : List Keyword).length + (if ([] : List Keyword).isEmpty then 0 else 1) < 30)) = true := by rfl)
    (hline : (apos.endLine == cpos.line) = true := by rfl) (hs : starEach (e :: []) X.env = (false, eval e X.env) :: starEach [] X.env := by rfl) (hplain : (backTo cpos (starEach [] X.env)).any (·.1) = false := by rfl)
    (hsw : swapsWith (.Call (.Attribute (.Name x px) "append" apos) [e] [] cpos) none pos.line X.env = pure false := by rfl) :
    PS X (.Expr (.Call (.Attribute (.Name x px) "append" apos) [e] [] cpos) pos) (tS (pmOf X) (apS i F)) := by
  refine PS.mono (ps_expr (pe_bm PySem.F.plainAttrs_list PySem.F.slot_list_append PySem.F.type_list_append mt_append (pe_var (i := i) hN hv hd hcd) (pa_cons he pa_nil hs) hbase hfew hline hs hplain) hsw) ?_
  rintro E σ H ⟨B, ρ, G, o, R, e, k⟩
  unfold apS at e
  split at e
  · rename_i ds eo
    obtain ⟨d, e1, e2⟩ := Option.bind_eq_some_iff.mp e
    obtain ⟨⟨n, z⟩, rfl⟩ := if_some e2
    obtain ⟨a, o, h1, h2, h3, h4, h5, _⟩ := R.owned eo
    cases h5 with
    | @lst vs _ t =>
      refine ⟨_, h1, .inl ⟨rfl, _, .inl (.inl h4)⟩, B, ρ, G, d, R, e1, fun u G' H' g q => ?_⟩
      have R' := R.up g
      have eo' := eo
      obtain ⟨a', o', h1', h2', h3', h4', h5', up⟩ := R'.owned eo'
      have ea : a' = a := by rw [h1] at h1'; cases h1'; rfl
      subst ea
      have eo2 : o' = .lst vs := by rw [g.h _ _ h4] at h4'; cases h4'; rfl
      subst eo2
      refine ⟨a', vs, u, rfl, rfl, h4', by rw [dpall_len t, ← sz_line]; exact z, ?_⟩
      exact k G' σ _ g.g (up _ _ (.lst (dpall_app (DqAll.up g.g _ _ t) (.cons (q.toDq n) .nil))))
  · cases e
/-- x.extend(e), e a list -/
theorem s_ext (i : Nat) {x : Str} {px apos cpos : Pos} (he : PE X e (tF (pmOf X) F)) (hN : X.N[i]? = some x := by rfl) (hv : Vis X.env.scope x := by first | exact Or.inl rfl | exact Or.inr (Or.inl rfl) | exact Or.inr (Or.inr rfl)) (hd : (x == ("__debug__" : Str)) = false := by decide)
    (hcd : (x == ("__classdict__" : Str)) = false := by decide)
    (hbase : attributeBase (.Name x px) "extend" X.env (eval (.Name x px) X.env) = eval (.Name x px) X.env := by rfl)
    (hfew : ((backTo cpos (starEach (e :: []) X.env)).all (fun x => !x.1) && (backToKw cpos (keywordEach [] X.env)).all (fun x => x.1.isSome)
      && decide ((e :: []).length + ([] : List Keyword).length + (if ([] : List Keyword).isEmpty then 0 else 1) < 30)) = true := by rfl)
    (hline : (apos.endLine == cpos.line) = true := by rfl) (hs : starEach (e :: []) X.env = (false, eval e X.env) :: starEach [] X.env := by rfl) (hplain : (backTo cpos (starEach [] X.env)).any (·.1) = false := by rfl)
    (hsw : swapsWith (.Call (.Attribute (.Name x px) "extend" apos) [e] [] cpos) none pos.line X.env = pure false := by rfl) :
    PS X (.Expr (.Call (.Attribute (.Name x px) "extend" apos) [e] [] cpos) pos) (tS (pmOf X) (exS i F)) := by
  refine PS.mono (ps_expr (pe_bm PySem.F.plainAttrs_list PySem.F.slot_list_extend PySem.F.type_list_extend mt_extend (pe_var (i := i) hN hv hd hcd) (pa_cons he pa_nil hs) hbase hfew hline hs hplain) hsw) ?_
  rintro E σ H ⟨B, ρ, G, o, R, e, k⟩
  unfold exS at e
  split at e
  · rename_i ds eo
    obtain ⟨d, e1, e2⟩ := Option.bind_eq_some_iff.mp e
    split at e2
    · rename_i es
      obtain ⟨z, rfl⟩ := if_some e2
      obtain ⟨a, o, h1, h2, h3, h4, h5, _⟩ := R.owned eo
      cases h5 with
      | @lst vs _ t =>
        refine ⟨_, h1, .inl ⟨rfl, _, .inl (.inl h4)⟩, B, ρ, G, _, R, e1, fun u G' H' g q => ?_⟩
        have R' := R.up g
        obtain ⟨a', o', h1', h2', h3', h4', h5', up⟩ := R'.owned eo
        have ea : a' = a := by rw [h1] at h1'; cases h1'; rfl
        subst ea
        have eo2 : o' = .lst vs := by rw [g.h _ _ h4] at h4'; cases h4'; rfl
        subst eo2
        obtain ⟨b, ws, rfl, hb, tb⟩ := q.list
        refine ⟨a', b, vs, ws, rfl, rfl, h4', g.s _ _ hb, by rw [dpall_len t, dpall_len tb, ← sz_line]; exact z, ?_⟩
        exact k G' σ _ g.g (up _ _ (.lst (dpall_app (DqAll.up g.g _ _ t) tb)))
    · cases e2
  · cases e
theorem fr_rep {M : Pm} {B : Hp × Hp} {ρ : En} {G H : Hp} {σ : L2.St} (R : Rep M B ρ G σ H) (i : Nat) : ∃ G', Same G G' ∧ Rep M B (frE i ρ) G' σ H := by
  unfold frE
  split
  · rename_i d h
    exact R.frz h
  · exact ⟨G, Same.refl _, R⟩
theorem fr_imp {M : Pm} {i : Nat} : ∀ E σ H, tS M (frS i F1) E σ H → tS M F1 E σ H := by
  rintro E σ H ⟨B, ρ, G, o, R, e, k⟩
  obtain ⟨G', s, R'⟩ := fr_rep R i
  exact ⟨B, _, G', o, R', e, k.tr s⟩
/-- slot i's own object is frozen, then .. -/
theorem s_fr (i : Nat) (h : PS X st (tS (pmOf X) F1)) : PS X st (tS (pmOf X) (frS i F1)) := PS.mono h fr_imp
theorem ss_fr (i : Nat) (h : PSs X rest (tS (pmOf X) F1)) : PSs X rest (tS (pmOf X) (frS i F1)) := PSs.mono h fr_imp
end

/-! ### what is walked -/
def noHp : Hp := fun _ => none
theorem same_no (H : Hp) : Same noHp H := fun _ _ e => nomatch e
structure DW (M : Pm) (J : It) (ds : List D) (G0 H0 : Hp) : Prop where
  len : ds.length ≤ sz
  go : ∀ i G H, i < ds.length → Same G0 G → Same G H → Same H0 H → J.go i H
  stop : ∀ G H, Same G0 G → Same G H → Same H0 H → J.stop ds.length H
  yld : ∀ i d G H x H', ds[i]? = some d → Same G0 G → Same G H → Same H0 H → J.yld i H x H' → ∃ G', Gr G H G' H' ∧ Da M G' x d
theorem DW.weak {M : Pm} {J : It} {ds : List D} {G0 H0 : Hp} (h : DW M J ds G0 noHp) : DW M J ds G0 H0 :=
  ⟨h.len, fun i G H hi a b _ => h.go i G H hi a b (same_no H), fun G H a b _ => h.stop G H a b (same_no H), fun i d G H x H' e a b _ => h.yld i d G H x H' e a b (same_no H)⟩
/-- for a for loop: of what is frozen -/
def tIt (M : Pm) (f : En → Option (List D)) : TI := fun σ H R => ∃ B ρ G ds, Rep M B ρ G σ H ∧ f ρ = some ds ∧ ∀ J G' H', Gr G H G' H' → DW M J ds G' noHp → R J H'
/-- for a comprehension: of what stands -/
def tIc (M : Pm) (f : En → Option (List D)) : TI := fun σ H R => ∃ B ρ G ds, Rep M B ρ G σ H ∧ f ρ = some ds ∧ ∀ J G' H', Gr G H G' H' → DW M J ds G' H' → R J H'
theorem PI.c {X : Cx} {tg e : Expr} {M : Pm} {f : En → Option (List D)} (h : PI X tg e (tIt M f)) : PI X tg e (tIc M f) := PI.mono h fun σ H R ⟨B, ρ, G, ds, Rp, e, k⟩ => ⟨B, ρ, G, ds, Rp, e, fun J G' H' g w => k J G' H' g w.weak⟩
def seqI (F : En → Option D) : En → Option (List D) := fun ρ => (F ρ).bind itemsD
section
variable {X : Cx} {tg e : Expr} {F : En → Option D}
theorem dw_list {M : Pm} {a : Addr} {vs : List V} {ds : List D} {G0 H0 : Hp} (h : ∀ G H, Same G0 G → Same G H → Same H0 H → SqL M.K H a vs) (t : DqAll M.K G0 vs ds) (hz : vs.length ≤ sizeLine) : DW M (Itl M.K a) ds G0 H0 where
  len := by rw [← dpall_len t, sz_line]; exact hz
  go := fun i G H hi s1 s2 s3 => by
    have hl := dpall_len t
    exact ⟨vs, vs[i]'(by omega), h G H s1 s2 s3, by simp [hl, hi]⟩
  stop := fun G H s1 s2 s3 => ⟨vs, h G H s1 s2 s3, by rw [dpall_len t]; exact Nat.le_refl _⟩
  yld := fun i d G H x H' e s1 s2 s3 y => by
    obtain ⟨rfl, y⟩ := y
    obtain ⟨v, h1, h2⟩ := dpall_at' t e
    have h3 := y vs (h G _ s1 s2 s3)
    rw [h1] at h3
    cases h3
    exact ⟨G, Gr.refl s2, .dp (Dq.up s1 _ _ h2)⟩
theorem dw_tup {M : Pm} {a : Addr} {vs : List V} {ds : List D} {G0 H0 : Hp} (h : SqT M.K G0 a vs) (t : DqAll M.K G0 vs ds) (hz : vs.length ≤ sizeLine) : DW M (Itt M.K a) ds G0 H0 where
  len := by rw [← dpall_len t, sz_line]; exact hz
  go := fun i G H hi s1 s2 s3 => by
    have hl := dpall_len t
    exact ⟨vs, vs[i]'(by omega), DL.Same.sqt (s1.trans s2) h, by simp [hl, hi]⟩
  stop := fun G H s1 s2 s3 => ⟨vs, DL.Same.sqt (s1.trans s2) h, by rw [dpall_len t]; exact Nat.le_refl _⟩
  yld := fun i d G H x H' e s1 s2 s3 y => by
    obtain ⟨rfl, y⟩ := y
    obtain ⟨v, h1, h2⟩ := dpall_at' t e
    have h3 := y vs (DL.Same.sqt (s1.trans s2) h)
    rw [h1] at h3
    cases h3
    exact ⟨G, Gr.refl s2, .dp (Dq.up s1 _ _ h2)⟩
theorem iter_l {pins : List (Addr × Obj)} {σ : L2.St} {H1 : Hp} {s1 : Shared} {a : Addr} {vs : List V} {R : It → Hp → Prop} {E : Value → Shared → Prop} (I1 : Inv X pins σ H1 s1) (hq : SqL X.K H1 a vs) (q : R (Itl X.K a) H1) :
    wpAny (model X.prog X.w) X.A (pyIter (.ref a)) (PIE X pins σ tg R) E s1 := by
  obtain ⟨its, rv, p, hz⟩ := I1.list hq
  refine wpAny_pyIter_list p.isList ?_
  refine ⟨s1.heap.objs.size, [s1.heap.objs.size], _, _, H1, rfl, I1.kept (t' := s1.toks) fun b o e => Heap.get?_push_of_some _ e, turn_list a _, ⟨_, Heap.get?_push_size _ rfl, rfl, rfl⟩, fun b hb => ?_, q⟩
  have e : b = s1.heap.objs.size := by simpa using hb
  subst e
  exact I1.fpOk (Nat.le_refl _) (I1.hok.fresh (Nat.le_refl _))
theorem iter_t {pins : List (Addr × Obj)} {σ : L2.St} {H1 : Hp} {s1 : Shared} {a : Addr} {vs : List V} {R : It → Hp → Prop} {E : Value → Shared → Prop} (I1 : Inv X pins σ H1 s1) (hq : SqT X.K H1 a vs) (q : R (Itt X.K a) H1) :
    wpAny (model X.prog X.w) X.A (pyIter (.ref a)) (PIE X pins σ tg R) E s1 := by
  obtain ⟨its, rv, p, hz⟩ := I1.tuple hq
  refine wpAny_pyIter_tuple (show s1.heap.IsTuple a its.toArray from p) ?_
  refine ⟨s1.heap.objs.size, [s1.heap.objs.size], _, _, H1, rfl, I1.kept (t' := s1.toks) fun b o e => Heap.get?_push_of_some _ e, turn_tuple a _, ⟨_, Heap.get?_push_size _ rfl, rfl, rfl⟩, fun b hb => ?_, q⟩
  have e : b = s1.heap.objs.size := by simpa using hb
  subst e
  exact I1.fpOk (Nat.le_refl _) (I1.hok.fresh (Nat.le_refl _))
/-- a list or a tuple, frozen -/
theorem i_seq (hl : PE X e (tF (pmOf X) F)) : PI X tg e (tIt (pmOf X) (seqI F)) := by
  refine ⟨fun pins s σ H R I h => ?_⟩
  obtain ⟨B, ρ, G, ds, Rp, e, k⟩ := h
  obtain ⟨d, e1, e2⟩ := Option.bind_eq_some_iff.mp e
  refine thn (hl.run pins s σ H (fun v H1 => ∃ G1, Gr G H G1 H1 ∧ Da (pmOf X) G1 v d) I ⟨B, ρ, G, d, Rp, e1, fun u G' H' g q => ⟨G', g, q⟩⟩) fun v s1 ⟨x, H1, I1, r1, G1, g1, q1⟩ => ?_
  cases d with
  | list xs =>
    have e' : xs = ds := Option.some.inj e2
    subst e'
    obtain ⟨a, vs, rfl, h1, t⟩ := q1.list
    cases r1
    obtain ⟨_, _, _, hz⟩ := I1.list (SqL.of (g1.s _ _ h1))
    exact iter_l I1 (SqL.of (g1.s _ _ h1)) (k _ G1 H1 g1 (dw_list (fun G H s1 s2 _ => SqL.of (s2 _ _ (s1 _ _ h1))) t hz))
  | tuple xs =>
    have e' : xs = ds := Option.some.inj e2
    subst e'
    obtain ⟨a, vs, rfl, h1, t⟩ := q1.tup
    cases r1
    obtain ⟨_, _, _, hz⟩ := I1.tuple (DL.Same.sqt g1.s h1)
    exact iter_t I1 (DL.Same.sqt g1.s h1) (k _ G1 H1 g1 (dw_tup h1 t hz))
  | _ => cases e2
/-- .. or one that a slot owns, for a comprehension -/
theorem i_seqB (hl : PE X e (tB (pmOf X) F)) : PI X tg e (tIc (pmOf X) (seqI F)) := by
  refine ⟨fun pins s σ H R I h => ?_⟩
  obtain ⟨B, ρ, G, ds, Rp, e, k⟩ := h
  obtain ⟨d, e1, e2⟩ := Option.bind_eq_some_iff.mp e
  refine thn (hl.run pins s σ H (fun v H1 => ∃ G1, Gr G H G1 H1 ∧ Db (pmOf X) G1 H1 v d) I ⟨B, ρ, G, d, Rp, e1, fun u G' H' g q => ⟨G', g, q⟩⟩) fun v s1 ⟨x, H1, I1, r1, G1, g1, q1⟩ => ?_
  cases d with
  | list xs =>
    have e' : xs = ds := Option.some.inj e2
    subst e'
    obtain ⟨a, vs, rfl, h1, t⟩ := q1.list g1.s
    cases r1
    obtain ⟨_, _, _, hz⟩ := I1.list (SqL.of h1)
    exact iter_l I1 (SqL.of h1) (k _ G1 H1 g1 (dw_list (fun G H s1 s2 s3 => SqL.of (s3 _ _ h1)) t hz))
  | tuple xs =>
    have e' : xs = ds := Option.some.inj e2
    subst e'
    obtain ⟨a, vs, rfl, h1, h2, t⟩ := q1.tup g1.s
    cases r1
    obtain ⟨_, _, _, hz⟩ := I1.tuple h2
    exact iter_t I1 h2 (k _ G1 H1 g1 (dw_tup h1 t hz))
  | _ => cases e2
/-- range -/
def rngI (Fs : En → Option (List D)) : En → Option (List D) := fun ρ => (Fs ρ).bind fun ds => (rgF ds).bind fun ab => if rgOk ab.1 ab.2 = true then some (rgL ab.1 ab.2) else none
theorem dw_rng {M : Pm} {a : Int} {n : Nat} {G0 H0 : Hp} (hz : n ≤ sz) : DW M (Itr a n) ((List.range n).map fun i => PyData.int (a + (i : Nat))) G0 H0 where
  len := by rw [List.length_map, List.length_range]; exact hz
  go := fun i G H hi _ _ _ => by rw [List.length_map, List.length_range] at hi; exact hi
  stop := fun G H _ _ _ => by rw [List.length_map, List.length_range]; exact Nat.le_refl n
  yld := fun i d G H x H' e _ s2 _ y => by
    obtain ⟨rfl, rfl⟩ := y
    rw [List.getElem?_map] at e
    obtain ⟨j, h1, rfl⟩ := Option.map_eq_some_iff.mp e
    obtain ⟨hj, h2⟩ := List.getElem?_eq_some_iff.mp h1
    rw [List.getElem_range] at h2
    subst h2
    exact ⟨G, Gr.refl s2, da_int _⟩
theorem i_rng1 {a : Expr} {Fa : En → Option D} {p pos : Pos} (hg : Gl X "range") (hm : X.mg "range" = none) (ha : PE X a (tB (pmOf X) Fa)) (hs : starEach [a] X.env = [(false, eval a X.env)] := by rfl) (hs' : starEach [a] X.env = (false, eval a X.env) :: starEach [] X.env := by rfl) :
    PI X tg (.Call (.Name "range" p) [a] [] pos) (tIt (pmOf X) (rngI (consF Fa nilF))) := by
  refine PI.mono (pi_range1 hg hm (ba1 ha hs') hs) ?_
  rintro σ H R ⟨B, ρ, G, ds, Rp, e, k⟩
  obtain ⟨xs, e1, e⟩ := Option.bind_eq_some_iff.mp e
  obtain ⟨ab, e2, e⟩ := Option.bind_eq_some_iff.mp e
  obtain ⟨z, rfl⟩ := if_some e
  obtain ⟨x, e0, e3⟩ := Option.bind_eq_some_iff.mp e1
  cases e3
  match x, e2 with
  | .int n, e2 =>
    cases e2
    obtain ⟨z1, z2, z3, z4, z5⟩ := rgOk_iff z
    refine ⟨B, ρ, G, _, Rp, e1, fun us G' H' g q => ?_⟩
    obtain ⟨v, rfl, hv⟩ := p1 q
    refine ⟨n, by rw [hv.int], z3, z4, k _ G' H' g ?_⟩
    have := dw_rng (M := pmOf X) (a := 0) (n := (n - 0).toNat) (G0 := G') (H0 := noHp) z5
    rw [Int.sub_zero] at this
    unfold rgL
    rw [Int.sub_zero]
    exact this
theorem i_rng2 {a b : Expr} {Fa Fb : En → Option D} {p pos : Pos} (hg : Gl X "range") (hm : X.mg "range" = none) (ha : PE X a (tB (pmOf X) Fa)) (hb : PE X b (tB (pmOf X) Fb)) (hs : starEach [a, b] X.env = [(false, eval a X.env), (false, eval b X.env)] := by rfl) (hs2 : starEach [b] X.env = [(false, eval b X.env)] := by rfl)
    (hs' : starEach [a, b] X.env = (false, eval a X.env) :: starEach [b] X.env := by rfl) (hs3 : starEach [b] X.env = (false, eval b X.env) :: starEach [] X.env := by rfl) :
    PI X tg (.Call (.Name "range" p) [a, b] [] pos) (tIt (pmOf X) (rngI (consF Fa (consF Fb nilF)))) := by
  refine PI.mono (pi_range2 hg hm (ba_cons ha (ba1 hb hs3) hs') hs hs2) ?_
  rintro σ H R ⟨B, ρ, G, ds, Rp, e, k⟩
  obtain ⟨xs, e1, e⟩ := Option.bind_eq_some_iff.mp e
  obtain ⟨ab, e2, e⟩ := Option.bind_eq_some_iff.mp e
  obtain ⟨z, rfl⟩ := if_some e
  obtain ⟨x, e0, e3⟩ := Option.bind_eq_some_iff.mp e1
  obtain ⟨ys, e4, e5⟩ := Option.bind_eq_some_iff.mp e3
  obtain ⟨y, e6, e7⟩ := Option.bind_eq_some_iff.mp e4
  cases e7
  cases e5
  match x, y, e2 with
  | .int m, .int n, e2 =>
    cases e2
    obtain ⟨z1, z2, z3, z4, z5⟩ := rgOk_iff z
    refine ⟨B, ρ, G, _, Rp, e1, fun us G' H' g q => ?_⟩
    obtain ⟨v, w, rfl, hv, hw⟩ := p2 q
    refine ⟨m, n, by rw [hv.int, hw.int], ⟨z1, z2, z3, z4⟩, k _ G' H' g ?_⟩
    exact dw_rng (M := pmOf X) (a := m) (n := (n - m).toNat) (G0 := G') (H0 := noHp) z5
end

/-! ### for -/
def forO (w : List Nat) (go : En → Option Out) : Out → Option Out
  | .nx ρ => go (wipeE ρ w)
  | .ct ρ => go (wipeE ρ w)
  | .bk ρ => some (.nx (wipeE ρ w))
  | .rt d => some (.rt d)
def forL (g : D → En → Option En) (body : En → Option Out) (w : List Nat) : List D → En → Option Out
  | [], ρ => some (.nx ρ)
  | x :: xs, ρ => (g x ρ).bind fun ρ1 => (body ρ1).bind (forO w (forL g body w xs))
def forS (f : En → Option (List D)) (g : D → En → Option En) (body : En → Option Out) (w : List Nat) : En → Option Out := fun ρ => (f ρ).bind fun xs => forL g body w xs (wipeE ρ w)
section
variable {X : Cx} {tg iter : Expr} {pos : Pos} {body : List Stmt} {W : List Nat} {f : En → Option (List D)} {g : D → En → Option En} {Fb : En → Option Out}
theorem s_for (w : List Nat) (hp : PassesOwn (model X.prog X.w) X.A X.env X.xe) (hc : X.calm = true) (hi : PI X tg iter (tIt (pmOf X) f)) (hg : PG X tg (tG (pmOf X) W g)) (hb : PSs X body (tS (pmOf X) Fb)) (hs : ∀ x, foldedSetIterable iter X.env x = pure x := by intro _; rfl) :
    PS X (.For tg iter body [] pos) (tS (pmOf X) (forS f g Fb w)) := by
  refine PS.mono (ps_for hp hc hi hg hb hs) ?_
  rintro E σ H ⟨B, ρ, G, o, R, e, k⟩
  obtain ⟨ds, e1, e2⟩ := Option.bind_eq_some_iff.mp e
  refine ⟨B, ρ, G, ds, R, e1, fun J G1 H1 g1 wk => ?_⟩
  refine ⟨fun i m σ H => m = ds.length - i ∧ i ≤ ds.length ∧ ∃ ρ2 G2, Same G1 G2 ∧ Rep (pmOf X) B ρ2 G2 σ H ∧ forL g Fb w (ds.drop i) ρ2 = some o ∧ Fin (pmOf X) B G2 E o,
    ⟨ds.length, by simp, Nat.zero_le _, wipeE ρ w, G1, Same.refl _, (R.up g1).wipeE w, by rw [List.drop_zero]; exact e2, k.tr g1.g⟩, ?_⟩
  rintro i m σ2 H2 ⟨rfl, hi, ρ2, G2, s2, R2, e3, k2⟩
  by_cases hlt : i < ds.length
  · have ed : ds.drop i = ds[i] :: ds.drop (i + 1) := List.drop_eq_getElem_cons hlt
    rw [ed] at e3
    obtain ⟨ρ3, e4, e5⟩ := Option.bind_eq_some_iff.mp e3
    obtain ⟨o1, e6, e7⟩ := Option.bind_eq_some_iff.mp e5
    refine .inr ⟨wk.go i G2 H2 hlt s2 R2.s (same_no _), fun σ' H' => ∃ ρ', ∃ G', Same G1 G' ∧ Rep (pmOf X) B ρ' G' σ' H' ∧ forL g Fb w (ds.drop (i + 1)) ρ' = some o ∧ Fin (pmOf X) B G' E o,
      fun σ' H' ⟨ρ', G', a, b, c, d⟩ => ⟨ds.length - (i + 1), by omega, rfl, hlt, ρ', G', a, b, c, d⟩, fun x H3 y => ?_⟩
    obtain ⟨G3, g3, q3⟩ := wk.yld i ds[i] G2 H2 x H3 (List.getElem?_eq_getElem hlt) s2 R2.s (same_no _) y
    refine ⟨B, ρ2, G3, ds[i], ρ3, R2.up g3, q3, e4, fun σ4 R4 _ _ => ⟨B, ρ3, G3, o1, R4, e6, ?_⟩⟩
    have k3 := k2.tr g3.g
    have s3 := s2.trans g3.g
    cases o1 with
    | nx ρ5 => exact fun G5 σ5 H5 s5 R5 => ⟨_, G5, s3.trans s5, R5.wipeE w, e7, k3.tr s5⟩
    | ct ρ5 => exact fun G5 σ5 H5 s5 R5 => ⟨_, G5, s3.trans s5, R5.wipeE w, e7, k3.tr s5⟩
    | bk ρ5 =>
      cases e7
      exact fun G5 σ5 H5 s5 R5 => k3 G5 σ5 H5 s5 (R5.wipeE w)
    | rt d =>
      cases e7
      exact k3
  · have ei : i = ds.length := by omega
    subst ei
    rw [List.drop_length] at e3
    cases e3
    exact .inl ⟨wk.stop G2 H2 s2 R2.s (same_no _), k2 G2 σ2 H2 (Same.refl _) R2⟩
end

/-! ### while -/
def whileL (C : En → Option Bool) (body : En → Option Out) (w : List Nat) : Nat → En → Option Out
  | 0, _ => none
  | n + 1, ρ => (C ρ).bind fun b => if b = true then (body ρ).bind (forO w (whileL C body w n)) else some (.nx ρ)
def whileS (n : Nat) (C : En → Option Bool) (body : En → Option Out) (w : List Nat) : En → Option Out := fun ρ => whileL C body w n (wipeE ρ w)
section
variable {X : Cx} {c : Expr} {pos : Pos} {body : List Stmt} {C : En → Option Bool} {Fb : En → Option Out}
theorem s_while (n : Nat) (w : List Nat) (hp : PassesOwn (model X.prog X.w) X.A X.env X.xe) (hc : PT X c (tT (pmOf X) C)) (hb : PSs X body (tS (pmOf X) Fb)) : PS X (.While c body [] pos) (tS (pmOf X) (whileS n C Fb w)) := by
  refine PS.mono (ps_while hp hc hb) ?_
  rintro E σ H ⟨B, ρ, G, o, R, e, k⟩
  refine ⟨fun m σ H => ∃ ρ2 G2, Rep (pmOf X) B ρ2 G2 σ H ∧ whileL C Fb w m ρ2 = some o ∧ Fin (pmOf X) B G2 E o, ⟨n, wipeE ρ w, G, R.wipeE w, e, k⟩, ?_⟩
  rintro m σ2 H2 ⟨ρ2, G2, R2, e2, k2⟩
  cases m with
  | zero => cases e2
  | succ m =>
    obtain ⟨b, e3, e4⟩ := Option.bind_eq_some_iff.mp e2
    refine ⟨B, ρ2, G2, b, R2, e3, fun G3 H3 g3 => ?_⟩
    cases b with
    | false =>
      cases e4
      exact k2 G3 σ2 H3 g3.g (R2.up g3)
    | true =>
      obtain ⟨o1, e5, e6⟩ := Option.bind_eq_some_iff.mp (show (Fb ρ2).bind (forO w (whileL C Fb w m)) = some o from e4)
      rw [if_pos rfl]
      refine ⟨fun σ' H' => ∃ ρ', ∃ G', Rep (pmOf X) B ρ' G' σ' H' ∧ whileL C Fb w m ρ' = some o ∧ Fin (pmOf X) B G' E o, fun σ' H' q => ⟨m, Nat.lt_succ_self _, q⟩, B, ρ2, G3, o1, R2.up g3, e5, ?_⟩
      have k3 := k2.tr g3.g
      cases o1 with
      | nx ρ5 => exact fun G5 σ5 H5 s5 R5 => ⟨_, G5, R5.wipeE w, e6, k3.tr s5⟩
      | ct ρ5 => exact fun G5 σ5 H5 s5 R5 => ⟨_, G5, R5.wipeE w, e6, k3.tr s5⟩
      | bk ρ5 =>
        cases e6
        exact fun G5 σ5 H5 s5 R5 => k3 G5 σ5 H5 s5 (R5.wipeE w)
      | rt d =>
        cases e6
        exact k3
end

/-! ### comprehensions -/
def compL (g : D → En → Option En) (C : En → Option Bool) (F : En → Option D) (ρ : En) : List D → Option (List D)
  | [] => some []
  | d :: ds => (g d ρ).bind fun ρ1 => (C ρ1).bind fun b => if b = true then (F ρ1).bind fun y => if noD y = true then (compL g C F ρ ds).map (y :: ·) else none else compL g C F ρ ds
def compF (f : En → Option (List D)) (g : D → En → Option En) (C : En → Option Bool) (F : En → Option D) (vs : List Nat) : En → Option D := fun ρ => (f ρ).bind fun ds => (compL g C F (wipeE ρ vs) ds).map .list
def yesT : En → Option Bool := fun _ => some true
section
variable {X : Cx} {tg iter elt : Expr} {ifs : List Expr} {W vs : List Nat} {f : En → Option (List D)} {g : D → En → Option En} {C : En → Option Bool} {F : En → Option D}
theorem PTs.mono {e : List Expr} {t t' : TT} (h : PTs X e t) (m : ∀ σ H Q, t' σ H Q → t σ H Q) : PTs X e t' := ⟨fun pins s σ H Q I q => h.run pins s σ H Q I (m σ H Q q)⟩
theorem ts_nil : PTs X [] (tT (pmOf X) yesT) := by
  refine PTs.mono pts_nil ?_
  rintro σ H Q ⟨B, ρ, G, b, R, e, k⟩
  cases e
  exact k G H (Gr.refl R.s)
theorem ts_one {c : Expr} (h : PT X c (tT (pmOf X) C)) : PTs X [c] (tT (pmOf X) C) := pts_one h
theorem lc_imp {M : Pm} (hW : ∀ i ∈ W, i ∈ vs) : ∀ σ H Q, tN M (compF f g C F vs) σ H Q → tLc (tIc M f) (tG M W g) (tT M C) (tF M F) vs σ H Q := by
  rintro σ H Q ⟨B, ρ, G, d, R, e, k⟩
  obtain ⟨ds, e1, e2⟩ := Option.bind_eq_some_iff.mp e
  obtain ⟨out, e3, rfl⟩ := Option.map_eq_some_iff.mp e2
  refine ⟨B, ρ, G, ds, R, e1, fun J G1 H1 g1 wk L hL => ?_⟩
  have R1 := R.up g1
  have hH : H L = none := Same.free g1.h hL
  refine ⟨fun i m H2 => m = ds.length - i ∧ i ≤ ds.length ∧ ∃ G2 acc da rest, Gr G1 H1 G2 H2 ∧ G2 L = none ∧ H2 L = some (.lst acc) ∧ DqAll M.K G2 acc da ∧ compL g C F (wipeE ρ vs) (ds.drop i) = some rest ∧ out = da ++ rest ∧ acc.length ≤ i,
    ⟨ds.length, by simp, Nat.zero_le _, G1, [], [], out, Gr.own R1.s _ hL, R1.s.free hL, upd_same, .nil, by rw [List.drop_zero]; exact e3, rfl, Nat.le_refl _⟩, ?_⟩
  rintro i m H2 ⟨rfl, hi, G2, acc, da, rest, g2, n2, h2, t2, e4, eo, hacc⟩
  by_cases hlt : i < ds.length
  · have ed : ds.drop i = ds[i] :: ds.drop (i + 1) := List.drop_eq_getElem_cons hlt
    rw [ed] at e4
    obtain ⟨ρ3, e5, e6⟩ := Option.bind_eq_some_iff.mp e4
    obtain ⟨b, e7, e8⟩ := Option.bind_eq_some_iff.mp e6
    refine .inr ⟨wk.go i G2 H2 hlt g2.g g2.s g2.h, fun H' => ∃ G2 acc da rest, Gr G1 H1 G2 H' ∧ G2 L = none ∧ H' L = some (.lst acc) ∧ DqAll M.K G2 acc da ∧ compL g C F (wipeE ρ vs) (ds.drop (i + 1)) = some rest ∧ out = da ++ rest ∧ acc.length ≤ i + 1,
      fun H' q => ⟨ds.length - (i + 1), by omega, rfl, hlt, q⟩, fun x H3 y => ?_⟩
    obtain ⟨G3, g3, q3⟩ := wk.yld i ds[i] G2 H2 x H3 (List.getElem?_eq_getElem hlt) g2.g g2.s g2.h y
    have Rw : Rep M B (wipeE ρ vs) G3 (wipe σ vs) H3 := (R1.up (g2.trans g3)).wipeEV vs
    refine ⟨B, _, G3, ds[i], ρ3, Rw, q3, e5, fun σ4 R4 l4 n4 => ⟨wipe_eq hW l4 n4, B, ρ3, G3, b, R4, e7, fun G5 H5 g5 => ?_⟩⟩
    cases b with
    | false =>
      have e8' : compL g C F (wipeE ρ vs) (ds.drop (i + 1)) = some rest := e8
      rw [if_neg Bool.false_ne_true]
      have g35 := g3.trans g5
      exact ⟨G5, acc, da, rest, g2.trans g35, g35.n _ _ h2 n2, g35.h _ _ h2, DqAll.up g35.g _ _ t2, e8', eo, by omega⟩
    | true =>
      obtain ⟨z, e9, e10⟩ := Option.bind_eq_some_iff.mp (show ((F ρ3).bind fun y => if noD y = true then (compL g C F (wipeE ρ vs) (ds.drop (i + 1))).map (y :: ·) else none) = some rest from e8)
      have hz : noD z = true := by
        by_cases hz : noD z = true
        · exact hz
        · rw [if_neg hz] at e10; cases e10
      rw [if_pos hz] at e10
      obtain ⟨rest', e11, rfl⟩ := Option.map_eq_some_iff.mp e10
      rw [if_pos rfl]
      refine ⟨B, ρ3, G5, z, R4.up g5, e9, fun u G6 H6 g6 q6 => ?_⟩
      have g36 := (g3.trans g5).trans g6
      have n6 := g36.n _ _ h2 n2
      have ga := g2.trans g36
      refine ⟨acc, g36.h _ _ h2, by have := wk.len; rw [← sz_line]; omega, G6, acc ++ [u], da ++ [z], rest', ?_, n6, upd_same, dpall_app (DqAll.up g36.g _ _ t2) (.cons (q6.toDq hz) .nil), e11, by rw [eo]; simp, by simp; omega⟩
      refine ⟨ga.g, fun b x eb => ?_, fun b x eb => ?_, ga.n⟩
      · rw [upd_ne (fun t => by rw [t, n6] at eb; cases eb)]; exact ga.s b x eb
      · rw [upd_ne (fun t => by rw [t, hL] at eb; cases eb)]; exact ga.h b x eb
  · have ei : i = ds.length := by omega
    subst ei
    rw [List.drop_length] at e4
    cases e4
    rw [List.append_nil] at eo
    subst eo
    exact .inl ⟨wk.stop G2 H2 g2.g g2.s g2.h, k L _ G2 H2 (g1.trans g2) hH n2 h2 (.lst t2)⟩
variable {scope : Scope} {own : List (Str × Nat)} {pos : Pos}
theorem n_lc (hc : X.calm = true) (hN : X.N.Nodup) (hi : PI X tg iter (tIc (pmOf X) f)) (ok : BlkOk X.N X.env.scope scope own)
    (hg : ∀ (s : Shared) (H : Hp) (C : Addr) (cl : List (Str × Addr)) (fp : List Addr), PG (X.blk s H scope (compEnvC scope cl C X.env) fp) tg (tG (pmOf X) W g)) (ht : ∀ (s : Shared) (H : Hp) (C' : Addr) (cl : List (Str × Addr)) (fp : List Addr), PTs (X.blk s H scope (compEnvC scope cl C' X.env) fp) ifs (tT (pmOf X) C))
    (he : ∀ (s : Shared) (H : Hp) (C : Addr) (cl : List (Str × Addr)) (fp : List Addr), PE (X.blk s H scope (compEnvC scope cl C X.env) fp) elt (tF (pmOf X) F)) (hW : ∀ i ∈ W, i ∈ own.map (·.2) := by decide) (hs : ∀ x, foldedSetIterable iter X.env x = pure x := by intro _; rfl) :
    PE X (.ListComp elt [⟨tg, iter, ifs, 0⟩] scope pos) (tN (pmOf X) (compF f g C F (own.map (·.2)))) := PE.mono (pe_lc hc hN hi ok hg ht he hs) (lc_imp hW)
/-- name = [..], name a local -/
theorem s_lcOwn {i : Nat} {y : Str} {py spos : Pos} (hc : X.calm = true) (hN : X.N.Nodup) (hy : X.N[i]? = some y) (hyl : X.env.scope.names.lookup y = some .local)
    (hsw : swapsWith (.ListComp elt [⟨tg, iter, ifs, 0⟩] scope pos) (some (.Name y py)) spos.line X.env = pure true) (hi : PI X tg iter (tIc (pmOf X) f)) (ok : BlkOk X.N X.env.scope scope own)
    (hg : ∀ (s : Shared) (H : Hp) (C : Addr) (cl : List (Str × Addr)) (fp : List Addr), PG (X.blk s H scope (compEnvC scope cl C X.env) fp) tg (tG (pmOf X) W g)) (ht : ∀ (s : Shared) (H : Hp) (C' : Addr) (cl : List (Str × Addr)) (fp : List Addr), PTs (X.blk s H scope (compEnvC scope cl C' X.env) fp) ifs (tT (pmOf X) C))
    (he : ∀ (s : Shared) (H : Hp) (C : Addr) (cl : List (Str × Addr)) (fp : List Addr), PE (X.blk s H scope (compEnvC scope cl C X.env) fp) elt (tF (pmOf X) F)) (hW : ∀ i ∈ W, i ∈ own.map (·.2) := by decide) (hs : ∀ x, foldedSetIterable iter X.env x = pure x := by intro _; rfl) :
    PS X (.Assign [.Name y py] (.ListComp elt [⟨tg, iter, ifs, 0⟩] scope pos) spos) (tS (pmOf X) (ownS i (compF f g C F (own.map (·.2))))) := PS.mono (ps_setLc hc hN hy hyl hsw hi ok hg ht he hs) (own_imp (lc_imp hW))
theorem s_lcSet {i : Nat} {y : Str} {py spos : Pos} (hc : X.calm = true) (hN : X.N.Nodup) (hy : X.N[i]? = some y) (hyl : X.env.scope.names.lookup y = some .local)
    (hsw : swapsWith (.ListComp elt [⟨tg, iter, ifs, 0⟩] scope pos) (some (.Name y py)) spos.line X.env = pure true) (hi : PI X tg iter (tIc (pmOf X) f)) (ok : BlkOk X.N X.env.scope scope own)
    (hg : ∀ (s : Shared) (H : Hp) (C : Addr) (cl : List (Str × Addr)) (fp : List Addr), PG (X.blk s H scope (compEnvC scope cl C X.env) fp) tg (tG (pmOf X) W g)) (ht : ∀ (s : Shared) (H : Hp) (C' : Addr) (cl : List (Str × Addr)) (fp : List Addr), PTs (X.blk s H scope (compEnvC scope cl C' X.env) fp) ifs (tT (pmOf X) C))
    (he : ∀ (s : Shared) (H : Hp) (C : Addr) (cl : List (Str × Addr)) (fp : List Addr), PE (X.blk s H scope (compEnvC scope cl C X.env) fp) elt (tF (pmOf X) F)) (hW : ∀ i ∈ W, i ∈ own.map (·.2) := by decide) (hs : ∀ x, foldedSetIterable iter X.env x = pure x := by intro _; rfl) :
    PS X (.Assign [.Name y py] (.ListComp elt [⟨tg, iter, ifs, 0⟩] scope pos) spos) (tS (pmOf X) (setS i (compF f g C F (own.map (·.2))))) :=
  PS.mono (ps_setLc hc hN hy hyl hsw hi ok hg ht he hs) (set_imp fun σ H Q ⟨B, ρ, G, d, R, e, k⟩ => lc_imp hW σ H Q ⟨B, ρ, G, d, R, e, k.n⟩)
end
end DL

/-! DL5: defs and their calls. -/
namespace DL
open PySem PySem.Spec PyProof.Rows L2

/-- a def's promise: it gives the datum that F says -/
def FnD (M : Pm) (F : List D → Option D) (n : Nat) : Sp := fun vs H Q _ => ∃ G ds d, ds.length = n ∧ Same G H ∧ Paired (Da M G) vs ds ∧ F ds = some d ∧ KF M G H d Q
def endO : Out → Option D
  | .rt d => some d
  | .nx _ => some .none
  | _ => none
def defF (N : Nat) (body : En → Option Out) : List D → Option D := fun ds => (body (ds.map Sl.dat ++ List.replicate (N - ds.length) .un)).bind endO
theorem rep_start {M : Pm} {G H : Hp} (s : Same G H) {N : List Str} {vs : List V} {ds : List D} (h : Paired (Da M G) vs ds) : Rep M (G, H) (ds.map Sl.dat ++ List.replicate (N.length - ds.length) .un) G (L2.start N vs) H := by
  have hl := paired_len h
  refine ⟨Gr.refl s, by unfold L2.start; simp [hl], fun i => i, fun i => ?_, fun i j hi => ?_⟩
  · unfold L2.start
    by_cases hi : i < ds.length
    · rw [List.getElem?_append_left (by simpa using hi), List.getElem?_append_left (by simpa [hl] using hi), List.getElem?_map, List.getElem?_map, List.getElem?_eq_getElem hi]
      have hi2 : i < vs.length := by omega
      rw [List.getElem?_eq_getElem hi2]
      refine ⟨vs[i], rfl, ?_⟩
      have q : ∀ {us : List V} {es : List D}, Paired (Da M G) us es → ∀ i (h1 : i < us.length) (h2 : i < es.length), Da M G us[i] es[i] := by
        intro us es p
        induction p with
        | nil => intro i h1; simp at h1
        | cons a t ih =>
          intro i h1 h2
          cases i with
          | zero => exact a
          | succ i => exact ih i (by simpa using h1) (by simpa using h2)
      exact q h i hi2 hi
    · rw [List.getElem?_append_right (by simpa using hi)]
      cases q : (List.replicate (N.length - ds.length) Sl.un)[i - (ds.map Sl.dat).length]? with
      | none => trivial
      | some x =>
        have := List.mem_of_getElem? q
        rw [List.mem_replicate] at this
        rw [this.2]
        trivial
  · exfalso
    by_cases hz : i < ds.length
    · rw [List.getElem?_append_left (by simpa using hz), List.getElem?_map, List.getElem?_eq_getElem hz] at hi
      exact hi
    · rw [List.getElem?_append_right (by simpa using hz)] at hi
      cases q : (List.replicate (N.length - ds.length) Sl.un)[i - (ds.map Sl.dat).length]? with
      | none => rw [q] at hi; exact hi
      | some x =>
        have := List.mem_of_getElem? q
        rw [List.mem_replicate] at this
        rw [q, this.2] at hi
        exact hi
section
variable {P : Program} {w : World} {K : PySem.W.Frag} {mg : Str → Option Value} {base : Heap}
theorem fn_ok {x qual : Str} {st : Stmt} {f : Addr} {fd : FuncData} {N ps : List Str} {k n : Nat} {Fb : En → Option Out} (F : Fun K x qual st f fd) (S : FnScope N ps (defScope st)) (hn : ps.length = n)
    (hbody : ∀ (cdv : Value) (A : Around) (outer : List Env) (s : Shared) (H : Hp) (E : XK), Room k (A.deeper (envOfC qual (defScope st) s.heap.objs.size f cdv)) →
      PSs (cxOf CX0 P w K mg base N qual (defScope st) f cdv A outer s H E).nox (defBody st) (tS ⟨P, w, K⟩ Fb)) : FnOk P w K mg base CX0 (k + 1) f fd ps (FnD ⟨P, w, K⟩ (defF N.length Fb) n) := by
  refine F.ok S (fun vs H Q E h => ?_) (fun cdv A outer s H vs Q E hr h => ⟨_, hbody cdv A outer s H E hr, ?_⟩)
  · obtain ⟨G, ds, d, h1, h2, h3, _⟩ := h
    rw [paired_len h3, h1, hn]
  · obtain ⟨G, ds, d, h1, h2, h3, h4, k⟩ := h
    obtain ⟨o, e1, e2⟩ := Option.bind_eq_some_iff.mp h4
    refine ⟨(G, H), _, G, o, rep_start h2 h3, e1, ?_⟩
    cases o with
    | rt d' =>
      cases e2
      exact fun v G' H' s' g q => k v G' H' g q
    | nx ρ =>
      cases e2
      exact fun G' σ' H' s' R => k _ G' H' R.gr da_non
    | bk ρ => cases e2
    | ct ρ => cases e2
end
theorem nilF_len : ∀ ρ ds, nilF ρ = some ds → ds.length = 0 := fun ρ ds e => by cases e; rfl
theorem consF_len {F : En → Option D} {Fs : En → Option (List D)} {n : Nat} (h : ∀ ρ ds, Fs ρ = some ds → ds.length = n) : ∀ ρ ds, consF F Fs ρ = some ds → ds.length = n + 1 := fun ρ ds e => by
  obtain ⟨d, e1, e⟩ := Option.bind_eq_some_iff.mp e
  obtain ⟨r, e2, e3⟩ := Option.bind_eq_some_iff.mp e
  cases e3
  exact congrArg (· + 1) (h ρ r e2)
/-! ### data without lists -/
mutual
def noL : D → Bool
  | .list _ => false
  | .dict _ => false
  | .tuple ds => noLs ds
  | _ => true
def noLs : List D → Bool
  | [] => true
  | d :: ds => noL d && noLs ds
end
mutual
theorem noL_dq {K : PySem.W.Frag} {G G' : Hp} (h : ∀ a xs, SqT K G a xs → SqT K G' a xs) : ∀ (d : D) (v : V), noL d = true → Dq K G v d → Dq K G' v d
  | _, _, _, .non => .non
  | _, _, _, .bl b => .bl b
  | _, _, _, .int i => .int i
  | _, _, _, .str x => .str x
  | .list ds, _, n, .lst q t => absurd (show false = true from n) Bool.false_ne_true
  | .tuple ds, _, n, .tup q t => .tup (h _ _ q) (noLs_dq h ds _ (by rw [noL] at n; exact n) t)
theorem noLs_dq {K : PySem.W.Frag} {G G' : Hp} (h : ∀ a xs, SqT K G a xs → SqT K G' a xs) : ∀ (ds : List D) (vs : List V), noLs ds = true → DqAll K G vs ds → DqAll K G' vs ds
  | _, _, _, .nil => .nil
  | d :: ds, _, n, .cons q t => by
    rw [noLs, Bool.and_eq_true] at n
    exact .cons (noL_dq h d _ n.1 q) (noLs_dq h ds _ n.2 t)
end
theorem noL_noD {d : D} (h : noL d = true) : noD d = true := by
  cases d with
  | dict _ => exact absurd (show false = true from h) Bool.false_ne_true
  | _ => rfl
def isAtO : Option HO → Option HO
  | some (.lst xs) => some (.lst xs)
  | some (.dK kvs) => some (.dK kvs)
  | some (.ext f) => some (.ext f)
  | _ => none
/-- all that may change frozen too -/
def allG (G H : Hp) : Hp := fun a => match G a with | some o => some o | none => isAtO (H a)
theorem isAtO_some {x : Option HO} {o : HO} (h : isAtO x = some o) : x = some o ∧ (∀ xs, o ≠ .tup xs) ∧ ∀ b u, o ≠ .frz b u := by
  cases x with
  | none => cases h
  | some y =>
    cases y with
    | lst xs => cases h; exact ⟨rfl, (by intro _ z; cases z), (by intro _ _ z; cases z)⟩
    | dK xs => cases h; exact ⟨rfl, (by intro _ z; cases z), (by intro _ _ z; cases z)⟩
    | ext f => cases h; exact ⟨rfl, (by intro _ z; cases z), (by intro _ _ z; cases z)⟩
    | _ => cases h
theorem allG_same {G H : Hp} (s : Same G H) : Same G (allG G H) ∧ Same (allG G H) H := by
  refine ⟨fun a o e => ?_, fun a o e => ?_⟩
  · unfold allG; rw [e]
  · unfold allG at e
    split at e
    · rename_i o' h; cases e; exact s _ _ h
    · exact (isAtO_some e).1
theorem At.isAtO {M : Pm} {G : Hp} {a : Addr} {o : HO} {d : D} (h : At M G a o d) : DL.isAtO (some o) = some o := by
  cases h <;> rfl
theorem db_all {M : Pm} {G H : Hp} (s : Same G H) {v : V} {d : D} (h : Db M G H v d) : Da M (allG G H) v d := by
  have s1 := (allG_same s).1
  cases h with
  | da h => exact h.up s1
  | @«at» a o d e h =>
    refine .at ?_ (h.up s1)
    unfold allG
    split
    · rename_i o' q
      rw [s _ _ q] at e
      exact e
    · rw [e]; exact h.isAtO
theorem dbs_all {M : Pm} {G H : Hp} (s : Same G H) {vs : List V} {ds : List D} (h : Paired (Db M G H) vs ds) : Paired (Da M (allG G H)) vs ds := by
  induction h with
  | nil => exact .nil
  | cons a _ ih => exact .cons (db_all s a) ih
section
variable {X : Cx} {e : Expr} {es : List Expr} {x : Str} {p pos : Pos} {k n : Nat} {f : Addr} {fd : FuncData} {ps : List Str} {Ff : List D → Option D} {Fs : En → Option (List D)}
def callF (Ff : List D → Option D) (Fs : En → Option (List D)) : En → Option D := fun ρ => (Fs ρ).bind Ff
def callBF (Ff : List D → Option D) (Fs : En → Option (List D)) : En → Option D := fun ρ => (Fs ρ).bind fun ds => (Ff ds).bind fun d => if noL d = true then some d else none
theorem f_call (F : FnOk X.prog X.w X.K X.mg X.base CX0 k f fd ps (FnD (pmOf X) Ff n)) (hl : ∀ ρ ds, Fs ρ = some ds → ds.length = n) (hr : Room k X.A) (hg : Gl X x) (hm : X.mg x = some (.ref f)) (hk : PySem.W.keepIn X.K (.ref f) = true) (hb : Binds X.K fd ps [])
    (ha : PA X (e :: es) (tFs (pmOf X) Fs)) (hdb : (x == ("__debug__" : Str)) = false := by decide) (he : starEach (e :: es) X.env = (false, eval e X.env) :: starEach es X.env := by rfl) (hpl : (backTo pos (starEach es X.env)).any (·.1) = false := by rfl) :
    PE X (.Call (.Name x p) (e :: es) [] pos) (tF (pmOf X) (callF Ff Fs)) := by
  refine PE.mono (pe_call F hr hg hm hk hb .nil pass0 ha hdb he hpl) ?_
  rintro σ H Q ⟨B, ρ, G, d, R, e, k⟩
  obtain ⟨ds, e1, e2⟩ := Option.bind_eq_some_iff.mp e
  refine ⟨B, ρ, G, ds, R, e1, fun us G' H' g q => ?_⟩
  show FnD (pmOf X) Ff n (us ++ []) H' Q E0
  rw [List.append_nil]
  exact ⟨G', ds, d, hl ρ ds e1, g.s, q, e2, k.tr g⟩
theorem f_callO (F : FnOk X.prog X.w X.K X.mg X.base CX0 k f fd ps (FnD (pmOf X) Ff n)) (hl : ∀ ρ ds, Fs ρ = some ds → ds.length = n) (hr : Room k X.A) (hg : Gl X x) (hm : X.mg x = some (.ref f)) (hk : PySem.W.keepIn X.K (.ref f) = true) (hb : Binds X.K fd ps [])
    (ha : PA X (e :: es) (tBs (pmOf X) Fs)) (hdb : (x == ("__debug__" : Str)) = false := by decide) (he : starEach (e :: es) X.env = (false, eval e X.env) :: starEach es X.env := by rfl) (hpl : (backTo pos (starEach es X.env)).any (·.1) = false := by rfl) :
    PE X (.Call (.Name x p) (e :: es) [] pos) (tF (pmOf X) (callBF Ff Fs)) := by
  refine PE.mono (pe_call F hr hg hm hk hb .nil pass0 ha hdb he hpl) ?_
  rintro σ H Q ⟨B, ρ, G, d, R, e, k⟩
  obtain ⟨ds, e1, e2⟩ := Option.bind_eq_some_iff.mp e
  obtain ⟨d', e3, e4⟩ := Option.bind_eq_some_iff.mp e2
  obtain ⟨nl, rfl⟩ := if_some e4
  refine ⟨B, ρ, G, ds, R, e1, fun us G1 H1 g q => ?_⟩
  show FnD (pmOf X) Ff n (us ++ []) H1 Q E0
  rw [List.append_nil]
  obtain ⟨s1, s2⟩ := allG_same g.s
  refine ⟨allG G1 H1, ds, d', hl ρ ds e1, s2, dbs_all g.s q, e3, fun u G2 H2 g2 q2 => ?_⟩
  let G3 : Hp := fun a => match allG G1 H1 a with | some _ => G1 a | none => G2 a
  have hG3 : ∀ a, (∃ o, allG G1 H1 a = some o ∧ G3 a = G1 a) ∨ (allG G1 H1 a = none ∧ G3 a = G2 a) := fun a => by
    show (∃ o, allG G1 H1 a = some o ∧ (match allG G1 H1 a with | some _ => G1 a | none => G2 a) = G1 a) ∨ (allG G1 H1 a = none ∧ (match allG G1 H1 a with | some _ => G1 a | none => G2 a) = G2 a)
    cases allG G1 H1 a with
    | some o => exact .inl ⟨o, rfl, rfl⟩
    | none => exact .inr ⟨rfl, rfl⟩
  have gr : Gr G1 H1 G3 H2 := by
    refine ⟨fun a o e => ?_, fun a o e => ?_, g2.h, fun a o e1 e2 => ?_⟩
    · rcases hG3 a with ⟨o', h1, h2⟩ | ⟨h1, h2⟩
      · rw [h2]; exact e
      · rw [s1 _ _ e] at h1; cases h1
    · rcases hG3 a with ⟨o', h1, h2⟩ | ⟨h1, h2⟩
      · rw [h2] at e; exact g2.h _ _ (g.s _ _ e)
      · rw [h2] at e; exact g2.s _ _ e
    · rcases hG3 a with ⟨o', h1, h2⟩ | ⟨h1, h2⟩
      · rw [h2]; exact e2
      · rw [h2]; exact g2.n _ _ e1 h1
  have tr : ∀ a u, (∀ xs, u = .tup xs → G2 a = some u → G3 a = some u) := fun a u xs eu e => by
    rcases hG3 a with ⟨o', h1, h2⟩ | ⟨h1, h2⟩
    · have h3 := g2.g _ _ h1
      rw [e] at h3
      cases h3
      unfold allG at h1
      split at h1
      · rename_i o2 h4; cases h1; rw [h2]; exact h4
      · exact absurd eu ((isAtO_some h1).2.1 xs)
    · rw [h2]; exact e
  have tf : ∀ a b u, G2 a = some (.frz b u) → G3 a = some (.frz b u) := fun a b u e => by
    rcases hG3 a with ⟨o', h1, h2⟩ | ⟨h1, h2⟩
    · have h3 := g2.g _ _ h1
      rw [e] at h3
      cases h3
      unfold allG at h1
      split at h1
      · rename_i o2 h4; cases h1; rw [h2]; exact h4
      · exact absurd rfl ((isAtO_some h1).2.2 b u)
    · rw [h2]; exact e
  refine k u G3 H2 (g.trans gr) (.dp (noL_dq (fun a xs h => ?_) d' u nl (q2.toDq (noL_noD nl))))
  rcases h with (h | ⟨b, h⟩) | h
  · exact .inl (.inl (tr a _ xs rfl h))
  · exact .inl (.inr ⟨b, tf a b _ h⟩)
  · exact .inr h
end
end DL

/-! DL6: sorting. -/
namespace DL
open PySem PySem.Spec PyProof.Rows L2 PySem.W PySem.Calls

/-! ### what values can be sorted: tuples, empty ones too -/
section
variable {prog : Program} {w : World} {A : Around} {s : Shared}
theorem call_tuple_lt {E : Value → Shared → Prop} {Q : Value → Shared → Prop} {l b : Addr} {xs ys : Array Value} {e r : Nat → Bool} (hl : s.heap.IsTuple l xs) (hb : s.heap.IsTuple b ys)
    (he : ∀ j (h1 : j < xs.size) (h2 : j < ys.size), PySem.SeqAt.EqAt A.in1 s xs[j] ys[j] (e j)) (hr : ∀ j (h1 : j < xs.size) (h2 : j < ys.size), e j = false → PySem.SeqAt.RcLt A.in1 s xs[j] ys[j] (r j))
    (h : Q (.bool (PySem.SeqAt.firstLt e r (decide (xs.size < ys.size)) (List.range (min xs.size ys.size)))) s) : wpAny (model prog w) A (call (.builtin "tuple.__lt__") [.ref l, .ref b]) Q E s := by
  obtain ⟨⟨c1, d1, t1, s1⟩, o1, k1, n1, z1⟩ := hl
  obtain ⟨⟨c2, d2, t2, s2⟩, o2, k2, n2, z2⟩ := hb
  cases k1
  cases z1
  cases k2
  cases z2
  refine call_meets PySem.F.slot_tuple_lt ⟨_, o1, rfl⟩ PySem.F.entry_tuple_lt (PySem.F.args_tuple_lt_2 _ _) (PySem.SeqAt.tuple_ltAt l b xs ys n1 n2 d1 d2 s1 s2 e r) ?_
  exact ⟨o1, o2, he, hr, h⟩
/-- one tuple against another, whatever the kind -/
theorem oneLt_tup {f : Bool} {xs ys : List D} {a b : Value} {as bs : List Addr} {E : Value → Shared → Prop} {Q : Bool → Shared → Prop} (ra : Reads s.heap a (.tuple xs) as) (rb : Reads s.heap b (.tuple ys) bs) (h : alike (.tuple xs) (.tuple ys) = true)
    (hu : A.units + min (PyData.depth (.tuple xs)) (PyData.depth (.tuple ys)) < cLine) (hq : Q (dataLt (.tuple xs) (.tuple ys)) s) : wpAny (model prog w) A (oneLt' f a b) Q E s := by
  cases f with
  | false => exact oneLt_alike (fun z => nomatch z) ra rb h (fun z => nomatch z) hu hq
  | true =>
    have hal : alikeAll xs ys = true := by simpa [alike] using h
    cases ra with
    | @tuple l o vs n _ as1 h1 h2 h3 h4 =>
      cases rb with
      | @tuple l' o' vs' n' _ bs1 k1 k2 k3 k4 =>
        have n1 : vs.size = xs.length := by simpa using PySem.SeqAt.ReadsAll.length _ _ _ h4
        have n2 : vs'.size = ys.length := by simpa using PySem.SeqAt.ReadsAll.length _ _ _ k4
        rw [dataLt_tuple, ← firstLt_toks xs ys hal, ← n1, ← n2] at hq
        rw [oneLt'_eq]
        simp only [if_true]
        refine wpAny_bind (wpAny_cRoomFor (PySem.SeqAt.room_here hu) ?_)
        refine wpAny_bind (wpAny_callSpecialIfBound?_slot (T := "tuple") ⟨_, h1, h2⟩ PySem.F.slot_tuple_lt (call_tuple_lt (e := PySem.SeqAt.pairEq xs ys) (r := fun j => dataLt (xs.getD j .none) (ys.getD j .none)) ⟨_, h1, h2, _, h3⟩ ⟨_, k1, k2, _, k3⟩ (fun j j1 j2 => ?_) (fun j j1 j2 hj => ?_) ?_))
        · have q := eqAt_alikeAll xs ys A.in1 s vs.toList vs'.toList _ _ h4 k4 hal (PySem.SeqAt.room_in hu) j (by simpa using j1) (by simpa using j2)
          rw [Array.getElem_toList, Array.getElem_toList] at q
          exact q
        · have q := rcLt_alikeAll xs ys A.in1 s vs.toList vs'.toList _ _ h4 k4 hal (PySem.SeqAt.room_in hu) j (by simpa using j1) (by simpa using j2) hj
          rw [Array.getElem_toList, Array.getElem_toList] at q
          exact q
        · exact wpAny_truthy_bool hq
abbrev RdE (h : Heap) : Value → D → Prop := fun v d => ∃ as, Reads h v d as
/-- the first items, where there are any -/
theorem firsts_mix {h : Heap} : ∀ {vs : List Value} {ds : List D}, EachIs (RdE h) vs ds → (∀ d, d ∈ ds → ∃ xs, d = .tuple xs) → ∃ os : List (Option Value), ((∃ d, d ∈ ds ∧ d = .tuple []) → os.all (·.isSome) = false) ∧
    ∀ (M : Model) (A : Around) (E : Value → Shared → Prop) (Q : List (Option Value) → Shared → Prop) (s : Shared), s.heap = h → Q os s → wpAny M A (vs.mapM firstOfTuple') Q E s
  | _, _, .nil, _ => ⟨[], (fun ⟨_, z, _⟩ => absurd z (by simp)), fun M A E Q s _ q => by rw [List.mapM_nil]; exact wpAny_pure q⟩
  | _, _, .cons (b := d) ⟨as, r⟩ t, ht => by
    obtain ⟨os, h1, h2⟩ := firsts_mix t fun d hd => ht d (List.mem_cons_of_mem _ hd)
    obtain ⟨xs, rfl⟩ := ht d (List.mem_cons_self ..)
    cases r with
    | @tuple a o vs n _ _ ho hc hd hr =>
      refine ⟨vs[0]? :: os, fun ⟨d, hm, e⟩ => ?_, fun M A E Q s hs q => ?_⟩
      · rw [List.all_cons]
        rcases List.mem_cons.mp hm with e2 | hm
        · subst e2
          cases e
          have z : vs.toList = [] := by
            cases q : vs.toList with
            | nil => rfl
            | cons x y => rw [q] at hr; cases hr
          have z2 : vs[0]? = none := by rw [← Array.getElem?_toList, z]; rfl
          rw [z2]
          rfl
        · rw [h1 ⟨d, hm, e⟩, Bool.and_false]
      · subst hs
        rw [List.mapM_cons]
        refine wpAny_bind ?_
        rw [kas_first_eq]
        refine wpAny_bind (Looks.here (show Looks M s.heap (typeOf (.ref a)) o.cls from (Looks.ld ho).andThen .now) ?_)
        rw [hc, if_neg (by first | decide | simp)]
        refine wpAny_bind (listItems_at ho hd (wpAny_pure ?_))
        exact wpAny_bind (h2 M A E _ s rfl (wpAny_pure q))
theorem kind_mix {vs : List Value} {ds : List D} (e : EachIs (RdE s.heap) vs ds) (ht : ∀ d, d ∈ ds → ∃ xs, d = .tuple xs) (hm : ∃ d, d ∈ ds ∧ d = .tuple []) :
    ∃ kd, (kd = general' ∨ kd = oneType') ∧ ∀ (M : Model) (A : Around) (E : Value → Shared → Prop) (Q : SortKind → Shared → Prop), Q kd s → wpAny M A (keyKind' vs.toArray) Q E s := by
  obtain ⟨os, h1, h2⟩ := firsts_mix e ht
  have h1 := h1 hm
  have hne : 0 < vs.length := by
    obtain ⟨d, hd, _⟩ := hm
    rw [e.length]
    exact List.length_pos_of_mem hd
  have hall : (os.toArray.all fun x => x.isSome) = false := by rw [List.all_toArray]; exact h1
  have hT : ∀ v ∈ vs, ∀ M, Looks M s.heap (typeOf v) (Value.type "tuple") := fun v hv M => by
    obtain ⟨d, hd, as, r⟩ := e.left v hv
    obtain ⟨xs, rfl⟩ := ht d hd
    exact looks_reads r
  refine ⟨if (os.toArray[0]?.bind id).isSome = true then general' else oneType', ?_, fun M A E Q q => ?_⟩
  · split
    · exact .inl rfl
    · exact .inr rfl
  · rw [keyKind'_eq, List.mapM_toArray, map_eq_pure_bind]
    refine wpAny_bind (wpAny_bind (h2 M A E _ s rfl (wpAny_pure ?_)))
    rw [hall, if_neg Bool.false_ne_true]
    split at q
    · rename_i z
      rw [if_pos z]
      exact wpAny_pure q
    · rename_i z
      rw [if_neg z]
      rw [oneTypeOnly'_eq, List.mapM_toArray, map_eq_pure_bind]
      refine wpAny_bind (wpAny_bind (wpAny_bind (kas_mapM (r := Value.type "tuple") _ (fun v hv Q' hq => (hT v hv M).here hq) (wpAny_pure ?_))))
      have a1 : ((List.map (fun _ => Value.type "tuple") vs).toArray.all fun x => x == Value.type "tuple") = true := by
        simp only [List.all_toArray, List.all_map, List.all_eq_true]
        intro _ _
        rfl
      have a2 : (List.map (fun _ => Value.type "tuple") vs).toArray[0]? = some (Value.type "tuple") := by simp [hne]
      rw [a2]
      simp only [a1, if_true]
      exact wpAny_pure (wpAny_pure q)
/-- None apart, alike data can be sorted -/
theorem sortsAt {vs : List Value} {ds : List D} (e : EachIs (RdE s.heap) vs ds) (hal : AllAlike ds) (hn : ∀ d, d ∈ ds → d ≠ .none) (hu : ∀ d, d ∈ ds → A.units + d.depth < cLine) : SortsAt prog w A s (dataKind s.heap ds) vs := by
  by_cases c1 : ∀ d, d ∈ ds → ∀ xs, d ≠ .tuple xs
  · exact SortsAt.data e hal (.inr fun d hd => ⟨hn d hd, c1 d hd⟩) hu
  · have c2 : ∃ d xs, d ∈ ds ∧ d = .tuple xs := by
      refine Classical.byContradiction fun z => c1 fun d hd xs ed => z ⟨d, xs, hd, ed⟩
    obtain ⟨d0, xs0, m0, e0⟩ := c2
    have ht : ∀ d, d ∈ ds → ∃ xs, d = .tuple xs := fun d hd => by
      have q := hal d hd d0 m0
      rw [e0] at q
      cases d with
      | tuple xs => exact ⟨xs, rfl⟩
      | _ => exact absurd q (by simp [alike])
    by_cases c3 : ∃ d, d ∈ ds ∧ d = .tuple []
    · obtain ⟨kd, k1, k2⟩ := kind_mix e ht c3
      refine ⟨fun v hv => ?_, kd, ?_, fun _ E Q q => k2 _ _ _ _ q⟩
      · obtain ⟨d, hd, as, r⟩ := e.left v hv
        exact ⟨_, dataKind_some hal hd r⟩
      · intro E x y a b Q ha hb hq
        obtain ⟨d, as, hd, ra, rfl⟩ := dataKind_inv ha
        obtain ⟨d', as', hd', rb, rfl⟩ := dataKind_inv hb
        obtain ⟨xs, rfl⟩ := ht d hd
        obtain ⟨ys, rfl⟩ := ht d' hd'
        have room : A.units + min (PyData.depth (.tuple xs)) (PyData.depth (.tuple ys)) < cLine := Nat.lt_of_le_of_lt (Nat.add_le_add_left (Nat.min_le_left _ _) _) (hu _ hd)
        rcases k1 with rfl | rfl
        · exact oneLt_tup (f := false) ra rb (hal _ hd _ hd') room hq
        · exact oneLt_tup (f := true) ra rb (hal _ hd _ hd') room hq
    · refine SortsAt.data e hal (.inl fun d hd => ?_) hu
      obtain ⟨xs, rfl⟩ := ht d hd
      cases xs with
      | nil => exact absurd ⟨_, hd, rfl⟩ c3
      | cons x r => exact ⟨x, r, rfl⟩
end

/-! ### sorted of anything that can be collected -/
section
variable {prog : Program} {w : World} {A : Around} {E : Value → Shared → Prop} {s : Shared}
abbrev Kpt (s s1 : Shared) : Prop := (∀ b o, s.heap.get? b = some o → s1.heap.get? b = some o) ∧ s1.gens = s.gens ∧ s1.os = s.os ∧ s.heap.objs.size ≤ s1.heap.objs.size
theorem sorted_gen {c : Value} {kw : List (Str × Value)} {b : Bool} {R : Value → D → Prop} {Pd : List D → Prop} {Q : Value → Shared → Prop}
    (hk : ∀ a, Builtin.«list.sort» ⟨[.ref a], kw⟩ = Builtin.«list.sort» ⟨[.ref a], [(Str.ofString "reverse", .bool b)]⟩) (ha1 : argsOk "sorted" ⟨[c], kw⟩) (ha2 : ∀ a, argsOk "list.sort" ⟨[a], kw⟩)
    (hp : ∀ ds, Pd ds → AllAlike ds ∧ (∀ d, d ∈ ds → d ≠ .none) ∧ (∀ d, d ∈ ds → A.units + 2 + d.depth < cLine) ∧ ds.length ≤ sizeLine)
    (hcol : ∀ (C : List Value → Shared → Prop) (E' : Value → Shared → Prop), (∀ s1 vs ds, Kpt s s1 → Pd ds → EachIs R vs ds → EachIs (RdE s1.heap) vs ds → C vs s1) → wpAny (model prog w) A.in1 (collect c) C E' s)
    (hQ : ∀ s2 p out ds n, Kpt s s2 → Pd ds → s.heap.objs.size ≤ p → s2.heap.get? p = some (seqObj "list" out n) → EachIs R out.toList (ds.mergeSort (dataLe b id)) → Q (.ref p) s2) :
    wpAny (model prog w) A (call (.builtin "sorted") [c] kw) Q E s := by
  refine call_function_entry_kw kind_sorted plain_sorted entry_sorted ha1 ?_
  unfold Builtin.«sorted»
  refine wpAny_bind (m := checkCount "sorted" 1 1 _) (wpAny_pure ?_)
  refine wpAny_bind (hcol _ _ fun s1 vs ds k pd e er => ?_)
  obtain ⟨q1, q2, q3, q4⟩ := hp ds pd
  refine wpAny_bind (wpAny_newList ?_ (by rw [e.length]; exact q4))
  have hoL : (s1.heap.push (seqObj "list" vs.toArray 0)).get? s1.heap.objs.size = some (seqObj "list" vs.toArray 0) := Heap.get?_push_size _ rfl
  have old : ∀ x o, s1.heap.get? x = some o → (sortingHeap (s1.heap.push (seqObj "list" vs.toArray 0)) s1.heap.objs.size vs).get? x = some o := fun x o h => sortingHeap_old (Nat.ne_of_lt (Heap.lt_size h)) (Heap.get?_push_of_some _ h)
  have er2 : EachIs (RdE (sortingHeap (s1.heap.push (seqObj "list" vs.toArray 0)) s1.heap.objs.size vs)) vs ds := er.mono fun _ _ ⟨as, r⟩ => ⟨as, PyProof.Rows.Reads.keeps old r⟩
  refine wpAny_bind (wpAny_holding (wpAny_call_entry_kw slot_list_sort ⟨_, hoL, rfl⟩ entry_list_sort ?body (ha2 _)))
  case body =>
    rw [hk]
    refine list_sort_rev_vals (κ := dataKind (sortingHeap (s1.heap.push (seqObj "list" vs.toArray 0)) s1.heap.objs.size vs) ds) hoL (sortsAt er2 q1 q2 fun d hd => q3 d hd) (by rw [e.length]; exact q4) ?_
    refine ⟨_, rfl, wpAny_pure ⟨_, rfl, ?_⟩⟩
    obtain ⟨n, hn⟩ := sortedHeap_at (vs := vs) (out := (sortVals (dataKind (sortingHeap (s1.heap.push (seqObj "list" vs.toArray 0)) s1.heap.objs.size vs) ds) b vs vs).toArray) hoL
    refine hQ _ s1.heap.objs.size _ ds n ⟨fun x o h => ?_, k.2.1, k.2.2.1, ?_⟩ pd k.2.2.2 hn ?_
    · have h1 := k.1 x o h
      have hlt := Heap.lt_size h1
      show (sortedHeap (s1.heap.push (seqObj "list" vs.toArray 0)) s1.heap.objs.size vs _).get? x = some o
      rw [sortedHeap_old (Nat.ne_of_lt hlt) (by rw [size_push']; exact Nat.lt_succ_of_lt hlt)]
      exact Heap.get?_push_of_some _ h1
    · exact Nat.le_trans k.2.2.2 (Nat.le_of_lt (Heap.lt_size hn))
    · have q := sortVals_data (h' := sortingHeap (s1.heap.push (seqObj "list" vs.toArray 0)) s1.heap.objs.size vs) (R := R) (enc := id) (vs := vs) (bs := ds) b e er2 (by rw [List.map_id]; exact q1)
      rw [List.map_id] at q
      exact q
theorem collect_tup {l : Addr} {vs : List Value} {C : List Value → Shared → Prop} (hl : s.heap.IsTuple l vs.toArray) (hz : vs.length ≤ sizeLine)
    (h : ∀ s1, Kpt s s1 → C vs s1) : wpAny (model prog w) A (collect (.ref l)) C E s := by
  obtain ⟨o, ho, hc, n, hd⟩ := hl
  have hlt : l < s.heap.objs.size := Heap.lt_size ho
  unfold collect
  refine wpAny_bind (wpAny_runValue (codeAny_builtin entry_proto_collect' ?_))
  show wpAny _ _ (do again (.builtin "list.__iadd__" ⟨[← newList [], .ref l], []⟩)) _ _ s
  refine wpAny_bind (wpAny_newList (wpAny_pure ⟨Code.quiet_builtin _ (by decide +kernel), codeAny_builtin entry_list_iadd' ?_⟩))
  show wpAny _ _ (Builtin.List.listExtendWith (.ref s.heap.objs.size) (.ref l) (.ref s.heap.objs.size)) _ _ { s with heap := s.heap.push (seqObj "list" #[] 0) }
  unfold Builtin.List.listExtendWith
  have ho2 : (s.heap.push (seqObj "list" #[] 0)).get? l = some o := Heap.get?_push_of_some _ ho
  refine wpAny_bind (wpAny_typeOf (T := "tuple") ⟨o, ho2, hc⟩ ?_)
  have t1 : Builtin.List.listSameRef (.ref s.heap.objs.size) (.ref l) = false := by simp [Builtin.List.listSameRef, Nat.ne_of_gt hlt]
  have t3 : (Value.type "tuple" == Value.type "tuple") = true := by rfl
  simp only [t1, t3, Bool.or_true, Bool.true_or, if_true]
  refine wpAny_bind (listItems_at ho2 hd ?_)
  refine wpAny_bind (listItems_at (xs := #[]) (n := 0) (Heap.get?_push_size _ rfl) rfl ?_)
  rw [if_neg (by simp)]
  refine wpAny_bind (listUpdate_at (xs := #[]) (n := 0) (Heap.get?_push_size _ rfl) rfl ?_ (Nat.zero_le _) (by show (#[] ++ vs.toArray).size ≤ sizeLine + 1; simp only [Array.size_append, List.size_toArray, List.length_nil]; omega))
  refine wpAny_pure ?_
  show wpAny (model prog w) A (do
      let o ← load s.heap.objs.size
      match o.data with
      | .seq xs _ => pure xs.toList
      | _ => unsupported "internal:collect") C E { s with heap := (s.heap.push (seqObj "list" #[] 0)).update s.heap.objs.size (Obj.mapSeq (· ++ vs.toArray)) }
  refine wpAny_bind (wpAny_load (get?_update_seq (Heap.get?_push_size _ rfl) _) ?_)
  refine wpAny_pure ?_
  have e : ((#[] : Array Value) ++ vs.toArray).toList = vs := by simp
  rw [e]
  refine h _ ⟨fun b u q => ?_, rfl, rfl, ?_⟩
  · show ((s.heap.push (seqObj "list" #[] 0)).update s.heap.objs.size _).get? b = some u
    rw [Heap.get?_update_ne _ _ _ _ (Nat.ne_of_lt (Heap.lt_size q))]
    exact Heap.get?_push_of_some _ q
  · show s.heap.objs.size ≤ ((s.heap.push (seqObj "list" #[] 0)).update s.heap.objs.size _).objs.size
    rw [Heap.size_update, size_push']
    exact Nat.le_succ _
theorem collect_lst {l : Addr} {vs : List Value} {C : List Value → Shared → Prop} (hl : s.heap.IsList l vs.toArray) (hz : vs.length ≤ sizeLine)
    (h : ∀ s1, Kpt s s1 → C vs s1) : wpAny (model prog w) A (collect (.ref l)) C E s := by
  refine collect_list hl (h _ ⟨fun b u q => ?_, rfl, rfl, ?_⟩) hz
  · show ((s.heap.push (seqObj "list" #[] 0)).update s.heap.objs.size _).get? b = some u
    rw [Heap.get?_update_ne _ _ _ _ (Nat.ne_of_lt (Heap.lt_size q))]
    exact Heap.get?_push_of_some _ q
  · show s.heap.objs.size ≤ ((s.heap.push (seqObj "list" #[] 0)).update s.heap.objs.size _).objs.size
    rw [Heap.size_update, size_push']
    exact Nat.le_succ _
end

/-! ### data that are sorted -/
/-- stable, by a <= -/
def insB {α : Type} (le : α → α → Bool) (a : α) : List α → List α
  | [] => [a]
  | b :: r => if le a b = true then a :: b :: r else b :: insB le a r
def isortB {α : Type} (le : α → α → Bool) : List α → List α
  | [] => []
  | a :: r => insB le a (isortB le r)
theorem insB_at {α : Type} (le : α → α → Bool) (a : α) : ∀ (l r : List α), (∀ b ∈ l, le a b = false) → (∀ b ∈ r, le a b = true) → insB le a (l ++ r) = l ++ a :: r
  | [], [], _, _ => rfl
  | [], b :: r, _, h => by
    show (if le a b = true then a :: b :: r else b :: insB le a r) = _
    rw [if_pos (h b List.mem_cons_self)]
    rfl
  | x :: l, r, h1, h2 => by
    show (if le a x = true then a :: x :: (l ++ r) else x :: insB le a (l ++ r)) = _
    rw [if_neg (by rw [h1 x List.mem_cons_self]; exact Bool.false_ne_true), insB_at le a l r (fun b hb => h1 b (List.mem_cons_of_mem _ hb)) h2]
    rfl
theorem mergeSort_isort {α : Type} {le : α → α → Bool} (tr : ∀ a b c, le a b = true → le b c = true → le a c = true) (to : ∀ a b, (le a b || le b a) = true) : ∀ l : List α, l.mergeSort le = isortB le l
  | [] => by simp [isortB]
  | a :: l => by
    obtain ⟨l1, l2, h1, h2, h3⟩ := List.mergeSort_cons tr to a l
    have hs := List.pairwise_mergeSort tr to (a :: l)
    rw [h1] at hs
    rw [h1]
    show _ = insB le a (isortB le l)
    rw [← mergeSort_isort tr to l, h2]
    refine (insB_at le a l1 l2 (fun b hb => by simpa using h3 b hb) fun b hb => ?_).symm
    exact (List.pairwise_cons.mp (List.pairwise_append.mp hs).2.1).1 b hb
def leD' (rev : Bool) (a b : D) : Bool := if rev = true then !dataLt a b else !dataLt b a
theorem dataLe_leD (rev : Bool) : dataLe rev (id : D → D) = leD' rev := by
  rw [dataLe_eq]
  funext a b
  cases rev <;> rfl
theorem leD_tr (rev : Bool) : ∀ a b c, leD' rev a b = true → leD' rev b c = true → leD' rev a c = true := by
  rw [← dataLe_leD]
  exact (sortLe_total (listOrd itemOrd) rev fun b => keyToks (id b)).trans
theorem leD_to (rev : Bool) : ∀ a b, (leD' rev a b || leD' rev b a) = true := by
  rw [← dataLe_leD]
  intro a b
  rw [Bool.or_eq_true]
  exact (sortLe_total (listOrd itemOrd) rev fun b => keyToks (id b)).total a b
def sortL (rev : Bool) (ds : List D) : List D := isortB (leD' rev) ds
theorem sort_eq (rev : Bool) (ds : List D) : ds.mergeSort (dataLe rev id) = sortL rev ds := by
  rw [dataLe_leD]
  exact mergeSort_isort (leD_tr rev) (leD_to rev) ds
def sortOk (ds : List D) : Bool := ds.all (fun d => noD d && okd d && !isNoD d) && ds.all (fun x => ds.all fun y => PySem.W.alike x y) && decide (ds.length ≤ sz)
structure SortP (ds : List D) : Prop where
  no : ∀ d ∈ ds, noD d = true
  ok : ∀ d ∈ ds, okd d = true
  non : ∀ d ∈ ds, d ≠ .none
  al : AllAlike ds
  len : ds.length ≤ sz
theorem sortOk_iff {ds : List D} (h : sortOk ds = true) : SortP ds := by
  unfold sortOk at h
  rw [Bool.and_eq_true, Bool.and_eq_true, List.all_eq_true, List.all_eq_true] at h
  obtain ⟨⟨h1, h2⟩, h3⟩ := h
  refine ⟨fun d hd => ?_, fun d hd => ?_, fun d hd e => ?_, fun d hd d' hd' => List.all_eq_true.mp (h2 d hd) d' hd', of_decide_eq_true h3⟩
  · have q := h1 d hd
    rw [Bool.and_eq_true, Bool.and_eq_true] at q
    exact q.1.1
  · have q := h1 d hd
    rw [Bool.and_eq_true, Bool.and_eq_true] at q
    exact q.1.2
  · have q := h1 d hd
    rw [e] at q
    cases q
theorem sortOk_of {ds : List D} (h : SortP ds) : sortOk ds = true := by
  unfold sortOk
  rw [Bool.and_eq_true, Bool.and_eq_true, List.all_eq_true, List.all_eq_true]
  refine ⟨⟨fun d hd => ?_, fun d hd => List.all_eq_true.mpr fun d' hd' => h.al d hd d' hd'⟩, decide_eq_true h.len⟩
  rw [Bool.and_eq_true, Bool.and_eq_true]
  refine ⟨⟨h.no d hd, h.ok d hd⟩, ?_⟩
  have q := h.non d hd
  cases d with
  | none => exact absurd rfl q
  | _ => rfl
theorem SortP.perm {ds es : List D} (h : SortP ds) (p : es.Perm ds) : SortP es :=
  ⟨fun d hd => h.no d (p.mem_iff.mp hd), fun d hd => h.ok d (p.mem_iff.mp hd), fun d hd => h.non d (p.mem_iff.mp hd), fun d hd d' hd' => h.al d (p.mem_iff.mp hd) d' (p.mem_iff.mp hd'), by rw [p.length_eq]; exact h.len⟩

/-! ### over the heap of values -/
abbrev RvD (K : PySem.W.Frag) (G : Hp) : Value → D → Prop := fun v d => ∃ x, RelV x v ∧ Dq K G x d
theorem each_of {K : PySem.W.Frag} {G : Hp} : ∀ {ds : List D} {xs : List V} {vs : List Value}, DqAll K G xs ds → Vals xs vs → EachIs (RvD K G) vs ds
  | _, _, _, .nil, .nil => .nil
  | _, _, _, .cons h t, .cons r s => .cons ⟨_, r, h⟩ (each_of t s)
theorem of_each {K : PySem.W.Frag} {G : Hp} : ∀ {ds : List D} {vs : List Value}, EachIs (RvD K G) vs ds → ∃ xs, Vals xs vs ∧ DqAll K G xs ds
  | _, _, .nil => ⟨[], .nil, .nil⟩
  | _, _, .cons ⟨x, r, h⟩ t => by
    obtain ⟨xs, h1, h2⟩ := of_each t
    exact ⟨x :: xs, .cons r h1, .cons h h2⟩
section
variable {X : Cx}
theorem each_reads {pins : List (Addr × Obj)} {σ : L2.St} {H G : Hp} {s : Shared} (I : Inv X pins σ H s) (g : Same G H) {vs : List Value} {ds : List D} (h : EachIs (RvD X.K G) vs ds) : EachIs (RdE s.heap) vs ds :=
  h.mono fun v d ⟨x, r, q⟩ => L2.Dp.reads I d x v (Dq.toDp _ _ (Dq.up g _ _ q)) r
theorem Inv.laidK {pins : List (Addr × Obj)} {σ : L2.St} {H : Hp} {s s2 : Shared} (I : Inv X pins σ H s) (k : Kpt s s2) {p : Addr} {ys : List V} {out : Array Value} {n : Nat} (hp : s.heap.objs.size ≤ p) (ho : s2.heap.get? p = some (seqObj "list" out n)) (hv : Vals ys out.toList) (hz : ys.length ≤ sizeLine) :
    H p = none ∧ Inv X pins σ (upd H p (.lst ys)) s2 := by
  have hn : H p = none := I.hok.fresh hp
  refine ⟨hn, ?_⟩
  have J : Inv X pins σ (upd H p (.lst ys)) { s with heap := s2.heap, gens := s2.gens, drawn := s2.drawn, toks := s2.toks } :=
    I.call (ch := []) (Un.laid k.1 hp hn) (I.hok.laid k.1 hp ⟨hz, out.toList, n, hv, ho⟩) (by rw [k.2.1]; exact I.bare) (fun _ z => nomatch z)
  have e : s2 = { s with heap := s2.heap, gens := s2.gens, drawn := s2.drawn, toks := s2.toks } := by
    obtain ⟨_, _, ho, _⟩ := k
    cases s2
    cases s
    cases ho
    rfl
  rw [e]
  exact J
theorem seq_of {pins : List (Addr × Obj)} {σ : L2.St} {H : Hp} {s : Shared} (I : Inv X pins σ H s) {a : Addr} {xs : List V} (h : SqL X.K H a xs ∨ SqT X.K H a xs) : ∃ its, Vals xs its ∧ xs.length ≤ sizeLine ∧
    ∀ (A : Around) (E : Value → Shared → Prop) (C : List Value → Shared → Prop), (∀ s1, Kpt s s1 → C its s1) → wpAny (model X.prog X.w) A (collect (.ref a)) C E s := by
  rcases h with h | h
  · obtain ⟨its, rv, pl, hz⟩ := I.list h
    exact ⟨its, rv, hz, fun A E C q => collect_lst pl.isList (by rw [← rv.length]; exact hz) q⟩
  · obtain ⟨its, rv, pl, hz⟩ := I.tuple h
    exact ⟨its, rv, hz, fun A E C q => collect_tup pl (by rw [← rv.length]; exact hz) q⟩
def rSortD (K : PySem.W.Frag) (b : Bool) : List V → Hp → VK → Prop := fun vs H Q => ∃ (a : Addr) (G : Hp) (xs : List V) (ds : List D), vs = [V.ref a] ∧ Same G H ∧ (SqL K H a xs ∨ SqT K H a xs) ∧ DqAll K G xs ds ∧ SortP ds ∧
  ∀ ys p, DqAll K G ys (sortL b ds) → H p = none → Q (.ref p) (upd H p (.lst ys))
theorem sortD_run {b : Bool} {kw : List (Str × Value)} {pins : List (Addr × Obj)} {s : Shared} {σ : L2.St} {H : Hp} {vs : List V} {us : List Value} {Q : VK} (hu : X.A.units + 64 < cLine) (I : Inv X pins σ H s)
    (hk : ∀ a, Builtin.«list.sort» ⟨[.ref a], kw⟩ = Builtin.«list.sort» ⟨[.ref a], [(Str.ofString "reverse", .bool b)]⟩) (ha1 : ∀ c, argsOk "sorted" ⟨[c], kw⟩) (ha2 : ∀ a, argsOk "list.sort" ⟨[a], kw⟩)
    (r : Vals vs us) (h : rSortD X.K b vs H Q) : wpAny (model X.prog X.w) X.A (call (.builtin "sorted") us kw) (EP X pins σ Q) X.xe s := by
  obtain ⟨a, G, xs, ds, rfl, g, hs, hd, P, q⟩ := h
  rw [Vals.ref1 r]
  obtain ⟨its, rv, hz, col⟩ := seq_of I hs
  have he := each_of hd rv
  refine sorted_gen (R := RvD X.K G) (Pd := fun es => es = ds) hk (ha1 _) ha2 (fun es e => ?_) (fun C E' k => col _ _ _ fun s1 k1 => k s1 its ds k1 rfl he ?_) fun s2 p out es n k e hp ho eo => ?_
  · subst e
    exact ⟨P.al, P.non, fun d hd => by have := okd_le (P.ok d hd); omega, by rw [← sz_line]; exact P.len⟩
  · exact (each_reads I g he).mono fun _ _ ⟨as, r⟩ => ⟨as, PyProof.Rows.Reads.keeps k1.1 r⟩
  · subst e
    rw [sort_eq] at eo
    obtain ⟨ys, h1, h2⟩ := of_each eo
    have hl : ys.length ≤ sizeLine := by
      rw [dpall_len h2, ← sort_eq, (List.mergeSort_perm _ _).length_eq, ← dpall_len hd]
      exact hz
    obtain ⟨hn, J⟩ := Inv.laidK I k hp ho h1 hl
    exact ⟨.ref p, _, J, rfl, q ys p h2 hn⟩
theorem cr_sortD (hu : X.A.units + 64 < cLine) : CallR X (.builtin "sorted") (rSortD X.K false) := by
  intro pins s σ H vs us Q I r h
  exact sortD_run hu I (fun a => plain_is_rev a) (fun c => args_sorted1 c) (fun _ => args_list_sort _) r h
theorem cr_sortRev {b : Bool} (hu : X.A.units + 64 < cLine) : CallRK X (.builtin "sorted") [Str.ofString "reverse"] (fun vs zs H Q => zs = [.bl b] ∧ rSortD X.K b vs H Q) := by
  intro pins s σ H vs zs us ws Q I r rz h
  obtain ⟨rfl, h⟩ := h
  obtain ⟨w1, rfl, e1⟩ := vals1 rz
  cases e1
  exact sortD_run hu I (fun _ => rfl) (fun c => args_sorted_rev c _) (fun _ => args_list_sort_rev _ _) r h
def sortO (b : Bool) : List D → Option D
  | [d] => (itemsD d).bind fun xs => if sortOk xs = true then some (.list (sortL b xs)) else none
  | _ => none
theorem new_sort {M : Pm} {b : Bool} : NewCall M (rSortD M.K b) (sortO b) := by
  intro ds d e G H vs Q s h k
  match ds, e, h with
  | [c], e, h =>
    obtain ⟨v, rfl, hv⟩ := p1 h
    obtain ⟨xs, e1, e⟩ := Option.bind_eq_some_iff.mp e
    obtain ⟨z, rfl⟩ := if_some e
    obtain ⟨a, us, rfl, h1, t⟩ := hv.items s e1
    exact ⟨a, G, us, xs, rfl, s, h1, t, sortOk_iff z, fun ys p h2 hp => KN.lst s k hp h2⟩
variable {e : Expr} {es : List Expr} {p pos : Pos} {Fs : En → Option (List D)}
theorem n_sorted (hu : X.A.units + 64 < cLine) (hg : Gl X "sorted") (hm : X.mg "sorted" = none) (ha : PA X (e :: es) (tBs (pmOf X) Fs)) (he : starEach (e :: es) X.env = (false, eval e X.env) :: starEach es X.env := by rfl) (hpl : (backTo pos (starEach es X.env)).any (·.1) = false := by rfl) :
    PE X (.Call (.Name "sorted" p) (e :: es) [] pos) (tN (pmOf X) (appF (sortO false) Fs)) := n_callB (cr_sortD hu) new_sort hg hm (by decide +kernel) ha (by decide) (by decide) he hpl
end
end DL

/-! DL7: sets made of lists, sorted. -/
namespace DL
open PySem PySem.Spec PyProof.Rows L2 PySem.W PySem.Calls

section
variable {P : Program} {w : World} {A : Around} {s : Shared}
/-- the loop that fills a set from a list, by what is true behind i items -/
theorem fill_loop {S I l : Addr} {items : Array Value} {J : Nat → Heap → Prop} {R : Result → Shared → Prop} (hh : A.handled = none) (n1 : S ≠ I) (n2 : S ≠ l) (n3 : l ≠ I)
    (keep : ∀ i h h', J i h → (∀ b o, b ≠ I → h.get? b = some o → h'.get? b = some o) → J i h')
    (step : ∀ i v (s1 : Shared) (C : Bool → Shared → Prop) (E' : Value → Shared → Prop), items[i]? = some v → J i s1.heap → (∀ b h' tk, J (i + 1) h' → Heap.SameBut S s1.heap h' → C b { s1 with heap := h', toks := tk }) → wpAny (model P w) A.in1 (setAdd S v) C E' s1) :
    ∀ (k i : Nat) (s : Shared), items.size = i + k → s.heap.IsListIter I l i → s.heap.IsList l items → J i s.heap → (∀ h' tk, J items.size h' → R (.ok (.ret .none)) { s with heap := h', toks := tk }) →
      codeAny (model P w) A (.builtin "set.update.loop" ⟨[.ref S, .ref I], []⟩) R s
  | 0, i, s, e, it, li, j, fin => by
    have W := Walks.list (prog := P) (w := w) (A := A.in1) (by simp [hh]) I l n3 items
    refine codeAny_builtin PyProof.Rows.F.entry_set_update_loop ?_
    rw [Around.under_plainId PyProof.Rows.F.plain_set_update_loop _]
    have ei : items.size = i := by omega
    change wpAny (model P w) A.in1 (pyNext (.ref I) >>= _) _ _ s
    refine wpAny_bind (W.done s _ _ (by rw [ei]; exact ⟨it, li⟩) fun h' tk k => ?_)
    have j' : J items.size h' := by
      rw [ei]
      exact keep i _ _ j fun b o nb q => k b o (by simpa using nb) q
    change wpAny (model P w) A.in1 (ret Value.none) _ _ _
    exact wpAny_pure (fin h' tk j')
  | k + 1, i, s, e, it, li, j, fin => by
    have W := Walks.list (prog := P) (w := w) (A := A.in1) (by simp [hh]) I l n3 items
    refine codeAny_builtin PyProof.Rows.F.entry_set_update_loop ?_
    rw [Around.under_plainId PyProof.Rows.F.plain_set_update_loop _]
    have hi : i < items.size := by omega
    change wpAny (model P w) A.in1 (pyNext (.ref I) >>= _) _ _ s
    refine wpAny_bind (W.item i s _ _ hi ⟨it, li⟩ fun v h1 tk hv st kp => ?_)
    have j1 : J i h1 := keep i _ _ j fun b o nb q => kp b o (by simpa using nb) q
    change wpAny (model P w) A.in1 (holding [v] (setAdd S v) >>= _) _ _ _
    refine wpAny_bind (wpAny_holding (step i v { s with heap := h1, toks := tk } _ _ hv j1 fun b h2 tk2 j2 sb => ?_))
    refine wpAny_pure ⟨plainId_quiet PyProof.Rows.F.plain_set_update_loop _, ?_⟩
    obtain ⟨it1, li1⟩ := st
    refine fill_loop hh n1 n2 n3 keep step k (i + 1) _ (by omega) (it1.at fun o q => ?_) (li1.at fun o q => ?_) j2 fun h3 tk3 j3 => fin h3 tk3 j3
    · exact (sb.2 I (Ne.symm n1)).trans q
    · exact (sb.2 l (Ne.symm n2)).trans q
abbrev newSet (w : World) : Obj := { cls := .type "set", dict := none, data := .set #[] 0 (.fresh 0 0 (!w.params.followText "set-order")) }
set_option maxHeartbeats 3200000 in
/-- set(xs), xs a list -/
theorem set_of_list {E : Value → Shared → Prop} {Q : Value → Shared → Prop} {l : Addr} {items : Array Value} (J : Nat → Heap → Prop) (hh : A.handled = none) (hl : s.heap.IsList l items)
    (j0 : ∀ h, (∀ b o, s.heap.get? b = some o → h.get? b = some o) → h.get? s.heap.objs.size = some (newSet w) → J 0 h)
    (keep : ∀ i h h', J i h → (∀ b o, b ≠ s.heap.objs.size + 1 → h.get? b = some o → h'.get? b = some o) → J i h')
    (step : ∀ (A' : Around) i v (s1 : Shared) (C : Bool → Shared → Prop) (E' : Value → Shared → Prop), A'.units ≤ A.units + 3 → items[i]? = some v → J i s1.heap →
      (∀ b h' tk, J (i + 1) h' → Heap.SameBut s.heap.objs.size s1.heap h' → C b { s1 with heap := h', toks := tk }) → wpAny (model P w) A' (setAdd s.heap.objs.size v) C E' s1)
    (fin : ∀ h' tk, J items.size h' → Q (.ref s.heap.objs.size) { s with heap := h', toks := tk }) : wpAny (model P w) A (call (.type "set") [.ref l]) Q E s := by
  have cs := PySem.F.called_set
  obtain ⟨c, tl, hmro⟩ := cs.mro
  have q1 := cs.made
  have q2 := cs.sub
  have q3 := cs.notType
  have q4 := cs.canCreate
  have q5 := PySem.F.typeCall_set_1 (.ref l)
  have z0 : s.heap.get? s.heap.objs.size = none := Heap.get?_none_of_le (Nat.le_refl _)
  refine wpAny_call (codeAny_of_tree ?_)
  change wpAny _ _ (callAny (.type "set") _) _ _ _
  refine wpAny_pure ⟨Code.quiet_builtin _ (by decide +kernel), codeAny_builtin PySem.F.entry_type_call ?_⟩
  rw [Around.under_plain (weight_type_call_type "set" [.ref l] []) rfl]
  repeat any_goals first | assumption | wp_step
  refine codeAny_mono (code_set_led1 (.ref l) (E := E) (Q₁ := fun ob s1 => ob = .ref s.heap.objs.size ∧ s1 = { s with heap := s.heap.push (newSet w) }) ⟨rfl, rfl⟩) fun r s1 hr => ?_
  match r, hr with
  | .error e, hr => exact hr
  | .ok (.ret ob), hr =>
    obtain ⟨rfl, rfl⟩ := hr
    have hS : (s.heap.push (newSet w)).get? s.heap.objs.size = some (newSet w) := Heap.get?_push_size _ rfl
    have hT : Shared.TypeIs { s with heap := s.heap.push (newSet w) } (.ref s.heap.objs.size) "set" := ⟨_, hS, rfl⟩
    have q6 := cs.init.lookup
    have q7 := cs.init.bind (.ref s.heap.objs.size)
    repeat any_goals first | assumption | wp_step
    refine codeAny_mono (codeAny_call_builtin (R := wants (fun v s2 => v = .none ∧ ∃ h' tk, s2 = { s with heap := h', toks := tk } ∧ J items.size h') E) cs.init.plain PySem.F.entry_set_init (check_set_init_1 hT ?_)) fun r2 s2 hr2 => ?_
    · have hlt : l < s.heap.objs.size := by
        obtain ⟨_, o, _⟩ := hl
        exact Heap.lt_size o
      have hsz : (s.heap.push (newSet w)).objs.size = s.heap.objs.size + 1 := Heap.size_push ..
      have hl1 : (s.heap.push (newSet w)).IsList l items := hl.push _
      obtain ⟨⟨oc, od, dt, os⟩, o1, o2, on, o3⟩ := id hl1
      cases o2
      cases o3
      have f1 := PySem.F.sub_list_set
      have f2 := PySem.F.sub_list_frozenset
      have f3 : (Value.type "list" == Value.type "dict") = false := by decide
      unfold Builtin.«set.__init__» noKeywords Builtin.Frozenset.updateFrom
      generalize hp : pyIter = it
      wp_walk
      subst hp
      refine wpAny_pyIter_list hl1 (wpAny_bind (wpAny_runValue ?_))
      have kp : ∀ x : Obj, ∀ b o, s.heap.get? b = some o → ((s.heap.push (newSet w)).push x).get? b = some o := fun x b o e => Heap.get?_push_of_some _ (Heap.get?_push_of_some _ e)
      refine fill_loop (items := items) (J := J) (l := l) (by simp [hh]) (by rw [hsz]; exact Nat.ne_of_lt (Nat.lt_succ_self _)) (Nat.ne_of_gt hlt) (by rw [hsz]; exact Nat.ne_of_lt (Nat.lt_succ_of_lt hlt)) (by rw [hsz]; exact keep)
        (fun i v s1 C E' hv j k => step _ i v s1 C E' (by first | exact Nat.le_refl _ | (simp [Around.in1]; done) | omega) hv j k) items.size 0 _ (Nat.zero_add _).symm ⟨_, Heap.get?_push_size _ rfl, rfl, rfl⟩ (hl1.push _) (j0 _ (kp _) (Heap.get?_push_of_some _ hS)) fun h' tk j => ?_
      refine wpAny_pure ?_
      change wpAny _ _ (ret Value.none) _ _ _
      exact wpAny_pure ⟨rfl, h', tk, rfl, j⟩
    · match r2, hr2 with
      | .error e, hr2 => exact hr2
      | .ok (.ret v), hr2 =>
        obtain ⟨rfl, h', tk, rfl, j⟩ := hr2
        repeat any_goals first | assumption | wp_step
        exact fin h' tk j
end

end DL

/-! DL8: sets of tuples of ints, sorted. -/
namespace DL
open PySem PySem.Spec PyProof.Rows L2 PySem.W PySem.Calls

/-! ### sets of tuples of ints -/
theorem nodup_le {α : Type} [DecidableEq α] : ∀ {l m : List α}, l.Nodup → (∀ x ∈ l, x ∈ m) → l.length ≤ m.length
  | [], _, _, _ => Nat.zero_le _
  | x :: l, m, h1, h2 => by
    obtain ⟨a, b⟩ := List.nodup_cons.mp h1
    have hx : x ∈ m := h2 x List.mem_cons_self
    have q := nodup_le (l := l) (m := m.erase x) b fun y hy => (List.mem_erase_of_ne (by rintro rfl; exact a hy)).2 (h2 y (List.mem_cons_of_mem _ hy))
    rw [List.length_erase_of_mem hx] at q
    have := List.length_pos_of_mem hx
    rw [List.length_cons]
    omega
/-- each once -/
def uniqK {α : Type} [DecidableEq α] : List α → List α
  | [] => []
  | x :: r => if x ∈ uniqK r then uniqK r else x :: uniqK r
theorem mem_uniqK {α : Type} [DecidableEq α] {y : α} : ∀ {l : List α}, y ∈ uniqK l ↔ y ∈ l
  | [] => Iff.rfl
  | x :: r => by
    have ih := mem_uniqK (y := y) (l := r)
    unfold uniqK
    split
    · rename_i h
      rw [ih, List.mem_cons]
      exact ⟨.inr, fun z => z.elim (fun e => by rw [e]; exact mem_uniqK.mp h) id⟩
    · rw [List.mem_cons, List.mem_cons, ih]
theorem nodup_uniqK {α : Type} [DecidableEq α] : ∀ {l : List α}, (uniqK l).Nodup
  | [] => List.nodup_nil
  | x :: r => by
    unfold uniqK
    split
    · exact nodup_uniqK
    · rename_i h
      exact List.nodup_cons.mpr ⟨h, nodup_uniqK⟩
section
variable {P : Program} {w : World} {A : Around} {s : Shared}
theorem set_of_tups {E : Value → Shared → Prop} {Q : Value → Shared → Prop} {l : Addr} {items : Array Value} (ks : List (Addr × List Int)) (hh : A.handled = none) (hl : s.heap.IsList l items) (hit : items.toList = ks.map fun p => Value.ref p.1)
    (hk : ∀ p ∈ ks, IsT P w s.heap p.2 p.1) (hfew : (uniqK (ks.map (·.2))).length < 63) (hu : A.units + 3 < cLine)
    (fin : ∀ h' tk L es ep t, SetTR P w h' s.heap.objs.size L es ep t → Got ks ks.length L → (∀ b o, s.heap.get? b = some o → h'.get? b = some o) → Q (.ref s.heap.objs.size) { s with heap := h', toks := tk }) :
    wpAny (model P w) A (call (.type "set") [.ref l]) Q E s := by
  have hn : items.size = ks.length := by
    have q := congrArg List.length hit
    rwa [Array.length_toList, List.length_map] at q
  have hS : s.heap.get? s.heap.objs.size = none := Heap.get?_none_of_le (Nat.le_refl _)
  have hI : s.heap.get? (s.heap.objs.size + 1) = none := Heap.get?_none_of_le (Nat.le_succ _)
  refine set_of_list (fun i h => (∀ b o, s.heap.get? b = some o → h.get? b = some o) ∧ ∃ L es ep t, SetTR P w h s.heap.objs.size L es ep t ∧ Got ks i L) hh hl ?_ ?_ ?_ ?_
  · intro h k e
    exact ⟨k, [], #[], 0, _, setTR_fresh e, Got.zero ks⟩
  · rintro i h h' ⟨k, L, es, ep, t, R, g⟩ k2
    have k3 : ∀ b o, s.heap.get? b = some o → h'.get? b = some o := fun b o e => k2 b o (fun z => by rw [z, hI] at e; cases e) (k b o e)
    refine ⟨k3, L, es, ep, t, R.keep (fun o e => k2 _ o (Nat.ne_of_lt (Nat.lt_succ_self _)) e) fun p hp => isT_keep (hk p (List.mem_of_mem_take (g.sub p hp))) k3, g⟩
  · rintro A' i v s1 C E' ha hv ⟨k, L, es, ep, t, R, g⟩ hC
    have hv2 : items.toList[i]? = some v := by rw [Array.getElem?_toList]; exact hv
    rw [hit, List.getElem?_map] at hv2
    obtain ⟨p, hp, rfl⟩ := Option.map_eq_some_iff.mp hv2
    have hx : IsT P w s1.heap p.2 p.1 := isT_keep (hk p (List.mem_of_getElem? hp)) k
    have hL : L.length < 63 := by
      refine Nat.lt_of_le_of_lt ?_ hfew
      rw [← List.length_map (f := (·.2))]
      refine nodup_le R.nd fun x hx => ?_
      obtain ⟨p, hp, rfl⟩ := List.mem_map.mp hx
      exact mem_uniqK.mpr (List.mem_map.mpr ⟨p, List.mem_of_mem_take (g.sub p hp), rfl⟩)
    unfold setAdd
    refine wpAny_holding (wpAny_bind (wpAny_pyHash_tuple (by omega) hx ?_))
    refine add_at (s := { s1 with toks := s1.toks + (p.2.length + 1) }) R hx (by omega) (by omega) fun b h' L' es' ep' t' sb R' c1 c2 => ?_
    refine hC b h' _ ⟨fun c o e => (sb.2 c (fun z => by rw [z, hS] at e; cases e)).trans (k c o e), L', es', ep', t', R', ?_⟩ sb
    by_cases c : p.2 ∈ L.map (·.2)
    · rw [c1 c]; exact g.same hp c
    · exact g.more hp (c2 c)
  · rintro h' tk ⟨k, L, es, ep, t, R, g⟩
    rw [hn] at g
    exact fin h' tk L es ep t R g k
end
def tupI (k : List Int) : D := .tuple (k.map PyData.int)
def keyT : D → Option (List Int)
  | .tuple ds => toInts ds
  | _ => none
def keysT : List D → Option (List (List Int))
  | [] => some []
  | d :: ds => (keyT d).bind fun k => (keysT ds).map (k :: ·)
theorem keyT_eq {d : D} {k : List Int} (e : keyT d = some k) : d = tupI k := by
  match d, e with
  | .tuple ds, e => rw [toInts_eq e]; rfl
theorem keysT_eq : ∀ {ds : List D} {ks : List (List Int)}, keysT ds = some ks → ds = ks.map tupI
  | [], ks, e => by cases e; rfl
  | d :: ds, ks, e => by
    obtain ⟨k, e1, e⟩ := Option.bind_eq_some_iff.mp e
    obtain ⟨r, e2, rfl⟩ := Option.map_eq_some_iff.mp e
    rw [keyT_eq e1, keysT_eq e2]
    rfl
theorem keysT_map : ∀ ks : List (List Int), keysT (ks.map tupI) = some ks
  | [] => rfl
  | k :: ks => by
    show (keyT (tupI k)).bind (fun k => (keysT (ks.map tupI)).map (k :: ·)) = _
    rw [keysT_map ks]
    show (toInts (k.map PyData.int)).bind _ = _
    rw [toInts_map]
    rfl
/-- lists of ints in their order -/
def leK : List Int → List Int → Bool
  | [], _ => true
  | _ :: _, [] => false
  | a :: r, b :: t => if a < b then true else if b < a then false else leK r t
theorem leK_le : ∀ a b : List Int, leK a b = decide (a ≤ b)
  | [], b => by simp [leK]
  | x :: r, [] => by simp [leK]
  | x :: r, y :: t => by
    unfold leK
    rw [leK_le r t]
    by_cases h1 : x < y
    · rw [if_pos h1]
      exact (decide_eq_true (List.cons_le_cons_iff.mpr (.inl h1))).symm
    · rw [if_neg h1]
      by_cases h2 : y < x
      · rw [if_pos h2]
        refine (decide_eq_false fun z => ?_).symm
        rcases List.cons_le_cons_iff.mp z with z | ⟨z, _⟩ <;> omega
      · rw [if_neg h2]
        have e : x = y := by omega
        subst e
        by_cases h3 : r ≤ t
        · rw [decide_eq_true h3, decide_eq_true (List.cons_le_cons_iff.mpr (.inr ⟨rfl, h3⟩))]
        · rw [decide_eq_false h3]
          refine (decide_eq_false fun z => ?_).symm
          rcases List.cons_le_cons_iff.mp z with z | ⟨_, z⟩
          · exact h1 z
          · exact h3 z
theorem leD_tup (a b : List Int) : leD' false (tupI a) (tupI b) = leK a b := by
  have q := congrFun (congrFun (dataLe_rows (id : List Int → List Int)) a) b
  rw [leK_le]
  refine Eq.trans ?_ q
  rw [dataLe_eq]
  show (!dataLt (tupI b) (tupI a)) = (!dataLt (.list _) (.list _))
  unfold tupI
  rw [dataLt_tuple, dataLt_list]
  rfl
theorem isortB_map {α β : Type} {f : α → β} {le : α → α → Bool} {le' : β → β → Bool} (h : ∀ a b, le' (f a) (f b) = le a b) : ∀ l : List α, isortB le' (l.map f) = (isortB le l).map f
  | [] => rfl
  | a :: r => by
    have q : ∀ m : List α, insB le' (f a) (m.map f) = (insB le a m).map f := by
      intro m
      induction m with
      | nil => rfl
      | cons b m ih =>
        show (if le' (f a) (f b) = true then _ else _) = List.map f (if le a b = true then _ else _)
        rw [h]
        split
        · rfl
        · rw [List.map_cons, ← ih]
    show insB le' (f a) (isortB le' (r.map f)) = _
    rw [isortB_map h r, q]
    rfl
theorem insB_perm {α : Type} (le : α → α → Bool) (a : α) : ∀ l, (insB le a l).Perm (a :: l)
  | [] => .refl _
  | b :: r => by
    unfold insB
    split
    · exact .refl _
    · exact ((insB_perm le a r).cons b).trans (.swap a b r)
theorem isortB_perm {α : Type} (le : α → α → Bool) : ∀ l, (isortB le l).Perm l
  | [] => .refl _
  | a :: r => (insB_perm le a _).trans ((isortB_perm le r).cons a)
theorem leK_tr (a b c : List Int) (h1 : leK a b = true) (h2 : leK b c = true) : leK a c = true := by
  rw [leK_le] at *
  exact decide_eq_true (List.le_trans (of_decide_eq_true h1) (of_decide_eq_true h2))
theorem leK_to (a b : List Int) : (leK a b || leK b a) = true := by
  rw [leK_le, leK_le, Bool.or_eq_true, decide_eq_true_iff, decide_eq_true_iff]
  exact List.le_total a b
theorem leK_as {a b : List Int} (h1 : leK a b = true) (h2 : leK b a = true) : a = b := by
  rw [leK_le] at *
  exact List.le_antisymm (of_decide_eq_true h1) (of_decide_eq_true h2)
theorem sorted_one {α : Type} {le : α → α → Bool} (an : ∀ a b, le a b = true → le b a = true → a = b) : ∀ {l m : List α}, l.Perm m → l.Pairwise (fun a b => le a b = true) → m.Pairwise (fun a b => le a b = true) → l = m
  | [], m, p, _, _ => (List.Perm.nil_eq p)
  | a :: l, m, p, h1, h2 => by
    match m, p, h2 with
    | [], p, _ => exact absurd p.symm.nil_eq (by simp)
    | b :: m, p, h2 =>
      obtain ⟨x1, x2⟩ := List.pairwise_cons.mp h1
      obtain ⟨y1, y2⟩ := List.pairwise_cons.mp h2
      have e : a = b := by
        rcases List.mem_cons.mp (p.mem_iff.mp (List.mem_cons_self (a := a) (l := l))) with e | ha
        · exact e
        · rcases List.mem_cons.mp (p.mem_iff.mpr (List.mem_cons_self (a := b) (l := m))) with e | hb
          · exact e.symm
          · exact an _ _ (x1 b hb) (y1 a ha)
      subst e
      rw [sorted_one an (List.Perm.cons_inv p) x2 y2]
theorem isortB_sorted {α : Type} {le : α → α → Bool} (tr : ∀ a b c, le a b = true → le b c = true → le a c = true) (to : ∀ a b, (le a b || le b a) = true) (l : List α) : (isortB le l).Pairwise (fun a b => le a b = true) := by
  rw [← mergeSort_isort tr to]
  exact List.pairwise_mergeSort tr to l
def sortK (ks : List (List Int)) : List (List Int) := isortB leK ks
theorem sortK_perm {ks ls : List (List Int)} (p : ks.Perm ls) : sortK ks = sortK ls :=
  sorted_one (fun _ _ => leK_as) (((isortB_perm _ _).trans p).trans (isortB_perm _ _).symm) (isortB_sorted leK_tr leK_to _) (isortB_sorted leK_tr leK_to _)
theorem sortL_tups (ks : List (List Int)) : sortL false (ks.map tupI) = (sortK ks).map tupI := isortB_map leD_tup ks
theorem depth_tupI (k : List Int) : (tupI k).depth ≤ 1 := by
  unfold tupI
  rw [PyData.depth, depth_ints]
  exact Nat.le_refl _
theorem sortP_tups {ks : List (List Int)} (h : ks.length ≤ sz) : SortP (ks.map tupI) := by
  have sh : ∀ d ∈ ks.map tupI, ∃ k, d = tupI k := fun d hd => by
    obtain ⟨k, _, rfl⟩ := List.mem_map.mp hd
    exact ⟨k, rfl⟩
  refine ⟨fun d hd => ?_, fun d hd => ?_, fun d hd => ?_, fun d hd d' hd' => ?_, by rw [List.length_map]; exact h⟩
  · obtain ⟨k, rfl⟩ := sh d hd; rfl
  · obtain ⟨k, rfl⟩ := sh d hd
    exact decide_eq_true (Nat.le_trans (depth_tupI k) (by decide))
  · obtain ⟨k, rfl⟩ := sh d hd
    exact fun z => nomatch z
  · obtain ⟨k, rfl⟩ := sh d hd
    obtain ⟨k', rfl⟩ := sh d' hd'
    show alike (.tuple _) (.tuple _) = true
    simp only [alike]
    exact alike_ints k k'

section
variable {X : Cx} {M : Pm}
theorem refsK {K : PySem.W.Frag} {G : Hp} : ∀ {ks : List (List Int)} {xs : List V}, DqAll K G xs (ks.map tupI) → ∃ L : List (Addr × List Int), L.map (·.2) = ks ∧ xs = L.map (fun p => V.ref p.1) ∧ ∀ p ∈ L, SqT K G p.1 (p.2.map V.int)
  | [], _, h => by
    cases h
    exact ⟨[], rfl, rfl, fun p hp => (by cases hp)⟩
  | k :: ks, _, h => by
    cases h with
    | cons a t =>
      obtain ⟨L, h1, h2, h3⟩ := refsK t
      cases a with
      | @tup b vs _ q r =>
        have e := ints_of r
        subst e
        refine ⟨(b, k) :: L, by rw [List.map_cons, h1], by rw [List.map_cons, h2], fun p hp => ?_⟩
        rcases List.mem_cons.mp hp with rfl | hp
        · exact q
        · exact h3 p hp
theorem dq_refs {K : PySem.W.Frag} {G : Hp} : ∀ {L : List (Addr × List Int)}, (∀ p ∈ L, SqT K G p.1 (p.2.map V.int)) → DqAll K G (L.map fun p => V.ref p.1) ((L.map (·.2)).map tupI)
  | [], _ => .nil
  | p :: L, h => .cons (.tup (h p List.mem_cons_self) (dpall_ints _)) (dq_refs fun q hq => h q (List.mem_cons_of_mem _ hq))
/-- the inner call -/
def rSetT (K : PySem.W.Frag) (P : Program) (w : World) : List V → Hp → VK → Prop := fun vs H Q => ∃ (l : Addr) (ks : List (Addr × List Int)), vs = [V.ref l] ∧ SqL K H l (ks.map fun p => V.ref p.1) ∧ (∀ p ∈ ks, SqT K H p.1 (p.2.map V.int)) ∧ (uniqK (ks.map (·.2))).length < 63 ∧
  ∀ a L, H a = none → (∀ p ∈ L, p ∈ ks) → (L.map (·.2)).Perm (uniqK (ks.map (·.2))) → Q (.ref a) (upd H a (SetTO P w a L))
theorem cr_setT (hc : X.calm = true) (hu : X.A.units + 64 < cLine) : CallR X (.type "set") (rSetT X.K X.prog X.w) := by
  intro pins s σ H vs us Q I r h
  obtain ⟨l, ks, rfl, hl, hk, hf, q⟩ := h
  rw [Vals.ref1 r]
  obtain ⟨its, rv, pl, hz⟩ := I.list hl
  have hn : H s.heap.objs.size = none := I.hok.fresh (Nat.le_refl _)
  refine set_of_tups (P := X.prog) (w := X.w) ks (I.ok.hd hc) pl.isList (by simpa using refs_of_vals rv) (fun p hp => L2.Inv.isT I (hk p hp)) hf (by omega) fun h' tk L es ep t R g k => ?_
  refine ⟨.ref s.heap.objs.size, upd H s.heap.objs.size (SetTO X.prog X.w s.heap.objs.size L), I.laid (t' := tk) k (Nat.le_refl _) (setTO_new R.t0), rfl, q _ L hn (fun p hp => List.mem_of_mem_take (g.sub p hp)) ?_⟩
  refine (List.perm_ext_iff_of_nodup R.nd nodup_uniqK).mpr fun x => ⟨fun hx => ?_, fun hx => ?_⟩
  · obtain ⟨p, hp, rfl⟩ := List.mem_map.mp hx
    exact mem_uniqK.mpr (List.mem_map.mpr ⟨p, List.mem_of_mem_take (g.sub p hp), rfl⟩)
  · obtain ⟨p, hp, rfl⟩ := List.mem_map.mp (mem_uniqK.mp hx)
    exact g.all p (by rw [List.take_length]; exact hp)
/-- the outer one -/
def rSortS (K : PySem.W.Frag) (P : Program) (w : World) : List V → Hp → VK → Prop := fun vs H Q => ∃ (a : Addr) (L : List (Addr × List Int)) (G : Hp), vs = [V.ref a] ∧ H a = some (SetTO P w a L) ∧ Same G H ∧ (∀ p ∈ L, SqT K G p.1 (p.2.map V.int)) ∧
  ∀ ys p, DqAll K G ys ((sortK (L.map (·.2))).map tupI) → H p = none → Q (.ref p) (upd H p (.lst ys))
theorem perm_map_ex {α β : Type} {f : α → β} : ∀ {l : List α} {m : List β}, m.Perm (l.map f) → ∃ l' : List α, l'.Perm l ∧ m = l'.map f := fun {l m} h => by
  generalize e : l.map f = n at h
  induction h generalizing l with
  | nil => exact ⟨l, .refl _, by rw [e]⟩
  | @cons x a b _ ih =>
    cases l with
    | nil => cases e
    | cons y l =>
      cases e
      obtain ⟨l', h1, h2⟩ := ih rfl
      exact ⟨y :: l', h1.cons y, by rw [h2]; rfl⟩
  | swap x y a =>
    match l, e with
    | u :: v :: l, e =>
      cases e
      exact ⟨v :: u :: l, .swap _ _ _, rfl⟩
  | trans _ _ ih1 ih2 =>
    obtain ⟨l2, h1, h2⟩ := ih2 e
    obtain ⟨l1, h3, h4⟩ := ih1 h2.symm
    exact ⟨l1, h3.trans h1, h4⟩
theorem vals_refs : ∀ (L : List (Addr × List Int)), Vals (L.map fun p => V.ref p.1) (L.map fun p => Value.ref p.1)
  | [] => .nil
  | p :: L => .cons rfl (vals_refs L)
theorem cr_sortS (hc : X.calm = true) (hu : X.A.units + 64 < cLine) : CallR X (.builtin "sorted") (rSortS X.K X.prog X.w) := by
  intro pins s σ H vs us Q I r h
  obtain ⟨a, L, G, rfl, ha, gs, hk, q⟩ := h
  rw [Vals.ref1 r]
  have R0 : SetT0 X.prog X.w s.heap a L := (I.hok a _ ha).1
  obtain ⟨es, ep, t, R⟩ := R0.full fun p hp => L2.Inv.isT I (DL.Same.sqt gs (hk p hp))
  obtain ⟨o, ho, hex, hd⟩ := R.ob
  have hfew := R.few
  have hsz : es.size = L.length := R.size
  refine sorted_gen (b := false) (R := RvD X.K G) (Pd := fun ds => ∃ L' : List (Addr × List Int), L'.Perm L ∧ ds = (L'.map (·.2)).map tupI) (fun a => plain_is_rev a) (args_sorted1 _) (fun _ => args_list_sort _) (fun ds hp => ?_) (fun C E' k => ?_) fun s2 p out ds n k hp hge hg eo => ?_
  · obtain ⟨L', pm, rfl⟩ := hp
    have P := sortP_tups (ks := L'.map (·.2)) (by rw [List.length_map, pm.length_eq]; unfold sz; omega)
    exact ⟨P.al, P.non, fun d hd => by have := okd_le (P.ok d hd); omega, by rw [← sz_line]; exact P.len⟩
  · refine collect_set (A := X.A.in1) (I.ok.hd hc) ⟨o, ho, hex.1, hd⟩ R.fits (by unfold scanBound; omega) R.tab.ris R.led fun s1 vs k1 hz g1 o1 pm => ?_
    have hes : es.toList.map (·.2) = L.map fun q => Value.ref q.1 := by
      rw [R.rows]
      unfold L2.rowsOf
      rw [List.map_map] <;> rfl
    rw [hes] at pm
    obtain ⟨L', pL, rfl⟩ := perm_map_ex pm
    have e1 : EachIs (RvD X.K G) (L'.map fun q => Value.ref q.1) ((L'.map (·.2)).map tupI) := each_of (dq_refs fun p hp => hk p (pL.mem_iff.mp hp)) (vals_refs L')
    refine k s1 _ _ ⟨k1, g1, o1, hz⟩ ⟨L', pL, rfl⟩ e1 ?_
    exact (each_reads I gs e1).mono fun _ _ ⟨as, r⟩ => ⟨as, PyProof.Rows.Reads.keeps k1 r⟩
  · obtain ⟨L', pL, rfl⟩ := hp
    rw [sort_eq, sortL_tups, sortK_perm (pL.map (·.2))] at eo
    obtain ⟨ys, h1, h2⟩ := of_each eo
    have hl : ys.length ≤ sizeLine := by
      rw [dpall_len h2, List.length_map]
      unfold sortK
      rw [(isortB_perm _ _).length_eq, List.length_map, sizeLine_eq]
      omega
    obtain ⟨hn, J⟩ := Inv.laidK I k hge hg h1 hl
    exact ⟨.ref p, _, J, rfl, q ys p h2 hn⟩

def setSortD : D → Option D
  | .list ds => (keysT ds).bind fun ks => if (uniqK ks).length < 63 then some (.list ((sortK (uniqK ks)).map tupI)) else none
  | _ => none
variable {e : Expr} {p p2 pos pos2 : Pos} {F : En → Option D}
/-- sorted(set(e)), e a list of tuples of ints -/
theorem n_sortSet (hc : X.calm = true) (hu : X.A.units + 64 < cLine) (hg : Gl X "sorted") (hm : X.mg "sorted" = none) (hg2 : Gl X "set") (hm2 : X.mg "set" = none) (ha : PE X e (tB (pmOf X) F))
    (he : starEach [e] X.env = (false, eval e X.env) :: starEach [] X.env := by rfl) (he2 : starEach [.Call (.Name "set" p2) [e] [] pos2] X.env = (false, eval (.Call (.Name "set" p2) [e] [] pos2) X.env) :: starEach [] X.env := by rfl) :
    PE X (.Call (.Name "sorted" p) [.Call (.Name "set" p2) [e] [] pos2] [] pos) (tN (pmOf X) (una setSortD F)) := by
  refine PE.mono (pe_callB (cr_sortS hc hu) hg hm (by decide +kernel) (pa_cons (pe_callTy (cr_setT hc hu) hg2 hm2 (by decide +kernel) (ba1 ha he) (by decide) (by decide) he (by rfl)) pa_nil he2) (by decide) (by decide) he2 (by rfl)) ?_
  rintro σ H Q ⟨B, ρ, G, d, R, e, k⟩
  obtain ⟨c, e1, e⟩ := Option.bind_eq_some_iff.mp e
  match c, e, e1 with
  | .list ds, e, e1 =>
    obtain ⟨ks, e2, e⟩ := Option.bind_eq_some_iff.mp e
    obtain ⟨hf, rfl⟩ := if_some e
    refine ⟨B, ρ, G, [.list ds], R, by show (F ρ).bind _ = _; rw [e1]; rfl, fun us G1 H1 g1 q => ?_⟩
    obtain ⟨v, rfl, hv⟩ := p1 q
    obtain ⟨a, vs, rfl, h1, t⟩ := hv.list g1.s
    rw [keysT_eq e2] at t
    obtain ⟨L, rfl, rfl, h3⟩ := refsK t
    refine ⟨a, L, rfl, .inl (.inl h1), fun p hp => DL.Same.sqt g1.s (h3 p hp), hf, fun b L' hb hs pm => ?_⟩
    have g2 : Gr G1 H1 G1 (upd H1 b (SetTO (pmOf X).P (pmOf X).w b L')) := Gr.own g1.s _ hb
    refine ⟨b, L', G1, rfl, upd_same, g2.s, fun p hp => h3 p (hs p hp), fun ys p hy hp => ?_⟩
    rw [sortK_perm pm] at hy
    exact KN.lst g2.s (k.tr (g1.trans g2)) hp hy
end
end DL

/-! DL9: turned sequences, isinstance, comprehensions of two clauses. -/
namespace DL
open PySem PySem.Spec PyProof.Rows L2 PySem.Calls

/-! ### x[::-1] -/
section
variable {prog : Program} {w : World} {A : Around} {E : Value → Shared → Prop} {s : Shared}
theorem rev_places (n : Nat) : Builtin.Slice.slicePlaces ((n : Int) - 1) (-1) (-1) = n := by
  unfold Builtin.Slice.slicePlaces
  rw [if_neg (by decide)]
  by_cases h : (n : Int) - 1 > -1
  · rw [if_pos h, show (-(-1) : Int) = 1 by decide, Int.ediv_one]
    omega
  · rw [if_neg h]
    omega
theorem rev_pick (xs : Array Value) : ((List.range xs.size).filterMap fun (k : Nat) => xs[((xs.size : Int) - 1 + (k : Int) * (-1)).toNat]?).toArray = xs.toList.reverse.toArray := by
  have e : ((List.range xs.size).filterMap fun (k : Nat) => xs[((xs.size : Int) - 1 + (k : Int) * (-1)).toNat]?) = ((List.range xs.size).map fun k => xs.size - 1 - k).filterMap fun i => xs[i]? := by
    rw [List.filterMap_map]
    have g : ∀ l : List Nat, (∀ k ∈ l, k < xs.size) → l.filterMap (fun (k : Nat) => xs[((xs.size : Int) - 1 + (k : Int) * (-1)).toNat]?) = l.filterMap ((fun i => xs[i]?) ∘ fun k => xs.size - 1 - k) := by
      intro l
      induction l with
      | nil => intro _; rfl
      | cons k l ih =>
        intro h
        have e : ((xs.size : Int) - 1 + (k : Int) * (-1)).toNat = xs.size - 1 - k := by
          have := h k List.mem_cons_self
          omega
        have q := ih fun i hi => h i (List.mem_cons_of_mem _ hi)
        simp only [List.filterMap_cons, Function.comp_apply, e]
        simp only [Function.comp_def] at q
        rw [q]
        rfl
    exact g _ fun k hk => List.mem_range.mp hk
  rw [e, PySem.W.krv_range, List.filterMap_reverse, PySem.W.krv_all]
theorem getItem_tuple_rev {t sl : Addr} {items : Array Value} {vs : Value} {Q : Value → Shared → Prop} (ht : PyProof.Rows.IsTup s.heap t items) (hs : s.heap.IsSliceOf sl .none .none vs) (ps : IsPart vs (some (-1)))
    (h : Q (.ref s.heap.objs.size) { s with heap := s.heap.push { cls := .type "tuple", data := .seq items.toList.reverse.toArray } }) (hz : items.size ≤ sizeLine) : wpAny (model prog w) A (getItem (.ref t) (.ref sl)) Q E s := by
  obtain ⟨os, o1, o2, o3⟩ := id hs
  have hT : s.TypeIs (.ref sl) "slice" := ⟨os, o1, o2⟩
  have hsz : sizeOk (.seq items.toList.reverse.toArray) := by
    show items.toList.reverse.toArray.size ≤ sizeLine
    rw [List.size_toArray, List.length_reverse, Array.length_toList]
    exact hz
  unfold getItem
  try with_reducible refine wpAny_holding ?_
  try refine wpAny_bind (wpAny_pure ?_)
  refine wpAny_bind (wpAny_sequenceKey ht.typeIs (by decide) (wpAny_bind ?_))
  refine wpAny_callSpecial?_slot (name := Str.ofString "__getitem__") ht.typeIs PyProof.Rows.slot_tuple_getitem ?_
  refine wpAny_call_entry PyProof.Rows.slot_tuple_getitem ht.typeIs entry_tuple_getitem ?_ (args_tuple_getitem _ _)
  change wpAny _ _ (Builtin.Tuple.tupleItemsOf (.ref t) >>= _) _ _ s
  refine wpAny_bind (PyProof.Rows.tupleItemsOf_ ht (wpAny_bind (wpAny_typeOf hT ?_)))
  rw [if_pos (by decide)]
  refine wpAny_bind (show wpAny _ _ (Builtin.Slice.sliceApplied (.ref sl) (pure (items.size : Int))) _ _ s from ?_)
  unfold Builtin.Slice.sliceApplied Builtin.Slice.sliceFields
  refine wpAny_bind (wpAny_bind (wpAny_field o1 o3 (x := .none) rfl (wpAny_bind (wpAny_field o1 o3 (x := .none) rfl (wpAny_bind (wpAny_field o1 o3 (x := vs) rfl (wpAny_pure ?_)))))))
  refine wpAny_bind (HT.slicePart_ ps ?_)
  change wpAny _ _ (if ((-1 : Int) == 0) = true then _ else _) _ _ s
  rw [if_neg (by decide)]
  refine wpAny_bind (HT.slicePart_ IsPart.none (wpAny_bind (HT.slicePart_ IsPart.none (wpAny_bind (wpAny_pure ?_)))))
  change wpAny _ _ (pure (((items.size : Int) - 1), (-1 : Int), Builtin.Slice.slicePlaces ((items.size : Int) - 1) (-1) (-1))) _ _ s
  rw [rev_places]
  refine wpAny_pure ?_
  have no : ¬ ((((items.size : Int) - 1) == 0 && (-1 : Int) == 1 && items.size == items.size) = true) := by
    intro q
    rw [Bool.and_eq_true, Bool.and_eq_true] at q
    exact absurd q.1.2 (by decide)
  change wpAny _ _ (if (((items.size : Int) - 1) == 0 && (-1 : Int) == 1 && items.size == items.size) = true then _ else _) _ _ s
  rw [if_neg no, rev_pick]
  first
    | exact wpAny_bind (m := Builtin.Tuple.tupleExact _) (wpAny_newObj_type (wpAny_pure ⟨_, rfl, wpAny_pure h⟩) hsz)
    | exact wpAny_bind (m := Builtin.Tuple.tupleExact _) (wpAny_newObj_type (wpAny_bind (wpAny_pure (wpAny_pure ⟨_, rfl, wpAny_pure h⟩))) hsz)
    | exact wpAny_bind (wpAny_bind (m := Builtin.Tuple.tupleExact _) (wpAny_newObj_type (wpAny_pure (wpAny_pure ⟨_, rfl, wpAny_pure h⟩)) hsz))
    | exact wpAny_bind (wpAny_bind (m := Builtin.Tuple.tupleExact _) (wpAny_newObj_type (wpAny_pure ⟨_, rfl, wpAny_pure h⟩) hsz))
end
section
variable {X : Cx} {e : Expr} {F : En → Option D} {k : Nat} {p1 p2 p3 pos : Pos}
def tRevT (K : PySem.W.Frag) (te : TE) : TE := fun σ H Q => te σ H fun x H1 => ∃ a xs, x = .ref a ∧ SqT K H1 a xs ∧ ∀ p, H1 p = none → Q (.ref p) (upd H1 p (.tup xs.reverse))
theorem pe_revT {te : TE} (he : PE X e te) : PE X (.Subscript e (.Slice none none (some (.UnaryOp .USub (.Constant (.int 1) k p1) p2)) p3) pos) (tRevT X.K te) := by
  refine ⟨fun pins s σ H Q I h => Subscript_ (thn (he.run pins s σ H _ I h) fun v s1 ⟨x, H1, I1, r1, a, xs, ex, hx, q⟩ => ?_)⟩
  subst ex
  cases r1
  have hst : PO X (some (.UnaryOp .USub (.Constant (.int 1) k p1) p2)) (tPart (tUn (rU fun i => .int (-i)) (tC (.int 1)))) := po_some (pe_un un_neg pe_int)
  refine wpAny_Slice (thn (po_none.run pins s1 σ H1 (fun o H2 => o = none ∧ H2 = H1) I1 ⟨rfl, rfl⟩) fun vl s2 ⟨o1, H2, I2, q1, z1, z2⟩ => ?_)
  subst z1 z2
  refine thn (po_none.run pins s2 σ H2 (fun o H3 => o = none ∧ H3 = H2) I2 ⟨rfl, rfl⟩) fun vu s3 ⟨o2, H3, I3, q2, z1, z2⟩ => ?_
  subst z1 z2
  refine thn (hst.run pins s3 σ H3 (fun o H4 => o = some (-1) ∧ H4 = H3) I3 ⟨1, rfl, -1, rfl, rfl, rfl⟩) fun vs s4 ⟨o3, H4, I4, q3, z1, z2⟩ => ?_
  subst z1 z2
  cases q1
  cases q2
  have I5 : Inv X pins σ H4 { s4 with heap := s4.heap.push { cls := .type "slice", data := .fields #[.none, .none, vs] } } := I4.kept (t' := s4.toks) fun b ob z => Heap.get?_push_of_some _ z
  obtain ⟨its, r, ht, hz⟩ := I5.tuple hx
  have hlen := r.length
  change wpAny (model X.prog X.w) X.A (subscriptTail e (.Slice none none (some (.UnaryOp .USub (.Constant (.int 1) k p1) p2)) p3) (.ref a) (.ref s4.heap.objs.size)) (EP X pins σ Q) X.xe { s4 with heap := s4.heap.push { cls := .type "slice", data := .fields #[.none, .none, vs] } }
  refine tail_any (ops := [.ref a, .ref s4.heap.objs.size]) ht.typeIs (PyProof.Rows.slot_tuple_getitem.lookup) ?_ (by with_unfolding_all rfl)
  refine getItem_tuple_rev ht (Heap.IsSliceOf.new _ .none .none vs) q3 ?_ (by rw [List.size_toArray]; have := r.length; omega)
  refine ⟨.ref _, _, I5.laid (t' := s4.toks) (o := .tup xs.reverse) (fun b ob z => Heap.get?_push_of_some _ z) (Nat.le_refl _) ?_, rfl, q _ (I5.hok.fresh (Nat.le_refl _))⟩
  exact ⟨by rw [List.length_reverse]; exact hz, its.reverse, r.reverse, _, Heap.get?_push_size _ rfl, rfl, 0, rfl⟩
def revTD : D → Option D
  | .tuple ds => some (.tuple ds.reverse)
  | _ => none
def revLD : D → Option D
  | .list ds => some (.list ds.reverse)
  | _ => none
theorem f_revT (he : PE X e (tB (pmOf X) F)) : PE X (.Subscript e (.Slice none none (some (.UnaryOp .USub (.Constant (.int 1) k p1) p2)) p3) pos) (tF (pmOf X) (una revTD F)) := by
  refine PE.mono (pe_revT he) ?_
  rintro σ H Q ⟨B, ρ, G, d, R, e, k⟩
  obtain ⟨c, e1, e⟩ := Option.bind_eq_some_iff.mp e
  match c, e, e1 with
  | .tuple ds, e, e1 =>
    cases e
    refine ⟨B, ρ, G, _, R, e1, fun u G' H' g q => ?_⟩
    obtain ⟨a, vs, rfl, h1, h2, t⟩ := q.tup g.s
    exact ⟨a, vs, rfl, h2, fun p hp => KF.tup g.s (k.tr g) hp (dpall_rev t)⟩
theorem n_revL (he : PE X e (tB (pmOf X) F)) : PE X (.Subscript e (.Slice none none (some (.UnaryOp .USub (.Constant (.int 1) k p1) p2)) p3) pos) (tN (pmOf X) (una revLD F)) := by
  refine PE.mono (pe_revL he) ?_
  rintro σ H Q ⟨B, ρ, G, d, R, e, k⟩
  obtain ⟨c, e1, e⟩ := Option.bind_eq_some_iff.mp e
  match c, e, e1 with
  | .list ds, e, e1 =>
    cases e
    refine ⟨B, ρ, G, _, R, e1, fun u G' H' g q => ?_⟩
    obtain ⟨a, vs, rfl, h1, t⟩ := q.list g.s
    exact ⟨a, vs, rfl, .inl (.inl h1), fun p hp => KN.lst g.s (k.tr g) hp (dpall_rev t)⟩

/-! ### isinstance -/
def tyS : D → Option String
  | .none => some "NoneType"
  | .bool _ => some "bool"
  | .int _ => some "int"
  | .str _ => some "str"
  | .list _ => some "list"
  | .tuple _ => some "tuple"
  | .dict _ => none
inductive Ty5 where | int | bool | str | tuple | list
def Ty5.nm : Ty5 → String
  | .int => "int" | .bool => "bool" | .str => "str" | .tuple => "tuple" | .list => "list"
def isiB : Ty5 → D → Bool
  | .int, .int _ => true
  | .int, .bool _ => true
  | .bool, .bool _ => true
  | .str, .str _ => true
  | .tuple, .tuple _ => true
  | .list, .list _ => true
  | _, _ => false
theorem isi_kit (T : Ty5) (d : D) {n : String} (h : tyS d = some n) : kitB n T.nm = some (isiB T d) := by
  cases T <;> cases d <;> cases h <;> first | decide +kernel | rfl
theorem ty_of {K : PySem.W.Frag} {G : Hp} {v : V} {d : D} (h : Dq K G v d) {n : String} (e : tyS d = some n) : TyX K G v (.type n) := by
  cases h with
  | non => cases e; exact .base .non
  | bl b => cases e; exact .base (.bl b)
  | int i => cases e; exact .base (.int i)
  | str x => cases e; exact .base (.str x)
  | lst h t => cases e; exact .base (.lst h)
  | tup h t =>
    cases e
    rcases h with (h | ⟨o, h⟩) | ⟨o, its, m, h1, h2, _⟩
    · exact .base (.tup h)
    · exact .fTuple h
    · exact .kTuple h1 h2
def isiD (T : Ty5) : D → Option D := fun d => if noD d = true then some (.bool (isiB T d)) else none
theorem f_isi (T : Ty5) {x : Str} {p q : Pos} (hg : Gl X "isinstance") (hm : X.mg "isinstance" = none) (hg2 : Gl X x) (hm2 : X.mg x = none) (hv : bootBuiltins x = some (.type T.nm)) (hn : x ≠ "__name__") (hd : (x == ("__debug__" : Str)) = false) (he : PE X e (tB (pmOf X) F))
    (hs : starEach [e, .Name x q] X.env = (false, eval e X.env) :: starEach [.Name x q] X.env := by rfl) (hs2 : starEach [.Name x q] X.env = (false, eval (.Name x q) X.env) :: starEach [] X.env := by rfl) (hpl : (backTo pos (starEach [.Name x q] X.env)).any (·.1) = false := by rfl) :
    PE X (.Call (.Name "isinstance" p) [e, .Name x q] [] pos) (tF (pmOf X) (una (isiD T) F)) := by
  refine PE.mono (pe_callB call_isi hg hm (by decide +kernel) (pa_cons he (pa_cons (pe_bltn (v := .ty T.nm) hg2 hm2 hv rfl hn hd) pa_nil hs2) hs) (by decide) (by decide) hs hpl) ?_
  rintro σ H Q ⟨B, ρ, G, d, R, e, k⟩
  obtain ⟨c, e1, e⟩ := Option.bind_eq_some_iff.mp e
  obtain ⟨n, rfl⟩ := if_some e
  refine ⟨B, ρ, G, c, R, e1, fun u G' H' g h => ?_⟩
  have hc : ∃ m, tyS c = some m := by
    cases c with
    | dict _ => exact absurd n Bool.false_ne_true
    | _ => exact ⟨_, rfl⟩
  obtain ⟨m, hm⟩ := hc
  exact ⟨u, .ty T.nm, .type m, .type T.nm, isiB T c, rfl, .ty _, ty_of (h.toDq g.s n) hm, kit_ty (isi_kit T c hm), KF.flat g.s (k.tr g) (da_bl _)⟩
end
end DL

/-! DL10: comprehensions of two clauses. -/
namespace DL
open PySem PySem.Spec PyProof.Rows L2

def ownB : Option Sl → Bool
  | some (.own _) => true
  | _ => false
theorem ownB_iff {x : Option Sl} : ownB x = true ↔ isOwn x := by
  match x with
  | some (.own _) => exact ⟨fun _ => trivial, fun _ => rfl⟩
  | some (.dat _) => exact ⟨(fun z => nomatch z), fun z => False.elim z⟩
  | some .un => exact ⟨(fun z => nomatch z), fun z => False.elim z⟩
  | none => exact ⟨(fun z => nomatch z), fun z => False.elim z⟩
/-- what a owns b owns -/
def ownSub (a b : En) : Bool := (List.range a.length).all fun i => !ownB (a[i]?) || ownB (b[i]?)
theorem ownSub_at {a b : En} (h : ownSub a b = true) {i : Nat} (hi : isOwn (a[i]?)) : isOwn (b[i]?) := by
  have hl : i < a.length := by
    rcases Nat.lt_or_ge i a.length with z | z
    · exact z
    · rw [List.getElem?_eq_none z] at hi; exact hi.elim
  have q := List.all_eq_true.mp h i (List.mem_range.mpr hl)
  rw [ownB_iff.mpr hi] at q
  exact ownB_iff.mp q
theorem wipeE_own {ρ : En} {i : Nat} : ∀ {vs : List Nat}, i ∈ vs → ¬ isOwn ((wipeE ρ vs)[i]?)
  | v :: vs, h => by
    unfold wipeE
    by_cases e : v = i
    · subst e
      by_cases hl : v < (wipeE ρ vs).length
      · rw [List.getElem?_set_self hl]; exact fun z => z
      · rw [List.getElem?_eq_none (by rw [List.length_set]; omega)]; exact fun z => z
    · rw [List.getElem?_set_ne e]
      exact wipeE_own ((List.mem_cons.mp h).resolve_left fun z => e z.symm)
theorem Rep.move {M : Pm} {B : Hp × Hp} {ρ ρ' : En} {σ σ' : L2.St} {G1 H1 G H G' H' : Hp} (R1 : Rep M B ρ G1 σ H1) (R3 : Rep M B ρ' G σ' H) (hs : ∀ i : Nat, isOwn (ρ'[i]?) → isOwn (ρ[i]?) ∧ σ'[i]? = σ[i]?) (g1 : Gr G1 H1 G H) (g2 : Gr G1 H1 G' H') (gg : Same G G') : Rep M B ρ' G' σ' H' := by
  obtain ⟨O, h1, h2⟩ := R3.slot
  refine ⟨R1.gr.trans g2, R3.len, O, fun i => ?_, h2⟩
  have q := h1 i
  match hx : ρ'[i]?, q with
  | some (.dat d), ⟨v, e, r⟩ => exact ⟨v, e, r.up gg⟩
  | some .un, _ => exact trivial
  | none, _ => exact trivial
  | some (.own d), ⟨e, a1, a2, o, a3, a4⟩ =>
    obtain ⟨k1, k2⟩ := hs i (by rw [hx]; trivial)
    match hy : ρ[i]?, k1 with
    | some (.own d1), _ =>
      obtain ⟨a, o1, b1, b2, b3, b4, _, _⟩ := R1.owned hy
      rw [e] at k2
      rw [← k2] at b1
      cases b1
      have eo : o1 = o := by
        have z := g1.h _ _ b4
        rw [a3] at z
        exact (Option.some.inj z).symm
      subst eo
      exact ⟨e, g2.n _ _ b4 b2, a2, o1, g2.h _ _ b4, a4.up gg⟩
def compL2 (g : D → En → Option En) (C : En → Option Bool) (f1 : En → Option (List D)) (g1 : D → En → Option En) (C1 : En → Option Bool) (F : En → Option D) (vs1 : List Nat) (ρ : En) : List D → Option (List D)
  | [] => some []
  | d :: ds => (g d ρ).bind fun ρ2 => (C ρ2).bind fun b => if b = true then (f1 ρ2).bind fun es => (compL g1 C1 F (wipeE ρ2 vs1) es).bind fun xs => if ownSub ρ2 ρ = true then (compL2 g C f1 g1 C1 F vs1 ρ ds).map (xs ++ ·) else none else compL2 g C f1 g1 C1 F vs1 ρ ds
def comp2F (f : En → Option (List D)) (g : D → En → Option En) (C : En → Option Bool) (f1 : En → Option (List D)) (g1 : D → En → Option En) (C1 : En → Option Bool) (F : En → Option D) (vs vs1 : List Nat) : En → Option D := fun ρ =>
  (f ρ).bind fun ds => (compL2 g C f1 g1 C1 F vs1 (wipeE ρ vs) ds).bind fun xs => if xs.length ≤ sz then some (.list xs) else none
section
variable {X : Cx} {tg iter tg1 iter1 elt : Expr} {ifs ifs1 : List Expr} {W W1 vs vs1 : List Nat} {f f1 : En → Option (List D)} {g g1 : D → En → Option En} {C C1 : En → Option Bool} {F : En → Option D}
theorem lc2_imp {M : Pm} (hW : ∀ i ∈ W, i ∈ vs) (hW1 : ∀ i ∈ W1, i ∈ vs1) : ∀ σ H Q, tN M (comp2F f g C f1 g1 C1 F vs vs1) σ H Q → tLc2 (tIc M f) (tG M W g) (tT M C) (tIt M f1) (tG M W1 g1) (tT M C1) (tF M F) vs vs1 σ H Q := by
  rintro σ H Q ⟨B, ρ, G, d, R, e, k⟩
  obtain ⟨ds, e1, e2⟩ := Option.bind_eq_some_iff.mp e
  obtain ⟨out, e3, e⟩ := Option.bind_eq_some_iff.mp e2
  obtain ⟨hout, rfl⟩ := if_some e
  refine ⟨B, ρ, G, ds, R, e1, fun J G1 H1 g0 wk L hL => ?_⟩
  have R1 := R.up g0
  have hH : H L = none := Same.free g0.h hL
  have Rw1 : Rep M B (wipeE ρ vs) G1 (wipe σ vs) H1 := R1.wipeEV vs
  refine ⟨fun i m H2 => m = ds.length - i ∧ i ≤ ds.length ∧ ∃ G2 acc da rest, Gr G1 H1 G2 H2 ∧ G2 L = none ∧ H2 L = some (.lst acc) ∧ DqAll M.K G2 acc da ∧ compL2 g C f1 g1 C1 F vs1 (wipeE ρ vs) (ds.drop i) = some rest ∧ out = da ++ rest,
    ⟨ds.length, by simp, Nat.zero_le _, G1, [], [], out, Gr.own R1.s _ hL, R1.s.free hL, upd_same, .nil, by rw [List.drop_zero]; exact e3, rfl⟩, ?_⟩
  rintro i m H2 ⟨rfl, hi, G2, acc, da, rest, g2, n2, h2, t2, e4, eo⟩
  by_cases hlt : i < ds.length
  · have ed : ds.drop i = ds[i] :: ds.drop (i + 1) := List.drop_eq_getElem_cons hlt
    rw [ed] at e4
    obtain ⟨ρ3, e5, e6⟩ := Option.bind_eq_some_iff.mp e4
    obtain ⟨b, e7, e8⟩ := Option.bind_eq_some_iff.mp e6
    refine .inr ⟨wk.go i G2 H2 hlt g2.g g2.s g2.h, fun H' => ∃ G2 acc da rest, Gr G1 H1 G2 H' ∧ G2 L = none ∧ H' L = some (.lst acc) ∧ DqAll M.K G2 acc da ∧ compL2 g C f1 g1 C1 F vs1 (wipeE ρ vs) (ds.drop (i + 1)) = some rest ∧ out = da ++ rest,
      fun H' q => ⟨ds.length - (i + 1), by omega, rfl, hlt, q⟩, fun x H3 y => ?_⟩
    obtain ⟨G3, g3, q3⟩ := wk.yld i ds[i] G2 H2 x H3 (List.getElem?_eq_getElem hlt) g2.g g2.s g2.h y
    have g13 := g2.trans g3
    have Rw : Rep M B (wipeE ρ vs) G3 (wipe σ vs) H3 := Rw1.up g13
    refine ⟨B, _, G3, ds[i], ρ3, Rw, q3, e5, fun σ4 R4 l4 n4 => ⟨wipe_eq hW l4 n4, B, ρ3, G3, b, R4, e7, fun G5 H5 g5 => ?_⟩⟩
    have g35 := g3.trans g5
    have g15 := g2.trans g35
    cases b with
    | false =>
      dsimp only
      rw [if_neg Bool.false_ne_true]
      have e8' : compL2 g C f1 g1 C1 F vs1 (wipeE ρ vs) (ds.drop (i + 1)) = some rest := e8
      exact ⟨G5, acc, da, rest, g15, g35.n _ _ h2 n2, g35.h _ _ h2, DqAll.up g35.g _ _ t2, e8', eo⟩
    | true =>
      obtain ⟨es, e9, e10⟩ := Option.bind_eq_some_iff.mp (show ((f1 ρ3).bind fun es => (compL g1 C1 F (wipeE ρ3 vs1) es).bind fun xs => if ownSub ρ3 (wipeE ρ vs) = true then (compL2 g C f1 g1 C1 F vs1 (wipeE ρ vs) (ds.drop (i + 1))).map (xs ++ ·) else none) = some rest from e8)
      obtain ⟨xs, e11, e12⟩ := Option.bind_eq_some_iff.mp e10
      have hos : ownSub ρ3 (wipeE ρ vs) = true := by
        by_cases z : ownSub ρ3 (wipeE ρ vs) = true
        · exact z
        · rw [if_neg z] at e12; cases e12
      rw [if_pos hos] at e12
      obtain ⟨rest2, e13, rfl⟩ := Option.map_eq_some_iff.mp e12
      dsimp only
      rw [if_pos rfl]
      refine ⟨B, ρ3, G5, es, R4.up g5, e9, fun J1 G6 H6 g6 wk1 => ?_⟩
      have g36 := g35.trans g6
      have g16 := g2.trans g36
      have hs : ∀ i : Nat, isOwn (ρ3[i]?) → isOwn ((wipeE ρ vs)[i]?) ∧ σ4[i]? = (wipe σ vs)[i]? := fun i hi => by
        have a := ownSub_at hos hi
        exact ⟨a, n4 i fun z => wipeE_own (hW i z) a⟩
      have n6 := g36.n _ _ h2 n2
      have h6 := g36.h _ _ h2
      refine ⟨fun j k H7 => k = es.length - j ∧ j ≤ es.length ∧ ∃ G7 acc da r1, Gr G1 H1 G7 H7 ∧ Same G6 G7 ∧ G7 L = none ∧ H7 L = some (.lst acc) ∧ DqAll M.K G7 acc da ∧ compL g1 C1 F (wipeE ρ3 vs1) (es.drop j) = some r1 ∧ out = da ++ (r1 ++ rest2),
        ⟨es.length, by simp, Nat.zero_le _, G6, acc, da, xs, g16, Same.refl _, n6, h6, DqAll.up g36.g _ _ t2, by rw [List.drop_zero]; exact e11, eo⟩, ?_⟩
      rintro j k' H7 ⟨rfl, hj, G7, acc', da', r1, g17, s67, n7, h7, t7, e14, eo'⟩
      by_cases hlj : j < es.length
      · have ej : es.drop j = es[j] :: es.drop (j + 1) := List.drop_eq_getElem_cons hlj
        rw [ej] at e14
        obtain ⟨ρ5, e15, e16⟩ := Option.bind_eq_some_iff.mp e14
        obtain ⟨b1, e17, e18⟩ := Option.bind_eq_some_iff.mp e16
        refine .inr ⟨wk1.go j G7 H7 hlj s67 g17.s (same_no _), fun H' => ∃ G7 acc da r1, Gr G1 H1 G7 H' ∧ Same G6 G7 ∧ G7 L = none ∧ H' L = some (.lst acc) ∧ DqAll M.K G7 acc da ∧ compL g1 C1 F (wipeE ρ3 vs1) (es.drop (j + 1)) = some r1 ∧ out = da ++ (r1 ++ rest2),
          fun H' q => ⟨es.length - (j + 1), by omega, rfl, hlj, q⟩, fun x1 H8 y1 => ?_⟩
        obtain ⟨G8, g8, q8⟩ := wk1.yld j es[j] G7 H7 x1 H8 (List.getElem?_eq_getElem hlj) s67 g17.s (same_no _) y1
        have g18 := g17.trans g8
        have R8 : Rep M B ρ3 G8 σ4 H8 := Rep.move Rw1 R4 hs g13 g18 (((g5.g.trans g6.g).trans s67).trans g8.g)
        refine ⟨B, _, G8, es[j], ρ5, R8.wipeEV vs1, q8, e15, fun σ6 R6 l6 n6 => ⟨wipe_eq hW1 l6 n6, B, ρ5, G8, b1, R6, e17, fun G9 H9 g9 => ?_⟩⟩
        have g79 := g8.trans g9
        cases b1 with
        | false =>
          dsimp only
          rw [if_neg Bool.false_ne_true]
          have e18' : compL g1 C1 F (wipeE ρ3 vs1) (es.drop (j + 1)) = some r1 := e18
          exact ⟨G9, acc', da', r1, g17.trans g79, s67.trans g79.g, g79.n _ _ h7 n7, g79.h _ _ h7, DqAll.up g79.g _ _ t7, e18', eo'⟩
        | true =>
          obtain ⟨z, e19, e20⟩ := Option.bind_eq_some_iff.mp (show ((F ρ5).bind fun y => if noD y = true then (compL g1 C1 F (wipeE ρ3 vs1) (es.drop (j + 1))).map (y :: ·) else none) = some r1 from e18)
          have hz : noD z = true := by
            by_cases hz : noD z = true
            · exact hz
            · rw [if_neg hz] at e20; cases e20
          rw [if_pos hz] at e20
          obtain ⟨r2, e21, rfl⟩ := Option.map_eq_some_iff.mp e20
          dsimp only
          rw [if_pos rfl]
          refine ⟨B, ρ5, G9, z, R6.up g9, e19, fun u G10 H10 g10 q10 => ?_⟩
          have g710 := g79.trans g10
          have n10 := g710.n _ _ h7 n7
          have ga := g17.trans g710
          have hacc : acc'.length < sizeLine := by
            rw [eo'] at hout
            have := dpall_len t7
            rw [← sz_line]
            simp only [List.length_append, List.length_cons] at hout
            omega
          refine ⟨acc', g710.h _ _ h7, hacc, G10, acc' ++ [u], da' ++ [z], r2, ?_, s67.trans g710.g, n10, upd_same, dpall_app (DqAll.up g710.g _ _ t7) (.cons (q10.toDq hz) .nil), e21, by rw [eo']; simp⟩
          refine ⟨ga.g, fun b x eb => ?_, fun b x eb => ?_, ga.n⟩
          · rw [upd_ne (fun t => by rw [t, n10] at eb; cases eb)]; exact ga.s b x eb
          · rw [upd_ne (fun t => by rw [t, hL] at eb; cases eb)]; exact ga.h b x eb
      · have ej : j = es.length := by omega
        subst ej
        rw [List.drop_length] at e14
        cases e14
        exact .inl ⟨wk1.stop G7 H7 s67 g17.s (same_no _), G7, acc', da', rest2, g17, n7, h7, t7, e13, eo'⟩
  · have ei : i = ds.length := by omega
    subst ei
    rw [List.drop_length] at e4
    cases e4
    rw [List.append_nil] at eo
    subst eo
    exact .inl ⟨wk.stop G2 H2 g2.g g2.s g2.h, k L _ G2 H2 (g0.trans g2) hH n2 h2 (.lst t2)⟩
variable {scope : Scope} {own : List (Str × Nat)} {pos : Pos}
theorem n_lc2 (hc : X.calm = true) (hN : X.N.Nodup) (hi : PI X tg iter (tIc (pmOf X) f)) (ok : BlkOk X.N X.env.scope scope own) (hv : ∀ i ∈ vs1, i ∈ own.map (·.2))
    (hg : ∀ (s : Shared) (H : Hp) (C : Addr) (cl : List (Str × Addr)) (fp : List Addr), PG (X.blk s H scope (compEnvC scope cl C X.env) fp) tg (tG (pmOf X) W g)) (ht : ∀ (s : Shared) (H : Hp) (C' : Addr) (cl : List (Str × Addr)) (fp : List Addr), PTs (X.blk s H scope (compEnvC scope cl C' X.env) fp) ifs (tT (pmOf X) C))
    (hi1 : ∀ (s : Shared) (H : Hp) (C : Addr) (cl : List (Str × Addr)) (fp : List Addr), PI (X.blk s H scope (compEnvC scope cl C X.env) fp) tg1 iter1 (tIt (pmOf X) f1))
    (hg1 : ∀ (s : Shared) (H : Hp) (C : Addr) (cl : List (Str × Addr)) (fp : List Addr), PG (X.blk s H scope (compEnvC scope cl C X.env) fp) tg1 (tG (pmOf X) W1 g1)) (ht1 : ∀ (s : Shared) (H : Hp) (C' : Addr) (cl : List (Str × Addr)) (fp : List Addr), PTs (X.blk s H scope (compEnvC scope cl C' X.env) fp) ifs1 (tT (pmOf X) C1))
    (he : ∀ (s : Shared) (H : Hp) (C : Addr) (cl : List (Str × Addr)) (fp : List Addr), PE (X.blk s H scope (compEnvC scope cl C X.env) fp) elt (tF (pmOf X) F)) (hW : ∀ i ∈ W, i ∈ own.map (·.2) := by decide) (hW1 : ∀ i ∈ W1, i ∈ vs1 := by decide)
    (hs : ∀ x, foldedSetIterable iter X.env x = pure x := by intro _; rfl) (hs1 : ∀ env x, foldedSetIterable iter1 env x = pure x := by intro _ _; rfl) :
    PE X (.ListComp elt [⟨tg, iter, ifs, 0⟩, ⟨tg1, iter1, ifs1, 0⟩] scope pos) (tN (pmOf X) (comp2F f g C f1 g1 C1 F (own.map (·.2)) vs1)) := PE.mono (pe_lc2 hc hN hi ok hv hg ht hi1 hg1 ht1 he hs hs1) (lc2_imp hW hW1)
end
end DL

/-! DL11: calls by name, the law itself, stores with an operator. -/
namespace DL
open PySem PySem.Spec PyProof.Rows L2

/-- the def that stands at the top under a name, and its promise -/
def Cal (P : Program) (w : World) (K : PySem.W.Frag) (mg : Str → Option Value) (base : Heap) (k : Nat) (x : Str) (ps : List Str) (F : List D → Option D) (n : Nat) : Prop :=
  ∃ f fd, FnOk P w K mg base CX0 k f fd ps (FnD ⟨P, w, K⟩ F n) ∧ mg x = some (.ref f) ∧ PySem.W.keepIn K (.ref f) = true ∧ Binds K fd ps []
section
variable {X : Cx} {e : Expr} {es : List Expr} {x : Str} {p pos : Pos} {k n : Nat} {ps : List Str} {Ff : List D → Option D} {Fs : En → Option (List D)}
theorem f_cal (h : Cal X.prog X.w X.K X.mg X.base k x ps Ff n) (hl : ∀ ρ ds, Fs ρ = some ds → ds.length = n) (hr : Room k X.A) (hg : Gl X x) (ha : PA X (e :: es) (tFs (pmOf X) Fs)) (hdb : (x == ("__debug__" : Str)) = false := by decide)
    (he : starEach (e :: es) X.env = (false, eval e X.env) :: starEach es X.env := by rfl) (hpl : (backTo pos (starEach es X.env)).any (·.1) = false := by rfl) : PE X (.Call (.Name x p) (e :: es) [] pos) (tF (pmOf X) (callF Ff Fs)) := by
  obtain ⟨f, fd, h1, h2, h3, h4⟩ := h
  exact f_call h1 hl hr hg h2 h3 h4 ha hdb he hpl
theorem f_calO (h : Cal X.prog X.w X.K X.mg X.base k x ps Ff n) (hl : ∀ ρ ds, Fs ρ = some ds → ds.length = n) (hr : Room k X.A) (hg : Gl X x) (ha : PA X (e :: es) (tBs (pmOf X) Fs)) (hdb : (x == ("__debug__" : Str)) = false := by decide)
    (he : starEach (e :: es) X.env = (false, eval e X.env) :: starEach es X.env := by rfl) (hpl : (backTo pos (starEach es X.env)).any (·.1) = false := by rfl) : PE X (.Call (.Name x p) (e :: es) [] pos) (tF (pmOf X) (callBF Ff Fs)) := by
  obtain ⟨f, fd, h1, h2, h3, h4⟩ := h
  exact f_callO h1 hl hr hg h2 h3 h4 ha hdb he hpl
end
section
variable {P : Program} {w : World} {K : PySem.W.Frag} {mg : Str → Option Value} {base : Heap}
/-- a def that promises nothing -/
theorem fn_void {x qual : Str} {st : Stmt} {f : Addr} {fd : FuncData} {N ps : List Str} {k n : Nat} (F : Fun K x qual st f fd) (S : FnScope N ps (defScope st)) (hn : 0 < k) : FnOk P w K mg base CX0 k f fd ps (FnD ⟨P, w, K⟩ (fun _ => none) n) := by
  obtain ⟨j, rfl⟩ : ∃ j, k = j + 1 := ⟨k - 1, by omega⟩
  refine F.ok S (fun vs H Q E h => ?_) (fun cdv A outer s H vs Q E hr h => ?_)
  · obtain ⟨G, ds, d, _, _, _, h4, _⟩ := h
    cases h4
  · obtain ⟨G, ds, d, _, _, _, h4, _⟩ := h
    cases h4
def spLaw (K : PySem.W.Frag) : Sp := fun vs H Q _ => ∃ (a : Addr) (ns : List Int), vs = [.ref a] ∧ SqL K H a (ns.map V.int) ∧ ns.length ≤ 63 ∧ ∀ H', Q (.bl true) H'
theorem fn_law {k : Nat} {f : Addr} {fd : FuncData} {Fl : List D → Option D} (h : FnOk P w K mg base CX0 k f fd ["script"] (FnD ⟨P, w, K⟩ Fl 1)) (hl : ∀ ns : List Int, ns.length ≤ 63 → Fl [scrD ns] = some (.bool true)) : FnOk P w K mg base CX0 k f fd ["script"] (spLaw K) :=
  h.imp fun vs H Q E q => by
    obtain ⟨a, ns, rfl, h1, h2, h3⟩ := q
    exact ⟨H, [scrD ns], .bool true, rfl, Same.refl _, .cons (.scr h1) .nil, hl ns h2, fun u G' H' g d => by rw [d.bl]; exact h3 H'⟩
end
def iaddD : D → D → Option D := fun x y => match x, y with | .int i, .int j => some (.int (i + j)) | _, _ => none
end DL

/-! DE1: evaluating the D side. -/
namespace DL
open PySem PySem.Spec PyProof.Rows L2

section
variable {F F1 F2 : En → Option Out} {Fa Fb Fc : En → Option D} {Fs : En → Option (List D)} {C C1 C2 : En → Option Bool} {ρ ρ' : En} {d x y z : D} {o : D → D → Option D} {i : Nat}
theorem seq_nx (h : F1 ρ = some (.nx ρ')) : seqS F1 F2 ρ = F2 ρ' := by unfold seqS; rw [h]; rfl
theorem seq_rt (h : F1 ρ = some (.rt d)) : seqS F1 F2 ρ = some (.rt d) := by unfold seqS; rw [h]; rfl
theorem if_t (h : C ρ = some true) : ifS C F1 F2 ρ = F1 ρ := by unfold ifS; rw [h]; rfl
theorem if_f (h : C ρ = some false) : ifS C F1 F2 ρ = F2 ρ := by unfold ifS; rw [h]; rfl
theorem set_eq (h : Fa ρ = some d) : setS i Fa ρ = some (.nx (ρ.set i (.dat d))) := by unfold setS; rw [h]; rfl
theorem own_eq (h : Fa ρ = some d) : ownS i Fa ρ = some (.nx (ρ.set i (.own d))) := by unfold ownS; rw [h]; rfl
theorem ret_eq (h : Fa ρ = some d) : retS Fa ρ = some (.rt d) := by unfold retS; rw [h]; rfl
theorem asg_eq {g : D → En → Option En} (h : Fa ρ = some d) (h2 : g d ρ = some ρ') : asgS g Fa ρ = some (.nx ρ') := by unfold asgS; rw [h]; show (g d ρ).map Out.nx = _; rw [h2]; rfl
theorem par_eq {j : Nat} (h : Fs ρ = some [x, y]) : parS i j Fs ρ = some (.nx ((ρ.set i (.dat x)).set j (.dat y))) := by unfold parS; rw [h]; rfl
theorem app_eq {ds : List D} (h : ρ[i]? = some (.own (.list ds))) (h2 : Fa ρ = some d) (h3 : noD d = true) (h4 : ds.length < sz) : apS i Fa ρ = some (.nx (ρ.set i (.own (.list (ds ++ [d]))))) := by
  unfold apS
  rw [h, h2]
  show (if noD d = true ∧ ds.length < sz then _ else _) = _
  rw [if_pos ⟨h3, h4⟩]
theorem ext_eq {ds es : List D} (h : ρ[i]? = some (.own (.list ds))) (h2 : Fa ρ = some (.list es)) (h4 : ds.length + es.length ≤ sz) : exS i Fa ρ = some (.nx (ρ.set i (.own (.list (ds ++ es))))) := by
  unfold exS
  rw [h, h2]
  show (if ds.length + es.length ≤ sz then _ else _) = _
  rw [if_pos h4]
theorem bin_eq (h1 : Fa ρ = some x) (h2 : Fb ρ = some y) (h3 : o x y = some z) : bin o Fa Fb ρ = some z := by unfold bin; rw [h1, h2]; exact h3
theorem una_eq {o : D → Option D} (h1 : Fa ρ = some x) (h3 : o x = some z) : una o Fa ρ = some z := by unfold una; rw [h1]; exact h3
theorem app1_eq {o : List D → Option D} {ds : List D} (h1 : Fs ρ = some ds) (h3 : o ds = some z) : appF o Fs ρ = some z := by unfold appF; rw [h1]; exact h3
theorem cons_eq {ds : List D} (h1 : Fa ρ = some x) (h2 : Fs ρ = some ds) : consF Fa Fs ρ = some (x :: ds) := by unfold consF; rw [h1, h2]; rfl
theorem call_eq {Ff : List D → Option D} {ds : List D} (h1 : Fs ρ = some ds) (h2 : Ff ds = some z) : callF Ff Fs ρ = some z := by unfold callF; rw [h1]; exact h2
theorem callB_eq {Ff : List D → Option D} {ds : List D} (h1 : Fs ρ = some ds) (h2 : Ff ds = some z) (h3 : noL z = true) : callBF Ff Fs ρ = some z := by
  unfold callBF; rw [h1]
  show ((Ff ds).bind fun d => if noL d = true then some d else none) = _
  rw [h2]
  show (if noL z = true then some z else none) = _
  rw [if_pos h3]
theorem bool_eq {b : Bool} (h : Fa ρ = some (.bool b)) : boolT Fa ρ = some b := by unfold boolT; rw [h]; rfl
theorem tru_eq {b : Bool} (h : Fa ρ = some x) (h2 : trD x = some b) : truT Fa ρ = some b := by unfold truT; rw [h]; exact h2
theorem not_eq {b : Bool} (h : C ρ = some b) : notT C ρ = some (!b) := by unfold notT; rw [h]; rfl
theorem and_t (h : C1 ρ = some true) : andT C1 C2 ρ = C2 ρ := by unfold andT; rw [h]; rfl
theorem and_f (h : C1 ρ = some false) : andT C1 C2 ρ = some false := by unfold andT; rw [h]; rfl
theorem or_t (h : C1 ρ = some true) : orT C1 C2 ρ = some true := by unfold orT; rw [h]; rfl
theorem or_f (h : C1 ρ = some false) : orT C1 C2 ρ = C2 ρ := by unfold orT; rw [h]; rfl
theorem andF_t (h : Fa ρ = some (.bool true)) : andF Fa Fb ρ = Fb ρ := by unfold andF; rw [bool_eq h]; rfl
theorem andF_f (h : Fa ρ = some (.bool false)) : andF Fa Fb ρ = some (.bool false) := by unfold andF; rw [bool_eq h]; rfl
theorem orF_t (h : Fa ρ = some (.bool true)) : orF Fa Fb ρ = some (.bool true) := by unfold orF; rw [bool_eq h]; rfl
theorem orF_f (h : Fa ρ = some (.bool false)) : orF Fa Fb ρ = Fb ρ := by unfold orF; rw [bool_eq h]; rfl
theorem ifF_t (h : C ρ = some true) : ifF C Fa Fb ρ = Fa ρ := by unfold ifF; rw [h]; rfl
theorem ifF_f (h : C ρ = some false) : ifF C Fa Fb ρ = Fb ρ := by unfold ifF; rw [h]; rfl
theorem seqI_eq {ds : List D} (h : Fa ρ = some x) (h2 : itemsD x = some ds) : seqI Fa ρ = some ds := by unfold seqI; rw [h]; exact h2
theorem frS_eq (h : ρ[i]? = some (.own d)) : frS i F ρ = F (ρ.set i (.dat d)) := by unfold frS frE; rw [h]
theorem comp_eq {f : En → Option (List D)} {g : D → En → Option En} {vs : List Nat} {ds out : List D} (h : f ρ = some ds) (h2 : compL g C Fa (wipeE ρ vs) ds = some out) : compF f g C Fa vs ρ = some (.list out) := by unfold compF; rw [h]; show (compL g C Fa (wipeE ρ vs) ds).map PyData.list = _; rw [h2]; rfl
theorem comp2_eq {f f1 : En → Option (List D)} {g g1 : D → En → Option En} {vs vs1 : List Nat} {ds out : List D} (h : f ρ = some ds) (h2 : compL2 g C f1 g1 C1 Fa vs1 (wipeE ρ vs) ds = some out) (h3 : out.length ≤ sz) : comp2F f g C f1 g1 C1 Fa vs vs1 ρ = some (.list out) := by
  unfold comp2F; rw [h]
  show ((compL2 g C f1 g1 C1 Fa vs1 (wipeE ρ vs) ds).bind fun xs => if xs.length ≤ sz then some (PyData.list xs) else none) = _
  rw [h2]
  show (if out.length ≤ sz then _ else _) = _
  rw [if_pos h3]
/-- each item by itself -/
theorem compL_fm {α : Type} (en : α → D) (p : α → Bool) (e : α → D) {g : D → En → Option En} : ∀ {as : List α}, (∀ a ∈ as, ∃ ρ1, g (en a) ρ = some ρ1 ∧ C ρ1 = some (p a) ∧ (p a = true → Fa ρ1 = some (e a) ∧ noD (e a) = true)) → compL g C Fa ρ (as.map en) = some ((as.filter p).map e)
  | [], _ => rfl
  | a :: as, h => by
    obtain ⟨ρ1, h1, h2, h3⟩ := h a List.mem_cons_self
    have ih := compL_fm en p e (as := as) fun b hb => h b (List.mem_cons_of_mem _ hb)
    show ((g (en a) ρ).bind fun ρ1 => (C ρ1).bind fun b => if b = true then (Fa ρ1).bind fun y => if noD y = true then (compL g C Fa ρ (as.map en)).map (y :: ·) else none else compL g C Fa ρ (as.map en)) = _
    rw [h1]
    show ((C ρ1).bind fun b => if b = true then (Fa ρ1).bind fun y => if noD y = true then (compL g C Fa ρ (as.map en)).map (y :: ·) else none else compL g C Fa ρ (as.map en)) = _
    rw [h2, ih]
    cases hp : p a with
    | false =>
      rw [List.filter_cons_of_neg (by rw [hp]; exact Bool.false_ne_true)]
      rfl
    | true =>
      obtain ⟨h4, h5⟩ := h3 hp
      rw [List.filter_cons_of_pos hp]
      show ((Fa ρ1).bind fun y => if noD y = true then ((some ((as.filter p).map e)).map (y :: ·)) else none) = _
      rw [h4]
      show (if noD (e a) = true then _ else none) = _
      rw [if_pos h5]
      rfl
theorem compL_map {α : Type} (en : α → D) (e : α → D) {g : D → En → Option En} {as : List α} (h : ∀ a ∈ as, ∃ ρ1, g (en a) ρ = some ρ1 ∧ Fa ρ1 = some (e a) ∧ noD (e a) = true) : compL g yesT Fa ρ (as.map en) = some (as.map e) := by
  have q := compL_fm (C := yesT) (Fa := Fa) en (fun _ => true) e (g := g) (ρ := ρ) (as := as) fun a ha => (h a ha).elim fun ρ1 q => ⟨ρ1, q.1, rfl, fun _ => q.2⟩
  rw [List.filter_eq_self.mpr fun _ _ => rfl] at q
  exact q
/-- two clauses -/
theorem compL2_fm {α β : Type} (en : α → D) (en1 : β → D) (p : α → Bool) (b : α → List β) (q : α → β → Bool) (e : α → β → D) {f1 : En → Option (List D)} {g g1 : D → En → Option En} {vs1 : List Nat} : ∀ {as : List α}, (∀ a ∈ as, ∃ ρ1, g (en a) ρ = some ρ1 ∧ C ρ1 = some (p a) ∧ (p a = true → ownSub ρ1 ρ = true ∧ f1 ρ1 = some ((b a).map en1) ∧
    ∀ x ∈ b a, ∃ ρ2, g1 (en1 x) (wipeE ρ1 vs1) = some ρ2 ∧ C1 ρ2 = some (q a x) ∧ (q a x = true → Fa ρ2 = some (e a x) ∧ noD (e a x) = true))) →
    compL2 g C f1 g1 C1 Fa vs1 ρ (as.map en) = some ((as.filter p).flatMap fun a => ((b a).filter (q a)).map (e a))
  | [], _ => rfl
  | a :: as, h => by
    obtain ⟨ρ1, h1, h2, h3⟩ := h a List.mem_cons_self
    have ih := compL2_fm en en1 p b q e (as := as) fun b hb => h b (List.mem_cons_of_mem _ hb)
    show ((g (en a) ρ).bind fun ρ2 => (C ρ2).bind fun b => if b = true then (f1 ρ2).bind fun es => (compL g1 C1 Fa (wipeE ρ2 vs1) es).bind fun xs => if ownSub ρ2 ρ = true then (compL2 g C f1 g1 C1 Fa vs1 ρ (as.map en)).map (xs ++ ·) else none else compL2 g C f1 g1 C1 Fa vs1 ρ (as.map en)) = _
    rw [h1]
    show ((C ρ1).bind fun b => if b = true then (f1 ρ1).bind fun es => (compL g1 C1 Fa (wipeE ρ1 vs1) es).bind fun xs => if ownSub ρ1 ρ = true then (compL2 g C f1 g1 C1 Fa vs1 ρ (as.map en)).map (xs ++ ·) else none else compL2 g C f1 g1 C1 Fa vs1 ρ (as.map en)) = _
    rw [h2, ih]
    cases hp : p a with
    | false =>
      rw [List.filter_cons_of_neg (by rw [hp]; exact Bool.false_ne_true)]
      rfl
    | true =>
      obtain ⟨h4, h5, h6⟩ := h3 hp
      rw [List.filter_cons_of_pos hp, List.flatMap_cons]
      show ((f1 ρ1).bind fun es => (compL g1 C1 Fa (wipeE ρ1 vs1) es).bind fun xs => if ownSub ρ1 ρ = true then (some _ : Option (List D)).map (xs ++ ·) else none) = _
      rw [h5]
      show ((compL g1 C1 Fa (wipeE ρ1 vs1) ((b a).map en1)).bind fun xs => if ownSub ρ1 ρ = true then (some _ : Option (List D)).map (xs ++ ·) else none) = _
      rw [compL_fm en1 (q a) (e a) h6]
      show (if ownSub ρ1 ρ = true then _ else none) = _
      rw [if_pos h4]
      rfl
/-- a loop by what is true behind i turns -/
theorem forL_inv {g : D → En → Option En} {w : List Nat} : ∀ {ds : List D} (I : Nat → En → Prop) {ρ : En}, I 0 ρ → (∀ i d ρ, ds[i]? = some d → I i ρ → ∃ ρ1 ρ2, g d ρ = some ρ1 ∧ (F ρ1 = some (.nx ρ2) ∨ F ρ1 = some (.ct ρ2)) ∧ I (i + 1) (wipeE ρ2 w)) →
    ∃ ρ', forL g F w ds ρ = some (.nx ρ') ∧ I ds.length ρ'
  | [], I, ρ, h, _ => ⟨ρ, rfl, h⟩
  | d :: ds, I, ρ, h, st => by
    obtain ⟨ρ1, ρ2, h1, h2, h3⟩ := st 0 d ρ rfl h
    obtain ⟨ρ', h4, h5⟩ := forL_inv (ds := ds) (fun i => I (i + 1)) h3 fun i d ρ hd hi => st (i + 1) d ρ (by simpa using hd) hi
    refine ⟨ρ', ?_, h5⟩
    show ((g d ρ).bind fun ρ1 => (F ρ1).bind (forO w (forL g F w ds))) = _
    rw [h1]
    show (F ρ1).bind (forO w (forL g F w ds)) = _
    rcases h2 with h2 | h2
    · rw [h2]; exact h4
    · rw [h2]; exact h4
theorem for_eq {f : En → Option (List D)} {g : D → En → Option En} {w : List Nat} {ds : List D} {r : Option Out} (h : f ρ = some ds) (h2 : forL g F w ds (wipeE ρ w) = r) : forS f g F w ρ = r := by unfold forS; rw [h]; exact h2
theorem atI_nat {α : Type} {xs : List α} {n : Nat} {v : α} (h : xs[n]? = some v) : atI xs (n : Int) = some v := by
  unfold atI ixN
  have hl : n < xs.length := (List.getElem?_eq_some_iff.mp h).1
  rw [if_pos (Int.natCast_nonneg n), if_pos (by omega)]
  exact h
theorem while_nx {w : List Nat} {n : Nat} {ρ2 : En} (h : C ρ = some true) (h2 : F ρ = some (.nx ρ2)) : whileL C F w (n + 1) ρ = whileL C F w n (wipeE ρ2 w) := by
  show ((C ρ).bind fun b => if b = true then (F ρ).bind (forO w (whileL C F w n)) else some (.nx ρ)) = _
  rw [h, h2]
  rfl
theorem while_rt {w : List Nat} {n : Nat} {d : D} (h : C ρ = some true) (h2 : F ρ = some (.rt d)) : whileL C F w (n + 1) ρ = some (.rt d) := by
  show ((C ρ).bind fun b => if b = true then (F ρ).bind (forO w (whileL C F w n)) else some (.nx ρ)) = _
  rw [h, h2]
  rfl
theorem while_f {w : List Nat} {n : Nat} (h : C ρ = some false) : whileL C F w (n + 1) ρ = some (.nx ρ) := by
  show ((C ρ).bind fun b => if b = true then (F ρ).bind (forO w (whileL C F w n)) else some (.nx ρ)) = _
  rw [h]
  rfl
theorem compL_ex {β : Type} (enc : β → D) (hn : ∀ y, noD (enc y) = true) (P : β → Prop) {g : D → En → Option En} : ∀ {ds : List D}, (∀ d ∈ ds, ∃ ρ1 y, g d ρ = some ρ1 ∧ Fa ρ1 = some (enc y) ∧ P y) → ∃ ys : List β, compL g yesT Fa ρ ds = some (ys.map enc) ∧ ys.length = ds.length ∧ ∀ y ∈ ys, P y
  | [], _ => ⟨[], rfl, rfl, fun y h => (by cases h)⟩
  | d :: ds, h => by
    obtain ⟨ρ1, y, h1, h2, h3⟩ := h d List.mem_cons_self
    obtain ⟨ys, e1, e2, e3⟩ := compL_ex enc hn P (ds := ds) fun b hb => h b (List.mem_cons_of_mem _ hb)
    refine ⟨y :: ys, ?_, by rw [List.length_cons, List.length_cons, e2], fun z hz => ?_⟩
    · show ((g d ρ).bind fun ρ1 => (yesT ρ1).bind fun b => if b = true then (Fa ρ1).bind fun y => if noD y = true then (compL g yesT Fa ρ ds).map (y :: ·) else none else compL g yesT Fa ρ ds) = _
      rw [h1]
      show ((Fa ρ1).bind fun y => if noD y = true then (compL g yesT Fa ρ ds).map (y :: ·) else none) = _
      rw [h2]
      show (if noD (enc y) = true then (compL g yesT Fa ρ ds).map (enc y :: ·) else none) = _
      rw [if_pos (hn y), e1]
      rfl
    · rcases List.mem_cons.mp hz with rfl | hz
      · exact h3
      · exact e3 z hz
end
end DL

/-! DLaw: what the laws have in common (the F_ and D_ are gen.py's, of law_k73_shadow). -/
namespace DL
open PySem PySem.Spec PyProof.Rows L2
/-- _law_mixed: 0=script 1=k 2=cell 3=first 4=second 5=third -/
def F_l_mixed : En → Option Out :=
    (seqS (setS 2 (cF (.int 0)))
    (seqS (ifS (boolT (bin gtD (appF lenO (consF (ownF 0) nilF)) (cF (.int 0)))) (setS 2 (bin idxD (ownF 0) (bin modD (ownF 1) (appF lenO (consF (ownF 0) nilF))))) nxS)
    (seqS (setS 3 (bin modD (appF intO (consF (bin addD (bin addD (bin mulD (ownF 2) (cF (.int 48271))) (bin mulD (ownF 1) (cF (.int 69621)))) (cF (.int 8191))) nilF)) (cF (.int 2147483647))))
    (seqS (setS 4 (bin modD (appF intO (consF (bin addD (bin addD (bin mulD (ownF 3) (ownF 3)) (bin fdivD (ownF 3) (cF (.int 7)))) (bin mulD (ownF 1) (cF (.int 16807)))) nilF)) (cF (.int 2147483629))))
    (seqS (setS 5 (bin modD (appF intO (consF (bin addD (bin addD (bin mulD (ownF 4) (ownF 4)) (bin fdivD (ownF 4) (cF (.int 11)))) (cF (.int 40692))) nilF)) (cF (.int 2147483563))))
    (retS (bin modD (bin fdivD (ownF 5) (cF (.int 5))) (cF (.int 1000003)))))))))
def D_l_mixed : List D → Option D := defF 6 F_l_mixed
/-- _law_row: 0=script 1=many 2=big 3=row 4=k -/
def F_l_row : En → Option Out :=
    (seqS (setS 2 (cF (.int 0)))
    (seqS (ifS (andT (boolT (bin gtD (appF lenO (consF (ownF 0) nilF)) (cF (.int 0)))) (boolT (bin geD (bin idxD (ownF 0) (cF (.int 0))) (bin powD (cF (.int 10)) (cF (.int 18)))))) (setS 2 (bin idxD (ownF 0) (cF (.int 0)))) nxS)
    (seqS (ownS 3 (appF lstD nilF))
    (seqS (forS (rngI (consF (ownF 1) nilF)) (nameG 4) (ifS (boolT (bin gtD (ownF 2) (cF (.int 0)))) (seqS (apS 3 (bin modD (appF intO (consF (ownF 2) nilF)) (cF (.int 1000))))
    (setS 2 (bin fdivD (ownF 2) (cF (.int 1000))))) (apS 3 (callF (D_l_mixed) (consF (varF 0) (consF (varF 4) nilF))))) [4])
    (frS 3 (retS (varF 3)))))))
def D_l_row : List D → Option D := defF 5 F_l_row
/-- _law_is_int: 0=value -/
def F_l_is_int : En → Option Out :=
    (retS (andF (una (isiD .int) (ownF 0)) (notF (una (isiD .bool) (ownF 0)))))
def D_l_is_int : List D → Option D := defF 1 F_l_is_int
/-- _law_like: 0=value 1=due 2=k -/
def F_l_like (self : List D → Option D) : En → Option Out :=
    (seqS (ifS (boolT (bin isNonD (ownF 1) (cF .none))) (retS (bin isNonD (ownF 0) (cF .none))) nxS)
    (seqS (ifS (truT (una (isiD .bool) (ownF 1))) (retS (andF (una (isiD .bool) (ownF 0)) (bin eqD (ownF 0) (ownF 1)))) nxS)
    (seqS (ifS (truT (una (isiD .tuple) (ownF 1))) (seqS (ifS (orT (notT (truT (una (isiD .tuple) (ownF 0)))) (boolT (bin neD (appF lenO (consF (ownF 0) nilF)) (appF lenO (consF (ownF 1) nilF))))) (retS (cF (.bool false))) nxS)
    (retS (appF allO (consF (compF (rngI (consF (appF lenO (consF (ownF 1) nilF)) nilF)) (nameG 2) yesT (callF (self) (consF (bin idxD (ownF 0) (ownF 2)) (consF (bin idxD (ownF 1) (ownF 2)) nilF))) [2]) nilF)))) nxS)
    (seqS (ifS (truT (una (isiD .str) (ownF 1))) (retS (andF (una (isiD .str) (ownF 0)) (bin eqD (ownF 0) (ownF 1)))) nxS)
    (retS (andF (callF (D_l_is_int) (consF (varF 0) nilF)) (bin eqD (ownF 0) (ownF 1))))))))
def D_l_like : Nat → List D → Option D
  | 0 => fun _ => none
  | n + 1 => defF 3 (F_l_like (D_l_like n))
/-- _law_sets: 0=n 1=found 2=thing 3=one -/
def F_l_sets : En → Option Out :=
    (seqS (setS 1 (appF lstD (consF (appF tupD nilF) nilF)))
    (seqS (forS (rngI (consF (ownF 0) nilF)) (nameG 2) (setS 1 (bin addD (ownF 1) (compF (seqI (ownF 1)) (nameG 3) yesT (bin addD (ownF 3) (appF tupD (consF (varF 2) nilF))) [3]))) [2])
    (retS (appF (sortO false) (consF (ownF 1) nilF)))))
def D_l_sets : List D → Option D := defF 4 F_l_sets

theorem mul_ok {a b : Int} (h : a.natAbs < 2 ^ 64 ∨ b.natAbs < 2 ^ 64) : mulD (.int a) (.int b) = some (.int (a * b)) := if_pos h
theorem fmod_bd (a : Int) {n : Int} (h : 0 < n) : 0 ≤ a.fmod n ∧ a.fmod n < n := ⟨Int.fmod_nonneg_of_pos a h, Int.fmod_lt_of_pos a h⟩
/-! ### _law_mixed -/
theorem mixed_tail (v k c : Int) (s0 : Sl) : ∃ r : Int, 0 ≤ r ∧ r < 1000003 ∧ (seqS (setS 3 (bin modD (appF intO (consF (bin addD (bin addD (bin mulD (ownF 2) (cF (.int 48271))) (bin mulD (ownF 1) (cF (.int 69621)))) (cF (.int 8191))) nilF)) (cF (.int 2147483647))))
    (seqS (setS 4 (bin modD (appF intO (consF (bin addD (bin addD (bin mulD (ownF 3) (ownF 3)) (bin fdivD (ownF 3) (cF (.int 7)))) (bin mulD (ownF 1) (cF (.int 16807)))) nilF)) (cF (.int 2147483629))))
    (seqS (setS 5 (bin modD (appF intO (consF (bin addD (bin addD (bin mulD (ownF 4) (ownF 4)) (bin fdivD (ownF 4) (cF (.int 11)))) (cF (.int 40692))) nilF)) (cF (.int 2147483563))))
    (retS (bin modD (bin fdivD (ownF 5) (cF (.int 5))) (cF (.int 1000003))))))) [s0, .dat (.int k), .dat (.int c), .un, .un, .un] = some (.rt (.int r)) := by
  obtain ⟨b1, b2⟩ := fmod_bd (c * 48271 + k * 69621 + 8191) (show (0 : Int) < 2147483647 by decide)
  generalize hf : (c * 48271 + k * 69621 + 8191).fmod 2147483647 = f at b1 b2
  obtain ⟨b3, b4⟩ := fmod_bd (f * f + f.fdiv 7 + k * 16807) (show (0 : Int) < 2147483629 by decide)
  generalize hg : (f * f + f.fdiv 7 + k * 16807).fmod 2147483629 = g at b3 b4
  generalize hh : (g * g + g.fdiv 11 + 40692).fmod 2147483563 = h
  obtain ⟨b5, b6⟩ := fmod_bd (h.fdiv 5) (show (0 : Int) < 1000003 by decide)
  refine ⟨(h.fdiv 5).fmod 1000003, b5, b6, ?_⟩
  rw [seq_nx (ρ' := [s0, .dat (.int k), .dat (.int c), .dat (.int f), .un, .un]) (by
    rw [set_eq (d := .int f) (bin_eq (x := .int (c * 48271 + k * 69621 + 8191)) (y := .int 2147483647) (app1_eq (ds := [.int (c * 48271 + k * 69621 + 8191)]) (cons_eq (bin_eq (x := .int (c * 48271 + k * 69621)) (bin_eq (bin_eq rfl rfl (mul_ok (.inr (by decide)))) (bin_eq rfl rfl (mul_ok (.inr (by decide)))) rfl) rfl rfl) rfl) rfl) rfl (by rw [← hf]; rfl))]
    rfl)]
  rw [seq_nx (ρ' := [s0, .dat (.int k), .dat (.int c), .dat (.int f), .dat (.int g), .un]) (by
    rw [set_eq (d := .int g) (bin_eq (x := .int (f * f + f.fdiv 7 + k * 16807)) (y := .int 2147483629) (app1_eq (ds := [.int (f * f + f.fdiv 7 + k * 16807)]) (cons_eq (bin_eq (x := .int (f * f + f.fdiv 7)) (bin_eq (bin_eq rfl rfl (mul_ok (.inl (by omega)))) (bin_eq rfl rfl rfl) rfl) (bin_eq rfl rfl (mul_ok (.inr (by decide)))) rfl) rfl) rfl) rfl (by rw [← hg]; rfl))]
    rfl)]
  rw [seq_nx (ρ' := [s0, .dat (.int k), .dat (.int c), .dat (.int f), .dat (.int g), .dat (.int h)]) (by
    rw [set_eq (d := .int h) (bin_eq (x := .int (g * g + g.fdiv 11 + 40692)) (y := .int 2147483563) (app1_eq (ds := [.int (g * g + g.fdiv 11 + 40692)]) (cons_eq (bin_eq (x := .int (g * g + g.fdiv 11)) (bin_eq (bin_eq rfl rfl (mul_ok (.inl (by omega)))) (bin_eq rfl rfl rfl) rfl) rfl rfl) rfl) rfl) rfl (by rw [← hh]; rfl))]
    rfl)]
  rfl
theorem scr_at (ns : List Int) {n : Nat} {v : Int} (h : ns[n]? = some v) : idxD (scrD ns) (.int (n : Int)) = some (.int v) := by
  show atI (ns.map PyData.int) (n : Int) = _
  refine atI_nat ?_
  rw [List.getElem?_map, h]
  rfl
theorem scr_len (ns : List Int) : lenO [scrD ns] = some (.int ns.length) := by
  show some (PyData.int (ns.map PyData.int).length) = _
  rw [List.length_map]
theorem okd_int (a : Int) : okd (.int a) = true := by simp [okd, PyData.depth]
theorem gt_int (a b : Int) : gtD (.int a) (.int b) = some (.bool (decide (b < a))) := by
  unfold gtD
  rw [if_pos ⟨rfl, rfl, okd_int _, rfl, rfl⟩, PySem.W.dataLt_int]
theorem lt_int (a b : Int) : ltD (.int a) (.int b) = some (.bool (decide (a < b))) := by
  unfold ltD
  rw [if_pos ⟨rfl, rfl, okd_int _, rfl, rfl⟩, PySem.W.dataLt_int]
theorem ge_int (a b : Int) : geD (.int a) (.int b) = some (.bool (decide (b ≤ a))) := by
  unfold geD
  rw [if_pos ⟨rfl, rfl, okd_int _, rfl, rfl⟩, PySem.W.dataLt_int, PySem.W.not_lt_int]
theorem le_int (a b : Int) : leD (.int a) (.int b) = some (.bool (decide (a ≤ b))) := by
  unfold leD
  rw [if_pos ⟨rfl, rfl, okd_int _, rfl, rfl⟩, PySem.W.dataLt_int, PySem.W.not_lt_int]
theorem mixed_ok (ns : List Int) (k : Int) : ∃ r : Int, 0 ≤ r ∧ r < 1000003 ∧ D_l_mixed [scrD ns, .int k] = some (.int r) := by
  have key : ∃ c : Int, seqS (setS 2 (cF (.int 0))) (seqS (ifS (boolT (bin gtD (appF lenO (consF (ownF 0) nilF)) (cF (.int 0)))) (setS 2 (bin idxD (ownF 0) (bin modD (ownF 1) (appF lenO (consF (ownF 0) nilF))))) nxS) nxS) [.dat (scrD ns), .dat (.int k), .un, .un, .un, .un] = some (.nx [.dat (scrD ns), .dat (.int k), .dat (.int c), .un, .un, .un]) := by
    rw [seq_nx (ρ' := [.dat (scrD ns), .dat (.int k), .dat (.int 0), .un, .un, .un]) rfl]
    have hl : appF lenO (consF (ownF 0) nilF) [.dat (scrD ns), .dat (.int k), .dat (.int 0), .un, .un, .un] = some (.int ns.length) := app1_eq (cons_eq rfl rfl) (scr_len ns)
    have hc := bool_eq (bin_eq hl (show cF (.int 0) [Sl.dat (scrD ns), .dat (.int k), .dat (.int 0), .un, .un, .un] = some (PyData.int 0) from rfl) (gt_int _ 0))
    by_cases h : (0 : Int) < ns.length
    · rw [decide_eq_true h] at hc
      obtain ⟨b1, b2⟩ := fmod_bd k h
      obtain ⟨m, hm⟩ := Int.eq_ofNat_of_zero_le b1
      have hm2 : m < ns.length := by omega
      refine ⟨ns[m], ?_⟩
      have hi : bin idxD (ownF 0) (bin modD (ownF 1) (appF lenO (consF (ownF 0) nilF))) [.dat (scrD ns), .dat (.int k), .dat (.int 0), .un, .un, .un] = some (.int ns[m]) := by
        refine bin_eq (x := scrD ns) (y := .int (k.fmod ns.length)) rfl (bin_eq (x := .int k) rfl hl ?_) ?_
        · show (if (ns.length : Int) ≠ 0 then _ else _) = _
          rw [if_pos (by omega)]
        · rw [hm]
          exact scr_at ns (List.getElem?_eq_getElem hm2)
      rw [seq_nx (ρ' := [.dat (scrD ns), .dat (.int k), .dat (.int ns[m]), .un, .un, .un]) (by rw [if_t hc, set_eq hi]; rfl)]
      rfl
    · rw [decide_eq_false h] at hc
      refine ⟨0, ?_⟩
      rw [seq_nx (ρ' := [.dat (scrD ns), .dat (.int k), .dat (.int 0), .un, .un, .un]) (by rw [if_f hc]; rfl)]
      rfl
  obtain ⟨c, hc⟩ := key
  obtain ⟨r, h1, h2, h3⟩ := mixed_tail 0 k c (.dat (scrD ns))
  refine ⟨r, h1, h2, ?_⟩
  have e : F_l_mixed [.dat (scrD ns), .dat (.int k), .un, .un, .un, .un] = some (.rt (.int r)) := by
    unfold F_l_mixed
    have hc2 := hc
    unfold seqS at hc2
    obtain ⟨o1, e1, e2⟩ := Option.bind_eq_some_iff.mp hc2
    cases o1 with
    | nx ρ1 =>
      rw [seq_nx e1]
      obtain ⟨o2, e3, e4⟩ := Option.bind_eq_some_iff.mp (show (ifS (boolT (bin gtD (appF lenO (consF (ownF 0) nilF)) (cF (.int 0)))) (setS 2 (bin idxD (ownF 0) (bin modD (ownF 1) (appF lenO (consF (ownF 0) nilF))))) nxS ρ1).bind (seqO nxS) = _ from e2)
      cases o2 with
      | nx ρ2 =>
        have e5 : some (Out.nx ρ2) = some (.nx [.dat (scrD ns), .dat (.int k), .dat (.int c), .un, .un, .un]) := e4
        cases e5
        rw [seq_nx e3]
        exact h3
      | _ => cases e4
    | _ => cases e2
  show (F_l_mixed [.dat (scrD ns), .dat (.int k), .un, .un, .un, .un]).bind endO = _
  rw [e]
  rfl

/-! ### _law_row -/
theorem rg_len (n : Nat) : (rgL 0 (n : Int)).length = n := by
  unfold rgL
  rw [List.length_map, List.length_range, Int.sub_zero, Int.toNat_natCast]
theorem rg_at {n i : Nat} {d : D} (h : (rgL 0 (n : Int))[i]? = some d) : d = .int i ∧ i < n := by
  have hl : i < n := by
    have := (List.getElem?_eq_some_iff.mp h).1
    rwa [rg_len] at this
  unfold rgL at h
  rw [List.getElem?_map, Int.sub_zero, Int.toNat_natCast, List.getElem?_range hl] at h
  refine ⟨?_, hl⟩
  refine (Option.some.inj h).symm.trans ?_
  show PyData.int (0 + (i : Int)) = _
  rw [Int.zero_add]
theorem rg_map (n : Nat) : rgL 0 (n : Int) = (List.range n).map fun i : Nat => PyData.int (i : Int) := by
  unfold rgL
  rw [Int.sub_zero, Int.toNat_natCast]
  refine List.map_congr_left fun i _ => ?_
  show PyData.int (0 + (i : Int)) = _
  rw [Int.zero_add]
theorem rgOk_of {n : Nat} (hz : n ≤ 16777216) : rgOk 0 (n : Int) = true := by
  have h1 : (n : Int) < 2 ^ 62 := by
    have : (n : Int) ≤ 16777216 := by omega
    exact Int.lt_of_le_of_lt this (by decide)
  have h2 : ((n : Int) - 0).toNat ≤ 2 ^ 24 := by
    rw [Int.sub_zero, Int.toNat_natCast]
    exact Nat.le_trans hz (by decide)
  have h3 : -(2 ^ 62) ≤ (n : Int) := Int.le_trans (by decide) (Int.natCast_nonneg n)
  have h4 : -(2 ^ 62) ≤ (0 : Int) := by decide
  have h5 : (0 : Int) < 2 ^ 62 := by decide
  unfold rgOk
  exact decide_eq_true ⟨h4, h5, h3, h1, h2⟩
theorem rngI_nat {Fa : En → Option D} {ρ : En} {n : Nat} (h : Fa ρ = some (.int (n : Int))) (hz : n ≤ 16777216) : rngI (consF Fa nilF) ρ = some (rgL 0 (n : Int)) := by
  have e : consF Fa nilF ρ = some [.int (n : Int)] := cons_eq h rfl
  have q := rgOk_of hz
  have r : rgF [PyData.int (n : Int)] = some (0, (n : Int)) := rfl
  unfold rngI
  rw [e, Option.bind_some, r, Option.bind_some]
  exact if_pos q
theorem row_ok (ns : List Int) (n : Nat) (hn : n ≤ 64) : ∃ rs : List Int, rs.length = n ∧ (∀ r ∈ rs, 0 ≤ r ∧ r < 1000003) ∧ D_l_row [scrD ns, .int (n : Int)] = some (.list (rs.map PyData.int)) := by
  have key : ∃ c : Int, seqS (ifS (andT (boolT (bin gtD (appF lenO (consF (ownF 0) nilF)) (cF (.int 0)))) (boolT (bin geD (bin idxD (ownF 0) (cF (.int 0))) (bin powD (cF (.int 10)) (cF (.int 18)))))) (setS 2 (bin idxD (ownF 0) (cF (.int 0)))) nxS) nxS [.dat (scrD ns), .dat (.int n), .dat (.int 0), .un, .un] = some (.nx [.dat (scrD ns), .dat (.int n), .dat (.int c), .un, .un]) := by
    have hl : appF lenO (consF (ownF 0) nilF) [.dat (scrD ns), .dat (.int n), .dat (.int 0), .un, .un] = some (.int ns.length) := app1_eq (cons_eq rfl rfl) (scr_len ns)
    have hc := bool_eq (bin_eq hl (show cF (.int 0) [Sl.dat (scrD ns), .dat (.int n), .dat (.int 0), .un, .un] = some (PyData.int 0) from rfl) (gt_int _ 0))
    match ns with
    | [] => exact ⟨0, rfl⟩
    | z :: t =>
      have hi : bin idxD (ownF 0) (cF (.int 0)) [.dat (scrD (z :: t)), .dat (.int n), .dat (.int 0), .un, .un] = some (.int z) := bin_eq (x := scrD (z :: t)) (y := .int ((0 : Nat) : Int)) rfl rfl (scr_at (z :: t) rfl)
      have hp : bin powD (cF (.int 10)) (cF (.int 18)) [.dat (scrD (z :: t)), .dat (.int n), .dat (.int 0), .un, .un] = some (.int (10 ^ 18)) := rfl
      have h2 := bool_eq (bin_eq hi hp (ge_int _ _))
      have h1 : decide ((0 : Int) < ((z :: t).length : Int)) = true := decide_eq_true (by rw [List.length_cons]; omega)
      rw [h1] at hc
      by_cases hz : (10 : Int) ^ 18 ≤ z
      · rw [decide_eq_true hz] at h2
        refine ⟨z, ?_⟩
        rw [seq_nx (ρ' := [.dat (scrD (z :: t)), .dat (.int n), .dat (.int z), .un, .un]) (by rw [if_t (by rw [and_t hc]; exact h2), set_eq hi]; rfl)]
        rfl
      · rw [decide_eq_false hz] at h2
        refine ⟨0, ?_⟩
        rw [seq_nx (ρ' := [.dat (scrD (z :: t)), .dat (.int n), .dat (.int 0), .un, .un]) (by rw [if_f (by rw [and_t hc]; exact h2)]; rfl)]
        rfl
  obtain ⟨c, hc⟩ := key
  let I : Nat → En → Prop := fun i ρ => ∃ (b : Int) (rs : List Int), ρ = [.dat (scrD ns), .dat (.int n), .dat (.int b), .own (.list (rs.map PyData.int)), .un] ∧ rs.length = i ∧ ∀ r ∈ rs, 0 ≤ r ∧ r < 1000003
  have loop := forL_inv (F := ifS (boolT (bin gtD (ownF 2) (cF (.int 0)))) (seqS (apS 3 (bin modD (appF intO (consF (ownF 2) nilF)) (cF (.int 1000)))) (setS 2 (bin fdivD (ownF 2) (cF (.int 1000))))) (apS 3 (callF (D_l_mixed) (consF (varF 0) (consF (varF 4) nilF)))))
    (g := nameG 4) (w := [4]) (ds := rgL 0 (n : Int)) I (ρ := [.dat (scrD ns), .dat (.int n), .dat (.int c), .own (.list []), .un]) ⟨c, [], rfl, rfl, fun r h => (by cases h)⟩ (by
    rintro i d ρ hd ⟨b, rs, rfl, hl, hb⟩
    obtain ⟨rfl, hi⟩ := rg_at hd
    have hsz : (rs.map PyData.int).length < sz := by rw [List.length_map, hl]; unfold sz; omega
    have hg := bool_eq (bin_eq (show ownF 2 [.dat (scrD ns), .dat (.int n), .dat (.int b), .own (.list (rs.map PyData.int)), .dat (.int i)] = some (PyData.int b) from rfl) (show cF (.int 0) [.dat (scrD ns), .dat (.int n), .dat (.int b), .own (.list (rs.map PyData.int)), .dat (.int i)] = some (PyData.int 0) from rfl) (gt_int b 0))
    by_cases h : 0 < b
    · rw [decide_eq_true h] at hg
      obtain ⟨b1, b2⟩ := fmod_bd b (show (0 : Int) < 1000 by decide)
      refine ⟨_, [.dat (scrD ns), .dat (.int n), .dat (.int (b.fdiv 1000)), .own (.list ((rs ++ [b.fmod 1000]).map PyData.int)), .dat (.int i)], rfl, .inl ?_, b.fdiv 1000, rs ++ [b.fmod 1000], rfl, by rw [List.length_append, hl]; rfl, fun r hr => ?_⟩
      · show ifS _ _ _ [.dat (scrD ns), .dat (.int n), .dat (.int b), .own (.list (rs.map PyData.int)), .dat (.int i)] = _
        rw [if_t hg, seq_nx (app_eq (d := .int (b.fmod 1000)) rfl rfl rfl hsz)]
        show some _ = some _
        rw [List.map_append]
        rfl
      · rcases List.mem_append.mp hr with hr | hr
        · exact hb r hr
        · rw [List.mem_singleton.mp hr]; omega
    · rw [decide_eq_false h] at hg
      obtain ⟨r, r1, r2, r3⟩ := mixed_ok ns i
      refine ⟨_, [.dat (scrD ns), .dat (.int n), .dat (.int b), .own (.list ((rs ++ [r]).map PyData.int)), .dat (.int i)], rfl, .inl ?_, b, rs ++ [r], rfl, by rw [List.length_append, hl]; rfl, fun q hr => ?_⟩
      · show ifS _ _ _ [.dat (scrD ns), .dat (.int n), .dat (.int b), .own (.list (rs.map PyData.int)), .dat (.int i)] = _
        rw [if_f hg, app_eq (d := .int r) rfl (call_eq (ds := [scrD ns, .int i]) rfl r3) rfl hsz]
        show some _ = some _
        rw [List.map_append]
        rfl
      · rcases List.mem_append.mp hr with hr | hr
        · exact hb q hr
        · rw [List.mem_singleton.mp hr]; exact ⟨r1, r2⟩)
  obtain ⟨ρ', h1, b, rs, rfl, h3, h4⟩ := loop
  rw [rg_len] at h3
  refine ⟨rs, h3, h4, ?_⟩
  have hr : rngI (consF (ownF 1) nilF) [.dat (scrD ns), .dat (.int n), .dat (.int c), .own (.list []), .un] = some (rgL 0 (n : Int)) := rngI_nat (n := n) rfl (by omega)
  have e : F_l_row [.dat (scrD ns), .dat (.int n), .un, .un, .un] = some (.rt (.list (rs.map PyData.int))) := by
    unfold F_l_row
    rw [seq_nx (ρ' := [.dat (scrD ns), .dat (.int n), .dat (.int 0), .un, .un]) rfl]
    obtain ⟨o1, e1, e2⟩ := Option.bind_eq_some_iff.mp (show (ifS (andT (boolT (bin gtD (appF lenO (consF (ownF 0) nilF)) (cF (.int 0)))) (boolT (bin geD (bin idxD (ownF 0) (cF (.int 0))) (bin powD (cF (.int 10)) (cF (.int 18)))))) (setS 2 (bin idxD (ownF 0) (cF (.int 0)))) nxS [.dat (scrD ns), .dat (.int n), .dat (.int 0), .un, .un]).bind (seqO nxS) = _ from hc)
    cases o1 with
    | nx ρ2 =>
      have e5 : some (Out.nx ρ2) = some (.nx [.dat (scrD ns), .dat (.int n), .dat (.int c), .un, .un]) := e2
      cases e5
      rw [seq_nx e1, seq_nx (ρ' := [.dat (scrD ns), .dat (.int n), .dat (.int c), .own (.list []), .un]) rfl, seq_nx (for_eq hr h1)]
      rfl
    | _ => cases e2
  show (F_l_row [.dat (scrD ns), .dat (.int n), .un, .un, .un]).bind endO = _
  rw [e]
  rfl

/-! ### _law_like -/
/-- what is like itself, n deep -/
def lk : Nat → D → Prop
  | 0, _ => False
  | n + 1, .tuple ds => ds.length ≤ 16777216 ∧ ∀ d ∈ ds, lk n d
  | _ + 1, .int _ => True
  | _ + 1, .bool _ => True
  | _ + 1, .none => True
  | _ + 1, _ => False
theorem eq_int (a b : Int) : eqD (.int a) (.int b) = some (.bool (decide (a = b))) := by
  unfold eqD
  rw [if_pos ⟨rfl, rfl, .inl (okd_int a)⟩]
  rfl
theorem ne_int (a b : Int) : neD (.int a) (.int b) = some (.bool (!decide (a = b))) := by
  unfold neD
  rw [if_pos ⟨rfl, rfl, .inl (okd_int a)⟩]
  rfl
theorem fin_rt {F : En → Option Out} {N : Nat} {ds : List D} {d : D} (h : F (ds.map Sl.dat ++ List.replicate (N - ds.length) .un) = some (.rt d)) : defF N F ds = some d := by
  unfold defF
  rw [h]
  rfl
theorem like_ok : ∀ (n : Nat) (d : D), lk n d → D_l_like n [d, d] = some (.bool true)
  | 0, _, h => h.elim
  | n + 1, .none, _ => rfl
  | n + 1, .bool b, _ => by cases b <;> rfl
  | n + 1, .int a, _ => by
    refine fin_rt (d := .bool true) ?_
    show F_l_like (D_l_like n) [.dat (.int a), .dat (.int a), .un] = _
    unfold F_l_like
    rw [seq_nx (ρ' := [.dat (.int a), .dat (.int a), .un]) rfl, seq_nx (ρ' := [.dat (.int a), .dat (.int a), .un]) rfl, seq_nx (ρ' := [.dat (.int a), .dat (.int a), .un]) rfl, seq_nx (ρ' := [.dat (.int a), .dat (.int a), .un]) rfl]
    refine ret_eq ?_
    rw [andF_t (call_eq (ds := [.int a]) rfl rfl)]
    refine bin_eq (x := .int a) (y := .int a) rfl rfl ?_
    rw [eq_int, decide_eq_true rfl]
  | n + 1, .tuple ds, ⟨hz, h⟩ => by
    refine fin_rt (d := .bool true) ?_
    show F_l_like (D_l_like n) [.dat (.tuple ds), .dat (.tuple ds), .un] = _
    unfold F_l_like
    rw [seq_nx (ρ' := [.dat (.tuple ds), .dat (.tuple ds), .un]) rfl, seq_nx (ρ' := [.dat (.tuple ds), .dat (.tuple ds), .un]) rfl]
    refine seq_rt ?_
    rw [if_t rfl]
    have hl : ∀ x : Sl, appF lenO (consF (ownF 1) nilF) [.dat (.tuple ds), .dat (.tuple ds), x] = some (.int (ds.length : Nat)) := fun x => rfl
    rw [seq_nx (ρ' := [.dat (.tuple ds), .dat (.tuple ds), .un]) (by
      rw [if_f (by
        rw [or_f rfl]
        refine bool_eq (bin_eq (x := .int (ds.length : Nat)) (y := .int (ds.length : Nat)) rfl rfl ?_)
        rw [ne_int, decide_eq_true rfl]
        rfl)]
      rfl)]
    refine ret_eq (app1_eq (ds := [.list (ds.map fun _ => .bool true)]) (cons_eq (comp_eq (rngI_nat (n := ds.length) (hl _) hz) ?_) rfl) ?_)
    · rw [rg_map]
      have e : ds.map (fun _ => PyData.bool true) = (List.range ds.length).map (fun _ => PyData.bool true) := by
        rw [List.map_const', List.map_const', List.length_range]
      rw [e]
      refine compL_map (fun i : Nat => PyData.int (i : Int)) (fun _ => .bool true) fun i hi => ?_
      have hi := List.mem_range.mp hi
      have hx : idxD (.tuple ds) (.int (i : Int)) = some ds[i] := atI_nat (List.getElem?_eq_getElem hi)
      refine ⟨[.dat (.tuple ds), .dat (.tuple ds), .dat (.int (i : Int))], rfl, ?_, rfl⟩
      refine call_eq (ds := [ds[i], ds[i]]) (cons_eq (bin_eq rfl rfl hx) (cons_eq (bin_eq rfl rfl hx) rfl)) ?_
      exact like_ok n _ (h _ (List.getElem_mem hi))
    · show (itemsD (.list (ds.map fun _ => PyData.bool true))).bind (fun xs => if xs.all isBI = true then some (PyData.bool (xs.all PyData.truthy)) else none) = _
      show (if (ds.map fun _ => PyData.bool true).all isBI = true then some (PyData.bool ((ds.map fun _ => PyData.bool true).all PyData.truthy)) else none) = _
      have a1 : (ds.map fun _ => PyData.bool true).all isBI = true := List.all_eq_true.mpr fun x hx => by
        obtain ⟨_, _, rfl⟩ := List.mem_map.mp hx
        rfl
      have a2 : (ds.map fun _ => PyData.bool true).all PyData.truthy = true := List.all_eq_true.mpr fun x hx => by
        obtain ⟨_, _, rfl⟩ := List.mem_map.mp hx
        rfl
      rw [if_pos a1, a2]

/-! ### _law_sets -/
def subsK : Nat → List (List Int)
  | 0 => [[]]
  | n + 1 => subsK n ++ (subsK n).map (· ++ [(n : Int)])
theorem subsK_len : ∀ n, (subsK n).length = 2 ^ n
  | 0 => rfl
  | n + 1 => by
    unfold subsK
    rw [List.length_append, List.length_map, subsK_len n, Nat.pow_succ]
    omega
theorem subsK_each : ∀ (n : Nat) (k : List Int), k ∈ subsK n → k.length ≤ n
  | 0, k, h => by
    rw [List.mem_singleton.mp h]
    exact Nat.le_refl _
  | n + 1, k, h => by
    unfold subsK at h
    rcases List.mem_append.mp h with h | h
    · exact Nat.le_succ_of_le (subsK_each n k h)
    · obtain ⟨j, hj, rfl⟩ := List.mem_map.mp h
      rw [List.length_append]
      exact Nat.succ_le_succ (subsK_each n j hj)
theorem add_tup {a b : List Int} (h : a.length + b.length ≤ 16777216) : addD (tupI a) (tupI b) = some (tupI (a ++ b)) := by
  show (if (a.map PyData.int).length + (b.map PyData.int).length ≤ sz then some (PyData.tuple (a.map PyData.int ++ b.map PyData.int)) else none) = _
  rw [if_pos (by rw [List.length_map, List.length_map]; exact h), ← List.map_append]
  rfl
theorem add_lst {a b : List D} (h : a.length + b.length ≤ 16777216) : addD (.list a) (.list b) = some (.list (a ++ b)) := if_pos h
theorem sort_tupsO {ks : List (List Int)} (h : ks.length ≤ 16777216) : sortO false [.list (ks.map tupI)] = some (.list ((sortK ks).map tupI)) := by
  show (if sortOk (ks.map tupI) = true then some (PyData.list (sortL false (ks.map tupI))) else none) = _
  rw [if_pos (sortOk_of (sortP_tups h)), sortL_tups]
theorem pow_le20 {i : Nat} (h : i < 20) : 2 ^ i + 2 ^ i ≤ 16777216 := by
  have : 2 ^ i ≤ 2 ^ 19 := Nat.pow_le_pow_right (by decide) (by omega)
  omega
theorem sets_ok (n : Nat) (hn : n ≤ 20) : D_l_sets [.int (n : Int)] = some (.list ((sortK (subsK n)).map tupI)) := by
  refine fin_rt ?_
  show F_l_sets [.dat (.int n), .un, .un, .un] = _
  unfold F_l_sets
  rw [seq_nx (ρ' := [.dat (.int n), .dat (.list ((subsK 0).map tupI)), .un, .un]) rfl]
  obtain ⟨ρ', h1, h2⟩ := forL_inv (F := setS 1 (bin addD (ownF 1) (compF (seqI (ownF 1)) (nameG 3) yesT (bin addD (ownF 3) (appF tupD (consF (varF 2) nilF))) [3]))) (g := nameG 2) (w := [2]) (ds := rgL 0 (n : Int))
    (fun i ρ => ρ = [.dat (.int n), .dat (.list ((subsK i).map tupI)), .un, .un]) (ρ := [.dat (.int n), .dat (.list ((subsK 0).map tupI)), .un, .un]) rfl (by
    rintro i d ρ hd rfl
    obtain ⟨rfl, hi⟩ := rg_at hd
    refine ⟨[.dat (.int n), .dat (.list ((subsK i).map tupI)), .dat (.int i), .un], [.dat (.int n), .dat (.list ((subsK (i + 1)).map tupI)), .dat (.int i), .un], rfl, .inl ?_, rfl⟩
    rw [set_eq (d := .list ((subsK (i + 1)).map tupI)) (bin_eq (x := .list ((subsK i).map tupI)) (y := .list ((subsK i).map fun k => tupI (k ++ [(i : Int)]))) rfl (comp_eq rfl ?_) ?_)]
    · rfl
    · refine compL_map tupI (fun k => tupI (k ++ [(i : Int)])) fun k hk => ⟨[.dat (.int n), .dat (.list ((subsK i).map tupI)), .dat (.int i), .dat (tupI k)], rfl, ?_, rfl⟩
      refine bin_eq (x := tupI k) (y := tupI [(i : Int)]) rfl rfl (add_tup ?_)
      have := subsK_each i k hk
      simp only [List.length_cons, List.length_nil]
      omega
    · rw [add_lst]
      · show some (PyData.list _) = some (PyData.list ((subsK i ++ (subsK i).map (· ++ [(i : Int)])).map tupI))
        rw [List.map_append, List.map_map]
        rfl
      · rw [List.length_map, List.length_map, subsK_len]
        exact pow_le20 (by omega))
  rw [rg_len] at h2
  subst h2
  rw [seq_nx (for_eq (rngI_nat (n := n) rfl (by omega)) h1)]
  refine ret_eq (app1_eq (ds := [.list ((subsK n).map tupI)]) (cons_eq rfl rfl) (sort_tupsO ?_))
  rw [subsK_len]
  exact Nat.le_trans (Nat.pow_le_pow_right (by decide) hn) (by decide)

/-! ### cells of the row -/
theorem row_at {rs : List Int} {j : Nat} (h : j < rs.length) : idxD (.list (rs.map PyData.int)) (.int (j : Int)) = some (.int (rs.getD j 0)) := by
  show atI (rs.map PyData.int) (j : Int) = _
  refine atI_nat ?_
  rw [List.getElem?_map, List.getElem?_eq_getElem h]
  simp [List.getD, h]
theorem mod_ok (a : Int) {n : Int} (h : 0 < n) : modD (.int a) (.int n) = some (.int (a.fmod n)) := if_pos (by omega)
/-- int(row[j]) % n -/
theorem cell {ρ : En} {rs : List Int} {Fr Fj Fn : En → Option D} {n : Int} (j : Nat) (hr : Fr ρ = some (.list (rs.map PyData.int))) (hF : Fj ρ = some (.int (j : Int))) (hj : j < rs.length) (hN : Fn ρ = some (.int n)) (hn : 0 < n) :
    ∃ c : Nat, (c : Int) < n ∧ bin modD (appF intO (consF (bin idxD Fr Fj) nilF)) Fn ρ = some (.int (c : Int)) := by
  obtain ⟨b1, b2⟩ := fmod_bd (rs.getD j 0) hn
  obtain ⟨c, hc⟩ := Int.eq_ofNat_of_zero_le b1
  refine ⟨c, by omega, ?_⟩
  refine bin_eq (x := .int (rs.getD j 0)) (app1_eq (ds := [.int (rs.getD j 0)]) (cons_eq (bin_eq hr hF (row_at hj)) rfl) rfl) hN ?_
  rw [mod_ok _ hn, hc]
theorem lk_tupI {n : Nat} {k : List Int} (h : k.length ≤ 16777216) : lk (n + 2) (tupI k) := by
  refine ⟨by rw [List.length_map]; exact h, fun d hd => ?_⟩
  obtain ⟨i, _, rfl⟩ := List.mem_map.mp hd
  trivial
theorem lk_tups {n : Nat} {ks : List (List Int)} (h : ks.length ≤ 16777216) (h2 : ∀ k ∈ ks, k.length ≤ 16777216) : lk (n + 3) (.tuple (ks.map tupI)) := by
  refine ⟨by rw [List.length_map]; exact h, fun d hd => ?_⟩
  obtain ⟨k, hk, rfl⟩ := List.mem_map.mp hd
  exact lk_tupI (h2 k hk)
theorem len_lst {ds : List D} : lenO [.list ds] = some (.int (ds.length : Nat)) := rfl
end DL

namespace W73
open PySem PySem.Spec PyProof.Rows L2 DL
def topS (i : Nat) : Stmt := PySem.Challenge.pw_choicesalike_k73_shadow.main.body.getD i (.Pass ⟨0, 0, 0, 0⟩)
structure Tx (K : PySem.W.Frag) (mg : Str → Option Value) : Prop where
  z_len : mg "len" = none
  z_int : mg "int" = none
  z_range : mg "range" = none
  z_tuple : mg "tuple" = none
  z_sorted : mg "sorted" = none
  z_set : mg "set" = none
  z_isinstance : mg "isinstance" = none
  z_bool : mg "bool" = none
  z_all : mg "all" = none
  z_str : mg "str" = none
  z_min : mg "min" = none
/-- _law_shadow: 0=sets 1=found 2=one 3=x 4=y -/
def F_l_shadow : En → Option Out :=
    (seqS (ownS 1 (appF lstD nilF))
    (seqS (forS (seqI (varF 0)) (nameG 2) (exS 1 (compF (seqI (ownF 2)) (nameG 4) yesT (appF tupleO (consF (compF (seqI (ownF 2)) (nameG 3) (boolT (bin neD (ownF 3) (ownF 4))) (varF 3) [3]) nilF)) [4])) [2])
    (retS (una setSortD (ownF 1)))))
def D_l_shadow : List D → Option D := defF 5 F_l_shadow
/-- ways_to_choose: 0=n 1=k 2=ways 3=part -/
def F_ways_to_choose : En → Option Out :=
    (seqS (setS 2 (cF (.int 1)))
    (seqS (forS (rngI (consF (ownF 1) nilF)) (nameG 3) (setS 2 (bin fdivD (bin mulD (ownF 2) (bin subD (ownF 0) (ownF 3))) (bin addD (ownF 3) (cF (.int 1))))) [3])
    (retS (ifF (boolT (chF leD leD (cF (.int 0)) (ownF 1) (ownF 0))) (varF 2) (cF (.int 0))))))
def D_ways_to_choose : List D → Option D := defF 4 F_ways_to_choose
/-- least_shadow: 0=m 1=k 2=total 3=a -/
def F_least_shadow : En → Option Out :=
    (seqS (setS 2 (cF (.int 0)))
    (seqS (whileS 64 (boolT (bin gtD (ownF 0) (cF (.int 0)))) (seqS (setS 3 (varF 1))
    (seqS (whileS 64 (boolT (bin leD (callF (D_ways_to_choose) (consF (bin addD (ownF 3) (cF (.int 1))) (consF (varF 1) nilF))) (ownF 0))) (augS 3 iaddD (cF (.int 1))) [])
    (seqS (augS 0 subD (callF (D_ways_to_choose) (consF (varF 3) (consF (varF 1) nilF))))
    (seqS (augS 2 iaddD (callF (D_ways_to_choose) (consF (varF 3) (consF (bin subD (ownF 1) (cF (.int 1))) nilF))))
    (augS 1 subD (cF (.int 1))))))) [3])
    (retS (varF 2))))
def D_least_shadow : List D → Option D := defF 4 F_least_shadow
/-- minus: 0=things 1=thing 2=other -/
def F_minus : En → Option Out :=
    (retS (appF tupleO (consF (compF (seqI (ownF 0)) (nameG 2) (boolT (bin neD (ownF 2) (ownF 1))) (varF 2) [2]) nilF)))
def D_minus : List D → Option D := defF 3 F_minus
/-- shadow: 0=n 1=sets 2=one 3=thing -/
def F_shadow : En → Option Out :=
    (retS (appF tupleO (consF (una setSortD (comp2F (seqI (ownF 1)) (nameG 2) yesT (seqI (varF 2)) (nameG 3) yesT (callF (D_minus) (consF (varF 2) (consF (varF 3) nilF))) [2, 3] [3])) nilF)))
def D_shadow : List D → Option D := defF 4 F_shadow
/-- _law_first: 0=m 1=k 2=top 3=every 4=one 5=pair -/
def F_l_first : En → Option Out :=
    (seqS (setS 2 (varF 1))
    (whileS 16 (boolT (cF (.bool true))) (seqS (setS 3 (compF (seqI (callF (D_l_sets) (consF (varF 2) nilF))) (nameG 4) (boolT (bin eqD (appF lenO (consF (ownF 4) nilF)) (ownF 1))) (varF 4) [4]))
    (seqS (ifS (boolT (bin geD (appF lenO (consF (ownF 3) nilF)) (ownF 0))) (retS (sliceF (compF (seqI (appF (sortO false) (consF (compF (seqI (ownF 3)) (nameG 4) yesT (appF tupD (consF (una revTD (ownF 4)) (consF (varF 4) nilF))) [4]) nilF))) (nameG 5) yesT (bin idxD (ownF 5) (cF (.int 1))) [5]) noPart (partF (ownF 0)))) nxS)
    (setS 2 (bin addD (ownF 2) (cF (.int 1)))))) [3]))
def D_l_first : List D → Option D := defF 6 F_l_first
/-- law: 0=script 1=row 2=k 3=every 4=one 5=sets 6=j 7=due 8=m -/
def F_law : En → Option Out :=
    (seqS (setS 1 (callF (D_l_row) (consF (varF 0) (consF (cF (.int 24)) nilF))))
    (seqS (setS 2 (bin addD (cF (.int 1)) (bin modD (appF intO (consF (bin idxD (ownF 1) (cF (.int 0))) nilF)) (cF (.int 4)))))
    (seqS (setS 3 (compF (seqI (callF (D_l_sets) (consF (cF (.int 6)) nilF))) (nameG 4) (boolT (bin eqD (appF lenO (consF (ownF 4) nilF)) (ownF 2))) (varF 4) [4]))
    (seqS (setS 5 (appF tupleO (consF (una setSortD (compF (rngI (consF (bin modD (appF intO (consF (bin idxD (ownF 1) (cF (.int 1))) nilF)) (cF (.int 13))) nilF)) (nameG 6) yesT (bin idxD (ownF 3) (bin modD (appF intO (consF (bin idxD (ownF 1) (bin addD (cF (.int 2)) (ownF 6))) nilF)) (appF lenO (consF (ownF 3) nilF)))) [6])) nilF)))
    (seqS (setS 7 (callF (D_l_shadow) (consF (varF 5) nilF)))
    (seqS (ifS (notT (truT (callF (D_l_like 6) (consF (callF (D_shadow) (consF (cF (.int 6)) (consF (varF 5) nilF))) (consF (appF tupleO (consF (ownF 7) nilF)) nilF))))) (retS (cF (.bool false))) nxS)
    (seqS (ifS (notT (boolT (bin geD (appF lenO (consF (ownF 7) nilF)) (callF (D_least_shadow) (consF (appF lenO (consF (ownF 5) nilF)) (consF (varF 2) nilF)))))) (retS (cF (.bool false))) nxS)
    (seqS (asgS (tupG (consG (nameG 8) (consG (nameG 2) nilG))) (appF tupD (consF (bin modD (appF intO (consF (bin idxD (ownF 1) (cF (.int 20))) nilF)) (cF (.int 61))) (consF (bin addD (cF (.int 1)) (bin modD (appF intO (consF (bin idxD (ownF 1) (cF (.int 21))) nilF)) (cF (.int 5)))) nilF))))
    (seqS (ifS (boolT (bin eqD (ownF 2) (cF (.int 1)))) (retS (callF (D_l_like 6) (consF (callF (D_least_shadow) (consF (varF 8) (consF (varF 2) nilF))) (consF (appF intO (consF (bin gtD (ownF 8) (cF (.int 0))) nilF)) nilF)))) nxS)
    (seqS (setS 8 (appF min2O (consF (ownF 8) (consF (bin idxD (appF tupD (consF (cF (.int 0)) (consF (cF (.int 1)) (consF (cF (.int 36)) (consF (cF (.int 35)) (consF (cF (.int 35)) (consF (cF (.int 21)) nilF))))))) (ownF 2)) nilF))))
    (retS (callF (D_l_like 6) (consF (callF (D_least_shadow) (consF (varF 8) (consF (varF 2) nilF))) (consF (appF lenO (consF (callF (D_l_shadow) (consF (callF (D_l_first) (consF (varF 8) (consF (varF 2) nilF))) nilF)) nilF)) nilF))))))))))))))
def D_law : List D → Option D := defF 9 F_law
section
variable {P : Program} {w : World} {K : PySem.W.Frag} {mg : Str → Option Value} {base : Heap}
theorem sc_l_mixed : FnScope ["script", "k", "cell", "first", "second", "third"] ["script", "k"] (defScope (topS 7)) := ⟨rfl, rfl, rfl, by decide +kernel, rfl, by decide +kernel, by decide +kernel⟩
theorem ok_l_mixed {f : Addr} {fd : FuncData} (F : Fun K "_law_mixed" "_law_mixed" (topS 7) f fd) (T : Tx K mg)  : FnOk P w K mg base CX0 1 f fd ["script", "k"] (FnD ⟨P, w, K⟩ D_l_mixed 2) :=
  fn_ok F sc_l_mixed rfl fun cdv A outer s H E hr => by
  have hu := hr.units
  exact
    (s_cons (s_set (i := 2) sc_l_mixed.nd rfl (by first | exact Or.inl rfl | exact Or.inr rfl) fint)
    (s_cons (s_if (t_cmp (o := gtD) (op_gtP hu) ok_cmp (PE.fb (f_len (by rfl) T.z_len (ba_cons (bv 0) ba_nil))) (PE.fb fint) rfl) (s_one (s_set (i := 2) sc_l_mixed.nd rfl (by first | exact Or.inl rfl | exact Or.inr rfl) (f_ix (bv 0) (PE.fb (f_mod (bv 1) (PE.fb (f_len (by rfl) T.z_len (ba_cons (bv 0) ba_nil)))))))) s_nil)
    (s_cons (s_set (i := 3) sc_l_mixed.nd rfl (by first | exact Or.inl rfl | exact Or.inr rfl) (f_mod (PE.fb (f_int (by rfl) T.z_int (ba_cons (PE.fb (f_add (PE.fb (f_add (PE.fb (f_mul (bv 2) (PE.fb fint))) (PE.fb (f_mul (bv 1) (PE.fb fint))))) (PE.fb fint))) ba_nil))) (PE.fb fint)))
    (s_cons (s_set (i := 4) sc_l_mixed.nd rfl (by first | exact Or.inl rfl | exact Or.inr rfl) (f_mod (PE.fb (f_int (by rfl) T.z_int (ba_cons (PE.fb (f_add (PE.fb (f_add (PE.fb (f_mul (bv 3) (bv 3))) (PE.fb (f_fdiv (bv 3) (PE.fb fint))))) (PE.fb (f_mul (bv 1) (PE.fb fint))))) ba_nil))) (PE.fb fint)))
    (s_cons (s_set (i := 5) sc_l_mixed.nd rfl (by first | exact Or.inl rfl | exact Or.inr rfl) (f_mod (PE.fb (f_int (by rfl) T.z_int (ba_cons (PE.fb (f_add (PE.fb (f_add (PE.fb (f_mul (bv 4) (bv 4))) (PE.fb (f_fdiv (bv 4) (PE.fb fint))))) (PE.fb fint))) ba_nil))) (PE.fb fint)))
    (s_one (s_ret (f_mod (PE.fb (f_fdiv (bv 5) (PE.fb fint))) (PE.fb fint)))))))))
theorem sc_l_row : FnScope ["script", "many", "big", "row", "k"] ["script", "many"] (defScope (topS 8)) := ⟨rfl, rfl, rfl, by decide +kernel, rfl, by decide +kernel, by decide +kernel⟩
theorem ok_l_row {f : Addr} {fd : FuncData} (F : Fun K "_law_row" "_law_row" (topS 8) f fd) (T : Tx K mg) (G_l_mixed : Cal P w K mg base 1 "_law_mixed" ["script", "k"] (D_l_mixed) 2) : FnOk P w K mg base CX0 2 f fd ["script", "many"] (FnD ⟨P, w, K⟩ D_l_row 2) :=
  fn_ok F sc_l_row rfl fun cdv A outer s H E hr => by
  have hu := hr.units
  exact
    (s_cons (s_set (i := 2) sc_l_row.nd rfl (by first | exact Or.inl rfl | exact Or.inr rfl) fint)
    (s_cons (s_if (PW.pt (w_and (t_cmp (o := gtD) (op_gtP hu) ok_cmp (PE.fb (f_len (by rfl) T.z_len (ba_cons (bv 0) ba_nil))) (PE.fb fint) rfl) (w_and1 (t_cmp (o := geD) (op_geP hu) ok_cmp (PE.fb (f_ix (bv 0) (PE.fb fint))) (PE.fb (f_pow (PE.fb fint) (PE.fb fint))) rfl)))) (s_one (s_set (i := 2) sc_l_row.nd rfl (by first | exact Or.inl rfl | exact Or.inr rfl) (f_ix (bv 0) (PE.fb fint)))) s_nil)
    (s_cons (s_own (i := 3) sc_l_row.nd rfl (by first | exact Or.inl rfl | exact Or.inr rfl) (n_lst fa_nil))
    (s_cons (s_for [4] PassesOwn.never rfl (i_rng1 (by rfl) T.z_range (bv 1)) (g_name (i := 4) sc_l_row.nd rfl (by first | exact Or.inl rfl | exact Or.inr rfl)) (s_one (s_if (t_cmp (o := gtD) (op_gtP hu) ok_cmp (bv 2) (PE.fb fint) rfl) (s_cons (s_app 3 (f_mod (PE.fb (f_int (by rfl) T.z_int (ba_cons (bv 2) ba_nil))) (PE.fb fint)))
    (s_one (s_set (i := 2) sc_l_row.nd rfl (by first | exact Or.inl rfl | exact Or.inr rfl) (f_fdiv (bv 2) (PE.fb fint))))) (s_one (s_app 3 (f_cal G_l_mixed (consF_len (consF_len nilF_len)) (hr.mono (by decide)) (by rfl) (fa_cons (fv 0) (fa_cons (fv 4) fa_nil))))))))
    (s_one (s_fr 3 (s_ret (fv 3))))))))
theorem sc_l_shadow : FnScope ["sets", "found", "one", "x", "y"] ["sets"] (defScope (topS 12)) := ⟨rfl, rfl, rfl, by decide +kernel, rfl, by decide +kernel, by decide +kernel⟩
theorem ok_l_shadow {f : Addr} {fd : FuncData} (F : Fun K "_law_shadow" "_law_shadow" (topS 12) f fd) (T : Tx K mg)  : FnOk P w K mg base CX0 1 f fd ["sets"] (FnD ⟨P, w, K⟩ D_l_shadow 1) :=
  fn_ok F sc_l_shadow rfl fun cdv A outer s H E hr => by
  have hu := hr.units
  exact
    (s_cons (s_own (i := 1) sc_l_shadow.nd rfl (by first | exact Or.inl rfl | exact Or.inr rfl) (n_lst fa_nil))
    (s_cons (s_for [2] PassesOwn.never rfl (i_seq (fv 0)) (g_name (i := 2) sc_l_shadow.nd rfl (by first | exact Or.inl rfl | exact Or.inr rfl)) (s_one (s_ext 1 (PE.nf (n_lc (own := [(("y" : Str), 4)]) rfl sc_l_shadow.nd (i_seqB (bv 2)) (blkOk_by rfl) (fun _ _ _ _ _ => (g_name (i := 4) sc_l_shadow.nd rfl (by first | exact Or.inl rfl | exact Or.inr rfl))) (fun _ _ _ _ _ => ts_nil) (fun _ _ _ _ _ => (f_tuple (by rfl) T.z_tuple (ba_cons (PE.nb (n_lc (own := [(("x" : Str), 3)]) rfl sc_l_shadow.nd (i_seqB (bv 2)) (blkOk_by rfl) (fun _ _ _ _ _ => (g_name (i := 3) sc_l_shadow.nd rfl (by first | exact Or.inl rfl | exact Or.inr rfl))) (fun _ _ _ _ _ => (ts_one (t_cmp (o := neD) (op_neP hu) ok_ne (bv 3) (bv 4) rfl))) (fun _ _ _ _ _ => (fv 3)))) ba_nil))))))))
    (s_one (s_ret (PE.nf (n_sortSet rfl hu (by rfl) T.z_sorted (by rfl) T.z_set (bv 1)))))))
theorem sc_l_is_int : FnScope ["value"] ["value"] (defScope (topS 9)) := ⟨rfl, rfl, rfl, by decide +kernel, rfl, by decide +kernel, by decide +kernel⟩
theorem ok_l_is_int {f : Addr} {fd : FuncData} (F : Fun K "_law_is_int" "_law_is_int" (topS 9) f fd) (T : Tx K mg)  : FnOk P w K mg base CX0 1 f fd ["value"] (FnD ⟨P, w, K⟩ D_l_is_int 1) :=
  fn_ok F sc_l_is_int rfl fun cdv A outer s H E hr => by
  have hu := hr.units
  exact
    (s_one (s_ret (f_and (f_isi .int (by rfl) T.z_isinstance (by rfl) T.z_int (by decide +kernel) (by decide) (by decide) (bv 0)) (f_one (f_not (f_isi .bool (by rfl) T.z_isinstance (by rfl) T.z_bool (by decide +kernel) (by decide) (by decide) (bv 0)))))))
theorem sc_l_like : FnScope ["value", "due", "k"] ["value", "due"] (defScope (topS 10)) := ⟨rfl, rfl, rfl, by decide +kernel, rfl, by decide +kernel, by decide +kernel⟩
theorem ok_l_like {f : Addr} {fd : FuncData} (F : Fun K "_law_like" "_law_like" (topS 10) f fd) (T : Tx K mg) (hm : mg "_law_like" = some (.ref f)) (hk : PySem.W.keepIn K (.ref f) = true) (hb : Binds K fd ["value", "due"] []) (G_l_is_int : Cal P w K mg base 1 "_law_is_int" ["value"] (D_l_is_int) 1) : ∀ n, FnOk P w K mg base CX0 (n + 2) f fd ["value", "due"] (FnD ⟨P, w, K⟩ (D_l_like n) 2)
  | 0 => fn_void F sc_l_like (by omega)
  | n + 1 => by
    have G_self : Cal P w K mg base (n + 2) "_law_like" ["value", "due"] (D_l_like n) 2 := ⟨f, fd, ok_l_like F T hm hk hb G_l_is_int n, hm, hk, hb⟩
    have e : n + 1 + 2 = (n + 2) + 1 := by omega
    rw [e]
    refine fn_ok F sc_l_like rfl fun cdv A outer s H E hr => ?_
    have hu := hr.units
    exact
     (s_cons (s_if (t_cmp (o := isNonD) (op_isN) ok_isN (bv 1) (PE.fb fnon) rfl) (s_one (s_ret (f_cmp (o := isNonD) (op_isN) ok_isN (bv 0) (PE.fb fnon) rfl))) s_nil)
    (s_cons (s_if (t_tru (PE.fb (f_isi .bool (by rfl) T.z_isinstance (by rfl) T.z_bool (by decide +kernel) (by decide) (by decide) (bv 1)))) (s_one (s_ret (f_and (f_isi .bool (by rfl) T.z_isinstance (by rfl) T.z_bool (by decide +kernel) (by decide) (by decide) (bv 0)) (f_one (f_cmp (o := eqD) (op_eqP hu) ok_eq (bv 0) (bv 1) rfl))))) s_nil)
    (s_cons (s_if (t_tru (PE.fb (f_isi .tuple (by rfl) T.z_isinstance (by rfl) T.z_tuple (by decide +kernel) (by decide) (by decide) (bv 1)))) (s_cons (s_if (PW.pt (w_or (t_not (t_tru (PE.fb (f_isi .tuple (by rfl) T.z_isinstance (by rfl) T.z_tuple (by decide +kernel) (by decide) (by decide) (bv 0))))) (w_or1 (t_cmp (o := neD) (op_neP hu) ok_ne (PE.fb (f_len (by rfl) T.z_len (ba_cons (bv 0) ba_nil))) (PE.fb (f_len (by rfl) T.z_len (ba_cons (bv 1) ba_nil))) rfl)))) (s_one (s_ret fbl)) s_nil)
    (s_one (s_ret (f_all rfl (by rfl) T.z_all (ba_cons (PE.nb (n_lc (own := [(("k" : Str), 2)]) rfl sc_l_like.nd (PI.c (i_rng1 (by rfl) T.z_range (PE.fb (f_len (by rfl) T.z_len (ba_cons (bv 1) ba_nil))))) (blkOk_by rfl) (fun _ _ _ _ _ => (g_name (i := 2) sc_l_like.nd rfl (by first | exact Or.inl rfl | exact Or.inr rfl))) (fun _ _ _ _ _ => ts_nil) (fun _ _ _ _ _ => (f_cal G_self (consF_len (consF_len nilF_len)) (hr.mono (by omega)) (by rfl) (fa_cons (f_ix (bv 0) (bv 2)) (fa_cons (f_ix (bv 1) (bv 2)) fa_nil)))))) ba_nil))))) s_nil)
    (s_cons (s_if (t_tru (PE.fb (f_isi .str (by rfl) T.z_isinstance (by rfl) T.z_str (by decide +kernel) (by decide) (by decide) (bv 1)))) (s_one (s_ret (f_and (f_isi .str (by rfl) T.z_isinstance (by rfl) T.z_str (by decide +kernel) (by decide) (by decide) (bv 0)) (f_one (f_cmp (o := eqD) (op_eqP hu) ok_eq (bv 0) (bv 1) rfl))))) s_nil)
    (s_one (s_ret (f_and (f_cal G_l_is_int (consF_len nilF_len) (hr.mono (by omega)) (by rfl) (fa_cons (fv 0) fa_nil)) (f_one (f_cmp (o := eqD) (op_eqP hu) ok_eq (bv 0) (bv 1) rfl)))))))))
theorem sc_ways_to_choose : FnScope ["n", "k", "ways", "part"] ["n", "k"] (defScope (topS 4)) := ⟨rfl, rfl, rfl, by decide +kernel, rfl, by decide +kernel, by decide +kernel⟩
theorem ok_ways_to_choose {f : Addr} {fd : FuncData} (F : Fun K "ways_to_choose" "ways_to_choose" (topS 4) f fd) (T : Tx K mg)  : FnOk P w K mg base CX0 1 f fd ["n", "k"] (FnD ⟨P, w, K⟩ D_ways_to_choose 2) :=
  fn_ok F sc_ways_to_choose rfl fun cdv A outer s H E hr => by
  have hu := hr.units
  exact
    (s_cons (s_set (i := 2) sc_ways_to_choose.nd rfl (by first | exact Or.inl rfl | exact Or.inr rfl) fint)
    (s_cons (s_for [3] PassesOwn.never rfl (i_rng1 (by rfl) T.z_range (bv 1)) (g_name (i := 3) sc_ways_to_choose.nd rfl (by first | exact Or.inl rfl | exact Or.inr rfl)) (s_one (s_set (i := 2) sc_ways_to_choose.nd rfl (by first | exact Or.inl rfl | exact Or.inr rfl) (f_fdiv (PE.fb (f_mul (bv 2) (PE.fb (f_sub (bv 0) (bv 3))))) (PE.fb (f_add (bv 3) (PE.fb fint)))))))
    (s_one (s_ret (f_ifE (t_chain (o := leD) (o' := leD) (op_leP hu) ok_cmp (op_leP hu) ok_cmp (PE.fb fint) (bv 1) (bv 0)) (fv 2) fint)))))
theorem sc_least_shadow : FnScope ["m", "k", "total", "a"] ["m", "k"] (defScope (topS 5)) := ⟨rfl, rfl, rfl, by decide +kernel, rfl, by decide +kernel, by decide +kernel⟩
theorem ok_least_shadow {f : Addr} {fd : FuncData} (F : Fun K "least_shadow" "least_shadow" (topS 5) f fd) (T : Tx K mg) (G_ways_to_choose : Cal P w K mg base 1 "ways_to_choose" ["n", "k"] (D_ways_to_choose) 2) : FnOk P w K mg base CX0 2 f fd ["m", "k"] (FnD ⟨P, w, K⟩ D_least_shadow 2) :=
  fn_ok F sc_least_shadow rfl fun cdv A outer s H E hr => by
  have hu := hr.units
  exact
    (s_cons (s_set (i := 2) sc_least_shadow.nd rfl (by first | exact Or.inl rfl | exact Or.inr rfl) fint)
    (s_cons (s_while 64 [3] PassesOwn.never (t_cmp (o := gtD) (op_gtP hu) ok_cmp (bv 0) (PE.fb fint) rfl) (s_cons (s_set (i := 3) sc_least_shadow.nd rfl (by first | exact Or.inl rfl | exact Or.inr rfl) (fv 1))
    (s_cons (s_while 64 [] PassesOwn.never (t_cmp (o := leD) (op_leP hu) ok_cmp (PE.fb (f_cal G_ways_to_choose (consF_len (consF_len nilF_len)) (hr.mono (by decide)) (by rfl) (fa_cons (f_add (bv 3) (PE.fb fint)) (fa_cons (fv 1) fa_nil)))) (bv 0) rfl) (s_one (s_aug_add (i := 3) sc_least_shadow.nd rfl (by first | exact Or.inl rfl | exact Or.inr rfl) fint)))
    (s_cons (s_aug_sub (i := 0) sc_least_shadow.nd rfl (by first | exact Or.inl rfl | exact Or.inr rfl) (f_cal G_ways_to_choose (consF_len (consF_len nilF_len)) (hr.mono (by decide)) (by rfl) (fa_cons (fv 3) (fa_cons (fv 1) fa_nil))))
    (s_cons (s_aug_add (i := 2) sc_least_shadow.nd rfl (by first | exact Or.inl rfl | exact Or.inr rfl) (f_cal G_ways_to_choose (consF_len (consF_len nilF_len)) (hr.mono (by decide)) (by rfl) (fa_cons (fv 3) (fa_cons (f_sub (bv 1) (PE.fb fint)) fa_nil))))
    (s_one (s_aug_sub (i := 1) sc_least_shadow.nd rfl (by first | exact Or.inl rfl | exact Or.inr rfl) fint)))))))
    (s_one (s_ret (fv 2)))))
theorem sc_l_sets : FnScope ["n", "found", "thing", "one"] ["n"] (defScope (topS 11)) := ⟨rfl, rfl, rfl, by decide +kernel, rfl, by decide +kernel, by decide +kernel⟩
theorem ok_l_sets {f : Addr} {fd : FuncData} (F : Fun K "_law_sets" "_law_sets" (topS 11) f fd) (T : Tx K mg)  : FnOk P w K mg base CX0 1 f fd ["n"] (FnD ⟨P, w, K⟩ D_l_sets 1) :=
  fn_ok F sc_l_sets rfl fun cdv A outer s H E hr => by
  have hu := hr.units
  exact
    (s_cons (s_set (i := 1) sc_l_sets.nd rfl (by first | exact Or.inl rfl | exact Or.inr rfl) (PE.nf (n_lst (fa_cons (f_tup fa_nil) fa_nil))))
    (s_cons (s_for [2] PassesOwn.never rfl (i_rng1 (by rfl) T.z_range (bv 0)) (g_name (i := 2) sc_l_sets.nd rfl (by first | exact Or.inl rfl | exact Or.inr rfl)) (s_one (s_set (i := 1) sc_l_sets.nd rfl (by first | exact Or.inl rfl | exact Or.inr rfl) (f_add (bv 1) (PE.nb (n_lc (own := [(("one" : Str), 3)]) rfl sc_l_sets.nd (i_seqB (bv 1)) (blkOk_by rfl) (fun _ _ _ _ _ => (g_name (i := 3) sc_l_sets.nd rfl (by first | exact Or.inl rfl | exact Or.inr rfl))) (fun _ _ _ _ _ => ts_nil) (fun _ _ _ _ _ => (f_add (bv 3) (PE.fb (f_tup (fa_cons (fv 2) fa_nil)))))))))))
    (s_one (s_ret (PE.nf (n_sorted hu (by rfl) T.z_sorted (ba_cons (bv 1) ba_nil)))))))
theorem sc_minus : FnScope ["things", "thing", "other"] ["things", "thing"] (defScope (topS 1)) := ⟨rfl, rfl, rfl, by decide +kernel, rfl, by decide +kernel, by decide +kernel⟩
theorem ok_minus {f : Addr} {fd : FuncData} (F : Fun K "minus" "minus" (topS 1) f fd) (T : Tx K mg)  : FnOk P w K mg base CX0 1 f fd ["things", "thing"] (FnD ⟨P, w, K⟩ D_minus 2) :=
  fn_ok F sc_minus rfl fun cdv A outer s H E hr => by
  have hu := hr.units
  exact
    (s_one (s_ret (f_tuple (by rfl) T.z_tuple (ba_cons (PE.nb (n_lc (own := [(("other" : Str), 2)]) rfl sc_minus.nd (i_seqB (bv 0)) (blkOk_by rfl) (fun _ _ _ _ _ => (g_name (i := 2) sc_minus.nd rfl (by first | exact Or.inl rfl | exact Or.inr rfl))) (fun _ _ _ _ _ => (ts_one (t_cmp (o := neD) (op_neP hu) ok_ne (bv 2) (bv 1) rfl))) (fun _ _ _ _ _ => (fv 2)))) ba_nil))))
theorem sc_shadow : FnScope ["n", "sets", "one", "thing"] ["n", "sets"] (defScope (topS 3)) := ⟨rfl, rfl, rfl, by decide +kernel, rfl, by decide +kernel, by decide +kernel⟩
theorem ok_shadow {f : Addr} {fd : FuncData} (F : Fun K "shadow" "shadow" (topS 3) f fd) (T : Tx K mg) (G_minus : Cal P w K mg base 1 "minus" ["things", "thing"] (D_minus) 2) : FnOk P w K mg base CX0 2 f fd ["n", "sets"] (FnD ⟨P, w, K⟩ D_shadow 2) :=
  fn_ok F sc_shadow rfl fun cdv A outer s H E hr => by
  have hu := hr.units
  exact
    (s_one (s_ret (f_tuple (by rfl) T.z_tuple (ba_cons (PE.nb (n_sortSet rfl hu (by rfl) T.z_sorted (by rfl) T.z_set (PE.nb (n_lc2 (own := [(("one" : Str), 2), (("thing" : Str), 3)]) (vs1 := [3]) rfl sc_shadow.nd (i_seqB (bv 1)) (blkOk_by rfl) (by decide) (fun _ _ _ _ _ => (g_name (i := 2) sc_shadow.nd rfl (by first | exact Or.inl rfl | exact Or.inr rfl))) (fun _ _ _ _ _ => ts_nil) (fun _ _ _ _ _ => (i_seq (fv 2))) (fun _ _ _ _ _ => (g_name (i := 3) sc_shadow.nd rfl (by first | exact Or.inl rfl | exact Or.inr rfl))) (fun _ _ _ _ _ => ts_nil) (fun _ _ _ _ _ => (f_cal G_minus (consF_len (consF_len nilF_len)) (hr.mono (by decide)) (by rfl) (fa_cons (fv 2) (fa_cons (fv 3) fa_nil)))))))) ba_nil))))
theorem sc_l_first : FnScope ["m", "k", "top", "every", "one", "pair"] ["m", "k"] (defScope (topS 13)) := ⟨rfl, rfl, rfl, by decide +kernel, rfl, by decide +kernel, by decide +kernel⟩
theorem ok_l_first {f : Addr} {fd : FuncData} (F : Fun K "_law_first" "_law_first" (topS 13) f fd) (T : Tx K mg) (G_l_sets : Cal P w K mg base 1 "_law_sets" ["n"] (D_l_sets) 1) : FnOk P w K mg base CX0 2 f fd ["m", "k"] (FnD ⟨P, w, K⟩ D_l_first 2) :=
  fn_ok F sc_l_first rfl fun cdv A outer s H E hr => by
  have hu := hr.units
  exact
    (s_cons (s_set (i := 2) sc_l_first.nd rfl (by first | exact Or.inl rfl | exact Or.inr rfl) (fv 1))
    (s_one (s_while 16 [3] PassesOwn.never (t_val fbl) (s_cons (s_lcSet (i := 3) (own := [(("one" : Str), 4)]) rfl sc_l_first.nd rfl rfl (sw_true rfl rfl rfl (by decide +kernel)) (i_seqB (PE.fb (f_cal G_l_sets (consF_len nilF_len) (hr.mono (by decide)) (by rfl) (fa_cons (fv 2) fa_nil)))) (blkOk_by rfl) (fun _ _ _ _ _ => (g_name (i := 4) sc_l_first.nd rfl (by first | exact Or.inl rfl | exact Or.inr rfl))) (fun _ _ _ _ _ => (ts_one (t_cmp (o := eqD) (op_eqP hu) ok_eq (PE.fb (f_len (by rfl) T.z_len (ba_cons (bv 4) ba_nil))) (bv 1) rfl))) (fun _ _ _ _ _ => (fv 4)))
    (s_cons (s_if (t_cmp (o := geD) (op_geP hu) ok_cmp (PE.fb (f_len (by rfl) T.z_len (ba_cons (bv 3) ba_nil))) (bv 0) rfl) (s_one (s_ret (f_slice (PE.nb (n_lc (own := [(("pair" : Str), 5)]) rfl sc_l_first.nd (i_seqB (PE.nb (n_sorted hu (by rfl) T.z_sorted (ba_cons (PE.nb (n_lc (own := [(("one" : Str), 4)]) rfl sc_l_first.nd (i_seqB (bv 3)) (blkOk_by rfl) (fun _ _ _ _ _ => (g_name (i := 4) sc_l_first.nd rfl (by first | exact Or.inl rfl | exact Or.inr rfl))) (fun _ _ _ _ _ => ts_nil) (fun _ _ _ _ _ => (f_tup (fa_cons (f_revT (bv 4)) (fa_cons (fv 4) fa_nil)))))) ba_nil)))) (blkOk_by rfl) (fun _ _ _ _ _ => (g_name (i := 5) sc_l_first.nd rfl (by first | exact Or.inl rfl | exact Or.inr rfl))) (fun _ _ _ _ _ => ts_nil) (fun _ _ _ _ _ => (f_ix (bv 5) (PE.fb fint))))) o_none (o_some (bv 0))))) s_nil)
    (s_one (s_set (i := 2) sc_l_first.nd rfl (by first | exact Or.inl rfl | exact Or.inr rfl) (f_add (bv 2) (PE.fb fint)))))))))
theorem sc_law : FnScope ["script", "row", "k", "every", "one", "sets", "j", "due", "m"] ["script"] (defScope (topS 14)) := ⟨rfl, rfl, rfl, by decide +kernel, rfl, by decide +kernel, by decide +kernel⟩
theorem ok_law {f : Addr} {fd : FuncData} (F : Fun K "law" "law" (topS 14) f fd) (T : Tx K mg) (G_l_row : Cal P w K mg base 2 "_law_row" ["script", "many"] (D_l_row) 2) (G_l_sets : Cal P w K mg base 1 "_law_sets" ["n"] (D_l_sets) 1) (G_l_shadow : Cal P w K mg base 1 "_law_shadow" ["sets"] (D_l_shadow) 1) (G_l_like : Cal P w K mg base 8 "_law_like" ["value", "due"] (D_l_like 6) 2) (G_shadow : Cal P w K mg base 2 "shadow" ["n", "sets"] (D_shadow) 2) (G_least_shadow : Cal P w K mg base 2 "least_shadow" ["m", "k"] (D_least_shadow) 2) (G_l_first : Cal P w K mg base 2 "_law_first" ["m", "k"] (D_l_first) 2) : FnOk P w K mg base CX0 9 f fd ["script"] (FnD ⟨P, w, K⟩ D_law 1) :=
  fn_ok F sc_law rfl fun cdv A outer s H E hr => by
  have hu := hr.units
  exact
    (s_cons (s_set (i := 1) sc_law.nd rfl (by first | exact Or.inl rfl | exact Or.inr rfl) (f_cal G_l_row (consF_len (consF_len nilF_len)) (hr.mono (by decide)) (by rfl) (fa_cons (fv 0) (fa_cons fint fa_nil))))
    (s_cons (s_set (i := 2) sc_law.nd rfl (by first | exact Or.inl rfl | exact Or.inr rfl) (f_add (PE.fb fint) (PE.fb (f_mod (PE.fb (f_int (by rfl) T.z_int (ba_cons (PE.fb (f_ix (bv 1) (PE.fb fint))) ba_nil))) (PE.fb fint)))))
    (s_cons (s_set (i := 3) sc_law.nd rfl (by first | exact Or.inl rfl | exact Or.inr rfl) (PE.nf (n_lc (own := [(("one" : Str), 4)]) rfl sc_law.nd (i_seqB (PE.fb (f_cal G_l_sets (consF_len nilF_len) (hr.mono (by decide)) (by rfl) (fa_cons fint fa_nil)))) (blkOk_by rfl) (fun _ _ _ _ _ => (g_name (i := 4) sc_law.nd rfl (by first | exact Or.inl rfl | exact Or.inr rfl))) (fun _ _ _ _ _ => (ts_one (t_cmp (o := eqD) (op_eqP hu) ok_eq (PE.fb (f_len (by rfl) T.z_len (ba_cons (bv 4) ba_nil))) (bv 2) rfl))) (fun _ _ _ _ _ => (fv 4)))))
    (s_cons (s_set (i := 5) sc_law.nd rfl (by first | exact Or.inl rfl | exact Or.inr rfl) (f_tuple (by rfl) T.z_tuple (ba_cons (PE.nb (n_sortSet rfl hu (by rfl) T.z_sorted (by rfl) T.z_set (PE.nb (n_lc (own := [(("j" : Str), 6)]) rfl sc_law.nd (PI.c (i_rng1 (by rfl) T.z_range (PE.fb (f_mod (PE.fb (f_int (by rfl) T.z_int (ba_cons (PE.fb (f_ix (bv 1) (PE.fb fint))) ba_nil))) (PE.fb fint))))) (blkOk_by rfl) (fun _ _ _ _ _ => (g_name (i := 6) sc_law.nd rfl (by first | exact Or.inl rfl | exact Or.inr rfl))) (fun _ _ _ _ _ => ts_nil) (fun _ _ _ _ _ => (f_ix (bv 3) (PE.fb (f_mod (PE.fb (f_int (by rfl) T.z_int (ba_cons (PE.fb (f_ix (bv 1) (PE.fb (f_add (PE.fb fint) (bv 6))))) ba_nil))) (PE.fb (f_len (by rfl) T.z_len (ba_cons (bv 3) ba_nil))))))))))) ba_nil)))
    (s_cons (s_set (i := 7) sc_law.nd rfl (by first | exact Or.inl rfl | exact Or.inr rfl) (f_cal G_l_shadow (consF_len nilF_len) (hr.mono (by decide)) (by rfl) (fa_cons (fv 5) fa_nil)))
    (s_cons (s_if (t_not (t_tru (PE.fb (f_cal G_l_like (consF_len (consF_len nilF_len)) (hr.mono (by decide)) (by rfl) (fa_cons (f_cal G_shadow (consF_len (consF_len nilF_len)) (hr.mono (by decide)) (by rfl) (fa_cons fint (fa_cons (fv 5) fa_nil))) (fa_cons (f_tuple (by rfl) T.z_tuple (ba_cons (bv 7) ba_nil)) fa_nil)))))) (s_one (s_ret fbl)) s_nil)
    (s_cons (s_if (t_not (t_cmp (o := geD) (op_geP hu) ok_cmp (PE.fb (f_len (by rfl) T.z_len (ba_cons (bv 7) ba_nil))) (PE.fb (f_cal G_least_shadow (consF_len (consF_len nilF_len)) (hr.mono (by decide)) (by rfl) (fa_cons (f_len (by rfl) T.z_len (ba_cons (bv 5) ba_nil)) (fa_cons (fv 2) fa_nil)))) rfl)) (s_one (s_ret fbl)) s_nil)
    (s_cons (s_asg (f_tup (fa_cons (f_mod (PE.fb (f_int (by rfl) T.z_int (ba_cons (PE.fb (f_ix (bv 1) (PE.fb fint))) ba_nil))) (PE.fb fint)) (fa_cons (f_add (PE.fb fint) (PE.fb (f_mod (PE.fb (f_int (by rfl) T.z_int (ba_cons (PE.fb (f_ix (bv 1) (PE.fb fint))) ba_nil))) (PE.fb fint)))) fa_nil))) (g_tup rfl (gs_cons (g_name (i := 8) sc_law.nd rfl (by first | exact Or.inl rfl | exact Or.inr rfl)) (gs_cons (g_name (i := 2) sc_law.nd rfl (by first | exact Or.inl rfl | exact Or.inr rfl)) gs_nil)) (hg := (consG_len (consG_len nilG_len)))))
    (s_cons (s_if (t_cmp (o := eqD) (op_eqP hu) ok_eq (bv 2) (PE.fb fint) rfl) (s_one (s_ret (f_cal G_l_like (consF_len (consF_len nilF_len)) (hr.mono (by decide)) (by rfl) (fa_cons (f_cal G_least_shadow (consF_len (consF_len nilF_len)) (hr.mono (by decide)) (by rfl) (fa_cons (fv 8) (fa_cons (fv 2) fa_nil))) (fa_cons (f_int (by rfl) T.z_int (ba_cons (PE.fb (f_cmp (o := gtD) (op_gtP hu) ok_cmp (bv 8) (PE.fb fint) rfl)) ba_nil)) fa_nil))))) s_nil)
    (s_cons (s_set (i := 8) sc_law.nd rfl (by first | exact Or.inl rfl | exact Or.inr rfl) (f_min2 rfl (by rfl) T.z_min (ba_cons (bv 8) (ba_cons (PE.fb (f_ix (PE.fb (f_tup (fa_cons fint (fa_cons fint (fa_cons fint (fa_cons fint (fa_cons fint (fa_cons fint fa_nil)))))))) (bv 2))) ba_nil))))
    (s_one (s_ret (f_cal G_l_like (consF_len (consF_len nilF_len)) (hr.mono (by decide)) (by rfl) (fa_cons (f_cal G_least_shadow (consF_len (consF_len nilF_len)) (hr.mono (by decide)) (by rfl) (fa_cons (fv 8) (fa_cons (fv 2) fa_nil))) (fa_cons (f_len (by rfl) T.z_len (ba_cons (PE.fb (f_cal G_l_shadow (consF_len nilF_len) (hr.mono (by decide)) (by rfl) (fa_cons (f_cal G_l_first (consF_len (consF_len nilF_len)) (hr.mono (by decide)) (by rfl) (fa_cons (fv 8) (fa_cons (fv 2) fa_nil))) fa_nil))) ba_nil)) fa_nil)))))))))))))))
theorem all_mk {l : PySem.W.OpenLaw} {w : World} {K : PySem.W.Frag} {h : Heap} {mg : Str → Option Value} {fa f0 f1 f2 f3 f4 f5 f6 f7 f8 f9 f10 f11 : Addr} (X : K.In h) (G : h.Ns mainGlobals mg) (hfa : mg "law" = some (.ref fa)) (hlaw : ∀ ns : List Int, ns.length ≤ 63 → D_law [scrD ns] = some (.bool true))
    {od0 an0 od1 an1 od2 an2 od3 an3 od4 an4 od5 an5 od6 an6 od7 an7 od8 an8 od9 an9 od10 an10 od11 an11 : Option Addr}
    {sl0 sl1 sl2 sl3 sl4 sl5 sl6 sl7 sl8 sl9 sl10 sl11 : Array (Option Value)}
    {oc0 kV0 dc0 pm0 cd0 ct0 oc1 kV1 dc1 pm1 cd1 ct1 oc2 kV2 dc2 pm2 cd2 ct2 oc3 kV3 dc3 pm3 cd3 ct3 oc4 kV4 dc4 pm4 cd4 ct4 oc5 kV5 dc5 pm5 cd5 ct5 oc6 kV6 dc6 pm6 cd6 ct6 oc7 kV7 dc7 pm7 cd7 ct7 oc8 kV8 dc8 pm8 cd8 ct8 oc9 kV9 dc9 pm9 cd9 ct9 oc10 kV10 dc10 pm10 cd10 ct10 oc11 kV11 dc11 pm11 cd11 ct11 : Value}
    (a0 : PySem.W.nsIn K mainGlobals "_law_mixed" = some (some (.ref f0))) (l0 : K.lookup f0 = some ⟨oc0, od0, .func (PySem.W.fnOf "_law_mixed" "_law_mixed" (defArgs (topS 7)) (defBody (topS 7)) (defScope (topS 7)) .none kV0 dc0 pm0 an0 cd0 ct0), sl0⟩) (c0 : PySem.W.codeIn K cd0 "_law_mixed" = true) (k0 : PySem.W.keepIn K (.ref f0) = true)
    (a1 : PySem.W.nsIn K mainGlobals "_law_row" = some (some (.ref f1))) (l1 : K.lookup f1 = some ⟨oc1, od1, .func (PySem.W.fnOf "_law_row" "_law_row" (defArgs (topS 8)) (defBody (topS 8)) (defScope (topS 8)) .none kV1 dc1 pm1 an1 cd1 ct1), sl1⟩) (c1 : PySem.W.codeIn K cd1 "_law_row" = true) (k1 : PySem.W.keepIn K (.ref f1) = true)
    (a2 : PySem.W.nsIn K mainGlobals "_law_shadow" = some (some (.ref f2))) (l2 : K.lookup f2 = some ⟨oc2, od2, .func (PySem.W.fnOf "_law_shadow" "_law_shadow" (defArgs (topS 12)) (defBody (topS 12)) (defScope (topS 12)) .none kV2 dc2 pm2 an2 cd2 ct2), sl2⟩) (c2 : PySem.W.codeIn K cd2 "_law_shadow" = true) (k2 : PySem.W.keepIn K (.ref f2) = true)
    (a3 : PySem.W.nsIn K mainGlobals "_law_is_int" = some (some (.ref f3))) (l3 : K.lookup f3 = some ⟨oc3, od3, .func (PySem.W.fnOf "_law_is_int" "_law_is_int" (defArgs (topS 9)) (defBody (topS 9)) (defScope (topS 9)) .none kV3 dc3 pm3 an3 cd3 ct3), sl3⟩) (c3 : PySem.W.codeIn K cd3 "_law_is_int" = true) (k3 : PySem.W.keepIn K (.ref f3) = true)
    (a4 : PySem.W.nsIn K mainGlobals "_law_like" = some (some (.ref f4))) (l4 : K.lookup f4 = some ⟨oc4, od4, .func (PySem.W.fnOf "_law_like" "_law_like" (defArgs (topS 10)) (defBody (topS 10)) (defScope (topS 10)) .none kV4 dc4 pm4 an4 cd4 ct4), sl4⟩) (c4 : PySem.W.codeIn K cd4 "_law_like" = true) (k4 : PySem.W.keepIn K (.ref f4) = true)
    (a5 : PySem.W.nsIn K mainGlobals "ways_to_choose" = some (some (.ref f5))) (l5 : K.lookup f5 = some ⟨oc5, od5, .func (PySem.W.fnOf "ways_to_choose" "ways_to_choose" (defArgs (topS 4)) (defBody (topS 4)) (defScope (topS 4)) .none kV5 dc5 pm5 an5 cd5 ct5), sl5⟩) (c5 : PySem.W.codeIn K cd5 "ways_to_choose" = true) (k5 : PySem.W.keepIn K (.ref f5) = true)
    (a6 : PySem.W.nsIn K mainGlobals "least_shadow" = some (some (.ref f6))) (l6 : K.lookup f6 = some ⟨oc6, od6, .func (PySem.W.fnOf "least_shadow" "least_shadow" (defArgs (topS 5)) (defBody (topS 5)) (defScope (topS 5)) .none kV6 dc6 pm6 an6 cd6 ct6), sl6⟩) (c6 : PySem.W.codeIn K cd6 "least_shadow" = true) (k6 : PySem.W.keepIn K (.ref f6) = true)
    (a7 : PySem.W.nsIn K mainGlobals "_law_sets" = some (some (.ref f7))) (l7 : K.lookup f7 = some ⟨oc7, od7, .func (PySem.W.fnOf "_law_sets" "_law_sets" (defArgs (topS 11)) (defBody (topS 11)) (defScope (topS 11)) .none kV7 dc7 pm7 an7 cd7 ct7), sl7⟩) (c7 : PySem.W.codeIn K cd7 "_law_sets" = true) (k7 : PySem.W.keepIn K (.ref f7) = true)
    (a8 : PySem.W.nsIn K mainGlobals "minus" = some (some (.ref f8))) (l8 : K.lookup f8 = some ⟨oc8, od8, .func (PySem.W.fnOf "minus" "minus" (defArgs (topS 1)) (defBody (topS 1)) (defScope (topS 1)) .none kV8 dc8 pm8 an8 cd8 ct8), sl8⟩) (c8 : PySem.W.codeIn K cd8 "minus" = true) (k8 : PySem.W.keepIn K (.ref f8) = true)
    (a9 : PySem.W.nsIn K mainGlobals "shadow" = some (some (.ref f9))) (l9 : K.lookup f9 = some ⟨oc9, od9, .func (PySem.W.fnOf "shadow" "shadow" (defArgs (topS 3)) (defBody (topS 3)) (defScope (topS 3)) .none kV9 dc9 pm9 an9 cd9 ct9), sl9⟩) (c9 : PySem.W.codeIn K cd9 "shadow" = true) (k9 : PySem.W.keepIn K (.ref f9) = true)
    (a10 : PySem.W.nsIn K mainGlobals "_law_first" = some (some (.ref f10))) (l10 : K.lookup f10 = some ⟨oc10, od10, .func (PySem.W.fnOf "_law_first" "_law_first" (defArgs (topS 13)) (defBody (topS 13)) (defScope (topS 13)) .none kV10 dc10 pm10 an10 cd10 ct10), sl10⟩) (c10 : PySem.W.codeIn K cd10 "_law_first" = true) (k10 : PySem.W.keepIn K (.ref f10) = true)
    (a11 : PySem.W.nsIn K mainGlobals "law" = some (some (.ref f11))) (l11 : K.lookup f11 = some ⟨oc11, od11, .func (PySem.W.fnOf "law" "law" (defArgs (topS 14)) (defBody (topS 14)) (defScope (topS 14)) .none kV11 dc11 pm11 an11 cd11 ct11), sl11⟩) (c11 : PySem.W.codeIn K cd11 "law" = true) (k11 : PySem.W.keepIn K (.ref f11) = true)
    (z_len : PySem.W.nsIn K mainGlobals "len" = some none)
    (z_int : PySem.W.nsIn K mainGlobals "int" = some none)
    (z_range : PySem.W.nsIn K mainGlobals "range" = some none)
    (z_tuple : PySem.W.nsIn K mainGlobals "tuple" = some none)
    (z_sorted : PySem.W.nsIn K mainGlobals "sorted" = some none)
    (z_set : PySem.W.nsIn K mainGlobals "set" = some none)
    (z_isinstance : PySem.W.nsIn K mainGlobals "isinstance" = some none)
    (z_bool : PySem.W.nsIn K mainGlobals "bool" = some none)
    (z_all : PySem.W.nsIn K mainGlobals "all" = some none)
    (z_str : PySem.W.nsIn K mainGlobals "str" = some none)
    (z_min : PySem.W.nsIn K mainGlobals "min" = some none) :
    ∃ fd : FuncData, (∀ (s : Shared) (v : Value), BindsTo s fd ⟨[v], []⟩ [("script", v)]) ∧ ∀ base : Heap, K.In base → base.Ns mainGlobals mg → FnOk l.prog w K mg base CX0 9 fa fd ["script"] (spLaw K) := by
  have e := hfa.symm.trans (PySem.W.mg_of X G a11)
  cases e
  have T : Tx K mg := ⟨PySem.W.mg_none_of X G z_len, PySem.W.mg_none_of X G z_int, PySem.W.mg_none_of X G z_range, PySem.W.mg_none_of X G z_tuple, PySem.W.mg_none_of X G z_sorted, PySem.W.mg_none_of X G z_set, PySem.W.mg_none_of X G z_isinstance, PySem.W.mg_none_of X G z_bool, PySem.W.mg_none_of X G z_all, PySem.W.mg_none_of X G z_str, PySem.W.mg_none_of X G z_min⟩
  have F0 := fun_mk (st := topS 7) l0 c0 k0
  have F1 := fun_mk (st := topS 8) l1 c1 k1
  have F2 := fun_mk (st := topS 12) l2 c2 k2
  have F3 := fun_mk (st := topS 9) l3 c3 k3
  have F4 := fun_mk (st := topS 10) l4 c4 k4
  have F5 := fun_mk (st := topS 4) l5 c5 k5
  have F6 := fun_mk (st := topS 5) l6 c6 k6
  have F7 := fun_mk (st := topS 11) l7 c7 k7
  have F8 := fun_mk (st := topS 1) l8 c8 k8
  have F9 := fun_mk (st := topS 3) l9 c9 k9
  have F10 := fun_mk (st := topS 13) l10 c10 k10
  have F11 := fun_mk (st := topS 14) l11 c11 k11
  refine ⟨PySem.W.fnOf "law" "law" (defArgs (topS 14)) (defBody (topS 14)) (defScope (topS 14)) .none kV11 dc11 pm11 an11 cd11 ct11, fun s v => .of_eq rfl, fun base _ _ => ?_⟩
  have b0 := F0.binds (ps := ["script", "k"]) fun _ _ _ _ _ _ us hl => match us, hl with | [_, _], _ => rfl
  have G_l_mixed : Cal l.prog w K mg base 1 "_law_mixed" ["script", "k"] D_l_mixed 2 := ⟨_, _, ok_l_mixed F0 T , PySem.W.mg_of X G a0, k0, b0⟩
  have b1 := F1.binds (ps := ["script", "many"]) fun _ _ _ _ _ _ us hl => match us, hl with | [_, _], _ => rfl
  have G_l_row : Cal l.prog w K mg base 2 "_law_row" ["script", "many"] D_l_row 2 := ⟨_, _, ok_l_row F1 T G_l_mixed, PySem.W.mg_of X G a1, k1, b1⟩
  have b2 := F2.binds (ps := ["sets"]) fun _ _ _ _ _ _ us hl => match us, hl with | [_], _ => rfl
  have G_l_shadow : Cal l.prog w K mg base 1 "_law_shadow" ["sets"] D_l_shadow 1 := ⟨_, _, ok_l_shadow F2 T , PySem.W.mg_of X G a2, k2, b2⟩
  have b3 := F3.binds (ps := ["value"]) fun _ _ _ _ _ _ us hl => match us, hl with | [_], _ => rfl
  have G_l_is_int : Cal l.prog w K mg base 1 "_law_is_int" ["value"] D_l_is_int 1 := ⟨_, _, ok_l_is_int F3 T , PySem.W.mg_of X G a3, k3, b3⟩
  have b4 := F4.binds (ps := ["value", "due"]) fun _ _ _ _ _ _ us hl => match us, hl with | [_, _], _ => rfl
  have G_l_like : Cal l.prog w K mg base 8 "_law_like" ["value", "due"] (D_l_like 6) 2 := ⟨_, _, ok_l_like F4 T (PySem.W.mg_of X G a4) k4 b4 G_l_is_int 6, PySem.W.mg_of X G a4, k4, b4⟩
  have b5 := F5.binds (ps := ["n", "k"]) fun _ _ _ _ _ _ us hl => match us, hl with | [_, _], _ => rfl
  have G_ways_to_choose : Cal l.prog w K mg base 1 "ways_to_choose" ["n", "k"] D_ways_to_choose 2 := ⟨_, _, ok_ways_to_choose F5 T , PySem.W.mg_of X G a5, k5, b5⟩
  have b6 := F6.binds (ps := ["m", "k"]) fun _ _ _ _ _ _ us hl => match us, hl with | [_, _], _ => rfl
  have G_least_shadow : Cal l.prog w K mg base 2 "least_shadow" ["m", "k"] D_least_shadow 2 := ⟨_, _, ok_least_shadow F6 T G_ways_to_choose, PySem.W.mg_of X G a6, k6, b6⟩
  have b7 := F7.binds (ps := ["n"]) fun _ _ _ _ _ _ us hl => match us, hl with | [_], _ => rfl
  have G_l_sets : Cal l.prog w K mg base 1 "_law_sets" ["n"] D_l_sets 1 := ⟨_, _, ok_l_sets F7 T , PySem.W.mg_of X G a7, k7, b7⟩
  have b8 := F8.binds (ps := ["things", "thing"]) fun _ _ _ _ _ _ us hl => match us, hl with | [_, _], _ => rfl
  have G_minus : Cal l.prog w K mg base 1 "minus" ["things", "thing"] D_minus 2 := ⟨_, _, ok_minus F8 T , PySem.W.mg_of X G a8, k8, b8⟩
  have b9 := F9.binds (ps := ["n", "sets"]) fun _ _ _ _ _ _ us hl => match us, hl with | [_, _], _ => rfl
  have G_shadow : Cal l.prog w K mg base 2 "shadow" ["n", "sets"] D_shadow 2 := ⟨_, _, ok_shadow F9 T G_minus, PySem.W.mg_of X G a9, k9, b9⟩
  have b10 := F10.binds (ps := ["m", "k"]) fun _ _ _ _ _ _ us hl => match us, hl with | [_, _], _ => rfl
  have G_l_first : Cal l.prog w K mg base 2 "_law_first" ["m", "k"] D_l_first 2 := ⟨_, _, ok_l_first F10 T G_l_sets, PySem.W.mg_of X G a10, k10, b10⟩
  exact fn_law (ok_law F11 T G_l_row G_l_sets G_l_shadow G_l_like G_shadow G_least_shadow G_l_first) hlaw
end
end W73

/-! k73, the plain law, part a: the finite facts. -/
namespace W73
open PySem PySem.Spec PyProof.Rows L2 DL

/-- least_shadow's values, k from 1, m from 0 to 60 -/
def lsT : List (List Nat) := [
  [0, 1, 1, 1, 1, 1, 1, 1, 1, 1, 1, 1, 1, 1, 1, 1, 1, 1, 1, 1, 1, 1, 1, 1, 1, 1, 1, 1, 1, 1, 1, 1, 1, 1, 1, 1, 1, 1, 1, 1, 1, 1, 1, 1, 1, 1, 1, 1, 1, 1, 1, 1, 1, 1, 1, 1, 1, 1, 1, 1, 1],
  [0, 2, 3, 3, 4, 4, 4, 5, 5, 5, 5, 6, 6, 6, 6, 6, 7, 7, 7, 7, 7, 7, 8, 8, 8, 8, 8, 8, 8, 9, 9, 9, 9, 9, 9, 9, 9, 10, 10, 10, 10, 10, 10, 10, 10, 10, 11, 11, 11, 11, 11, 11, 11, 11, 11, 11, 12, 12, 12, 12, 12],
  [0, 3, 5, 6, 6, 8, 9, 9, 10, 10, 10, 12, 13, 13, 14, 14, 14, 15, 15, 15, 15, 17, 18, 18, 19, 19, 19, 20, 20, 20, 20, 21, 21, 21, 21, 21, 23, 24, 24, 25, 25, 25, 26, 26, 26, 26, 27, 27, 27, 27, 27, 28, 28, 28, 28, 28, 28, 30, 31, 31, 32],
  [0, 4, 7, 9, 10, 10, 13, 15, 16, 16, 18, 19, 19, 20, 20, 20, 23, 25, 26, 26, 28, 29, 29, 30, 30, 30, 32, 33, 33, 34, 34, 34, 35, 35, 35, 35, 38, 40, 41, 41, 43, 44, 44, 45, 45, 45, 47, 48, 48, 49, 49, 49, 50, 50, 50, 50, 52, 53, 53, 54, 54],
  [0, 5, 9, 12, 14, 15, 15, 19, 22, 24, 25, 25, 28, 30, 31, 31, 33, 34, 34, 35, 35, 35, 39, 42, 44, 45, 45, 48, 50, 51, 51, 53, 54, 54, 55, 55, 55, 58, 60, 61, 61, 63, 64, 64, 65, 65, 65, 67, 68, 68, 69, 69, 69, 70, 70, 70, 70, 74, 77, 79, 80]]
def ls (k m : Nat) : Nat := (lsT.getD (k - 1) []).getD m 0
def isI (x : Option D) (i : Int) : Bool := match x with
  | some (.int j) => decide (j = i)
  | _ => false
theorem isI_iff {x : Option D} {i : Int} (h : isI x i = true) : x = some (.int i) := by
  match x, h with
  | some (.int j), h => rw [of_decide_eq_true h]
theorem ls_all : ((List.range 5).all fun k => (List.range 61).all fun m => isI (D_least_shadow [.int m, .int ((k : Int) + 1)]) (ls (k + 1) m)) = true := by decide +kernel
theorem ls_ok {k m : Nat} (hk : 1 ≤ k ∧ k ≤ 5) (hm : m ≤ 60) : D_least_shadow [.int m, .int k] = some (.int (ls k m)) := by
  have q := List.all_eq_true.mp (List.all_eq_true.mp ls_all (k - 1) (List.mem_range.mpr (by omega))) m (List.mem_range.mpr (by omega))
  have e : k - 1 + 1 = k := by omega
  have e2 : ((k - 1 : Nat) : Int) + 1 = (k : Int) := by omega
  rw [e, e2] at q
  exact isI_iff q
theorem ls1 : ∀ m, m ≤ 60 → (ls 1 m : Int) = if decide ((0 : Int) < (m : Int)) = true then 1 else 0 := by
  intro m hm
  have q : ((List.range 61).all fun m => decide ((ls 1 m : Int) = if decide ((0 : Int) < (m : Int)) = true then 1 else 0)) = true := by decide +kernel
  exact of_decide_eq_true (List.all_eq_true.mp q m (List.mem_range.mpr (by omega)))

/-! ### the shadow of sets of k of six -/
def del (k : List Int) (x : Int) : List Int := k.filter fun y => !decide (y = x)
def dels (ks : List (List Int)) : List (List Int) := ks.flatMap fun k => k.map (del k)
def E (k : Nat) : List (List Int) := (subsK 6).filter fun s => s.length == k
def tn (b : Bool) : Nat := if b = true then 1 else 0
theorem len_fil {α : Type} (p : α → Bool) (x : α) (l : List α) : ((x :: l).filter p).length = tn (p x) + (l.filter p).length := by
  rw [List.filter_cons]
  cases h : p x with
  | true => rw [if_pos rfl, List.length_cons]; unfold tn; rw [if_pos rfl, Nat.add_comm]
  | false => rw [if_neg Bool.false_ne_true]; unfold tn; rw [if_neg Bool.false_ne_true, Nat.zero_add]
theorem len_map {α β : Type} (f : α → β) (p : β → Bool) (l : List α) : (l.filter fun x => p (f x)).length = ((l.map f).filter p).length := by
  rw [List.filter_map, List.length_map]
  rfl
def al (f : Bool → Bool) : Bool := f false && f true
theorem al_at {f : Bool → Bool} (h : al f = true) (b : Bool) : f b = true := by
  unfold al at h
  rw [Bool.and_eq_true] at h
  cases b with
  | false => exact h.1
  | true => exact h.2
def ups (k : Nat) (y : List Int) : List (List Int) := (E k).filter fun x => (x.map (del x)).contains y
theorem E0 : E 0 = [[]] := by decide +kernel
theorem E1 : E 1 = [[0], [1], [2], [3], [4], [5]] := by decide +kernel
theorem kk1 : (al fun b0 => al fun b1 => al fun b2 => al fun b3 => al fun b4 => al fun b5 => decide (ls 1 (tn b0 + (tn b1 + (tn b2 + (tn b3 + (tn b4 + (tn b5 + 0)))))) ≤ tn (b0 || (b1 || (b2 || (b3 || (b4 || (b5 || (false))))))) + 0)) = true := by decide +kernel
theorem kk2 : (al fun b0 => al fun b1 => al fun b2 => al fun b3 => al fun b4 => al fun b5 => al fun b6 => al fun b7 => al fun b8 => al fun b9 => al fun b10 => al fun b11 => al fun b12 => al fun b13 => al fun b14 => decide (ls 2 (tn b0 + (tn b1 + (tn b2 + (tn b3 + (tn b4 + (tn b5 + (tn b6 + (tn b7 + (tn b8 + (tn b9 + (tn b10 + (tn b11 + (tn b12 + (tn b13 + (tn b14 + 0))))))))))))))) ≤ tn (b0 || (b1 || (b3 || (b6 || (b10 || (false)))))) + (tn (b0 || (b2 || (b4 || (b7 || (b11 || (false)))))) + (tn (b1 || (b2 || (b5 || (b8 || (b12 || (false)))))) + (tn (b3 || (b4 || (b5 || (b9 || (b13 || (false)))))) + (tn (b6 || (b7 || (b8 || (b9 || (b14 || (false)))))) + (tn (b10 || (b11 || (b12 || (b13 || (b14 || (false)))))) + 0))))))) = true := by decide +kernel
theorem kk3 : (al fun b0 => al fun b1 => al fun b2 => al fun b3 => al fun b4 => al fun b5 => al fun b6 => al fun b7 => al fun b8 => al fun b9 => al fun b10 => al fun b11 => al fun b12 => al fun b13 => al fun b14 => decide (ls 3 (min (tn (b2 && (b1 && (b0 && (true)))) + (tn (b4 && (b3 && (b0 && (true)))) + (tn (b5 && (b3 && (b1 && (true)))) + (tn (b5 && (b4 && (b2 && (true)))) + (tn (b7 && (b6 && (b0 && (true)))) + (tn (b8 && (b6 && (b1 && (true)))) + (tn (b8 && (b7 && (b2 && (true)))) + (tn (b9 && (b6 && (b3 && (true)))) + (tn (b9 && (b7 && (b4 && (true)))) + (tn (b9 && (b8 && (b5 && (true)))) + (tn (b11 && (b10 && (b0 && (true)))) + (tn (b12 && (b10 && (b1 && (true)))) + (tn (b12 && (b11 && (b2 && (true)))) + (tn (b13 && (b10 && (b3 && (true)))) + (tn (b13 && (b11 && (b4 && (true)))) + (tn (b13 && (b12 && (b5 && (true)))) + (tn (b14 && (b10 && (b6 && (true)))) + (tn (b14 && (b11 && (b7 && (true)))) + (tn (b14 && (b12 && (b8 && (true)))) + (tn (b14 && (b13 && (b9 && (true)))) + 0)))))))))))))))))))) 12) ≤ tn b0 + (tn b1 + (tn b2 + (tn b3 + (tn b4 + (tn b5 + (tn b6 + (tn b7 + (tn b8 + (tn b9 + (tn b10 + (tn b11 + (tn b12 + (tn b13 + (tn b14 + 0)))))))))))))))) = true := by decide +kernel
theorem kk4 : (al fun b0 => al fun b1 => al fun b2 => al fun b3 => al fun b4 => al fun b5 => al fun b6 => al fun b7 => al fun b8 => al fun b9 => al fun b10 => al fun b11 => al fun b12 => al fun b13 => al fun b14 => decide (ls 4 (tn b0 + (tn b1 + (tn b2 + (tn b3 + (tn b4 + (tn b5 + (tn b6 + (tn b7 + (tn b8 + (tn b9 + (tn b10 + (tn b11 + (tn b12 + (tn b13 + (tn b14 + 0))))))))))))))) ≤ tn (b0 || (b1 || (b5 || (false)))) + (tn (b0 || (b2 || (b6 || (false)))) + (tn (b0 || (b3 || (b7 || (false)))) + (tn (b0 || (b4 || (b8 || (false)))) + (tn (b1 || (b2 || (b9 || (false)))) + (tn (b1 || (b3 || (b10 || (false)))) + (tn (b1 || (b4 || (b11 || (false)))) + (tn (b2 || (b3 || (b12 || (false)))) + (tn (b2 || (b4 || (b13 || (false)))) + (tn (b3 || (b4 || (b14 || (false)))) + (tn (b5 || (b6 || (b9 || (false)))) + (tn (b5 || (b7 || (b10 || (false)))) + (tn (b5 || (b8 || (b11 || (false)))) + (tn (b6 || (b7 || (b12 || (false)))) + (tn (b6 || (b8 || (b13 || (false)))) + (tn (b7 || (b8 || (b14 || (false)))) + (tn (b9 || (b10 || (b12 || (false)))) + (tn (b9 || (b11 || (b13 || (false)))) + (tn (b10 || (b11 || (b14 || (false)))) + (tn (b12 || (b13 || (b14 || (false)))) + 0))))))))))))))))))))) = true := by decide +kernel
theorem E2 : E 2 = [[0, 1], [0, 2], [1, 2], [0, 3], [1, 3], [2, 3], [0, 4], [1, 4], [2, 4], [3, 4], [0, 5], [1, 5], [2, 5], [3, 5], [4, 5]] := by decide +kernel
theorem E3 : E 3 = [[0, 1, 2], [0, 1, 3], [0, 2, 3], [1, 2, 3], [0, 1, 4], [0, 2, 4], [1, 2, 4], [0, 3, 4], [1, 3, 4], [2, 3, 4], [0, 1, 5], [0, 2, 5], [1, 2, 5], [0, 3, 5], [1, 3, 5], [2, 3, 5], [0, 4, 5], [1, 4, 5], [2, 4, 5], [3, 4, 5]] := by decide +kernel
theorem E4 : E 4 = [[0, 1, 2, 3], [0, 1, 2, 4], [0, 1, 3, 4], [0, 2, 3, 4], [1, 2, 3, 4], [0, 1, 2, 5], [0, 1, 3, 5], [0, 2, 3, 5], [1, 2, 3, 5], [0, 1, 4, 5], [0, 2, 4, 5], [1, 2, 4, 5], [0, 3, 4, 5], [1, 3, 4, 5], [2, 3, 4, 5]] := by decide +kernel
theorem U1 : (E 0).map (ups 1) = [[[0], [1], [2], [3], [4], [5]]] := by decide +kernel
theorem U2 : (E 1).map (ups 2) = [[[0, 1], [0, 2], [0, 3], [0, 4], [0, 5]], [[0, 1], [1, 2], [1, 3], [1, 4], [1, 5]], [[0, 2], [1, 2], [2, 3], [2, 4], [2, 5]], [[0, 3], [1, 3], [2, 3], [3, 4], [3, 5]], [[0, 4], [1, 4], [2, 4], [3, 4], [4, 5]], [[0, 5], [1, 5], [2, 5], [3, 5], [4, 5]]] := by decide +kernel
theorem U4 : (E 3).map (ups 4) = [[[0, 1, 2, 3], [0, 1, 2, 4], [0, 1, 2, 5]], [[0, 1, 2, 3], [0, 1, 3, 4], [0, 1, 3, 5]], [[0, 1, 2, 3], [0, 2, 3, 4], [0, 2, 3, 5]], [[0, 1, 2, 3], [1, 2, 3, 4], [1, 2, 3, 5]], [[0, 1, 2, 4], [0, 1, 3, 4], [0, 1, 4, 5]], [[0, 1, 2, 4], [0, 2, 3, 4], [0, 2, 4, 5]], [[0, 1, 2, 4], [1, 2, 3, 4], [1, 2, 4, 5]], [[0, 1, 3, 4], [0, 2, 3, 4], [0, 3, 4, 5]], [[0, 1, 3, 4], [1, 2, 3, 4], [1, 3, 4, 5]], [[0, 2, 3, 4], [1, 2, 3, 4], [2, 3, 4, 5]], [[0, 1, 2, 5], [0, 1, 3, 5], [0, 1, 4, 5]], [[0, 1, 2, 5], [0, 2, 3, 5], [0, 2, 4, 5]], [[0, 1, 2, 5], [1, 2, 3, 5], [1, 2, 4, 5]], [[0, 1, 3, 5], [0, 2, 3, 5], [0, 3, 4, 5]], [[0, 1, 3, 5], [1, 2, 3, 5], [1, 3, 4, 5]], [[0, 2, 3, 5], [1, 2, 3, 5], [2, 3, 4, 5]], [[0, 1, 4, 5], [0, 2, 4, 5], [0, 3, 4, 5]], [[0, 1, 4, 5], [1, 2, 4, 5], [1, 3, 4, 5]], [[0, 2, 4, 5], [1, 2, 4, 5], [2, 3, 4, 5]], [[0, 3, 4, 5], [1, 3, 4, 5], [2, 3, 4, 5]]] := by decide +kernel
theorem D3 : (E 3).map (fun t => t.map (del t)) = [[[1, 2], [0, 2], [0, 1]], [[1, 3], [0, 3], [0, 1]], [[2, 3], [0, 3], [0, 2]], [[2, 3], [1, 3], [1, 2]], [[1, 4], [0, 4], [0, 1]], [[2, 4], [0, 4], [0, 2]], [[2, 4], [1, 4], [1, 2]], [[3, 4], [0, 4], [0, 3]], [[3, 4], [1, 4], [1, 3]], [[3, 4], [2, 4], [2, 3]], [[1, 5], [0, 5], [0, 1]], [[2, 5], [0, 5], [0, 2]], [[2, 5], [1, 5], [1, 2]], [[3, 5], [0, 5], [0, 3]], [[3, 5], [1, 5], [1, 3]], [[3, 5], [2, 5], [2, 3]], [[4, 5], [0, 5], [0, 4]], [[4, 5], [1, 5], [1, 4]], [[4, 5], [2, 5], [2, 4]], [[4, 5], [3, 5], [3, 4]]] := by decide +kernel
theorem dir1 (q : List Int → Bool) : ls 1 ((E 1).filter q).length ≤ ((E 0).filter fun y => (ups 1 y).any q).length := by
  rw [len_map (ups 1) fun u => u.any q, U1, E1]
  simp only [len_fil, List.filter_nil, List.length_nil, List.any_cons, List.any_nil]
  generalize q [0] = b0
  generalize q [1] = b1
  generalize q [2] = b2
  generalize q [3] = b3
  generalize q [4] = b4
  generalize q [5] = b5
  exact of_decide_eq_true (al_at (al_at (al_at (al_at (al_at (al_at (kk1) b0) b1) b2) b3) b4) b5)
theorem dir2 (q : List Int → Bool) : ls 2 ((E 2).filter q).length ≤ ((E 1).filter fun y => (ups 2 y).any q).length := by
  rw [len_map (ups 2) fun u => u.any q, U2, E2]
  simp only [len_fil, List.filter_nil, List.length_nil, List.any_cons, List.any_nil]
  generalize q [0, 1] = b0
  generalize q [0, 2] = b1
  generalize q [1, 2] = b2
  generalize q [0, 3] = b3
  generalize q [1, 3] = b4
  generalize q [2, 3] = b5
  generalize q [0, 4] = b6
  generalize q [1, 4] = b7
  generalize q [2, 4] = b8
  generalize q [3, 4] = b9
  generalize q [0, 5] = b10
  generalize q [1, 5] = b11
  generalize q [2, 5] = b12
  generalize q [3, 5] = b13
  generalize q [4, 5] = b14
  exact of_decide_eq_true (al_at (al_at (al_at (al_at (al_at (al_at (al_at (al_at (al_at (al_at (al_at (al_at (al_at (al_at (al_at (kk2) b0) b1) b2) b3) b4) b5) b6) b7) b8) b9) b10) b11) b12) b13) b14)
theorem dir4 (q : List Int → Bool) : ls 4 ((E 4).filter q).length ≤ ((E 3).filter fun y => (ups 4 y).any q).length := by
  rw [len_map (ups 4) fun u => u.any q, U4, E4]
  simp only [len_fil, List.filter_nil, List.length_nil, List.any_cons, List.any_nil]
  generalize q [0, 1, 2, 3] = b0
  generalize q [0, 1, 2, 4] = b1
  generalize q [0, 1, 3, 4] = b2
  generalize q [0, 2, 3, 4] = b3
  generalize q [1, 2, 3, 4] = b4
  generalize q [0, 1, 2, 5] = b5
  generalize q [0, 1, 3, 5] = b6
  generalize q [0, 2, 3, 5] = b7
  generalize q [1, 2, 3, 5] = b8
  generalize q [0, 1, 4, 5] = b9
  generalize q [0, 2, 4, 5] = b10
  generalize q [1, 2, 4, 5] = b11
  generalize q [0, 3, 4, 5] = b12
  generalize q [1, 3, 4, 5] = b13
  generalize q [2, 3, 4, 5] = b14
  exact of_decide_eq_true (al_at (al_at (al_at (al_at (al_at (al_at (al_at (al_at (al_at (al_at (al_at (al_at (al_at (al_at (al_at (kk4) b0) b1) b2) b3) b4) b5) b6) b7) b8) b9) b10) b11) b12) b13) b14)
theorem dua3 (p : List Int → Bool) : ls 3 (min ((E 3).filter fun t => (t.map (del t)).all p).length 12) ≤ ((E 2).filter p).length := by
  have e : ((E 3).filter fun t => (t.map (del t)).all p).length = (((E 3).map (fun t => t.map (del t))).filter fun u => u.all p).length := len_map (fun t : List Int => t.map (del t)) (fun u => u.all p) (E 3)
  rw [e, D3, E2]
  simp only [len_fil, List.filter_nil, List.length_nil, List.all_cons, List.all_nil]
  generalize p [0, 1] = b0
  generalize p [0, 2] = b1
  generalize p [1, 2] = b2
  generalize p [0, 3] = b3
  generalize p [1, 3] = b4
  generalize p [2, 3] = b5
  generalize p [0, 4] = b6
  generalize p [1, 4] = b7
  generalize p [2, 4] = b8
  generalize p [3, 4] = b9
  generalize p [0, 5] = b10
  generalize p [1, 5] = b11
  generalize p [2, 5] = b12
  generalize p [3, 5] = b13
  generalize p [4, 5] = b14
  exact of_decide_eq_true (al_at (al_at (al_at (al_at (al_at (al_at (al_at (al_at (al_at (al_at (al_at (al_at (al_at (al_at (al_at (kk3) b0) b1) b2) b3) b4) b5) b6) b7) b8) b9) b10) b11) b12) b13) b14)
end W73

/-! k73, the plain law, part b: what the defs compute. -/
namespace W73
open PySem PySem.Spec PyProof.Rows L2 DL
def del' (k : List Int) (x : Int) : List Int := k.filter fun y => !decide (y = x)
def dels' (ks : List (List Int)) : List (List Int) := ks.flatMap fun k => k.map (del' k)
theorem minus_ok (k : List Int) (x : Int) : D_minus [tupI k, .int x] = some (tupI (del' k x)) := by
  refine fin_rt ?_
  show F_minus [.dat (tupI k), .dat (.int x), .un] = _
  unfold F_minus
  refine ret_eq (app1_eq (ds := [.list ((del' k x).map PyData.int)]) (cons_eq (comp_eq rfl ?_) rfl) rfl)
  refine compL_fm PyData.int (fun y => !decide (y = x)) PyData.int fun y hy => ⟨[.dat (tupI k), .dat (.int x), .dat (.int y)], rfl, bool_eq (bin_eq rfl rfl (ne_int y x)), fun _ => ⟨rfl, rfl⟩⟩
theorem setSort_ok {ks : List (List Int)} (h : (uniqK ks).length < 63) : setSortD (.list (ks.map tupI)) = some (.list ((sortK (uniqK ks)).map tupI)) := by
  show (keysT (ks.map tupI)).bind _ = _
  rw [keysT_map]
  exact if_pos h
theorem flat_map (f : List Int → List Int → D) (ks : List (List Int)) : True := trivial
theorem shadow_ok (n : Int) {ks : List (List Int)} (h : (uniqK (dels' ks)).length < 63) (hz : (dels' ks).length ≤ 16777216) : D_shadow [.int n, .tuple (ks.map tupI)] = some (.tuple ((sortK (uniqK (dels' ks))).map tupI)) := by
  refine fin_rt ?_
  show F_shadow [.dat (.int n), .dat (.tuple (ks.map tupI)), .un, .un] = _
  unfold F_shadow
  refine ret_eq (app1_eq (ds := [.list ((sortK (uniqK (dels' ks))).map tupI)]) (cons_eq (una_eq (x := .list ((dels' ks).map tupI)) (comp2_eq (ds := ks.map tupI) rfl ?_ (by rw [List.length_map]; exact hz)) (setSort_ok h)) rfl) rfl)
  have q := compL2_fm (C := yesT) (C1 := yesT) (ρ := [.dat (.int n), .dat (.tuple (ks.map tupI)), .un, .un]) (Fa := callF (D_minus) (consF (varF 2) (consF (varF 3) nilF))) tupI PyData.int (fun _ => true) (fun k => k) (fun _ _ => true) (fun k x => tupI (del' k x)) (f1 := seqI (varF 2)) (g := nameG 2) (g1 := nameG 3) (vs1 := [3]) (as := ks) fun k hk =>
    ⟨[.dat (.int n), .dat (.tuple (ks.map tupI)), .dat (tupI k), .un], rfl, rfl, fun _ => ⟨rfl, rfl, fun x hx => ⟨[.dat (.int n), .dat (.tuple (ks.map tupI)), .dat (tupI k), .dat (.int x)], rfl, rfl, fun _ => ⟨call_eq (ds := [tupI k, .int x]) rfl (minus_ok k x), rfl⟩⟩⟩⟩
  refine q.trans ?_
  congr 1
  unfold dels'
  rw [List.filter_eq_self.mpr fun _ _ => rfl, List.map_flatMap]
  congr 1
  funext k
  rw [List.filter_eq_self.mpr fun _ _ => rfl, List.map_map]
  rfl
theorem lshadow_ok {c : D} {ks : List (List Int)} (hc : itemsD c = some (ks.map tupI)) (h : (uniqK (dels' ks)).length < 63) (hz : (dels' ks).length ≤ 16777216) : D_l_shadow [c] = some (.list ((sortK (uniqK (dels' ks))).map tupI)) := by
  refine fin_rt ?_
  show F_l_shadow [.dat c, .un, .un, .un, .un] = _
  unfold F_l_shadow
  rw [seq_nx (ρ' := [.dat c, .own (.list []), .un, .un, .un]) rfl]
  have cut : ∀ i, (dels' (ks.take i)).length ≤ (dels' ks).length := fun i => by
    have e : dels' ks = dels' (ks.take i) ++ dels' (ks.drop i) := by
      unfold dels'
      rw [← List.flatMap_append, List.take_append_drop]
    rw [e, List.length_append]
    omega
  obtain ⟨ρ', h1, h2⟩ := forL_inv (F := exS 1 (compF (seqI (ownF 2)) (nameG 4) yesT (appF tupleO (consF (compF (seqI (ownF 2)) (nameG 3) (boolT (bin neD (ownF 3) (ownF 4))) (varF 3) [3]) nilF)) [4])) (g := nameG 2) (w := [2]) (ds := ks.map tupI)
    (fun i ρ => ρ = [.dat c, .own (.list ((dels' (ks.take i)).map tupI)), .un, .un, .un]) (ρ := [.dat c, .own (.list []), .un, .un, .un]) rfl (by
    rintro i d ρ hd rfl
    rw [List.getElem?_map] at hd
    obtain ⟨k, hk, rfl⟩ := Option.map_eq_some_iff.mp hd
    have e : dels' (ks.take (i + 1)) = dels' (ks.take i) ++ k.map (del' k) := by
      unfold dels'
      rw [List.take_add_one, hk]
      show (ks.take i ++ [k]).flatMap _ = _
      rw [List.flatMap_append, List.flatMap_singleton]
    refine ⟨[.dat c, .own (.list ((dels' (ks.take i)).map tupI)), .dat (tupI k), .un, .un], [.dat c, .own (.list ((dels' (ks.take (i + 1))).map tupI)), .dat (tupI k), .un, .un], rfl, .inl ?_, rfl⟩
    rw [ext_eq (ds := (dels' (ks.take i)).map tupI) (es := (k.map (del' k)).map tupI) rfl (comp_eq (ds := k.map PyData.int) rfl ?_) ?_]
    · rw [e, List.map_append]
      rfl
    · rw [List.map_map]
      refine compL_map PyData.int (tupI ∘ del' k) fun x hx => ⟨[.dat c, .own (.list ((dels' (ks.take i)).map tupI)), .dat (tupI k), .un, .dat (.int x)], rfl, ?_, rfl⟩
      refine app1_eq (ds := [.list ((del' k x).map PyData.int)]) (cons_eq (comp_eq rfl ?_) rfl) rfl
      refine compL_fm PyData.int (fun y => !decide (y = x)) PyData.int fun y hy => ⟨[.dat c, .own (.list ((dels' (ks.take i)).map tupI)), .dat (tupI k), .dat (.int y), .dat (.int x)], rfl, bool_eq (bin_eq rfl rfl (ne_int y x)), fun _ => ⟨rfl, rfl⟩⟩
    · rw [List.length_map, List.length_map]
      have := cut (i + 1)
      rw [e, List.length_append] at this
      unfold sz
      omega)
  rw [List.length_map, List.take_length] at h2
  subst h2
  rw [seq_nx (for_eq (seqI_eq rfl hc) h1)]
  exact ret_eq (una_eq (x := .list ((dels' ks).map tupI)) rfl (setSort_ok h))
end W73

/-! k73, the plain law, part c: the first sets. -/
namespace DL
open PySem PySem.Spec PyProof.Rows L2
theorem eqvAll_ints : ∀ a b : List Int, PyData.eqvAll (a.map PyData.int) (b.map PyData.int) = decide (a = b)
  | [], [] => by simp [PyData.eqvAll]
  | [], y :: b => by simp [PyData.eqvAll]
  | x :: a, [] => by simp [PyData.eqvAll]
  | x :: a, y :: b => by
    rw [List.map_cons, List.map_cons, PySem.W.eqv_all_cons, eqvAll_ints a b]
    show (decide (x = y) && decide (a = b)) = _
    by_cases h1 : x = y
    · by_cases h2 : a = b
      · simp [h1, h2]
      · simp [h1, h2]
    · simp [h1]
theorem eqv_tupI (a b : List Int) : PyData.eqv (tupI a) (tupI b) = decide (a = b) := by
  unfold tupI
  rw [PyData.eqv, eqvAll_ints]
theorem alike_tupI (a b : List Int) : PySem.W.alike (tupI a) (tupI b) = true := by
  show PySem.W.alike (.tuple _) (.tuple _) = true
  simp only [PySem.W.alike]
  exact PySem.W.alike_ints a b
/-- pairs of tuples by a first one that tells the second -/
theorem leD_pair (f : List Int → List Int) (hf : ∀ a b, f a = f b → a = b) (a b : List Int) : leD' false (.tuple [tupI (f a), tupI a]) (.tuple [tupI (f b), tupI b]) = leK (f a) (f b) := by
  show (!PySem.W.dataLt _ _) = _
  rw [PySem.W.dataLt_pair (alike_tupI _ _) (alike_tupI _ _), eqv_tupI, eqv_tupI]
  by_cases h : f b = f a
  · have e := hf _ _ h
    subst e
    rw [if_pos (decide_eq_true rfl), if_pos (decide_eq_true rfl), leK_le]
    simp
  · rw [if_neg (by rw [decide_eq_false h]; exact Bool.false_ne_true)]
    exact leD_tup (f a) (f b)
theorem depth_pair (a b : List Int) : okd (.tuple [tupI a, tupI b]) = true := by
  refine decide_eq_true ?_
  have h1 := depth_tupI a
  have h2 := depth_tupI b
  rw [PyData.depth, PyData.depthAll, PyData.depthAll, PyData.depthAll]
  omega
theorem sortP_pairs (f : List Int → List Int) {ks : List (List Int)} (h : ks.length ≤ sz) : SortP (ks.map fun k => PyData.tuple [tupI (f k), tupI k]) := by
  refine ⟨fun d hd => ?_, fun d hd => ?_, fun d hd => ?_, fun d hd d' hd' => ?_, by rw [List.length_map]; exact h⟩
  · obtain ⟨k, _, rfl⟩ := List.mem_map.mp hd; rfl
  · obtain ⟨k, _, rfl⟩ := List.mem_map.mp hd; exact depth_pair _ _
  · obtain ⟨k, _, rfl⟩ := List.mem_map.mp hd
    exact fun z => nomatch z
  · obtain ⟨k, _, rfl⟩ := List.mem_map.mp hd
    obtain ⟨k', _, rfl⟩ := List.mem_map.mp hd'
    show PySem.W.alike (.tuple _) (.tuple _) = true
    simp only [PySem.W.alike, PySem.W.alikeAll, Bool.and_eq_true]
    exact ⟨alike_tupI _ _, alike_tupI _ _, trivial⟩
theorem sort_pairsO (f : List Int → List Int) (hf : ∀ a b, f a = f b → a = b) {ks : List (List Int)} (h : ks.length ≤ 16777216) :
    sortO false [.list (ks.map fun k => PyData.tuple [tupI (f k), tupI k])] = some (.list ((isortB (fun a b => leK (f a) (f b)) ks).map fun k => PyData.tuple [tupI (f k), tupI k])) := by
  show (if sortOk (ks.map fun k => PyData.tuple [tupI (f k), tupI k]) = true then some (PyData.list (sortL false (ks.map fun k => PyData.tuple [tupI (f k), tupI k]))) else none) = _
  rw [if_pos (sortOk_of (sortP_pairs f h))]
  unfold sortL
  rw [isortB_map (leD_pair f hf) ks]
theorem tup_rev (k : List Int) : revTD (tupI k) = some (tupI k.reverse) := by
  show some (PyData.tuple (k.map PyData.int).reverse) = _
  rw [← List.map_reverse]
  rfl
end DL
namespace W73
open PySem PySem.Spec PyProof.Rows L2 DL
/-- the sets of k things below t, in the order that _law_sets has -/
def Ev (t k : Nat) : List (List Int) := (sortK (subsK t)).filter fun s => decide ((s.length : Int) = (k : Int))
/-- .. by the greatest thing that they do not share -/
def co (t k : Nat) : List (List Int) := isortB (fun a b => leK a.reverse b.reverse) (Ev t k)
theorem Ev_len (t k : Nat) : (Ev t k).length ≤ 2 ^ t := by
  refine Nat.le_trans (List.length_filter_le ..) ?_
  unfold sortK
  rw [(isortB_perm _ _).length_eq, subsK_len]
  exact Nat.le_refl _
theorem cut_take (xs : List D) (m : Nat) : DL.cutD xs none (some (m : Int)) = xs.take m := by
  unfold DL.cutD
  rw [HT.sIx_none, HT.sIx_nat, List.drop_zero, Nat.sub_zero]
  rcases Nat.le_total m xs.length with h | h
  · rw [Nat.min_eq_left h]
  · rw [Nat.min_eq_right h, List.take_of_length_le (Nat.le_refl _), List.take_of_length_le h]
def firstBody : En → Option Out := (seqS (setS 3 (compF (seqI (callF (D_l_sets) (consF (varF 2) nilF))) (nameG 4) (boolT (bin eqD (appF lenO (consF (ownF 4) nilF)) (ownF 1))) (varF 4) [4]))
    (seqS (ifS (boolT (bin geD (appF lenO (consF (ownF 3) nilF)) (ownF 0))) (retS (sliceF (compF (seqI (appF (sortO false) (consF (compF (seqI (ownF 3)) (nameG 4) yesT (appF tupD (consF (una revTD (ownF 4)) (consF (varF 4) nilF))) [4]) nilF))) (nameG 5) yesT (bin idxD (ownF 5) (cF (.int 1))) [5]) noPart (partF (ownF 0)))) nxS)
    (setS 2 (bin addD (ownF 2) (cF (.int 1))))))
theorem first_turn (m k t : Nat) (ht : t ≤ 20) : firstBody [.dat (.int m), .dat (.int k), .dat (.int t), .un, .un, .un] =
    if m ≤ (Ev t k).length then some (.rt (.list (((co t k).take m).map tupI))) else some (.nx [.dat (.int m), .dat (.int k), .dat (.int ((t + 1 : Nat) : Int)), .dat (.list ((Ev t k).map tupI)), .un, .un]) := by
  unfold firstBody
  have hz : (Ev t k).length ≤ 16777216 := Nat.le_trans (Ev_len t k) (Nat.le_trans (Nat.pow_le_pow_right (by decide) ht) (by decide))
  rw [seq_nx (ρ' := [.dat (.int m), .dat (.int k), .dat (.int t), .dat (.list ((Ev t k).map tupI)), .un, .un]) (by
    rw [set_eq (d := .list ((Ev t k).map tupI)) (comp_eq (seqI_eq (call_eq (ds := [.int t]) rfl (sets_ok t ht)) rfl) ?_)]
    · rfl
    · refine compL_fm tupI (fun s => decide ((s.length : Int) = (k : Int))) tupI fun s hs => ⟨[.dat (.int m), .dat (.int k), .dat (.int t), .un, .dat (tupI s), .un], rfl, bool_eq (bin_eq (x := .int (s.length : Nat)) (y := .int k) ?_ rfl (eq_int _ _)), fun _ => ⟨rfl, rfl⟩⟩
      refine app1_eq (ds := [tupI s]) rfl ?_
      show some (PyData.int (s.map PyData.int).length) = _
      rw [List.length_map])]
  have hg : boolT (bin geD (appF lenO (consF (ownF 3) nilF)) (ownF 0)) [.dat (.int m), .dat (.int k), .dat (.int t), .dat (.list ((Ev t k).map tupI)), .un, .un] = some (decide ((m : Int) ≤ ((Ev t k).length : Nat))) := by
    refine bool_eq (bin_eq (x := .int ((Ev t k).length : Nat)) (y := .int m) (app1_eq (ds := [.list ((Ev t k).map tupI)]) rfl ?_) rfl (ge_int _ _))
    show some (PyData.int ((Ev t k).map tupI).length) = _
    rw [List.length_map]
  by_cases h : m ≤ (Ev t k).length
  · rw [if_pos h]
    refine seq_rt ?_
    rw [decide_eq_true (by omega)] at hg
    rw [if_t hg]
    refine ret_eq ?_
    unfold sliceF
    have e : compF (seqI (appF (sortO false) (consF (compF (seqI (ownF 3)) (nameG 4) yesT (appF tupD (consF (una revTD (ownF 4)) (consF (varF 4) nilF))) [4]) nilF))) (nameG 5) yesT (bin idxD (ownF 5) (cF (.int 1))) [5] [.dat (.int m), .dat (.int k), .dat (.int t), .dat (.list ((Ev t k).map tupI)), .un, .un] = some (.list ((co t k).map tupI)) := by
      refine comp_eq (ds := (co t k).map fun s => PyData.tuple [tupI s.reverse, tupI s]) (seqI_eq (app1_eq (ds := [.list ((Ev t k).map fun s => PyData.tuple [tupI s.reverse, tupI s])]) (cons_eq (comp_eq rfl ?_) rfl) (sort_pairsO List.reverse (fun a b h => List.reverse_inj.mp h) hz)) rfl) ?_
      · refine compL_map tupI (fun s => PyData.tuple [tupI s.reverse, tupI s]) fun s hs => ⟨[.dat (.int m), .dat (.int k), .dat (.int t), .dat (.list ((Ev t k).map tupI)), .dat (tupI s), .un], rfl, ?_, rfl⟩
        refine app1_eq (ds := [tupI s.reverse, tupI s]) (cons_eq (una_eq (x := tupI s) rfl (tup_rev s)) rfl) ?_
        exact if_pos ⟨rfl, by unfold sz; simp⟩
      · refine compL_map (Fa := bin idxD (ownF 5) (cF (.int 1))) (g := nameG 5) (ρ := [.dat (.int m), .dat (.int k), .dat (.int t), .dat (.list ((Ev t k).map tupI)), .un, .un]) (fun s => PyData.tuple [tupI s.reverse, tupI s]) tupI fun s hs => ⟨[.dat (.int m), .dat (.int k), .dat (.int t), .dat (.list ((Ev t k).map tupI)), .un, .dat (.tuple [tupI s.reverse, tupI s])], rfl, rfl, rfl⟩
    rw [e]
    show some (PyData.list (DL.cutD ((co t k).map tupI) none (some (m : Int)))) = _
    rw [cut_take, List.map_take]
  · rw [if_neg h]
    rw [decide_eq_false (by omega)] at hg
    rw [seq_nx (by rw [if_f hg]; rfl)]
    rw [set_eq (d := .int ((t + 1 : Nat) : Int)) (bin_eq (x := .int t) (y := .int 1) rfl rfl rfl)]
    rfl
theorem first_loop (m k : Nat) (f : Nat) : ∀ (j t : Nat), t + j ≤ 20 → (∀ i, i < j → (Ev (t + i) k).length < m) → m ≤ (Ev (t + j) k).length →
    whileL (boolT (cF (.bool true))) firstBody [3] (f + j + 1) [.dat (.int m), .dat (.int k), .dat (.int t), .un, .un, .un] = some (.rt (.list (((co (t + j) k).take m).map tupI)))
  | 0, t, ht, _, h => by
    have q := first_turn m k t (by omega)
    simp only [Nat.add_zero] at h ⊢
    rw [if_pos h] at q
    exact while_rt rfl q
  | j + 1, t, ht, hl, h => by
    have h0 := hl 0 (Nat.succ_pos j)
    have q := first_turn m k t (by omega)
    rw [if_neg (by rw [Nat.add_zero] at h0; omega)] at q
    have e : t + (j + 1) = t + 1 + j := by omega
    have e2 : f + (j + 1) + 1 = (f + j + 1) + 1 := by omega
    rw [e2, while_nx rfl q, e]
    exact first_loop m k f j (t + 1) (by omega) (fun i hi => by have := hl (i + 1) (by omega); rwa [show t + 1 + i = t + (i + 1) by omega]) (by rw [e] at h; exact h)
theorem first_ok (m k j : Nat) (hj : j ≤ 15) (hk : k + j ≤ 20) (hl : ∀ i, i < j → (Ev (k + i) k).length < m) (h : m ≤ (Ev (k + j) k).length) : D_l_first [.int m, .int k] = some (.list (((co (k + j) k).take m).map tupI)) := by
  refine fin_rt ?_
  show F_l_first [.dat (.int m), .dat (.int k), .un, .un, .un, .un] = _
  unfold F_l_first
  rw [seq_nx (ρ' := [.dat (.int m), .dat (.int k), .dat (.int k), .un, .un, .un]) rfl]
  have q := first_loop m k (15 - j) j k hk hl h
  have e : 15 - j + j + 1 = 16 := by omega
  rw [e] at q
  exact q
end W73

/-! k73, the plain law, part d: the first m sets. -/
namespace W73
open PySem PySem.Spec PyProof.Rows L2 DL
def L2 : List (List Int) := [[0, 1], [0, 2], [1, 2], [0, 3], [1, 3], [2, 3], [0, 4], [1, 4], [2, 4], [3, 4], [0, 5], [1, 5], [2, 5], [3, 5], [4, 5], [0, 6], [1, 6], [2, 6], [3, 6], [4, 6], [5, 6], [0, 7], [1, 7], [2, 7], [3, 7], [4, 7], [5, 7], [6, 7], [0, 8], [1, 8], [2, 8], [3, 8], [4, 8], [5, 8], [6, 8], [7, 8]]
theorem co2 : co 9 2 = L2 := by decide +kernel
theorem pre2 : ((List.range 8).all fun i => decide (co (2 + i) 2 = L2.take (Ev (2 + i) 2).length)) = true := by decide +kernel
theorem fin2 : ((List.range 37).all fun m => decide (ls 2 m = (uniqK (dels' (L2.take m))).length) && decide ((uniqK (dels' (L2.take m))).length < 63) && decide ((dels' (L2.take m)).length ≤ 1000)) = true := by decide +kernel
def L3 : List (List Int) := [[0, 1, 2], [0, 1, 3], [0, 2, 3], [1, 2, 3], [0, 1, 4], [0, 2, 4], [1, 2, 4], [0, 3, 4], [1, 3, 4], [2, 3, 4], [0, 1, 5], [0, 2, 5], [1, 2, 5], [0, 3, 5], [1, 3, 5], [2, 3, 5], [0, 4, 5], [1, 4, 5], [2, 4, 5], [3, 4, 5], [0, 1, 6], [0, 2, 6], [1, 2, 6], [0, 3, 6], [1, 3, 6], [2, 3, 6], [0, 4, 6], [1, 4, 6], [2, 4, 6], [3, 4, 6], [0, 5, 6], [1, 5, 6], [2, 5, 6], [3, 5, 6], [4, 5, 6]]
theorem co3 : co 7 3 = L3 := by decide +kernel
theorem pre3 : ((List.range 5).all fun i => decide (co (3 + i) 3 = L3.take (Ev (3 + i) 3).length)) = true := by decide +kernel
theorem fin3 : ((List.range 36).all fun m => decide (ls 3 m = (uniqK (dels' (L3.take m))).length) && decide ((uniqK (dels' (L3.take m))).length < 63) && decide ((dels' (L3.take m)).length ≤ 1000)) = true := by decide +kernel
def L4 : List (List Int) := [[0, 1, 2, 3], [0, 1, 2, 4], [0, 1, 3, 4], [0, 2, 3, 4], [1, 2, 3, 4], [0, 1, 2, 5], [0, 1, 3, 5], [0, 2, 3, 5], [1, 2, 3, 5], [0, 1, 4, 5], [0, 2, 4, 5], [1, 2, 4, 5], [0, 3, 4, 5], [1, 3, 4, 5], [2, 3, 4, 5], [0, 1, 2, 6], [0, 1, 3, 6], [0, 2, 3, 6], [1, 2, 3, 6], [0, 1, 4, 6], [0, 2, 4, 6], [1, 2, 4, 6], [0, 3, 4, 6], [1, 3, 4, 6], [2, 3, 4, 6], [0, 1, 5, 6], [0, 2, 5, 6], [1, 2, 5, 6], [0, 3, 5, 6], [1, 3, 5, 6], [2, 3, 5, 6], [0, 4, 5, 6], [1, 4, 5, 6], [2, 4, 5, 6], [3, 4, 5, 6]]
theorem co4 : co 7 4 = L4 := by decide +kernel
theorem pre4 : ((List.range 4).all fun i => decide (co (4 + i) 4 = L4.take (Ev (4 + i) 4).length)) = true := by decide +kernel
theorem fin4 : ((List.range 36).all fun m => decide (ls 4 m = (uniqK (dels' (L4.take m))).length) && decide ((uniqK (dels' (L4.take m))).length < 63) && decide ((dels' (L4.take m)).length ≤ 1000)) = true := by decide +kernel
def L5 : List (List Int) := [[0, 1, 2, 3, 4], [0, 1, 2, 3, 5], [0, 1, 2, 4, 5], [0, 1, 3, 4, 5], [0, 2, 3, 4, 5], [1, 2, 3, 4, 5], [0, 1, 2, 3, 6], [0, 1, 2, 4, 6], [0, 1, 3, 4, 6], [0, 2, 3, 4, 6], [1, 2, 3, 4, 6], [0, 1, 2, 5, 6], [0, 1, 3, 5, 6], [0, 2, 3, 5, 6], [1, 2, 3, 5, 6], [0, 1, 4, 5, 6], [0, 2, 4, 5, 6], [1, 2, 4, 5, 6], [0, 3, 4, 5, 6], [1, 3, 4, 5, 6], [2, 3, 4, 5, 6]]
theorem co5 : co 7 5 = L5 := by decide +kernel
theorem pre5 : ((List.range 3).all fun i => decide (co (5 + i) 5 = L5.take (Ev (5 + i) 5).length)) = true := by decide +kernel
theorem fin5 : ((List.range 22).all fun m => decide (ls 5 m = (uniqK (dels' (L5.take m))).length) && decide ((uniqK (dels' (L5.take m))).length < 63) && decide ((dels' (L5.take m)).length ≤ 1000)) = true := by decide +kernel

theorem least_at {f : Nat → Nat} {m : Nat} : ∀ n, m ≤ f n → ∃ j, j ≤ n ∧ (∀ i, i < j → f i < m) ∧ m ≤ f j
  | 0, h => ⟨0, Nat.le_refl _, fun i hi => absurd hi (Nat.not_lt_zero i), h⟩
  | n + 1, h => by
    by_cases c : ∃ i, i ≤ n ∧ m ≤ f i
    · obtain ⟨i, hi, hm⟩ := c
      have key : ∀ i, i ≤ n → m ≤ f i → ∃ j, j ≤ n + 1 ∧ (∀ i, i < j → f i < m) ∧ m ≤ f j := by
        intro i
        induction i using Nat.strongRecOn with
        | ind i ih =>
          intro hi hm
          by_cases d : ∃ i', i' < i ∧ m ≤ f i'
          · obtain ⟨i', a, b⟩ := d
            exact ih i' a (by omega) b
          · exact ⟨i, by omega, fun i' hi' => Nat.lt_of_not_le fun z => d ⟨i', hi', z⟩, hm⟩
      exact key i hi hm
    · exact ⟨n + 1, Nat.le_refl _, fun i hi => Nat.lt_of_not_le fun z => c ⟨i, by omega, z⟩, h⟩
theorem co_len (t k : Nat) : (co t k).length = (Ev t k).length := (isortB_perm _ _).length_eq
/-- the shadow of the first m sets of k -/
theorem part2 {k t : Nat} {L : List (List Int)} (hk : k ≤ t) (ht : t ≤ 9) (hc : co t k = L) (hp : ((List.range (t - k + 1)).all fun i => decide (co (k + i) k = L.take (Ev (k + i) k).length)) = true)
    (hf : ((List.range (L.length + 1)).all fun m => decide (ls k m = (uniqK (dels' (L.take m))).length) && decide ((uniqK (dels' (L.take m))).length < 63) && decide ((dels' (L.take m)).length ≤ 1000)) = true) {m : Nat} (hm : m ≤ L.length) :
    ∃ ks : List (List Int), D_l_first [.int m, .int k] = some (.list (ks.map tupI)) ∧ D_l_shadow [.list (ks.map tupI)] = some (.list ((sortK (uniqK (dels' ks))).map tupI)) ∧ (sortK (uniqK (dels' ks))).length = ls k m := by
  have hm2 : m ≤ (Ev (k + (t - k)) k).length := by
    rw [show k + (t - k) = t by omega, ← co_len, hc]
    exact hm
  obtain ⟨j, hj, h1, h2⟩ := least_at (f := fun i => (Ev (k + i) k).length) (t - k) hm2
  have e := of_decide_eq_true (List.all_eq_true.mp hp j (List.mem_range.mpr (by omega)))
  have e2 : (co (k + j) k).take m = L.take m := by
    rw [e, List.take_take, Nat.min_eq_left h2]
  have q := List.all_eq_true.mp hf m (List.mem_range.mpr (by omega))
  rw [Bool.and_eq_true, Bool.and_eq_true] at q
  obtain ⟨⟨q1, q2⟩, q3⟩ := q
  have q1 := of_decide_eq_true q1
  have q2 := of_decide_eq_true q2
  have q3 := of_decide_eq_true q3
  refine ⟨L.take m, ?_, lshadow_ok rfl q2 (by omega), ?_⟩
  · rw [← e2]
    exact first_ok m k j (by omega) (by omega) h1 h2
  · unfold sortK
    rw [(isortB_perm _ _).length_eq]
    exact q1.symm
end W73

/-! k73, the plain law, part e: the law. -/
namespace W73
open PySem PySem.Spec PyProof.Rows L2 DL
theorem E_nd : (E 0).Nodup ∧ (E 1).Nodup ∧ (E 2).Nodup ∧ (E 3).Nodup ∧ (E 4).Nodup := by decide +kernel
theorem mono3 : ((List.range 13).all fun b => (List.range (b + 1)).all fun a => decide (ls 3 a ≤ ls 3 b)) = true := by decide +kernel
theorem same_len {S T : List (List Int)} (h1 : S.Nodup) (h2 : T.Nodup) (h : ∀ x, x ∈ S ↔ x ∈ T) : S.length = T.length := ((List.perm_ext_iff_of_nodup h1 h2).mpr h).length_eq
theorem mem_dels {S : List (List Int)} {y : List Int} : y ∈ dels' S ↔ ∃ x ∈ S, y ∈ x.map (del x) := List.mem_flatMap
theorem kk_dir {k : Nat} {S : List (List Int)} (hn : S.Nodup) (hs : ∀ s ∈ S, s ∈ E k) (n1 : (E k).Nodup) (n2 : (E (k - 1)).Nodup)
    (h : ∀ q : List Int → Bool, ls k ((E k).filter q).length ≤ ((E (k - 1)).filter fun y => (ups k y).any q).length) : ls k S.length ≤ (uniqK (dels' S)).length := by
  have e : S.length = ((E k).filter fun x => decide (x ∈ S)).length := same_len hn (List.Pairwise.filter _ n1) fun x => by
    rw [List.mem_filter, decide_eq_true_iff]
    exact ⟨fun hx => ⟨hs x hx, hx⟩, fun z => z.2⟩
  rw [e]
  refine Nat.le_trans (h _) (nodup_le (List.Pairwise.filter _ n2) fun y hy => mem_uniqK.mpr (mem_dels.mpr ?_))
  obtain ⟨_, h2⟩ := List.mem_filter.mp hy
  obtain ⟨x, hx, hq⟩ := List.any_eq_true.mp h2
  obtain ⟨_, h3⟩ := List.mem_filter.mp hx
  exact ⟨x, of_decide_eq_true hq, List.contains_iff_mem.mp h3⟩
theorem kk {k : Nat} (hk : 1 ≤ k ∧ k ≤ 4) {S : List (List Int)} (hn : S.Nodup) (hs : ∀ s ∈ S, s ∈ E k) (hl : S.length ≤ 12) : ls k S.length ≤ (uniqK (dels' S)).length := by
  obtain ⟨d0, d1, d2, d3, d4⟩ := E_nd
  have c : k = 1 ∨ k = 2 ∨ k = 3 ∨ k = 4 := by omega
  rcases c with rfl | rfl | rfl | rfl
  · exact kk_dir hn hs d1 d0 dir1
  · exact kk_dir hn hs d2 d1 dir2
  · have h := dua3 fun y => decide (y ∈ dels' S)
    have h1 : S.length ≤ ((E 3).filter fun t => (t.map (del t)).all fun y => decide (y ∈ dels' S)).length := nodup_le hn fun s hx => List.mem_filter.mpr ⟨hs s hx, List.all_eq_true.mpr fun y hy => decide_eq_true (mem_dels.mpr ⟨s, hx, hy⟩)⟩
    have h2 : ((E 2).filter fun y => decide (y ∈ dels' S)).length ≤ (uniqK (dels' S)).length := nodup_le (List.Pairwise.filter _ d2) fun y hy => mem_uniqK.mpr (of_decide_eq_true (List.mem_filter.mp hy).2)
    generalize ((E 3).filter fun t => (t.map (del t)).all fun y => decide (y ∈ dels' S)).length = T at h h1
    have m := of_decide_eq_true (List.all_eq_true.mp (List.all_eq_true.mp mono3 (min T 12) (List.mem_range.mpr (by omega))) S.length (List.mem_range.mpr (by omega)))
    exact Nat.le_trans m (Nat.le_trans h h2)
  · exact kk_dir hn hs d4 d3 dir4
theorem Ev6 : ∀ k, k < 5 → 1 ≤ k → 0 < (Ev 6 k).length ∧ (Ev 6 k).length ≤ 20 ∧ ∀ s ∈ Ev 6 k, s ∈ E k := by
  have q : ((List.range 5).all fun k => (k == 0) || (decide (0 < (Ev 6 k).length) && decide ((Ev 6 k).length ≤ 20) && (Ev 6 k).all fun s => decide (s ∈ E k))) = true := by decide +kernel
  intro k hk h1
  have z := List.all_eq_true.mp q k (List.mem_range.mpr hk)
  rw [Bool.or_eq_true, Bool.and_eq_true, Bool.and_eq_true, decide_eq_true_iff, decide_eq_true_iff, List.all_eq_true] at z
  rcases z with z | ⟨⟨z1, z2⟩, z3⟩
  · have := eq_of_beq z; omega
  · exact ⟨z1, z2, fun s hs => of_decide_eq_true (z3 s hs)⟩
theorem E_in : ∀ k, k < 5 → ∀ s ∈ E k, s.length ≤ 6 ∧ ∀ x ∈ s, del s x ∈ E (k - 1) := by
  have q : ((List.range 5).all fun k => (E k).all fun s => decide (s.length ≤ 6) && s.all fun x => decide (del s x ∈ E (k - 1))) = true := by decide +kernel
  intro k hk s hs
  have z := List.all_eq_true.mp (List.all_eq_true.mp q k (List.mem_range.mpr hk)) s hs
  rw [Bool.and_eq_true, List.all_eq_true] at z
  exact ⟨of_decide_eq_true z.1, fun x hx => of_decide_eq_true (z.2 x hx)⟩
theorem E_few : ∀ k, k < 5 → (E k).length ≤ 20 := by decide +kernel
theorem uniq_le {α : Type} [DecidableEq α] (l : List α) : (uniqK l).length ≤ l.length := nodup_le nodup_uniqK fun x hx => mem_uniqK.mp hx
/-- all that is asked of the drawn sets -/
theorem part1 {k : Nat} (hk : 1 ≤ k ∧ k ≤ 4) {ps : List (List Int)} (hp : ∀ p ∈ ps, p ∈ Ev 6 k) (hl : ps.length ≤ 12) : ∃ S : List (List Int), setSortD (.list (ps.map tupI)) = some (.list (S.map tupI)) ∧ S.length ≤ 12 ∧
    (uniqK (dels' S)).length < 63 ∧ (dels' S).length ≤ 16777216 ∧ (∀ y ∈ dels' S, y.length ≤ 6) ∧ ls k S.length ≤ (uniqK (dels' S)).length := by
  have hu : (uniqK ps).length ≤ 12 := Nat.le_trans (uniq_le ps) hl
  have pm : (sortK (uniqK ps)).Perm (uniqK ps) := isortB_perm _ _
  have hs : ∀ s ∈ sortK (uniqK ps), s ∈ E k := fun s h => (Ev6 k (by omega) hk.1).2.2 s (hp s (mem_uniqK.mp (pm.mem_iff.mp h)))
  have hlen : (sortK (uniqK ps)).length ≤ 12 := by rw [pm.length_eq]; exact hu
  have hdel : ∀ y ∈ dels' (sortK (uniqK ps)), y ∈ E (k - 1) := fun y hy => by
    obtain ⟨x, hx, hy⟩ := mem_dels.mp hy
    obtain ⟨z, hz, rfl⟩ := List.mem_map.mp hy
    exact (E_in k (by omega) x (hs x hx)).2 z hz
  refine ⟨sortK (uniqK ps), setSort_ok (by omega), hlen, ?_, ?_, ?_, kk hk (pm.nodup_iff.mpr nodup_uniqK) hs hlen⟩
  · have := nodup_le (l := uniqK (dels' (sortK (uniqK ps)))) (m := E (k - 1)) nodup_uniqK fun x hx => hdel x (mem_uniqK.mp hx)
    have := E_few (k - 1) (by omega)
    omega
  · have g : ∀ S : List (List Int), (∀ s ∈ S, s.length ≤ 6) → (dels' S).length ≤ 6 * S.length := by
      intro S
      induction S with
      | nil => intro _; exact Nat.le_refl _
      | cons s S ih =>
        intro h
        have a := h s List.mem_cons_self
        have b := ih fun t ht => h t (List.mem_cons_of_mem _ ht)
        show (s.map (del' s) ++ dels' S).length ≤ _
        rw [List.length_append, List.length_map, List.length_cons]
        omega
    have := g _ fun s h => (E_in k (by omega) s (hs s h)).1
    omega
  · intro y hy
    exact (E_in (k - 1) (by omega) y (hdel y hy)).1
end W73

/-! k73, the plain law, part f: the law's own run. -/
namespace W73
open PySem PySem.Spec PyProof.Rows L2 DL
theorem law_true (ns : List Int) (_ : ns.length ≤ 63) : D_law [scrD ns] = some (.bool true) := by
  obtain ⟨rs, hrl, _, hrow⟩ := row_ok ns 24 (by decide)
  refine fin_rt ?_
  show F_law [.dat (scrD ns), .un, .un, .un, .un, .un, .un, .un, .un] = _
  unfold F_law
  rw [seq_nx (set_eq (call_eq (ds := [scrD ns, .int 24]) rfl hrow))]
  simp only [List.set_cons_succ, List.set_cons_zero]
  -- k
  obtain ⟨c0, hc0, e0⟩ := cell (ρ := [.dat (scrD ns), .dat (.list (rs.map PyData.int)), .un, .un, .un, .un, .un, .un, .un]) (Fr := ownF 1) (Fj := cF (.int 0)) (Fn := cF (.int 4)) 0 rfl rfl (by omega) rfl (by decide)
  rw [seq_nx (set_eq (d := .int ((c0 + 1 : Nat) : Int)) (bin_eq (x := .int 1) rfl e0 (by show some (PyData.int _) = _; congr 2; omega)))]
  simp only [List.set_cons_succ, List.set_cons_zero]
  obtain ⟨k, hk⟩ : ∃ k, k = c0 + 1 := ⟨_, rfl⟩
  rw [← hk]
  have hk1 : 1 ≤ k ∧ k ≤ 4 := by omega
  obtain ⟨ev1, ev2, _⟩ := Ev6 k (by omega) hk1.1
  -- every
  rw [seq_nx (set_eq (d := .list ((Ev 6 k).map tupI)) (comp_eq (seqI_eq (call_eq (ds := [.int 6]) rfl (sets_ok 6 (by decide))) rfl) (compL_fm tupI (fun s => decide ((s.length : Int) = (k : Int))) tupI fun s hs =>
    ⟨[.dat (scrD ns), .dat (.list (rs.map PyData.int)), .dat (.int k), .un, .dat (tupI s), .un, .un, .un, .un], rfl, bool_eq (bin_eq (x := .int (s.length : Nat)) (y := .int k) (app1_eq (ds := [tupI s]) rfl (by show some (PyData.int (s.map PyData.int).length) = _; rw [List.length_map])) rfl (eq_int _ _)), fun _ => ⟨rfl, rfl⟩⟩)))]
  simp only [List.set_cons_succ, List.set_cons_zero]
  -- sets
  obtain ⟨c1, hc1, e1⟩ := cell (ρ := [.dat (scrD ns), .dat (.list (rs.map PyData.int)), .dat (.int k), .dat (.list ((Ev 6 k).map tupI)), .un, .un, .un, .un, .un]) (Fr := ownF 1) (Fj := cF (.int 1)) (Fn := cF (.int 13)) 1 rfl rfl (by omega) rfl (by decide)
  obtain ⟨ps, e2, pl, pm⟩ := compL_ex (Fa := bin idxD (ownF 3) (bin modD (appF intO (consF (bin idxD (ownF 1) (bin addD (cF (.int 2)) (ownF 6))) nilF)) (appF lenO (consF (ownF 3) nilF)))) (g := nameG 6) (ρ := [.dat (scrD ns), .dat (.list (rs.map PyData.int)), .dat (.int k), .dat (.list ((Ev 6 k).map tupI)), .un, .un, .un, .un, .un])
    tupI (fun _ => rfl) (fun s => s ∈ Ev 6 k) (ds := rgL 0 (c1 : Int)) (fun d hd => by
      obtain ⟨j, hj⟩ := List.getElem?_of_mem hd
      obtain ⟨rfl, hj⟩ := rg_at hj
      obtain ⟨c, hc, e⟩ := cell (ρ := [.dat (scrD ns), .dat (.list (rs.map PyData.int)), .dat (.int k), .dat (.list ((Ev 6 k).map tupI)), .un, .un, .dat (.int j), .un, .un]) (Fr := ownF 1) (Fj := bin addD (cF (.int 2)) (ownF 6)) (Fn := appF lenO (consF (ownF 3) nilF)) (n := ((Ev 6 k).length : Nat)) (2 + j) rfl
        (bin_eq rfl rfl (by show some (PyData.int _) = _; congr 2)) (by omega) (app1_eq (ds := [.list ((Ev 6 k).map tupI)]) rfl (by rw [len_lst, List.length_map])) (by omega)
      have hc2 : c < (Ev 6 k).length := by omega
      refine ⟨_, (Ev 6 k)[c], rfl, bin_eq (x := .list ((Ev 6 k).map tupI)) (y := .int c) rfl e ?_, List.getElem_mem hc2⟩
      refine DL.atI_nat ?_
      rw [List.getElem?_map, List.getElem?_eq_getElem hc2]
      rfl)
  rw [rg_len] at pl
  obtain ⟨S, s1, s2, s3, s4, s5, s6⟩ := part1 hk1 pm (by omega)
  rw [seq_nx (set_eq (d := .tuple (S.map tupI)) (app1_eq (ds := [.list (S.map tupI)]) (cons_eq (una_eq (comp_eq (rngI_nat (n := c1) e1 (by omega)) e2) s1) rfl) rfl))]
  simp only [List.set_cons_succ, List.set_cons_zero]
  -- due
  rw [seq_nx (set_eq (call_eq (ds := [.tuple (S.map tupI)]) rfl (lshadow_ok rfl s3 s4)))]
  simp only [List.set_cons_succ, List.set_cons_zero]
  have pu : (sortK (uniqK (dels' S))).Perm (uniqK (dels' S)) := isortB_perm _ _
  have hlk : lk 6 (.tuple ((sortK (uniqK (dels' S))).map tupI)) := lk_tups (n := 3) (by rw [pu.length_eq]; omega) fun y hy => by
    have := s5 y (mem_uniqK.mp (pu.mem_iff.mp hy))
    omega
  rw [seq_nx (if_f (by
    refine not_eq (b := true) (tru_eq (x := .bool true) (call_eq (ds := [.tuple ((sortK (uniqK (dels' S))).map tupI), .tuple ((sortK (uniqK (dels' S))).map tupI)]) (cons_eq (call_eq (ds := [.int 6, .tuple (S.map tupI)]) rfl (shadow_ok 6 s3 s4)) rfl) (like_ok 6 _ hlk)) rfl)))]
  · rw [seq_nx (if_f (by
      refine not_eq (b := true) (bool_eq (bin_eq (x := .int ((sortK (uniqK (dels' S))).length : Nat)) (y := .int (ls k S.length : Nat)) (app1_eq (ds := [.list ((sortK (uniqK (dels' S))).map tupI)]) rfl (by rw [len_lst, List.length_map])) (call_eq (ds := [.int (S.length : Nat), .int k]) (cons_eq (app1_eq (ds := [.tuple (S.map tupI)]) rfl (by show some (PyData.int (S.map tupI).length) = _; rw [List.length_map])) rfl) (ls_ok (by omega) (by omega))) ?_))
      rw [DL.ge_int, decide_eq_true (by rw [pu.length_eq]; omega)]))]
    · -- m, k
      obtain ⟨m, hm, e3⟩ := cell (ρ := [.dat (scrD ns), .dat (.list (rs.map PyData.int)), .dat (.int k), .dat (.list ((Ev 6 k).map tupI)), .un, .dat (.tuple (S.map tupI)), .un, .dat (.list ((sortK (uniqK (dels' S))).map tupI)), .un]) (Fr := ownF 1) (Fj := cF (.int 20)) (Fn := cF (.int 61)) 20 rfl rfl (by omega) rfl (by decide)
      obtain ⟨c2, hc2, e4⟩ := cell (ρ := [.dat (scrD ns), .dat (.list (rs.map PyData.int)), .dat (.int k), .dat (.list ((Ev 6 k).map tupI)), .un, .dat (.tuple (S.map tupI)), .un, .dat (.list ((sortK (uniqK (dels' S))).map tupI)), .un]) (Fr := ownF 1) (Fj := cF (.int 21)) (Fn := cF (.int 5)) 21 rfl rfl (by omega) rfl (by decide)
      rw [seq_nx (asg_eq (d := .tuple [.int m, .int ((c2 + 1 : Nat) : Int)]) (app1_eq (ds := [.int m, .int ((c2 + 1 : Nat) : Int)]) (cons_eq e3 (cons_eq (bin_eq (x := .int 1) rfl e4 (by show some (PyData.int _) = _; congr 2; omega)) rfl)) (if_pos ⟨rfl, by unfold sz; simp⟩)) rfl)]
      simp only [List.set_cons_succ, List.set_cons_zero]
      obtain ⟨k2, hk2⟩ : ∃ k2, k2 = c2 + 1 := ⟨_, rfl⟩
      rw [← hk2]
      have hm : m ≤ 60 := by omega
      have hg := bool_eq (ρ := [.dat (scrD ns), .dat (.list (rs.map PyData.int)), .dat (.int k2), .dat (.list ((Ev 6 k).map tupI)), .un, .dat (.tuple (S.map tupI)), .un, .dat (.list ((sortK (uniqK (dels' S))).map tupI)), .dat (.int m)]) (bin_eq (Fa := ownF 2) (Fb := cF (.int 1)) rfl rfl (eq_int k2 1))
      by_cases h1 : k2 = 1
      · subst h1
        rw [decide_eq_true (show ((1 : Nat) : Int) = 1 from rfl)] at hg
        refine seq_rt ?_
        rw [if_t hg]
        refine ret_eq (call_eq (ds := [.int (ls 1 m : Nat), .int (ls 1 m : Nat)]) (cons_eq (call_eq (ds := [.int m, .int ((1 : Nat) : Int)]) rfl (ls_ok (by omega) hm)) (cons_eq (app1_eq (ds := [.bool (decide ((0 : Int) < (m : Int)))]) (cons_eq (bin_eq rfl rfl (DL.gt_int _ _)) rfl) ?_) rfl)) (like_ok 6 _ trivial))
        rw [ls1 m hm]
        rfl
      · rw [decide_eq_false (by omega)] at hg
        rw [seq_nx (by rw [if_f hg]; rfl)]
        have hcap : ∃ cap : Nat, idxD (.tuple [.int 0, .int 1, .int 36, .int 35, .int 35, .int 21]) (.int k2) = some (.int cap) ∧ ∀ n, n ≤ cap → ∃ ks : List (List Int), D_l_first [.int n, .int k2] = some (.list (ks.map tupI)) ∧ D_l_shadow [.list (ks.map tupI)] = some (.list ((sortK (uniqK (dels' ks))).map tupI)) ∧ (sortK (uniqK (dels' ks))).length = ls k2 n := by
          have c : k2 = 2 ∨ k2 = 3 ∨ k2 = 4 ∨ k2 = 5 := by omega
          rcases c with rfl | rfl | rfl | rfl
          · exact ⟨36, rfl, fun n hn => part2 (by decide) (by decide) co2 pre2 fin2 hn⟩
          · exact ⟨35, rfl, fun n hn => part2 (by decide) (by decide) co3 pre3 fin3 hn⟩
          · exact ⟨35, rfl, fun n hn => part2 (by decide) (by decide) co4 pre4 fin4 hn⟩
          · exact ⟨21, rfl, fun n hn => part2 (by decide) (by decide) co5 pre5 fin5 hn⟩
        obtain ⟨cap, ecap, hfin⟩ := hcap
        rw [seq_nx (set_eq (d := .int ((min m cap : Nat) : Int)) (app1_eq (ds := [.int m, .int cap]) (cons_eq rfl (cons_eq (bin_eq rfl rfl ecap) rfl)) (by
          show some (PyData.int (if (cap : Int) < (m : Int) then (cap : Int) else (m : Int))) = _
          congr 2
          split <;> omega)))]
        simp only [List.set_cons_succ, List.set_cons_zero]
        obtain ⟨ks, f1, f2, f3⟩ := hfin (min m cap) (Nat.min_le_right _ _)
        refine ret_eq (call_eq (ds := [.int (ls k2 (min m cap) : Nat), .int (ls k2 (min m cap) : Nat)]) (cons_eq (call_eq (ds := [.int ((min m cap : Nat) : Int), .int k2]) rfl (ls_ok (by omega) (by omega))) (cons_eq (app1_eq (ds := [.list ((sortK (uniqK (dels' ks))).map tupI)]) (cons_eq (call_eq (ds := [.list (ks.map tupI)]) (cons_eq (call_eq (ds := [.int ((min m cap : Nat) : Int), .int k2]) rfl f1) rfl) f2) rfl) ?_) rfl)) (like_ok 6 _ trivial))
        rw [len_lst, List.length_map, f3]
end W73

open PySem PySem.W PyProof.Rows
set_option maxHeartbeats 0 in
theorem PySem.Challenge.cw_choicesalike_k73_shadow_holds : PySem.Challenge.rw_choicesalike_k73_shadow.Holds := by
  w_on; o_law; k_head; (case hw => w_witness2)
  k_fill
  refine L2.walk_of (l := PySem.Challenge.rw_choicesalike_k73_shadow) (n := 63) (k := 9) (x := "script") (CX := fun _ => L2.CX0) (sp := fun w => DL.spLaw _) rfl (by decide) rfl ⟨rfl, by decide, by decide⟩ (fun w h Y => PySem.W.kIn_of Y) ?F (fun _ _ a ns hl _ hS => ⟨a, ns, rfl, hS, hl, fun _ => rfl⟩) (fun _ _ _ _ _ h => h)
  case F =>
    intro w mg fa h KX G hmg
    refine' W73.all_mk KX G hmg W73.law_true ?a0 ?l0 ?c0 ?k0 ?a1 ?l1 ?c1 ?k1 ?a2 ?l2 ?c2 ?k2 ?a3 ?l3 ?c3 ?k3 ?a4 ?l4 ?c4 ?k4 ?a5 ?l5 ?c5 ?k5 ?a6 ?l6 ?c6 ?k6 ?a7 ?l7 ?c7 ?k7 ?a8 ?l8 ?c8 ?k8 ?a9 ?l9 ?c9 ?k9 ?a10 ?l10 ?c10 ?k10 ?a11 ?l11 ?c11 ?k11 ?z_len ?z_int ?z_range ?z_tuple ?z_sorted ?z_set ?z_isinstance ?z_bool ?z_all ?z_str ?z_min
    (case a0 => k_is)
    (case l0 => k_is)
    (case c0 => k_is)
    (case k0 => k_is)
    (case a1 => k_is)
    (case l1 => k_is)
    (case c1 => k_is)
    (case k1 => k_is)
    (case a2 => k_is)
    (case l2 => k_is)
    (case c2 => k_is)
    (case k2 => k_is)
    (case a3 => k_is)
    (case l3 => k_is)
    (case c3 => k_is)
    (case k3 => k_is)
    (case a4 => k_is)
    (case l4 => k_is)
    (case c4 => k_is)
    (case k4 => k_is)
    (case a5 => k_is)
    (case l5 => k_is)
    (case c5 => k_is)
    (case k5 => k_is)
    (case a6 => k_is)
    (case l6 => k_is)
    (case c6 => k_is)
    (case k6 => k_is)
    (case a7 => k_is)
    (case l7 => k_is)
    (case c7 => k_is)
    (case k7 => k_is)
    (case a8 => k_is)
    (case l8 => k_is)
    (case c8 => k_is)
    (case k8 => k_is)
    (case a9 => k_is)
    (case l9 => k_is)
    (case c9 => k_is)
    (case k9 => k_is)
    (case a10 => k_is)
    (case l10 => k_is)
    (case c10 => k_is)
    (case k10 => k_is)
    (case a11 => k_is)
    (case l11 => k_is)
    (case c11 => k_is)
    (case k11 => k_is)
    (case z_len => k_is)
    (case z_int => k_is)
    (case z_range => k_is)
    (case z_tuple => k_is)
    (case z_sorted => k_is)
    (case z_set => k_is)
    (case z_isinstance => k_is)
    (case z_bool => k_is)
    (case z_all => k_is)
    (case z_str => k_is)
    (case z_min => k_is)

