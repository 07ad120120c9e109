import PyProof.Rows.All
import Wide.All
import OpenK.AllK
import Wide.FinOn
import HandS.ForMost
import HandS.Sort
import HandS.SortRule
import HandS.IsInst
import HandS.TupAny
import HandS.TupMul
import HandS.Deep
import HandS.Conv
import HandS.Style
import HandS.More
import HandS.TupSets
import HandS.SetFor
import HandS.Strs
import HandS.Zip
import PySem.Challenge.RW_crewfloor_k11_whole_more_crew_less_order
set_option Elab.async false
set_option linter.all false
set_option maxRecDepth 100000
set_option maxHeartbeats 4000000
namespace CF
open PySem PySem.Spec PyProof.Rows L2

/-! ### plain data, and how it stands in an abstract heap -/
/-- a dict from numbers to numbers -/
def dL (l : List (Int × Int)) : List (PyData × PyData) := l.map fun p => (PyData.int p.1, PyData.int p.2)
def dV (l : List (Int × Int)) : List (Key × V) := l.map fun p => (Sum.inl p.1, V.int p.2)
theorem dL_inj : ∀ {a b : List (Int × Int)}, dL a = dL b → a = b
  | [], [], _ => rfl
  | [], _ :: _, h => by simp [dL] at h
  | _ :: _, [], h => by simp [dL] at h
  | (x, y) :: a, (z, u) :: b, h => by
    have h' : (PyData.int x, PyData.int y) :: dL a = (PyData.int z, PyData.int u) :: dL b := h
    injection h' with h1 h2
    injection h1 with h3 h4
    injection h3 with h3
    injection h4 with h4
    rw [h3, h4, dL_inj h2]
abbrev DRep (kvs : List (PyData × PyData)) (ks : List (Key × V)) : Prop := ∃ l : List (Int × Int), kvs = dL l ∧ ks = dV l

mutual
def Rep (K : PySem.W.Frag) (H : Hp) : PyData → V → Prop
  | .none, v => v = .non
  | .bool b, v => v = .bl b
  | .int i, v => v = .int i
  | .str x, v => v = .str x
  | .tuple xs, v => ∃ a vs, v = .ref a ∧ H a = some (.tup vs) ∧ RepL K H xs vs
  | .list xs, v => ∃ a vs, v = .ref a ∧ SqL K H a vs ∧ RepL K H xs vs
  | .dict kvs, v => ∃ a ks, v = .ref a ∧ Rd H a (.dK ks) ∧ DRep kvs ks
def RepL (K : PySem.W.Frag) (H : Hp) : List PyData → List V → Prop
  | [], vs => vs = []
  | x :: xs, vs => ∃ v r, vs = v :: r ∧ Rep K H x v ∧ RepL K H xs r
end

section
variable {K : PySem.W.Frag} {H H' Hf Hf' : Hp}
theorem Rd.same {a : Addr} {u : HO} (s : Same H H') (h : Rd H a u) : Rd H' a u := by
  rcases h with h | ⟨o, h⟩
  · exact .inl (s _ _ h)
  · exact .inr ⟨o, s _ _ h⟩
mutual
theorem Rep.mono (s : Same H H') : ∀ (d : PyData) (v : V), Rep K H d v → Rep K H' d v
  | .none, v, h => by unfold Rep at h ⊢; exact h
  | .bool b, v, h => by unfold Rep at h ⊢; exact h
  | .int i, v, h => by unfold Rep at h ⊢; exact h
  | .str x, v, h => by unfold Rep at h ⊢; exact h
  | .tuple xs, v, h => by
    unfold Rep at h ⊢
    obtain ⟨a, vs, e, h1, h2⟩ := h
    exact ⟨a, vs, e, s _ _ h1, RepL.mono s xs vs h2⟩
  | .list xs, v, h => by
    unfold Rep at h ⊢
    obtain ⟨a, vs, e, h1, h2⟩ := h
    exact ⟨a, vs, e, s.seq h1, RepL.mono s xs vs h2⟩
  | .dict kvs, v, h => by
    unfold Rep at h ⊢
    obtain ⟨a, ks, e, h1, h2⟩ := h
    exact ⟨a, ks, e, Rd.same s h1, h2⟩
theorem RepL.mono (s : Same H H') : ∀ (ds : List PyData) (vs : List V), RepL K H ds vs → RepL K H' ds vs
  | [], vs, h => by unfold RepL at h ⊢; exact h
  | x :: xs, vs, h => by
    unfold RepL at h ⊢
    obtain ⟨v, r, e, h1, h2⟩ := h
    exact ⟨v, r, e, Rep.mono s x v h1, RepL.mono s xs r h2⟩
end
theorem RepL.length : ∀ {ds : List PyData} {vs : List V}, RepL K H ds vs → ds.length = vs.length
  | [], vs, h => by unfold RepL at h; subst h; rfl
  | x :: xs, vs, h => by
    unfold RepL at h
    obtain ⟨v, r, rfl, h1, h2⟩ := h
    rw [List.length_cons, List.length_cons, RepL.length h2]
theorem RepL.nil : RepL K H [] [] := by unfold RepL; rfl
theorem RepL.cons {d : PyData} {ds : List PyData} {v : V} {vs : List V} (h : Rep K H d v) (h' : RepL K H ds vs) : RepL K H (d :: ds) (v :: vs) := by
  unfold RepL
  exact ⟨v, vs, rfl, h, h'⟩
theorem RepL.get : ∀ {ds : List PyData} {vs : List V} {i : Nat} {d : PyData}, RepL K H ds vs → ds[i]? = some d → ∃ v, vs[i]? = some v ∧ Rep K H d v
  | [], vs, i, d, h, e => by simp at e
  | x :: xs, vs, 0, d, h, e => by
    unfold RepL at h
    obtain ⟨v, r, rfl, h1, h2⟩ := h
    simp at e
    subst e
    exact ⟨v, rfl, h1⟩
  | x :: xs, vs, i + 1, d, h, e => by
    unfold RepL at h
    obtain ⟨v, r, rfl, h1, h2⟩ := h
    obtain ⟨w, e1, e2⟩ := RepL.get (i := i) (d := d) h2 (by simpa using e)
    exact ⟨w, by simpa using e1, e2⟩
theorem RepL.get' : ∀ {ds : List PyData} {vs : List V} {i : Nat} {v : V}, RepL K H ds vs → vs[i]? = some v → ∃ d, ds[i]? = some d ∧ Rep K H d v
  | [], vs, i, d, h, e => by unfold RepL at h; subst h; simp at e
  | x :: xs, vs, 0, d, h, e => by
    unfold RepL at h
    obtain ⟨v, r, rfl, h1, h2⟩ := h
    simp at e
    subst e
    exact ⟨x, rfl, h1⟩
  | x :: xs, vs, i + 1, d, h, e => by
    unfold RepL at h
    obtain ⟨v, r, rfl, h1, h2⟩ := h
    obtain ⟨w, e1, e2⟩ := RepL.get' (i := i) h2 (by simpa using e)
    exact ⟨w, by simpa using e1, e2⟩
theorem RepL.append : ∀ {ds es : List PyData} {vs ws : List V}, RepL K H ds vs → RepL K H es ws → RepL K H (ds ++ es) (vs ++ ws)
  | [], es, vs, ws, h, h' => by unfold RepL at h; subst h; exact h'
  | x :: xs, es, vs, ws, h, h' => by
    unfold RepL at h
    obtain ⟨v, r, rfl, h1, h2⟩ := h
    exact RepL.cons h1 (RepL.append h2 h')
theorem RepL.take : ∀ {ds : List PyData} {vs : List V} (n : Nat), RepL K H ds vs → RepL K H (ds.take n) (vs.take n)
  | _, _, 0, _ => RepL.nil
  | [], vs, n + 1, h => by unfold RepL at h; subst h; exact RepL.nil
  | x :: xs, vs, n + 1, h => by
    unfold RepL at h
    obtain ⟨v, r, rfl, h1, h2⟩ := h
    exact RepL.cons h1 (RepL.take n h2)
theorem RepL.drop : ∀ {ds : List PyData} {vs : List V} (n : Nat), RepL K H ds vs → RepL K H (ds.drop n) (vs.drop n)
  | _, _, 0, h => h
  | [], vs, n + 1, h => by unfold RepL at h; subst h; exact RepL.nil
  | x :: xs, vs, n + 1, h => by
    unfold RepL at h
    obtain ⟨v, r, rfl, h1, h2⟩ := h
    exact RepL.drop n h2
theorem RepL.set {d : PyData} {v : V} (hd : Rep K H d v) : ∀ {ds : List PyData} {vs : List V} (n : Nat), RepL K H ds vs → RepL K H (ds.set n d) (vs.set n v)
  | [], vs, n, h => by unfold RepL at h; subst h; exact RepL.nil
  | x :: xs, vs, 0, h => by
    unfold RepL at h
    obtain ⟨v, r, rfl, h1, h2⟩ := h
    exact RepL.cons hd h2
  | x :: xs, vs, n + 1, h => by
    unfold RepL at h
    obtain ⟨v, r, rfl, h1, h2⟩ := h
    exact RepL.cons h1 (RepL.set hd n h2)
theorem RepL.rev : ∀ {ds : List PyData} {vs : List V}, RepL K H ds vs → RepL K H ds.reverse vs.reverse
  | [], vs, h => by unfold RepL at h; subst h; exact RepL.nil
  | x :: xs, vs, h => by
    unfold RepL at h
    obtain ⟨v, r, rfl, h1, h2⟩ := h
    rw [List.reverse_cons, List.reverse_cons]
    exact RepL.append (RepL.rev h2) (RepL.cons h1 RepL.nil)
theorem RepL.rep : ∀ {ds : List PyData} {vs : List V} (n : Nat), RepL K H ds vs → RepL K H (List.replicate n ds).flatten (List.replicate n vs).flatten
  | ds, vs, 0, h => RepL.nil
  | ds, vs, n + 1, h => by
    rw [List.replicate_succ, List.replicate_succ, List.flatten_cons, List.flatten_cons]
    exact RepL.append h (RepL.rep n h)
/-- data that is no object of its own -/
def flat : PyData → Bool
  | .none => true
  | .bool _ => true
  | .int _ => true
  | .str _ => true
  | _ => false
theorem Rep.flat {d : PyData} {v : V} (f : flat d = true) (h : Rep K H d v) : Rep K H' d v := by
  cases d <;> first
    | (unfold Rep at h ⊢; exact h)
    | (exact absurd f (by simp [CF.flat]))
mutual
theorem Rep.dp : ∀ (d : PyData) (v : V), d.canLay0 = true → Rep K H d v → Dp K H v d
  | .none, v, _, h => by unfold Rep at h; subst h; exact .non
  | .bool b, v, _, h => by unfold Rep at h; subst h; exact .bl b
  | .int i, v, _, h => by unfold Rep at h; subst h; exact .int i
  | .str x, v, _, h => by unfold Rep at h; subst h; exact .str x
  | .tuple xs, v, c, h => by
    unfold Rep at h
    obtain ⟨a, vs, rfl, h1, h2⟩ := h
    exact .tup (SqT.of h1) (RepL.dp xs vs (by simpa [PyData.canLay0] using c) h2)
  | .list xs, v, c, h => by
    unfold Rep at h
    obtain ⟨a, vs, rfl, h1, h2⟩ := h
    exact .lst h1 (RepL.dp xs vs (by simpa [PyData.canLay0] using c) h2)
  | .dict kvs, v, c, h => by simp [PyData.canLay0] at c
theorem RepL.dp : ∀ (ds : List PyData) (vs : List V), PyData.canLayAll0 ds = true → RepL K H ds vs → DpAll K H vs ds
  | [], vs, _, h => by unfold RepL at h; subst h; exact .nil
  | x :: xs, vs, c, h => by
    unfold RepL at h
    obtain ⟨v, r, rfl, h1, h2⟩ := h
    have c' : x.canLay0 = true ∧ PyData.canLayAll0 xs = true := by simpa [PyData.canLayAll0] using c
    exact .cons (Rep.dp x v c'.1 h1) (RepL.dp xs r c'.2 h2)
end
theorem Rep.shp {d : PyData} {v : V} (s : SeqAt.shaped d = true) (h : Rep K H d v) : Dp K H v d := Rep.dp d v (SeqAt.canLay_of_shaped s) h

/-! ### heaps that grow: Hf what is frozen within H -/
structure Ext (Hf H Hf' H' : Hp) : Prop where
  a : Same H H'
  b : Same Hf Hf'
  c : Same Hf' H'
  d : ∀ p, H p ≠ none → Hf' p = Hf p
theorem Ext.refl (h : Same Hf H) : Ext Hf H Hf H := ⟨Same.refl _, Same.refl _, h, fun _ _ => rfl⟩
theorem Ext.trans {H1 H1f H2 H2f : Hp} (x : Ext Hf H H1f H1) (y : Ext H1f H1 H2f H2) : Ext Hf H H2f H2 :=
  ⟨x.a.trans y.a, x.b.trans y.b, y.c, fun p h => by
    rw [← x.d p h]
    refine y.d p fun z => ?_
    cases q : H p with
    | none => exact h q
    | some o => rw [x.a _ _ q] at z; cases z⟩
theorem same_new {p : Addr} {o : HO} (h : H p = none) : Same H (upd H p o) := fun b u e => by
  rw [upd_ne (ne_of_none e h)]
  exact e
theorem Ext.new {p : Addr} {o : HO} (s : Same Hf H) (h : H p = none) : Ext Hf H (upd Hf p o) (upd H p o) := by
  have hf : Hf p = none := s.free h
  refine ⟨same_new h, same_new hf, fun b u e => ?_, fun q hq => ?_⟩
  · by_cases hb : b = p
    · subst hb
      rw [upd_same] at e ⊢
      exact e
    · rw [upd_ne hb] at e ⊢
      exact s _ _ e
  · rw [upd_ne]
    rintro rfl
    exact hq h
/-- the new object is not frozen -/
theorem Ext.newO {p : Addr} {o : HO} (s : Same Hf H) (h : H p = none) : Ext Hf H Hf (upd H p o) :=
  ⟨same_new h, Same.refl _, s.trans (same_new h), fun _ _ => rfl⟩
theorem Ext.frozen {Hf H Hf' H' : Hp} (x : Ext Hf H Hf' H') {p : Addr} {o : HO} (h : H p = some o) (hf : Hf p = none) : Hf' p = none := by
  rw [x.d p (by rw [h]; exact fun z => nomatch z)]
  exact hf

/-- a list (a dict) of the body's own, not frozen -/
def ORep (K : PySem.W.Frag) (Hf H : Hp) : PyData → V → Prop
  | .list xs, v => ∃ p vs, v = .ref p ∧ Hf p = none ∧ H p = some (.lst vs) ∧ RepL K Hf xs vs
  | .dict kvs, v => ∃ p ks, v = .ref p ∧ Hf p = none ∧ H p = some (.dK ks) ∧ DRep kvs ks
  | _, _ => False
theorem ORep.ext {d : PyData} {v : V} (x : Ext Hf H Hf' H') (h : ORep K Hf H d v) : ORep K Hf' H' d v := by
  cases d with
  | list xs =>
    obtain ⟨p, vs, rfl, h1, h2, h3⟩ := h
    exact ⟨p, vs, rfl, x.frozen h2 h1, x.a _ _ h2, RepL.mono x.b _ _ h3⟩
  | dict kvs =>
    obtain ⟨p, vs, rfl, h1, h2, h3⟩ := h
    exact ⟨p, vs, rfl, x.frozen h2 h1, x.a _ _ h2, h3⟩
  | _ => exact h.elim
theorem ORep.ref {d : PyData} {v : V} (h : ORep K Hf H d v) : ∃ p o, v = .ref p ∧ Hf p = none ∧ H p = some o := by
  cases d with
  | list xs =>
    obtain ⟨p, vs, rfl, h1, h2, h3⟩ := h
    exact ⟨p, _, rfl, h1, h2⟩
  | dict kvs =>
    obtain ⟨p, vs, rfl, h1, h2, h3⟩ := h
    exact ⟨p, _, rfl, h1, h2⟩
  | _ => exact h.elim
/-- freezing one address -/
theorem Same.frz {p : Addr} {o : HO} (s : Same Hf H) (hf : Hf p = none) (h : H p = some o) : Same Hf (upd Hf p o) ∧ Same (upd Hf p o) H :=
  ⟨same_new hf, fun b u e => by
    by_cases hb : b = p
    · subst hb
      rw [upd_same] at e
      cases e
      exact h
    · rw [upd_ne hb] at e
      exact s _ _ e⟩
theorem ORep.freeze {d : PyData} {p : Addr} {o : HO} (h : ORep K Hf H d (.ref p)) (e : H p = some o) : Rep K (upd Hf p o) d (.ref p) := by
  cases d with
  | list xs =>
    obtain ⟨q, vs, eq, h1, h2, h3⟩ := h
    cases eq
    rw [e] at h2
    cases h2
    unfold Rep
    exact ⟨p, vs, rfl, SqL.of upd_same, RepL.mono (same_new h1) _ _ h3⟩
  | dict kvs =>
    obtain ⟨q, vs, eq, h1, h2, h3⟩ := h
    cases eq
    rw [e] at h2
    cases h2
    unfold Rep
    exact ⟨p, vs, rfl, .inl upd_same, h3⟩
  | _ => exact h.elim
theorem ORep.full {d : PyData} {v : V} (s : Same Hf H) (h : ORep K Hf H d v) : Rep K H d v := by
  obtain ⟨p, o, rfl, h1, h2⟩ := h.ref
  exact Rep.mono (Same.frz s h1 h2).2 _ _ (h.freeze h2)
/-- what may be looked at -/
def PRep (K : PySem.W.Frag) (Hf H : Hp) (d : PyData) (v : V) : Prop := Rep K Hf d v ∨ ORep K Hf H d v
theorem PRep.ext {d : PyData} {v : V} (x : Ext Hf H Hf' H') (h : PRep K Hf H d v) : PRep K Hf' H' d v := h.elim (fun h => .inl (Rep.mono x.b _ _ h)) fun h => .inr (h.ext x)
theorem PRep.full {d : PyData} {v : V} (s : Same Hf H) (h : PRep K Hf H d v) : Rep K H d v := h.elim (fun h => Rep.mono s _ _ h) fun h => h.full s
theorem PRep.list {xs : List PyData} {v : V} (s : Same Hf H) (h : PRep K Hf H (.list xs) v) : ∃ a vs, v = .ref a ∧ SqL K H a vs ∧ RepL K Hf xs vs := by
  rcases h with h | h
  · unfold Rep at h
    obtain ⟨a, vs, e, h1, h2⟩ := h
    exact ⟨a, vs, e, s.seq h1, h2⟩
  · obtain ⟨p, vs, e, h1, h2, h3⟩ := h
    exact ⟨p, vs, e, SqL.of h2, h3⟩
theorem PRep.tuple {xs : List PyData} {v : V} (s : Same Hf H) (h : PRep K Hf H (.tuple xs) v) : ∃ a vs, v = .ref a ∧ H a = some (.tup vs) ∧ RepL K Hf xs vs := by
  rcases h with h | h
  · unfold Rep at h
    obtain ⟨a, vs, e, h1, h2⟩ := h
    exact ⟨a, vs, e, s _ _ h1, h2⟩
  · exact h.elim
theorem PRep.int {i : Int} {v : V} (h : PRep K Hf H (.int i) v) : v = .int i := by
  rcases h with h | h
  · unfold Rep at h; exact h
  · exact h.elim
theorem PRep.bool {i : Bool} {v : V} (h : PRep K Hf H (.bool i) v) : v = .bl i := by
  rcases h with h | h
  · unfold Rep at h; exact h
  · exact h.elim
theorem PRep.str {i : Str} {v : V} (h : PRep K Hf H (.str i) v) : v = .str i := by
  rcases h with h | h
  · unfold Rep at h; exact h
  · exact h.elim
theorem PRep.none {v : V} (h : PRep K Hf H .none v) : v = .non := by
  rcases h with h | h
  · unfold Rep at h; exact h
  · exact h.elim
theorem rep_int {i : Int} : Rep K H (.int i) (.int i) := by unfold Rep; rfl
theorem rep_bool {i : Bool} : Rep K H (.bool i) (.bl i) := by unfold Rep; rfl
theorem rep_str {i : Str} : Rep K H (.str i) (.str i) := by unfold Rep; rfl
theorem rep_none : Rep K H .none .non := by unfold Rep; rfl
theorem rep_newL {p : Addr} {xs : List PyData} {vs : List V} (h : Hf p = Option.none) (r : RepL K Hf xs vs) : Rep K (upd Hf p (.lst vs)) (.list xs) (.ref p) := by
  unfold Rep
  exact ⟨p, vs, rfl, SqL.of upd_same, RepL.mono (same_new h) _ _ r⟩
theorem rep_newT {p : Addr} {xs : List PyData} {vs : List V} (h : Hf p = Option.none) (r : RepL K Hf xs vs) : Rep K (upd Hf p (.tup vs)) (.tuple xs) (.ref p) := by
  unfold Rep
  exact ⟨p, vs, rfl, upd_same, RepL.mono (same_new h) _ _ r⟩
theorem RepL.ints : ∀ {ns : List Int} {vs : List V}, RepL K H (ns.map PyData.int) vs → vs = ns.map V.int
  | [], vs, h => by unfold RepL at h; exact h
  | n :: ns, vs, h => by
    unfold RepL at h
    obtain ⟨v, r, rfl, h1, h2⟩ := h
    unfold Rep at h1
    subst h1
    rw [RepL.ints h2]
    rfl
theorem repL_ints : ∀ (ns : List Int), RepL K H (ns.map PyData.int) (ns.map V.int)
  | [] => RepL.nil
  | n :: ns => RepL.cons rep_int (repL_ints ns)
theorem RepL.bools : ∀ {ns : List Bool} {vs : List V}, RepL K H (ns.map PyData.bool) vs → vs = ns.map V.bl
  | [], vs, h => by unfold RepL at h; exact h
  | n :: ns, vs, h => by
    unfold RepL at h
    obtain ⟨v, r, rfl, h1, h2⟩ := h
    unfold Rep at h1
    subst h1
    rw [RepL.bools h2]
    rfl
end

/-! ### the body's slots -/
inductive Sl where
  | un | val (d : PyData) | own (d : PyData) | lck (d : PyData) | kyd (l : List (Int × Int))
def Sl.isO : Sl → Bool
  | .own _ => true
  | .lck _ => true
  | _ => false
abbrev Ev := List Sl
def Ev.get (r : Ev) (i : Nat) : Sl := r.getD i .un
def SlRep (K : PySem.W.Frag) (B Hf H : Hp) : Sl → Option (Option V) → Prop
  | .un, _ => True
  | .val d, s => ∃ v, s = some (some v) ∧ Rep K Hf d v
  | .own d, s => ∃ p, s = some (some (.ref p)) ∧ ORep K Hf H d (.ref p) ∧ B p = none
  | .lck d, s => ∃ p, s = some (some (.ref p)) ∧ ORep K Hf H d (.ref p) ∧ B p = none
  | .kyd l, s => ∃ p o, s = some (some (.ref p)) ∧ Hf p = some (.frz o (.dK (dV l)))
structure StR (K : PySem.W.Frag) (n : Nat) (Bf B Hf H : Hp) (r : Ev) (s : L2.St) : Prop where
  ln : r.length = n
  len : r.length = s.length
  sl : ∀ i, SlRep K B Hf H (r.get i) s[i]?
  sep : ∀ i j p, i ≠ j → (r.get i).isO = true → (r.get j).isO = true → s[i]? = some (some (.ref p)) → s[j]? = some (some (.ref p)) → False
  e : Ext Bf B Hf H
section
variable {K : PySem.W.Frag} {n : Nat} {Bf B H H' Hf Hf' : Hp} {r : Ev} {s : L2.St}
theorem SlRep.ext {x : Sl} {o : Option (Option V)} (z : Ext Hf H Hf' H') (h : SlRep K B Hf H x o) : SlRep K B Hf' H' x o := by
  cases x with
  | un => exact trivial
  | val d =>
    obtain ⟨v, e, h⟩ := h
    exact ⟨v, e, Rep.mono z.b _ _ h⟩
  | own d =>
    obtain ⟨v, e, h, h'⟩ := h
    exact ⟨v, e, h.ext z, h'⟩
  | lck d =>
    obtain ⟨v, e, h, h'⟩ := h
    exact ⟨v, e, h.ext z, h'⟩
  | kyd l =>
    obtain ⟨p, o, e, h⟩ := h
    exact ⟨p, o, e, z.b _ _ h⟩
theorem StR.ext (R : StR K n Bf B Hf H r s) (z : Ext Hf H Hf' H') : StR K n Bf B Hf' H' r s :=
  ⟨R.ln, R.len, fun i => (R.sl i).ext z, R.sep, R.e.trans z⟩
theorem Ev.get_set_same {i : Nat} {x : Sl} (h : i < r.length) : (Ev.get (r.set i x) i) = x := by
  unfold Ev.get
  rw [List.getD_eq_getElem?_getD, List.getElem?_set_self h]
  rfl
theorem Ev.get_set_ne {i j : Nat} {x : Sl} (h : i ≠ j) : (Ev.get (r.set i x) j) = r.get j := by
  unfold Ev.get
  rw [List.getD_eq_getElem?_getD, List.getElem?_set_ne h, ← List.getD_eq_getElem?_getD]
theorem Ev.get_out {i : Nat} (h : r.length ≤ i) : r.get i = .un := by
  unfold Ev.get
  rw [List.getD_eq_getElem?_getD, List.getElem?_eq_none h]
  rfl
/-- a slot that holds nothing of one's own takes frozen data -/
theorem StR.setV {i : Nat} {d : PyData} {v : V} (R : StR K n Bf B Hf H r s) (h : Rep K Hf d v) (hi : i < n) : StR K n Bf B Hf H (r.set i (.val d)) (s.set i (some v)) := by
  have hi : i < r.length := by rw [R.ln]; exact hi
  refine ⟨by rw [List.length_set]; exact R.ln, by rw [List.length_set, List.length_set]; exact R.len, fun j => ?_, fun j k p hjk h1 h2 e1 e2 => ?_, R.e⟩
  · by_cases hj : i = j
    · subst hj
      rw [Ev.get_set_same hi, List.getElem?_set_self (by rw [← R.len]; exact hi)]
      exact ⟨v, rfl, h⟩
    · rw [Ev.get_set_ne hj, List.getElem?_set_ne hj]
      exact R.sl j
  · have nj : i ≠ j := fun z => by
      subst z
      rw [Ev.get_set_same hi] at h1
      cases h1
    have nk : i ≠ k := fun z => by
      subst z
      rw [Ev.get_set_same hi] at h2
      cases h2
    rw [Ev.get_set_ne nj] at h1
    rw [Ev.get_set_ne nk] at h2
    rw [List.getElem?_set_ne nj] at e1
    rw [List.getElem?_set_ne nk] at e2
    exact R.sep j k p hjk h1 h2 e1 e2
/-- a slot takes a list of one's own, at an address that no other slot of one's own holds -/
theorem StR.setO {i : Nat} {x : Sl} {d : PyData} {p : Addr} (R : StR K n Bf B Hf H r s) (hx : x = .own d ∨ x = .lck d) (h : ORep K Hf H d (.ref p)) (hb : B p = none) (hi : i < n)
    (hn : ∀ j, j ≠ i → (r.get j).isO = true → s[j]? ≠ some (some (.ref p))) : StR K n Bf B Hf H (r.set i x) (s.set i (some (.ref p))) := by
  have hi : i < r.length := by rw [R.ln]; exact hi
  have hs : (s.set i (some (.ref p)))[i]? = some (some (.ref p)) := List.getElem?_set_self (by rw [← R.len]; exact hi)
  refine ⟨by rw [List.length_set]; exact R.ln, by rw [List.length_set, List.length_set]; exact R.len, fun j => ?_, fun j k q hjk h1 h2 e1 e2 => ?_, R.e⟩
  · by_cases hj : i = j
    · subst hj
      rw [Ev.get_set_same hi, hs]
      rcases hx with rfl | rfl
      · exact ⟨p, rfl, h, hb⟩
      · exact ⟨p, rfl, h, hb⟩
    · rw [Ev.get_set_ne hj, List.getElem?_set_ne hj]
      exact R.sl j
  · by_cases nj : i = j
    · subst nj
      have nk : i ≠ k := hjk
      rw [hs] at e1
      cases e1
      rw [Ev.get_set_ne nk] at h2
      rw [List.getElem?_set_ne nk] at e2
      exact hn k (Ne.symm nk) h2 e2
    · by_cases nk : i = k
      · subst nk
        rw [hs] at e2
        cases e2
        rw [Ev.get_set_ne nj] at h1
        rw [List.getElem?_set_ne nj] at e1
        exact hn j (Ne.symm nj) h1 e1
      · rw [Ev.get_set_ne nj] at h1
        rw [Ev.get_set_ne nk] at h2
        rw [List.getElem?_set_ne nj] at e1
        rw [List.getElem?_set_ne nk] at e2
        exact R.sep j k q hjk h1 h2 e1 e2
end
end CF
namespace CF
open PySem PySem.Spec PyProof.Rows L2

/-! ### the small language -/
inductive Bf where
  | len | max2 | min2 | maxL | minL | sum | all | list1 | tuple1 | int1 | str1 | sortI | sortP
inductive Ty where
  | int | bool | str | list | tuple
def Ty.nm : Ty → String
  | .int => "int" | .bool => "bool" | .str => "str" | .list => "list" | .tuple => "tuple"
inductive Tg where
  | one (i : Nat) | many (is : List Nat)
def Tg.slots : Tg → List Nat
  | .one i => [i]
  | .many is => is
mutual
inductive IE where
  | var (i : Nat) | kint (i : Int) | kstr (x : Str) | kbool (b : Bool) | knone
  | gint (x : Str) (i : Int)
  | bin (op : Operator) (a b : IE)
  | neg (a : IE) | no (a : IE)
  | cmp (op : CmpOp) (a b : IE)
  | chain (o1 o2 : CmpOp) (a b c : IE)
  | bop (op : BoolOp) (es : IEs)
  | call (f : Nat) (es : IEs)
  | blt (f : Bf) (es : IEs)
  | isi (a : IE) (t : Ty)
  | tup (es : IEs) | lst (es : IEs)
  | ix (a i : IE)
  | kix (j : Nat) (e : IE)
  | dic0
  | sl (a : IE) (lo hi : IEs)
  | rev (a : IE)
  | comp (elt : IE) (tg : Tg) (it : IIt) (ifs : IEs)
  | lrng (es : IEs)
  | sset (a : IE)
  | lset (a : IE)
  | index (a x : IE)
inductive IEs where
  | nil | cons (e : IE) (es : IEs)
inductive IIt where
  | seq (e : IE) | rng (es : IEs) | keys (j : Nat)
end
mutual
inductive IS where
  | skip | brk | cont
  | set (i : Nat) (e : IE)
  | setO (i : Nat) (e : IE)
  | setT (is : List Nat) (e : IE)
  | par2 (i j : Nat) (a b : IE)
  | setI (i : Nat) (k e : IE)
  | app (i : Nat) (e : IE)
  | dput (i : Nat) (k e : IE)
  | rse
  | ins (i : Nat) (k e : IE)
  | drop (e : IE)
  | ife (c : IE) (a b : ISs)
  | fors (tg : Tg) (it : IIt) (b : ISs)
  | whl (c : IE) (b : ISs)
  | ret (e : IE)
  | retO (e : IE)
  | retN
inductive ISs where
  | nil | cons (s : IS) (ss : ISs)
  | fgt (is : List Nat) (ss : ISs)
end
def IEs.len : IEs → Nat
  | .nil => 0
  | .cons _ es => es.len + 1

/-! ### what it means, over plain data -/
/-- a function's promise over plain data -/
abbrev Pm := List PyData → (PyData → Prop) → Prop
/-- to look at a value (a list of one's own may be looked at, not handed on) -/
def pk (a : IE) (r : Ev) (w : (PyData → Prop) → Prop) (Q : PyData → Prop) : Prop :=
  match a with
  | .var i => (match r.get i with | .val d => Q d | .own d => Q d | .lck d => Q d | _ => False)
  | _ => w Q
def tr (Q : Bool → Prop) (d : PyData) : Prop := ∃ b, d = .bool b ∧ Q b
def Ev.free (r : Ev) (i : Nat) : Bool := match r.get i with | .lck _ => false | _ => true
def Ev.freeAll (r : Ev) (is : List Nat) : Bool := is.all fun i => r.free i
def setAll (r : Ev) : List Nat → List PyData → Ev
  | i :: is, d :: ds => setAll (r.set i (.val d)) is ds
  | _, _ => r
def bindT (tg : Tg) (d : PyData) (r : Ev) (Q : Ev → Prop) : Prop := match tg with
  | .one i => r.free i = true ∧ Q (r.set i (.val d))
  | .many is => r.freeAll is = true ∧ ∃ ds, d = .tuple ds ∧ ds.length = is.length ∧ Q (setAll r is ds)
def wipeE (r : Ev) : List Nat → Ev
  | [] => r
  | i :: is => (wipeE r is).set i .un
def isOwnE (a : IE) (r : Ev) : Bool := match a with
  | .var i => (r.get i).isO
  | _ => false
def noOwn : IEs → Ev → Bool
  | .nil, _ => true
  | .cons e es, r => !isOwnE e r && noOwn es r
def IEs.fine (es : IEs) (r : Ev) : Bool := noOwn es r && decide (es.len ≤ 1000)

def binP (op : Operator) (x y : PyData) (Q : PyData → Prop) : Prop := match op, x, y with
  | .Add, .int i, .int j => Q (.int (i + j))
  | .Add, .str a, .str b => a.length + b.length ≤ 1000000 ∧ Q (.str (a ++ b))
  | .Add, .list a, .list b => a.length + b.length ≤ 1000000 ∧ Q (.list (a ++ b))
  | .Add, .tuple a, .tuple b => a.length + b.length ≤ 1000000 ∧ Q (.tuple (a ++ b))
  | .Sub, .int i, .int j => Q (.int (i - j))
  | .Mult, .int i, .int j => CMul i j ∧ Q (.int (i * j))
  | .Mult, .tuple a, .int k => a ≠ [] ∧ 2 ≤ k ∧ k ≤ 1000 ∧ a.length ≤ 1000 ∧ Q (.tuple (List.replicate k.toNat a).flatten)
  | .FloorDiv, .int i, .int j => CDiv i j ∧ Q (.int (i / j))
  | .Mod, .int i, .int j => 0 < j ∧ Q (.int (i % j))
  | .Pow, .int i, .int j => CPow i j ∧ Q (.int (i ^ j.toNat))
  | _, _, _ => False
def isNoneD (d : PyData) : Bool := match d with | .none => true | _ => false
def cmpP (op : CmpOp) (x y : PyData) (Q : Bool → Prop) : Prop := match op, x, y with
  | .Lt, .int i, .int j => Q (decide (i < j))
  | .LtE, .int i, .int j => Q (decide (i ≤ j))
  | .Gt, .int i, .int j => Q (decide (j < i))
  | .GtE, .int i, .int j => Q (decide (j ≤ i))
  | .Eq, a, b => SeqAt.shaped a = true ∧ SeqAt.shaped b = true ∧ Q (PyData.eqv a b)
  | .NotEq, a, b => SeqAt.shaped a = true ∧ SeqAt.shaped b = true ∧ Q (!PyData.eqv a b)
  | .Is, a, .none => Q (isNoneD a)
  | .IsNot, a, .none => Q (!isNoneD a)
  | .Is, .bool a, .bool b => Q (decide (a = b))
  | .IsNot, .bool a, .bool b => Q (!decide (a = b))
  | .In, a, .list ys => SeqAt.shaped a = true ∧ SeqAt.shaped (.list ys) = true ∧ Q (ys.any fun z => PyData.eqv z a)
  | .NotIn, a, .list ys => SeqAt.shaped a = true ∧ SeqAt.shaped (.list ys) = true ∧ Q (!ys.any fun z => PyData.eqv z a)
  | .In, a, .tuple ys => SeqAt.shaped a = true ∧ SeqAt.shaped (.tuple ys) = true ∧ Q (ys.any fun z => PyData.eqv z a)
  | .NotIn, a, .tuple ys => SeqAt.shaped a = true ∧ SeqAt.shaped (.tuple ys) = true ∧ Q (!ys.any fun z => PyData.eqv z a)
  | _, _, _ => False
def ixP (x y : PyData) (Q : PyData → Prop) : Prop := match x, y with
  | .list xs, .int i => ∃ d, atI xs i = some d ∧ Q d
  | .tuple xs, .int i => ∃ d, atI xs i = some d ∧ Q d
  | _, _ => False
def cutP (xs : List PyData) (lo hi : Option Int) : List PyData := (xs.drop (HT.sIx xs.length 0 lo)).take (HT.sIx xs.length xs.length hi - HT.sIx xs.length 0 lo)
def slP (x : PyData) (lo hi : Option Int) (Q : PyData → Prop) : Prop := match x with
  | .list xs => Q (.list (cutP xs lo hi))
  | .tuple xs => Q (.tuple (cutP xs lo hi))
  | _ => False
def ltD : PyData → PyData → Prop
  | .tuple [.int a, .int b], .tuple [.int c, .int d] => a < c ∨ (a = c ∧ b ≤ d)
  | _, _ => False
def bltP (f : Bf) (ds : List PyData) (Q : PyData → Prop) : Prop := match f, ds with
  | .len, [.list xs] => Q (.int xs.length)
  | .len, [.tuple xs] => Q (.int xs.length)
  | .max2, [.int i, .int j] => Q (.int (max i j))
  | .min2, [.int i, .int j] => Q (.int (min i j))
  | .maxL, [.list xs] => ∃ ns : List Int, xs = ns.map PyData.int ∧ 0 < ns.length ∧ ∀ m, m ∈ ns → (∀ y, y ∈ ns → y ≤ m) → Q (.int m)
  | .minL, [.list xs] => ∃ ns : List Int, xs = ns.map PyData.int ∧ 0 < ns.length ∧ ∀ m, m ∈ ns → (∀ y, y ∈ ns → m ≤ y) → Q (.int m)
  | .sum, [.list xs] => ∃ ns : List Int, xs = ns.map PyData.int ∧ Q (.int ns.sum)
  | .all, [.list xs] => ∃ bs : List Bool, xs = bs.map PyData.bool ∧ Q (.bool (bs.all id))
  | .list1, [.list xs] => Q (.list xs)
  | .list1, [.tuple xs] => Q (.list xs)
  | .tuple1, [.list xs] => Q (.tuple xs)
  | .tuple1, [.tuple xs] => Q (.tuple xs)
  | .int1, [.int i] => Q (.int i)
  | .int1, [.bool b] => Q (.int (if b then 1 else 0))
  | .str1, [.int i] => i.natAbs.log2 < 1920 ∧ Q (.str (toString i))
  | .sortI, [.list xs] => ∃ ns : List Int, xs = ns.map PyData.int ∧ ns.length < 64 ∧ ∀ ns' : List Int, ns'.Perm ns → ns'.Pairwise (· ≤ ·) → Q (.list (ns'.map PyData.int))
  | .sortP, [.list xs] => (∀ x ∈ xs, ∃ i j, x = .tuple [.int i, .int j]) ∧ ∀ ys : List PyData, ys.Perm xs → ys.Pairwise ltD → Q (.list ys)
  | _, _ => False
def isT (d : PyData) (t : Ty) : Bool := match d, t with
  | .int _, .int => true
  | .bool _, .int => true
  | .bool _, .bool => true
  | .str _, .str => true
  | .list _, .list => true
  | .tuple _, .tuple => true
  | _, _ => false
def rngP (ds : List PyData) (Q : List PyData → Prop) : Prop := match ds with
  | [.int n] => (-(2 ^ 62) ≤ n ∧ n < 2 ^ 62) ∧ Q ((List.range n.toNat).map fun i => .int (0 + (i : Nat)))
  | [.int a, .int b] => (-(2 ^ 62) ≤ a ∧ a < 2 ^ 62 ∧ -(2 ^ 62) ≤ b ∧ b < 2 ^ 62) ∧ Q ((List.range (b - a).toNat).map fun i => .int (a + (i : Nat)))
  | [.int a, .int b, .int c] => ∃ n, RgC a b c n ∧ Q ((List.range n).map fun i => .int (a + (i : Nat) * c))
  | _ => False
def itP (d : PyData) (Q : List PyData → Prop) : Prop := match d with
  | .list xs => Q xs
  | .tuple xs => Q xs
  | _ => False
def partP (ds : List PyData) (Q : Option Int → Prop) : Prop := match ds with
  | [] => Q none
  | [.int i] => Q (some i)
  | _ => False
def compL (step : PyData → (Option PyData → Prop) → Prop) : List PyData → (List PyData → Prop) → Prop
  | [], Q => Q []
  | x :: xs, Q => step x fun o => compL step xs fun ys => Q (o.toList ++ ys)
def lrngP (d : List PyData) (Q : PyData → Prop) : Prop := match d with
  | [.int b] => (-(2 ^ 62) ≤ b ∧ b ≤ 1000000) ∧ Q (.list ((List.range b.toNat).map fun i => .int (i : Nat)))
  | [.int a, .int b] => (0 ≤ a ∧ a ≤ 1000000 ∧ 0 ≤ b ∧ b ≤ 1000000) ∧ Q (.list ((List.range (b - a).toNat).map fun i => .int (a + (i : Nat))))
  | _ => False

def dgetL (l : List (Int × Int)) (i : Int) : Option Int := (l.find? fun p => decide (p.1 = i)).map (·.2)
def dputL (l : List (Int × Int)) (k v : Int) : List (Int × Int) := if (l.any fun p => decide (p.1 = k)) = true then l.map (fun p => if p.1 = k then (p.1, v) else p) else l ++ [(k, v)]
/-- a slot that holds a dict: one's own, or one that is walked -/
def dictS (s : Sl) (Q : List (Int × Int) → Prop) : Prop := ∃ l, (s = .kyd l ∨ s = .own (.dict (dL l))) ∧ Q l
def revP (x : PyData) (Q : PyData → Prop) : Prop := match x with
  | .list xs => Q (.list xs.reverse)
  | .tuple xs => Q (.tuple xs.reverse)
  | _ => False

mutual
def wpE (G : Nat → Pm) : IE → Ev → (PyData → Prop) → Prop
  | .var i, r, Q => (match r.get i with | .val d => Q d | _ => False)
  | .kint i, _, Q => Q (.int i)
  | .kstr x, _, Q => Q (.str x)
  | .kbool b, _, Q => Q (.bool b)
  | .knone, _, Q => Q .none
  | .gint _ i, _, Q => Q (.int i)
  | .bin op a b, r, Q => pk a r (wpE G a r) fun x => pk b r (wpE G b r) fun y => binP op x y Q
  | .neg a, r, Q => wpE G a r fun x => ∃ i, x = .int i ∧ Q (.int (-i))
  | .no a, r, Q => wpE G a r (tr fun b => Q (.bool (!b)))
  | .cmp op a b, r, Q => pk a r (wpE G a r) fun x => pk b r (wpE G b r) fun y => cmpP op x y fun t => Q (.bool t)
  | .chain o1 o2 a b c, r, Q => wpE G a r fun x => wpE G b r fun y => cmpP o1 x y fun t => if t = true then wpE G c r fun z => cmpP o2 y z fun t => Q (.bool t) else Q (.bool false)
  | .bop op es, r, Q => wpBop G op es r Q
  | .call f es, r, Q => wpEs G es r fun ds => G f ds fun d => (flat d = true ∨ noOwn es r = true) ∧ Q d
  | .blt f es, r, Q => wpEs G es r fun ds => bltP f ds Q
  | .isi a t, r, Q => pk a r (wpE G a r) fun x => Q (.bool (isT x t))
  | .tup es, r, Q => wpEs G es r fun ds => es.fine r = true ∧ Q (.tuple ds)
  | .lst es, r, Q => wpEs G es r fun ds => es.fine r = true ∧ Q (.list ds)
  | .ix a i, r, Q => pk a r (wpE G a r) fun x => wpE G i r fun y => ixP x y Q
  | .dic0, _, Q => Q (.dict (dL []))
  | .kix j e, r, Q => dictS (r.get j) fun l => wpE G e r fun y => ∃ i, y = .int i ∧ ∃ v, dgetL l i = some v ∧ Q (.int v)
  | .sl a lo hi, r, Q => pk a r (wpE G a r) fun x => wpEs G lo r fun l => partP l fun lo => wpEs G hi r fun h => partP h fun hi => slP x lo hi Q
  | .rev a, r, Q => pk a r (wpE G a r) fun x => revP x Q
  | .comp elt tg it ifs, r, Q => wpIt G it r fun items => items.length ≤ 1000000 ∧
      compL (fun x k => bindT tg x (wipeE r tg.slots) fun r1 => wpIfs G ifs r1 fun b => if b = true then wpE G elt r1 fun y => k (some y) else k none) items fun ys => Q (.list ys)
  | .lrng es, r, Q => wpEs G es r fun ds => lrngP ds Q
  | .sset a, r, Q => pk a r (wpE G a r) fun x => ∃ ns : List Int, x = .list (ns.map PyData.int) ∧ ns.length < 64 ∧ ∀ ns' : List Int, ns'.Nodup → (∀ n, n ∈ ns' ↔ n ∈ ns) → ns'.Pairwise (· ≤ ·) → Q (.list (ns'.map PyData.int))
  | .lset a, r, Q => pk a r (wpE G a r) fun x => ∃ ns : List Int, x = .list (ns.map PyData.int) ∧ ns.length < 64 ∧ ns.Nodup ∧ Q (.int ns.length)
  | .index a x, r, Q => pk a r (wpE G a r) fun a => ∃ ys, a = .list ys ∧ wpE G x r fun x => ∃ j z, SeqAt.shaped a = true ∧ SeqAt.shaped x = true ∧ ys[j]? = some z ∧ PyData.eqv z x = true ∧ (∀ (m : Nat) z', m < j → ys[m]? = some z' → PyData.eqv z' x = false) ∧ Q (.int (j : Nat))
def wpEs (G : Nat → Pm) : IEs → Ev → (List PyData → Prop) → Prop
  | .nil, _, Q => Q []
  | .cons e es, r, Q => pk e r (wpE G e r) fun d => wpEs G es r fun ds => Q (d :: ds)
def wpBop (G : Nat → Pm) (op : BoolOp) : IEs → Ev → (PyData → Prop) → Prop
  | .nil, _, Q => False
  | .cons e es, r, Q => (match es with
    | .nil => wpE G e r Q
    | .cons _ _ => wpE G e r (tr fun b => if b = (match op with | .And => true | .Or => false) then wpBop G op es r Q else Q (.bool b)))
def wpIfs (G : Nat → Pm) : IEs → Ev → (Bool → Prop) → Prop
  | .nil, _, Q => Q true
  | .cons e es, r, Q => (match es with
    | .nil => wpE G e r (tr Q)
    | .cons _ _ => False)
def wpIt (G : Nat → Pm) : IIt → Ev → (List PyData → Prop) → Prop
  | .seq e, r, Q => pk e r (wpE G e r) fun d => itP d Q
  | .rng es, r, Q => wpEs G es r fun ds => rngP ds Q
  | .keys j, r, Q => ∃ l, r.get j = .kyd l ∧ Q (l.map fun p => .int p.1)
end

def ownD (s : Sl) (Q : List (Int × Int) → Prop) : Prop := ∃ l, s = .own (.dict (dL l)) ∧ Q l
def ownL (s : Sl) (Q : List PyData → Prop) : Prop := match s with | .own (.list xs) => Q xs | _ => False
structure Kt where
  nx : Ev → Prop
  rt : PyData → Prop
  bk : Ev → Prop := fun _ => False
  ct : Ev → Prop := fun _ => False
def lockIt (it : IIt) (r : Ev) : Ev := match it with
  | .seq (.var j) => (match r.get j with | .own d => r.set j (.lck d) | _ => r)
  | _ => r
def unlockIt (it : IIt) (r0 r : Ev) : Ev := match it with
  | .seq (.var j) => (match r0.get j with | .own d => r.set j (.own d) | _ => r)
  | _ => r
def forL (step : PyData → Ev → Kt → Prop) : List PyData → Kt → Ev → Prop
  | [], D, r => D.nx r
  | x :: xs, D, r => step x r { nx := forL step xs D, ct := forL step xs D, bk := D.nx, rt := D.rt }
mutual
def wpS (G : Nat → Pm) : IS → Ev → Kt → Prop
  | .skip, r, D => D.nx r
  | .brk, r, D => D.bk r
  | .cont, r, D => D.ct r
  | .set i e, r, D => wpE G e r fun d => r.free i = true ∧ D.nx (r.set i (.val d))
  | .setO i e, r, D => wpE G e r fun d => flat d = false ∧ r.free i = true ∧ D.nx (r.set i (.own d))
  | .setT is e, r, D => wpE G e r fun d => r.freeAll is = true ∧ ∃ ds, d = .tuple ds ∧ ds.length = is.length ∧ D.nx (setAll r is ds)
  | .par2 i j a b, r, D => wpE G a r fun x => wpE G b r fun y => r.free i = true ∧ r.free j = true ∧ D.nx ((r.set i (.val x)).set j (.val y))
  | .setI i k e, r, D => ownL (r.get i) fun xs => wpE G e r fun d => wpE G k r fun kd => ∃ n j, kd = .int n ∧ ixN xs.length n = some j ∧ D.nx (r.set i (.own (.list (xs.set j d))))
  | .app i e, r, D => ownL (r.get i) fun xs => wpE G e r fun d => xs.length < 1000000 ∧ D.nx (r.set i (.own (.list (xs ++ [d]))))
  | .ins i k e, r, D => ownL (r.get i) fun xs => wpE G k r fun kd => wpE G e r fun d => ∃ n, kd = .int n ∧ xs.length < 1000000 ∧ 0 ≤ n ∧ n < 2 ^ 62 ∧ D.nx (r.set i (.own (.list (xs.take n.toNat ++ [d] ++ xs.drop n.toNat))))
  | .dput i k e, r, D => ownD (r.get i) fun l => wpE G e r fun d => wpE G k r fun kd => ∃ n, kd = .int n ∧ ∃ m, d = .int m ∧ l.length < 1000000 ∧ D.nx (r.set i (.own (.dict (dL (dputL l n m)))))
  | .rse, r, D => False
  | .drop e, r, D => wpE G e r fun _ => D.nx r
  | .ife c a b, r, D => wpE G c r (tr fun t => if t = true then wpSs G a r D else wpSs G b r D)
  | .fors tg it b, r, D => wpIt G it r fun items => forL (fun x r1 D1 => bindT tg x r1 fun r2 => wpSs G b r2 D1) items { D with nx := fun r' => D.nx (unlockIt it r r') } (lockIt it r)
  | .whl c b, r, D => ∃ I : Nat → Ev → Prop, (∃ m, I m r) ∧ ∀ m r, I m r → wpE G c r (tr fun t => if t = true then
      wpSs G b r { nx := fun r' => ∃ m', m' < m ∧ I m' r', ct := fun r' => ∃ m', m' < m ∧ I m' r', bk := D.nx, rt := D.rt } else D.nx r)
  | .ret e, r, D => pk e r (wpE G e r) D.rt
  | .retO e, r, D => (match e with | .var i => (match r.get i with | .own d => D.rt d | _ => False) | _ => wpE G e r fun d => flat d = false ∧ D.rt d)
  | .retN, r, D => D.rt .none
def wpSs (G : Nat → Pm) : ISs → Ev → Kt → Prop
  | .nil, r, D => D.nx r
  | .cons s ss, r, D => wpS G s r { D with nx := fun r' => wpSs G ss r' D }
  | .fgt is ss, r, D => r.freeAll is = true ∧ wpSs G ss (wipeE r is) D
end
end CF
namespace CF
open PySem PySem.Spec PyProof.Rows L2

/-! ### values' rules, over plain data -/
def SemR (K : PySem.W.Frag) (r : R2) (P : PyData → PyData → (PyData → Prop) → Prop) : Prop :=
  ∀ (Hf H : Hp) (d1 d2 : PyData) (v1 v2 : V) (Q : PyData → Prop) (Qv : VK), Same Hf H → PRep K Hf H d1 v1 → PRep K Hf H d2 v2 → P d1 d2 Q →
    (∀ d v Hf' H', Ext Hf H Hf' H' → Rep K Hf' d v → Q d → Qv v H') → r v1 v2 H Qv
section
variable {K : PySem.W.Frag}
theorem SemR.inl {r r' : R2} {P} (h : SemR K r P) : SemR K (fun x y H Q => r x y H Q ∨ r' x y H Q) P := fun Hf H d1 d2 v1 v2 Q Qv s h1 h2 p k => .inl (h Hf H d1 d2 v1 v2 Q Qv s h1 h2 p k)
theorem SemR.inr {r r' : R2} {P} (h : SemR K r' P) : SemR K (fun x y H Q => r x y H Q ∨ r' x y H Q) P := fun Hf H d1 d2 v1 v2 Q Qv s h1 h2 p k => .inr (h Hf H d1 d2 v1 v2 Q Qv s h1 h2 p k)
/-- list + list, as they are read -/
def rCatQ (K : PySem.W.Frag) : R2 := fun x y H Q => ∃ l b xs zs, x = .ref l ∧ y = .ref b ∧ SqL K H l xs ∧ SqL K H b zs ∧ xs.length + zs.length ≤ sizeLine ∧ ∀ p, H p = none → Q (.ref p) (upd H p (.lst (xs ++ zs)))
theorem op_catQ {X : Cx} : OpR X (binaryOp .Add) (rCatQ X.K) := by
  intro pins s σ H x y v u Q I rx ry h
  obtain ⟨l, b, xs, zs, rfl, rfl, hH, hB, hz, q⟩ := h
  cases rx
  cases ry
  obtain ⟨its, r, pl, z⟩ := I.list hH
  obtain ⟨its2, r2, pl2, z2⟩ := I.list hB
  obtain ⟨⟨cls, dd, data, sl⟩, ho, hc, n, hd⟩ := pl.isList
  obtain ⟨⟨cls2, dd2, data2, sl2⟩, ho2, hc2, n2, hd2⟩ := pl2.isList
  simp only at hc hd hc2 hd2
  subst hc hd hc2 hd2
  have e : its.toArray ++ its2.toArray = (its ++ its2).toArray := by simp
  have hl := r.length
  have hl2 := r2.length
  refine concat_meets ⟨_, ho, rfl⟩ ⟨_, ho2, rfl⟩ noFill_list_add seq_list_add PySem.F.slot_list_add PySem.F.entry_list_add (PySem.F.args_list_add_2 _ _) (PyProof.Rows.list_addW l b its.toArray its2.toArray n n2 dd dd2 sl sl2 (by rw [List.size_toArray, List.size_toArray]; omega)) ⟨ho, ho2, ?_⟩
  rw [e]
  exact ⟨.ref _, _, I.lnew (t' := s.toks) (r.append r2) (by rw [List.length_append]; omega), rfl, q _ I.fresh⟩
theorem mil_line {n : Nat} (h : n ≤ 1000000) : n ≤ sizeLine := by rw [sizeLine_eq]; omega
def addP (x y : PyData) (Q : PyData → Prop) : Prop := binP .Add x y Q
def rAddAll (K : PySem.W.Frag) : R2 := fun x y H Q => rI0 (fun i j => .int (i + j)) x y H Q ∨ ((∃ i j, x = .str i ∧ y = .str j ∧ i.length + j.length ≤ sizeLine ∧ Q (.str (i ++ j)) H) ∨ (rCatQ K x y H Q ∨ rCatA K x y H Q))
theorem op_addAll {X : Cx} : OpR X (binaryOp .Add) (rAddAll X.K) := op_add.or (op_add_str.or (op_catQ.or op_catA))
theorem sem_addAll : SemR K (rAddAll K) (binP .Add) := by
  intro Hf H d1 d2 v1 v2 Q Qv s h1 h2 p k
  cases d1 <;> cases d2 <;> simp only [binP] at p <;> try exact p.elim
  · rename_i i j
    exact .inl ⟨i, j, h1.int, h2.int, k _ _ _ _ (Ext.refl s) rep_int p⟩
  · rename_i i j
    exact .inr (.inl ⟨i, j, h1.str, h2.str, mil_line p.1, k _ _ _ _ (Ext.refl s) rep_str p.2⟩)
  · rename_i a b
    obtain ⟨l, vs, rfl, q1, r1⟩ := h1.list s
    obtain ⟨l2, vs2, rfl, q2, r2⟩ := h2.list s
    have e1 := r1.length
    have e2 := r2.length
    refine .inr (.inr (.inl ⟨l, l2, vs, vs2, rfl, rfl, q1, q2, mil_line (by have := p.1; omega), fun q hq => ?_⟩))
    exact k _ _ _ _ (Ext.new s hq) (rep_newL (s.free hq) (r1.append r2)) p.2
  · rename_i a b
    have h1' := h1
    have h2' := h2
    obtain ⟨l, vs, rfl, q1, r1⟩ := h1.tuple s
    obtain ⟨l2, vs2, rfl, q2, r2⟩ := h2.tuple s
    have e1 := r1.length
    have e2 := r2.length
    refine .inr (.inr (.inr ⟨l, l2, vs, vs2, rfl, rfl, SqT.of q1, SqT.of q2, mil_line (by have := p.1; omega), fun z => ?_, fun z z2 => ?_, fun z z2 q hq => ?_⟩))
    · subst z
      have : a = [] := List.eq_nil_of_length_eq_zero (by rw [e1]; rfl)
      subst this
      rcases h2' with h | h
      · exact k _ _ _ _ (Ext.refl s) h (by simpa using p.2)
      · exact h.elim
    · subst z2
      have : b = [] := List.eq_nil_of_length_eq_zero (by rw [e2]; rfl)
      subst this
      rcases h1' with h | h
      · exact k _ _ _ _ (Ext.refl s) h (by simpa using p.2)
      · exact h.elim
    · exact k _ _ _ _ (Ext.new s hq) (rep_newT (s.free hq) (r1.append r2)) p.2
def rMulAll (K : PySem.W.Frag) : R2 := fun x y H Q => rI CMul (fun i j => .int (i * j)) x y H Q ∨ rRepT K x y H Q
theorem op_mulAll {X : Cx} : OpR X (binaryOp .Mult) (rMulAll X.K) := op_mul.or op_repT
theorem sem_mulAll : SemR K (rMulAll K) (binP .Mult) := by
  intro Hf H d1 d2 v1 v2 Q Qv s h1 h2 p k
  cases d1 <;> cases d2 <;> simp only [binP] at p <;> try exact p.elim
  · rename_i i j
    exact .inl ⟨i, j, h1.int, h2.int, p.1, k _ _ _ _ (Ext.refl s) rep_int p.2⟩
  · rename_i a j
    obtain ⟨l, vs, rfl, q1, r1⟩ := h1.tuple s
    obtain ⟨p0, p1, p2, p3, p4⟩ := p
    have e1 := r1.length
    refine .inr ⟨l, j, vs, rfl, h2.int, SqT.of q1, fun z => ?_, p1, p2, by omega, fun q hq => ?_⟩
    · subst z
      exact p0 (List.eq_nil_of_length_eq_zero (by rw [e1]; rfl))
    · exact k _ _ _ _ (Ext.new s hq) (rep_newT (s.free hq) (r1.rep _)) p4
theorem sem_sub : SemR K (rI0 (fun i j => .int (i - j))) (binP .Sub) := by
  intro Hf H d1 d2 v1 v2 Q Qv s h1 h2 p k
  cases d1 <;> cases d2 <;> simp only [binP] at p <;> try exact p.elim
  exact ⟨_, _, h1.int, h2.int, k _ _ _ _ (Ext.refl s) rep_int p⟩
theorem sem_fdiv : SemR K (rI CDiv (fun i j => .int (i / j))) (binP .FloorDiv) := by
  intro Hf H d1 d2 v1 v2 Q Qv s h1 h2 p k
  cases d1 <;> cases d2 <;> simp only [binP] at p <;> try exact p.elim
  exact ⟨_, _, h1.int, h2.int, p.1, k _ _ _ _ (Ext.refl s) rep_int p.2⟩
theorem sem_mod : SemR K (rI (fun _ j => 0 < j) (fun i j => .int (i % j))) (binP .Mod) := by
  intro Hf H d1 d2 v1 v2 Q Qv s h1 h2 p k
  cases d1 <;> cases d2 <;> simp only [binP] at p <;> try exact p.elim
  exact ⟨_, _, h1.int, h2.int, p.1, k _ _ _ _ (Ext.refl s) rep_int p.2⟩
theorem sem_pow : SemR K (rI CPow (fun i j => .int (i ^ j.toNat))) (binP .Pow) := by
  intro Hf H d1 d2 v1 v2 Q Qv s h1 h2 p k
  cases d1 <;> cases d2 <;> simp only [binP] at p <;> try exact p.elim
  exact ⟨_, _, h1.int, h2.int, p.1, k _ _ _ _ (Ext.refl s) rep_int p.2⟩
/-- every binary operator of the small language -/
theorem bin_ok {K : PySem.W.Frag} (op : Operator) : (∃ r, (∀ X : Cx, X.K = K → OpR X (binaryOp op) r) ∧ SemR K r (binP op)) ∨ ∀ x y Q, ¬ binP op x y Q := by
  cases op
  · exact .inl ⟨rAddAll K, fun X e => by rw [← e]; exact op_addAll, sem_addAll⟩
  · exact .inl ⟨_, fun X e => op_sub, sem_sub⟩
  · exact .inl ⟨rMulAll K, fun X e => by rw [← e]; exact op_mulAll, sem_mulAll⟩
  · exact .inr fun x y Q h => by cases x <;> cases y <;> exact h
  · exact .inr fun x y Q h => by cases x <;> cases y <;> exact h
  · exact .inl ⟨_, fun X e => op_mod, sem_mod⟩
  · exact .inl ⟨_, fun X e => op_pow, sem_pow⟩
  · exact .inr fun x y Q h => by cases x <;> cases y <;> exact h
  · exact .inr fun x y Q h => by cases x <;> cases y <;> exact h
  · exact .inr fun x y Q h => by cases x <;> cases y <;> exact h
  · exact .inr fun x y Q h => by cases x <;> cases y <;> exact h
  · exact .inr fun x y Q h => by cases x <;> cases y <;> exact h
  · exact .inl ⟨_, fun X e => op_fdiv, sem_fdiv⟩

/-! ### comparisons -/
def cmpD (op : CmpOp) (x y : PyData) (Q : PyData → Prop) : Prop := cmpP op x y fun t => Q (.bool t)
def rInT (K : PySem.W.Frag) : R2 := fun x y H Q => ∃ d ds, Dp K H x d ∧ Dp K H y (.tuple ds) ∧ SeqAt.shaped d = true ∧ SeqAt.shaped (.tuple ds) = true ∧ Q (.bl (ds.any fun z => PyData.eqv z d)) H
def rNotInT (K : PySem.W.Frag) : R2 := fun x y H Q => ∃ d ds, Dp K H x d ∧ Dp K H y (.tuple ds) ∧ SeqAt.shaped d = true ∧ SeqAt.shaped (.tuple ds) = true ∧ Q (.bl (!ds.any fun z => PyData.eqv z d)) H
theorem op_inT {X : Cx} (hu : X.A.units + 65 < cLine) : OpR X (compareOp .In) (rInT X.K) := by
  intro pins s σ H x y v u Q I rx ry h
  obtain ⟨d, ds, hd, he, sd, se, q⟩ := h
  obtain ⟨as, r1⟩ := Dp.reads I d x v hd rx
  obtain ⟨bs, r2⟩ := Dp.reads I (.tuple ds) y u he ry
  exact SeqAt.in_tuple_reads r2 r1 (SeqAt.canLay_of_shaped se) (SeqAt.canLay_of_shaped sd) (room_in_shaped sd hu) ⟨.bl _, H, I, rfl, q⟩
theorem op_notInT {X : Cx} (hu : X.A.units + 65 < cLine) : OpR X (compareOp .NotIn) (rNotInT X.K) := by
  intro pins s σ H x y v u Q I rx ry h
  obtain ⟨d, ds, hd, he, sd, se, q⟩ := h
  obtain ⟨as, r1⟩ := Dp.reads I d x v hd rx
  obtain ⟨bs, r2⟩ := Dp.reads I (.tuple ds) y u he ry
  exact SeqAt.notIn_tuple_reads r2 r1 (SeqAt.canLay_of_shaped se) (SeqAt.canLay_of_shaped sd) (room_in_shaped sd hu) ⟨.bl _, H, I, rfl, q⟩
theorem PRep.isNone {Hf H : Hp} {d : PyData} {v : V} (s : Same Hf H) (h1 : PRep K Hf H d v) : decide (v = V.non) = isNoneD d := by
  cases d with
  | none => rw [h1.none]; rfl
  | bool b => rw [h1.bool]; rfl
  | int i => rw [h1.int]; rfl
  | str i => rw [h1.str]; rfl
  | list xs => obtain ⟨a, vs, rfl, _⟩ := h1.list s; rfl
  | tuple xs => obtain ⟨a, vs, rfl, _⟩ := h1.tuple s; rfl
  | dict kvs =>
    have h := h1.full s
    unfold Rep at h
    obtain ⟨a, vs, rfl, _⟩ := h
    rfl
theorem cmp_ok {K : PySem.W.Frag} (op : CmpOp) : ∃ r, (∀ X : Cx, X.K = K → X.A.units + 66 < cLine → OpR X (compareOp op) r) ∧ SemR K r (cmpD op) := by
  cases op
  case Eq =>
    refine ⟨rEqD K, fun X e hu => by rw [← e]; exact op_eqD (by omega), fun Hf H d1 d2 v1 v2 Q Qv s h1 h2 p k => ?_⟩
    obtain ⟨p1, p2, p3⟩ : SeqAt.shaped d1 = true ∧ SeqAt.shaped d2 = true ∧ Q (.bool (PyData.eqv d1 d2)) := p
    exact ⟨d1, d2, Rep.shp p1 (h1.full s), Rep.shp p2 (h2.full s), p1, p2, k _ _ _ _ (Ext.refl s) rep_bool p3⟩
  case NotEq =>
    refine ⟨rNeD K, fun X e hu => by rw [← e]; exact op_neD (by omega), fun Hf H d1 d2 v1 v2 Q Qv s h1 h2 p k => ?_⟩
    obtain ⟨p1, p2, p3⟩ : SeqAt.shaped d1 = true ∧ SeqAt.shaped d2 = true ∧ Q (.bool (!PyData.eqv d1 d2)) := p
    exact ⟨d1, d2, Rep.shp p1 (h1.full s), Rep.shp p2 (h2.full s), p1, p2, k _ _ _ _ (Ext.refl s) rep_bool p3⟩
  case Lt =>
    refine ⟨_, fun X e hu => op_lt, fun Hf H d1 d2 v1 v2 Q Qv s h1 h2 p k => ?_⟩
    unfold cmpD at p
    cases d1 <;> cases d2 <;> simp only [cmpP] at p
    exact ⟨_, _, h1.int, h2.int, k _ _ _ _ (Ext.refl s) rep_bool p⟩
  case LtE =>
    refine ⟨_, fun X e hu => op_le, fun Hf H d1 d2 v1 v2 Q Qv s h1 h2 p k => ?_⟩
    unfold cmpD at p
    cases d1 <;> cases d2 <;> simp only [cmpP] at p
    exact ⟨_, _, h1.int, h2.int, k _ _ _ _ (Ext.refl s) rep_bool p⟩
  case Gt =>
    refine ⟨_, fun X e hu => op_gt, fun Hf H d1 d2 v1 v2 Q Qv s h1 h2 p k => ?_⟩
    unfold cmpD at p
    cases d1 <;> cases d2 <;> simp only [cmpP] at p
    exact ⟨_, _, h1.int, h2.int, k _ _ _ _ (Ext.refl s) rep_bool p⟩
  case GtE =>
    refine ⟨_, fun X e hu => op_ge, fun Hf H d1 d2 v1 v2 Q Qv s h1 h2 p k => ?_⟩
    unfold cmpD at p
    cases d1 <;> cases d2 <;> simp only [cmpP] at p
    exact ⟨_, _, h1.int, h2.int, k _ _ _ _ (Ext.refl s) rep_bool p⟩
  case Is =>
    refine ⟨_, fun X e hu => op_isN.or op_isBl, fun Hf H d1 d2 v1 v2 Q Qv s h1 h2 p k => ?_⟩
    unfold cmpD at p
    cases d2 <;> simp only [cmpP] at p
    · have e2 := h2.none
      subst e2
      refine .inl ⟨rfl, ?_⟩
      rw [PRep.isNone s h1]
      exact k _ _ _ _ (Ext.refl s) rep_bool p
    · cases d1 <;> simp only [cmpP] at p
      exact .inr ⟨_, _, h1.bool, h2.bool, k _ _ _ _ (Ext.refl s) rep_bool p⟩
  case IsNot =>
    refine ⟨_, fun X e hu => op_notN.or op_notBl, fun Hf H d1 d2 v1 v2 Q Qv s h1 h2 p k => ?_⟩
    unfold cmpD at p
    cases d2 <;> simp only [cmpP] at p
    · have e2 := h2.none
      subst e2
      refine .inl ⟨rfl, ?_⟩
      rw [PRep.isNone s h1]
      exact k _ _ _ _ (Ext.refl s) rep_bool p
    · cases d1 <;> simp only [cmpP] at p
      exact .inr ⟨_, _, h1.bool, h2.bool, k _ _ _ _ (Ext.refl s) rep_bool p⟩
  case In =>
    refine ⟨fun x y H Q => rInD K x y H Q ∨ rInT K x y H Q, fun X e hu => by rw [← e]; exact (op_inD (by omega)).or (op_inT (by omega)), fun Hf H d1 d2 v1 v2 Q Qv s h1 h2 p k => ?_⟩
    unfold cmpD at p
    cases d2 <;> simp only [cmpP] at p
    · obtain ⟨p1, p2, p3⟩ := p
      exact .inl ⟨d1, _, Rep.shp p1 (h1.full s), Rep.shp p2 (h2.full s), p1, p2, k _ _ _ _ (Ext.refl s) rep_bool p3⟩
    · obtain ⟨p1, p2, p3⟩ := p
      exact .inr ⟨d1, _, Rep.shp p1 (h1.full s), Rep.shp p2 (h2.full s), p1, p2, k _ _ _ _ (Ext.refl s) rep_bool p3⟩
  case NotIn =>
    refine ⟨fun x y H Q => rNotInD K x y H Q ∨ rNotInT K x y H Q, fun X e hu => by rw [← e]; exact (op_notInD (by omega)).or (op_notInT (by omega)), fun Hf H d1 d2 v1 v2 Q Qv s h1 h2 p k => ?_⟩
    unfold cmpD at p
    cases d2 <;> simp only [cmpP] at p
    · obtain ⟨p1, p2, p3⟩ := p
      exact .inl ⟨d1, _, Rep.shp p1 (h1.full s), Rep.shp p2 (h2.full s), p1, p2, k _ _ _ _ (Ext.refl s) rep_bool p3⟩
    · obtain ⟨p1, p2, p3⟩ := p
      exact .inr ⟨d1, _, Rep.shp p1 (h1.full s), Rep.shp p2 (h2.full s), p1, p2, k _ _ _ _ (Ext.refl s) rep_bool p3⟩
end
end CF
namespace CF
open PySem PySem.Spec PyProof.Rows L2 HT
section
variable {prog : Program} {w : World} {A : Around} {E : Value → Shared → Prop} {s : Shared}
theorem sliceApplied_rev {sl : Addr} {vs : Value} {n : Nat} {Q : Int × Int × Nat → Shared → Prop} (hs : s.heap.IsSliceOf sl .none .none vs) (ps : IsPart vs (some (-1)))
    (h : Q ((n : Int) - 1, -1, n) s) : wpAny (model prog w) A (Builtin.Slice.sliceApplied (.ref sl) (pure (n : Int))) Q E s := by
  obtain ⟨os, hos, hcs, hds⟩ := id hs
  unfold Builtin.Slice.sliceApplied Builtin.Slice.sliceFields
  refine wpAny_bind (wpAny_bind (wpAny_field hos hds (x := .none) rfl (wpAny_bind (wpAny_field hos hds (x := .none) rfl (wpAny_bind (wpAny_field hos hds (x := vs) rfl (wpAny_pure ?_)))))))
  refine wpAny_bind (slicePart_ ps ?_)
  show wpAny _ _ (if ((-1 : Int) == 0) = true then _ else _) _ _ s
  rw [if_neg (by decide)]
  refine wpAny_bind (slicePart_none (wpAny_bind (slicePart_none (wpAny_bind (wpAny_pure ?_)))))
  have ha : Builtin.Slice.sliceAdjust none none (-1) (n : Int) = ((n : Int) - 1, -1) := by
    unfold Builtin.Slice.sliceAdjust
    first | rfl | simp
  have hp : Builtin.Slice.slicePlaces ((n : Int) - 1) (-1) (-1) = n := by
    unfold Builtin.Slice.slicePlaces
    simp
    try omega
  show wpAny _ _ (match Builtin.Slice.sliceAdjust none none (-1) (n : Int) with | (lo, hi) => pure (lo, (-1 : Int), Builtin.Slice.slicePlaces lo hi (-1))) _ _ s
  rw [ha]
  show wpAny _ _ (pure ((n : Int) - 1, (-1 : Int), Builtin.Slice.slicePlaces ((n : Int) - 1) (-1) (-1))) _ _ s
  rw [hp]
  exact wpAny_pure h
theorem fm_some {α β : Type} {f : α → Option β} {g : α → β} : ∀ {l : List α}, (∀ x ∈ l, f x = some (g x)) → l.filterMap f = l.map g
  | [], _ => rfl
  | a :: l, h => by rw [List.filterMap_cons, h a List.mem_cons_self, List.map_cons, fm_some fun x hx => h x (List.mem_cons_of_mem _ hx)]
theorem pick_rev (xs : Array Value) : ((List.range xs.size).filterMap fun (m : Nat) => xs[((xs.size : Int) - 1 + (m : Int) * -1).toNat]?).toArray = xs.toList.reverse.toArray := by
  congr 1
  have : ∀ m ∈ List.range xs.size, xs[((xs.size : Int) - 1 + (m : Int) * -1).toNat]? = some (xs.toList.reverse.getD m .none) := fun m hm => by
    have hm := List.mem_range.mp hm
    have e : ((xs.size : Int) - 1 + (m : Int) * -1).toNat = xs.size - 1 - m := by omega
    rw [e, List.getD_eq_getElem?_getD, List.getElem?_reverse (by simpa using hm)]
    simp
    rw [Array.getElem?_eq_getElem (by omega)]
    simp
  rw [fm_some this]
  refine List.ext_getElem? fun i => ?_
  rw [List.getElem?_map]
  by_cases hi : i < xs.size
  · rw [List.getElem?_range hi]
    simp [hi]
  · rw [List.getElem?_eq_none (by simp; omega), List.getElem?_eq_none (by simp; omega)]
    rfl
theorem getItem_tuple_rev {t sl : Addr} {items : Array Value} {vs : Value} {Q : Value → Shared → Prop} (ht : IsTup s.heap t items) (hs : s.heap.IsSliceOf sl .none .none vs) (ps : IsPart vs (some (-1)))
    (h : Q (.ref s.heap.objs.size) { s with heap := s.heap.push { cls := .type "tuple", data := .seq items.toList.reverse.toArray } })
    (hsz : items.size ≤ sizeLine) : wpAny (model prog w) A (getItem (.ref t) (.ref sl)) Q E s := by
  have htake : sizeOk (.seq items.toList.reverse.toArray) := by
    show items.toList.reverse.toArray.size ≤ sizeLine
    simpa using hsz
  obtain ⟨os, hos, hcs, hds⟩ := id hs
  have hTs : s.TypeIs (.ref sl) "slice" := ⟨os, hos, hcs⟩
  unfold getItem
  try with_reducible refine wpAny_holding ?_
  first | refine wpAny_bind (wpAny_pure ?_) | skip
  refine wpAny_bind (wpAny_sequenceKey ht.typeIs (by decide) ?_)
  refine wpAny_bind (wpAny_callSpecial?_slot (name := Str.ofString "__getitem__") ht.typeIs PyProof.Rows.slot_tuple_getitem
    (wpAny_call_entry PyProof.Rows.slot_tuple_getitem ht.typeIs entry_tuple_getitem ?_ (args_tuple_getitem _ _)))
  show wpAny _ _ (Builtin.Tuple.tupleItemsOf (.ref t) >>= _) _ _ s
  refine wpAny_bind (tupleItemsOf_ ht ?_)
  refine wpAny_bind (wpAny_typeOf hTs ?_)
  rw [if_pos (by decide)]
  refine wpAny_bind (sliceApplied_rev hs ps ?_)
  have hno : ¬ ((((items.size : Int) - 1) == 0 && (-1 : Int) == 1 && items.size == items.size) = true) := by
    intro q
    rw [Bool.and_eq_true, Bool.and_eq_true] at q
    exact absurd q.1.2 (by decide)
  show wpAny _ _ (if (((items.size : Int) - 1) == 0 && (-1 : Int) == 1 && items.size == items.size) = true then _ else _) _ _ s
  rw [if_neg hno, pick_rev]
  first
    | exact wpAny_bind (m := Builtin.Tuple.tupleExact _) (wpAny_newObj_type (wpAny_pure ⟨_, rfl, wpAny_pure h⟩) htake)
    | exact wpAny_bind (m := Builtin.Tuple.tupleExact _) (wpAny_newObj_type (wpAny_bind (wpAny_pure (wpAny_pure ⟨_, rfl, wpAny_pure h⟩))) htake)
    | exact wpAny_bind (wpAny_bind (m := Builtin.Tuple.tupleExact _) (wpAny_newObj_type (wpAny_pure (wpAny_pure ⟨_, rfl, wpAny_pure h⟩)) htake))
    | exact wpAny_bind (wpAny_bind (m := Builtin.Tuple.tupleExact _) (wpAny_newObj_type (wpAny_pure ⟨_, rfl, wpAny_pure h⟩) htake))
end
section
variable {X : Cx}
def tRevA (K : PySem.W.Frag) (te : TE) : TE := fun σ H Q => te σ H fun x H1 => (∃ a xs, x = .ref a ∧ SqL K H1 a xs ∧ ∀ p, H1 p = none → Q (.ref p) (upd H1 p (.lst xs.reverse))) ∨ (∃ a xs, x = .ref a ∧ SqT K H1 a xs ∧ ∀ p, H1 p = none → Q (.ref p) (upd H1 p (.tup xs.reverse)))
theorem pe_revAny {e : Expr} {te : TE} {k : Nat} {p1 p2 p3 pos : Pos} (he : PE X e te) : PE X (.Subscript e (.Slice none none (some (.UnaryOp .USub (.Constant (.int 1) k p1) p2)) p3) pos) (tRevA X.K te) := by
  refine ⟨fun pins s σ H Q I h => ?_⟩
  refine Subscript_ (thn (he.run pins s σ H _ I h) fun v s1 ⟨x, H1, I1, r1, q1⟩ => ?_)
  have hst : PO X (some (.UnaryOp .USub (.Constant (.int 1) k p1) p2)) (tPart (tUn (rU fun i => .int (-i)) (tC (.int 1)))) := po_some (pe_un un_neg pe_int)
  refine wpAny_Slice (thn (po_none.run pins s1 σ H1 (fun o H2 => o = none ∧ H2 = H1) I1 ⟨rfl, rfl⟩) fun vl s2 ⟨l, H2, I2, pl, el, e2⟩ => ?_)
  subst el e2
  refine thn (po_none.run pins s2 σ H2 (fun o H3 => o = none ∧ H3 = H2) I2 ⟨rfl, rfl⟩) fun vu s3 ⟨u, H3, I3, pu, eu, e3⟩ => ?_
  subst eu e3
  refine thn (hst.run pins s3 σ H3 (fun o H4 => o = some (-1) ∧ H4 = H3) I3 ⟨1, rfl, -1, rfl, rfl, rfl⟩) fun vs s4 ⟨o, H4, I4, ps, eo, e4⟩ => ?_
  subst eo e4
  have I5 : Inv X pins σ H4 { s4 with heap := s4.heap.push { cls := .type "slice", data := .fields #[vl, vu, vs] } } := I4.kept (t' := s4.toks) fun b ob q => Heap.get?_push_of_some _ q
  rcases q1 with ⟨a, xs, ex, hx, q⟩ | ⟨a, xs, ex, hx, q⟩
  · subst ex
    cases r1
    obtain ⟨its, r, ht, hz⟩ := I5.list hx
    have hlen := r.length
    show wpAny (model X.prog X.w) X.A (subscriptTail e (.Slice none none (some (.UnaryOp .USub (.Constant (.int 1) k p1) p2)) p3) (.ref a) (.ref s4.heap.objs.size)) (EP X pins σ Q) X.xe { s4 with heap := s4.heap.push { cls := .type "slice", data := .fields #[vl, vu, vs] } }
    refine tail_any (ops := [.ref a, .ref s4.heap.objs.size]) ht.isList.typeIs (PySem.slot_list_getitem.lookup) ?_ (by with_unfolding_all rfl)
    refine wpAny_getItem_list_slice ht.isList (Heap.IsSliceOf.new _ vl vu vs) pl pu ps (by decide) ?_ (by rw [List.size_toArray]; omega)
    rw [PySem.W.krv_pick]
    refine ⟨.ref _, _, I5.laid (t' := s4.toks) (o := .lst xs.reverse) (fun b ob q => Heap.get?_push_of_some _ q) (Nat.le_refl _) ?_, rfl, q _ (I5.hok.fresh (Nat.le_refl _))⟩
    exact ⟨by rw [List.length_reverse]; exact hz, _, 0, r.reverse, Heap.get?_push_size _ rfl⟩
  · subst ex
    cases r1
    obtain ⟨its, r, ht, hz⟩ := I5.tuple hx
    have hlen := r.length
    cases pl
    cases pu
    show wpAny (model X.prog X.w) X.A (subscriptTail e (.Slice none none (some (.UnaryOp .USub (.Constant (.int 1) k p1) p2)) p3) (.ref a) (.ref s4.heap.objs.size)) (EP X pins σ Q) X.xe { s4 with heap := s4.heap.push { cls := .type "slice", data := .fields #[.none, .none, vs] } }
    refine tail_any (ops := [.ref a, .ref s4.heap.objs.size]) ht.typeIs (PyProof.Rows.slot_tuple_getitem.lookup) ?_ (by with_unfolding_all rfl)
    refine getItem_tuple_rev ht (Heap.IsSliceOf.new _ .none .none vs) ps ?_ (by rw [List.size_toArray]; omega)
    refine ⟨.ref _, _, I5.laid (t' := s4.toks) (o := .tup xs.reverse) (fun b ob q => Heap.get?_push_of_some _ q) (Nat.le_refl _) ?_, rfl, q _ (I5.hok.fresh (Nat.le_refl _))⟩
    exact ⟨by rw [List.length_reverse]; exact hz, _, r.reverse, IsTup.new _ _⟩
end
end CF
namespace CF
open PySem PySem.Spec PyProof.Rows L2

/-! ### defs by a room of one's own: one frame a level -/
structure Rm (d : Nat) (A : Around) : Prop where
  hd : A.handled = none
  dp : A.depth + d < 990
  un : A.units + 4 * d + 300 < 9900
theorem Rm.mono {c d : Nat} {A : Around} (r : Rm d A) (h : c ≤ d) : Rm c A := ⟨r.hd, by have := r.dp; omega, by have := r.un; omega⟩
theorem Rm.deeper {d : Nat} {A : Around} (r : Rm (d + 1) A) (env : PySem.Env) : Rm d (A.deeper env) :=
  ⟨r.hd, by have := r.dp; show A.depth + 1 + d < _; omega, by have := r.un; show A.units + 3 + 4 * d + 300 < _; omega⟩
abbrev SpM := List V → Hp → VK → Prop
abbrev CE0 (P : Program) (w : World) (outer : List PySem.Env) (H : Hp) (s : Shared) (Q : VK) (r : Result) (s' : Shared) : Prop := CR CX0 outer P w H s Q E0 r s'
structure FnM (P : Program) (w : World) (K : PySem.W.Frag) (mg : Str → Option Value) (base : Heap) (d : Nat) (f : Addr) (fd : FuncData) (ps : List Str) (sp : SpM) : Prop where
  len : ∀ vs H Q, sp vs H Q → vs.length = ps.length
  run : ∀ (A : Around) (outer : List PySem.Env) (s : Shared) (H : Hp) (args : Args) (us : List Value) (vs : List V) (Q : VK), Rm d A → Env0 P w K mg base A outer s H → BindsTo s fd args (ps.zip us) → Vals vs us → sp vs H Q →
    codeAny (model P w) A (.call (.ref f) args) (CE0 P w outer H s Q) s
theorem FnM.mono {P : Program} {w : World} {K : PySem.W.Frag} {mg : Str → Option Value} {base : Heap} {c d : Nat} {f : Addr} {fd : FuncData} {ps : List Str} {sp : SpM} (F : FnM P w K mg base c f fd ps sp) (h : c ≤ d) : FnM P w K mg base d f fd ps sp :=
  ⟨F.len, fun A outer s H args us vs Q hr => F.run A outer s H args us vs Q (hr.mono h)⟩
theorem FnM.imp {P : Program} {w : World} {K : PySem.W.Frag} {mg : Str → Option Value} {base : Heap} {d : Nat} {f : Addr} {fd : FuncData} {ps : List Str} {sp sp' : SpM} (F : FnM P w K mg base d f fd ps sp) (h : ∀ vs H Q, sp' vs H Q → sp vs H Q) : FnM P w K mg base d f fd ps sp' :=
  ⟨fun vs H Q x => F.len vs H Q (h _ _ _ x), fun A outer s H args us vs Q hr he hb hv hs => F.run A outer s H args us vs Q hr he hb hv (h _ _ _ hs)⟩
section
variable {X : Cx} {d : Nat} {f : Addr} {fd : FuncData} {ps : List Str} {sp : SpM} {x : Str} {p pos : Pos} {e : Expr} {es : List Expr} {t : TA}
theorem run_fnM {pins : List (Addr × Obj)} {σ : L2.St} {H : Hp} {s : Shared} {Q : VK} {us : List Value} {vs : List V} (F : FnM X.prog X.w X.K X.mg X.base d f fd ps sp) (hr : Rm d X.A) (hb : Binds X.K fd ps [])
    (I : Inv X pins σ H s) (r : Vals vs us) (h : sp vs H Q) : wpAny (model X.prog X.w) X.A (call (.ref f) us) (EP X pins σ Q) X.xe s := by
  have hl : (us ++ []).length = ps.length := by rw [List.append_nil, ← r.length]; exact F.len _ _ _ h
  have hb' := hb s us I.kIn hl
  rw [List.append_nil] at hb'
  refine wpAny_call (codeAny_mono (F.run X.A X.stack s H ⟨us, []⟩ us vs Q hr I.env0 hb' r h) fun r s' hq => ?_)
  cases r with
  | error e => exact False.elim hq
  | ok fl =>
    cases fl with
    | ret u => exact I.after hq
    | next => exact False.elim hq
    | brk => exact False.elim hq
    | cont => exact False.elim hq
def tCallM (sp : SpM) (t : TA) : TE := fun σ H Q => t σ H fun vs H1 => sp vs H1 Q
theorem pe_callM (F : FnM X.prog X.w X.K X.mg X.base d f fd ps sp) (hr : Rm d X.A) (hg : Gl X x) (hm : X.mg x = some (.ref f)) (hk : PySem.W.keepIn X.K (.ref f) = true) (hb : Binds X.K fd ps [])
    (ha : PA X (e :: es) t) (hdb : (x == ("__debug__" : Str)) = false) (he : starEach (e :: es) X.env = (false, eval e X.env) :: starEach es X.env) (hpl : (backTo pos (starEach es X.env)).any (·.1) = false) :
    PE X (.Call (.Name x p) (e :: es) [] pos) (tCallM sp t) := by
  refine ⟨fun pins s σ H Q I h => ?_⟩
  refine wpAny_Call_Name_kw (ld_glob I hg hm ?_ hdb)
  refine PySem.W.callWith_K (h₀ := X.base) I.ok.mod.kin hk (thn (ha.run pos pins s σ H _ I h) fun us s1 ⟨vs, H1, I1, r, q⟩ => ⟨I1.kIn, ?_⟩) he hpl
  exact run_fnM F hr hb I1 r q
end
/-- a def of the text by its body -/
theorem fn_ofM {P : Program} {w : World} {K : PySem.W.Frag} {mg : Str → Option Value} {base : Heap} {d : Nat} {f : Addr} {name qual : Str} {params : Arguments} {body : List Stmt} {scope : Scope} {dV kV doc pm cdv ct oc : Value} {an od : Option Addr}
    {osl : Array (Option Value)} {N ps : List Str} {sp : SpM} (lk : K.lookup f = some ⟨oc, od, .func (PySem.W.fnOf name qual params body scope dV kV doc pm an cdv ct), osl⟩) (hcd : PySem.W.codeIn K cdv qual = true) (S : FnScope N ps scope)
    (len : ∀ vs H Q, sp vs H Q → vs.length = ps.length)
    (hbody : ∀ (A : Around) (outer : List PySem.Env) (s : Shared) (H : Hp) (vs : List V) (Q : VK), Rm d (A.deeper (envOfC qual scope s.heap.objs.size f cdv)) → sp vs H Q →
      ∃ t, PSs (cxOf CX0 P w K mg base N qual scope f cdv A outer s H E0).nox body t ∧ t { nx := fun _ H' => Q .non H', rt := Q } (start N vs) H) :
    FnM P w K mg base (d + 1) f (PySem.W.fnOf name qual params body scope dV kV doc pm an cdv ct) ps sp := by
  refine ⟨len, fun A outer s H args us vs Q hr e0 hb r hsp => ?_⟩
  have hl := len _ _ _ hsp
  have KX : K.In s.heap := e0.mod.kin.keeps fun b o e => (e0.bs b o e).1
  have lim : s.heap.NoLimit := e0.mod.nolimit.keeps fun b o e => (e0.bs b o e).1
  have hkind : ∀ y ∈ ps.zip us, scope.names.lookup y.1 = some .local ∨ (scope.names.lookup y.1 = some .cell ∧ ((cellsFrom (s.heap.objs.size + 1) scope.names []).lookup y.1).isSome = true) := fun ⟨n, v⟩ hy => by
    rcases S.par n (List.of_mem_zip hy).1 with q | q
    · exact .inl q
    · exact .inr ⟨q, PySem.W.cellsFrom_some _ _ _ (.inl q)⟩
  refine codeAny_call_function (by have := hr.dp; show A.depth < 1000; omega) (KX _ _ lk) rfl S.co S.gen rfl (PySem.W.codeRec_of KX hcd) (hb _ _ _ _ ?_)
  refine wpAny_newFunctionEnv_cells S.kind hkind fun env he s1 x => ?_
  subst he
  refine ⟨lim.keeps x.toInCall.keep, codeAny_func ?_⟩
  obtain ⟨t, ht, hq⟩ := hbody A outer s H vs Q (hr.deeper _) hsp
  have I : Inv (cxOf CX0 P w K mg base N qual scope f cdv A outer s H E0) [] (start N vs) H s1 := inv_start S hr.hd e0 hl r x
  refine wpAny_mono (ht.nox.run [] s1 (start N vs) H _ I hq) (fun fl s' hs => ?_) fun e s' hs => hs
  have fin : ∀ {σ' : L2.St} {H' : Hp} {v : V} {u : Value}, Inv (cxOf CX0 P w K mg base N qual scope f cdv A outer s H E0) [] σ' H' s' → RelV v u → Q v H' → CE outer P w H s Q u s' :=
    fun {σ' H' v u} J rv q => ⟨v, H', J.os, J.bare, J.base, J.hok, rv, q⟩
  cases fl with
  | ret u =>
    obtain ⟨v, σ', H', J, rv, q⟩ := hs
    exact fin J rv q
  | next =>
    obtain ⟨σ', H', J, q⟩ := hs
    exact fin (v := V.non) (u := Value.none) J rfl q
  | brk =>
    obtain ⟨_, _, _, q⟩ := hs
    exact False.elim q
  | cont =>
    obtain ⟨_, _, _, q⟩ := hs
    exact False.elim q

/-! ### a def's promise over plain data -/
/-- fresh: the answer is a new list that nobody else holds -/
def spD (K : PySem.W.Frag) (n : Nat) (fresh : Bool) (G : Pm) : SpM := fun vs H Q => vs.length = n ∧ ∃ (Hf : Hp) (ds : List PyData) (P : PyData → Prop), Same Hf H ∧ RepL K Hf ds vs ∧ G ds P ∧
  ∀ d v Hf' H', Ext Hf H Hf' H' → (if fresh = true then ORep K Hf' H' d v ∧ (∀ p, v = .ref p → H p = none) else Rep K Hf' d v) → P d → Q v H'

/-- the functions that a text calls: the name, how many parameters, the promise -/
structure FnE where
  name : Str
  ar : Nat
  fresh : Bool
  G : Pm
/-- a function stands in the module -/
structure FnAt (P : Program) (w : World) (K : PySem.W.Frag) (mg : Str → Option Value) (base : Heap) (d : Nat) (g : FnE) (f : Addr) : Prop where
  glob : mg g.name = some (.ref f)
  kp : PySem.W.keepIn K (.ref f) = true
  fn : ∃ fd ps, ps.length = g.ar ∧ Binds K fd ps [] ∧ FnM P w K mg base d f fd ps (spD K g.ar g.fresh g.G)
theorem FnAt.mono {P : Program} {w : World} {K : PySem.W.Frag} {mg : Str → Option Value} {base : Heap} {c d : Nat} {g : FnE} {f : Addr} (F : FnAt P w K mg base c g f) (h : c ≤ d) : FnAt P w K mg base d g f := by
  obtain ⟨h1, h2, fd, ps, h3, h4, h5⟩ := F
  exact ⟨h1, h2, fd, ps, h3, h4, h5.mono h⟩

/-! ### where one stands -/
def bnames : List Str := ["len", "max", "min", "sum", "all", "list", "tuple", "int", "bool", "str", "sorted", "isinstance", "range", "set", "enumerate", "repr"]
/-- the parts of a context that differ within one body -/
structure Vr where
  s_0 : Shared
  H_0 : Hp
  env : PySem.Env
  outer : List PySem.Env
  stack : List PySem.Env
  ex : List Addr
  fn : Str → Bool
  pn : List (Addr × Obj)
abbrev at' (X : Cx) (q : Vr) : Cx := { X with s_0 := q.s_0, H_0 := q.H_0, env := q.env, outer := q.outer, stack := q.stack, ex := q.ex, fn := q.fn, pn := q.pn, xe := fun _ _ => False }
structure XOk (N : List Str) (T : List FnE) (cs : List (Str × Int)) (d : Nat) (X : Cx) : Prop where
  n : X.N = N
  nd : N.Nodup
  calm : X.calm = true
  rm : Rm d X.A
  mb : ∀ x ∈ bnames, X.mg x = none
  cs : ∀ x i, (x, i) ∈ cs → ∃ t, X.mg x = some (.int i t)
  fn : ∀ (i : Nat) g, T[i]? = some g → ∃ f, FnAt X.prog X.w X.K X.mg X.base d g f
theorem XOk.un {N T cs d X} (h : XOk N T cs d X) : X.A.units + 66 < cLine := by
  have := h.rm.un
  show _ < 9900
  omega
end CF
namespace CF
open PySem PySem.Spec PyProof.Rows L2

/-! ### the checker: a text of the small language against the written one -/
def Bf.nm : Bf → Str × Nat
  | .len => ("len", 1) | .max2 => ("max", 2) | .min2 => ("min", 2) | .maxL => ("max", 1) | .minL => ("min", 1) | .sum => ("sum", 1) | .all => ("all", 1)
  | .list1 => ("list", 1) | .tuple1 => ("tuple", 1) | .int1 => ("int", 1) | .str1 => ("str", 1) | .sortI => ("sorted", 1) | .sortP => ("sorted", 1)
def gl (sc : Scope) (x : Str) : Bool := decide (sc.names.lookup x = some .globalImplicit) && !(x == ("__debug__" : Str)) && decide (x ≠ "__name__")
def visB (sc : Scope) (x : Str) : Bool := (match sc.names.lookup x with | some .local => true | some .cell => true | some .free => true | _ => false) && !(x == ("__debug__" : Str)) && !(x == ("__classdict__" : Str))
def locB (sc : Scope) (x : Str) : Bool := match sc.names.lookup x with | some .local => true | some .cell => true | _ => false
def nmOk (N : List Str) (i : Nat) (x : Str) : Bool := decide (N[i]? = some x)
structure Ck where
  N : List Str
  T : List (Str × Nat)
  cs : List (Str × Int)
def ownOf (N : List Str) (is : List Nat) : List (Str × Nat) := is.map fun i => (N.getD i "", i)
/-- a target; outside a comprehension (b) a cell is the def's own, within one only locals are stored -/
def chkN (c : Ck) (sc : Scope) (b : Bool) (i : Nat) (e : Expr) : Bool := match e with
  | .Name x _ => nmOk c.N i x && (if b then locB sc x else decide (sc.names.lookup x = some .local))
  | _ => false
def chkNs (c : Ck) (sc : Scope) (b : Bool) : List Nat → List Expr → Bool
  | [], [] => true
  | i :: is, e :: es => chkN c sc b i e && chkNs c sc b is es
  | _, _ => false
def chkT (c : Ck) (sc : Scope) (b : Bool) (tg : Tg) (e : Expr) : Bool := match tg, e with
  | .one i, e => chkN c sc b i e
  | .many is, .Tuple es _ _ => chkNs c sc b is es
  | _, _ => false
def isNm (e : Expr) : Bool := match e with | .Name _ _ => true | _ => false
def binB : Operator → Bool
  | .Add => true | .Sub => true | .Mult => true | .Mod => true | .Pow => true | .FloorDiv => true
  | _ => false
mutual
def chkE (c : Ck) (sc : Scope) : IE → Expr → Bool
  | .var i, e => (match e with | .Name x _ => nmOk c.N i x && visB sc x | _ => false)
  | .kint i, e => (match e with | .Constant (.int j) _ _ => decide (i = j) | _ => false)
  | .kstr x, e => (match e with | .Constant (.str y) _ _ => decide (x = y) | _ => false)
  | .kbool x, e => (match e with | .Constant (.bool y) _ _ => decide (x = y) | _ => false)
  | .knone, e => (match e with | .Constant .none _ _ => true | _ => false)
  | .gint y i, e => (match e with | .Name x _ => decide (x = y) && gl sc x && decide ((y, i) ∈ c.cs) | _ => false)
  | .bin op a b, e => (match e with | .BinOp ea op' eb _ => decide (op = op') && binB op && chkE c sc a ea && chkE c sc b eb | _ => false)
  | .neg a, e => (match e with | .UnaryOp .USub ea _ => chkE c sc a ea | _ => false)
  | .no a, e => (match e with | .UnaryOp .Not ea _ => chkE c sc a ea | _ => false)
  | .cmp op a b, e => (match e with | .Compare ea [op'] [eb] _ => decide (op = op') && chkE c sc a ea && chkE c sc b eb | _ => false)
  | .chain o1 o2 a b d, e => (match e with | .Compare ea [p1, p2] [eb, ed] _ => decide (o1 = p1) && decide (o2 = p2) && chkE c sc a ea && chkE c sc b eb && chkE c sc d ed | _ => false)
  | .bop op es, e => (match e with | .BoolOp op' vs _ => decide (op = op') && decide (1 ≤ es.len) && chkEs c sc es vs | _ => false)
  | .call f es, e => (match e with | .Call (.Name x _) (a :: as) [] _ => decide (c.T[f]? = some (x, es.len)) && gl sc x && chkEs c sc es (a :: as) | _ => false)
  | .blt f es, e => (match e with | .Call (.Name x _) (a :: as) [] _ => decide (f.nm = (x, es.len)) && gl sc x && chkEs c sc es (a :: as) | _ => false)
  | .isi a t, e => (match e with | .Call (.Name x _) [ea, .Name y _] [] _ => decide (x = "isinstance") && gl sc x && decide (y = (t.nm : Str)) && gl sc y && chkE c sc a ea | _ => false)
  | .tup es, e => (match e with | .Tuple as _ _ => chkEs c sc es as | _ => false)
  | .lst es, e => (match e with | .List as _ => chkEs c sc es as | _ => false)
  | .ix a i, e => (match e with | .Subscript ea ei _ => chkE c sc a ea && chkE c sc i ei | _ => false)
  | .dic0, e => (match e with | .Dict [] [] _ => true | _ => false)
  | .kix j i, e => (match e with | .Subscript (.Name y py) ei _ => nmOk c.N j y && visB sc y && chkE c sc i ei | _ => false)
  | .sl a lo hi, e => (match e with | .Subscript ea (.Slice l h none _) _ => chkE c sc a ea && chkO c sc lo l && chkO c sc hi h | _ => false)
  | .rev a, e => (match e with | .Subscript ea (.Slice none none (some (.UnaryOp .USub (.Constant (.int 1) _ _) _)) _) _ => chkE c sc a ea | _ => false)
  | .comp elt tg it ifs, e => (match e with | .ListComp e [⟨t, i, fs, 0⟩] csc _ => chkIt c sc it i && blkC c.N sc csc (ownOf c.N tg.slots) && chkT c (relS csc sc) false tg t && decide (ifs.len ≤ 1) && chkEs c (relS csc sc) ifs fs && chkE c (relS csc sc) elt e | _ => false)
  | .lrng es, e => (match e with | .Call (.Name x _) [.Call (.Name y _) [a] [] _] [] _ => decide (x = "list") && gl sc x && decide (y = "range") && gl sc y && chkEs c sc es [a] | _ => false)
  | .sset a, e => (match e with | .Call (.Name x _) [.Call (.Name y _) [ea] [] _] [] _ => decide (x = "sorted") && gl sc x && decide (y = "set") && gl sc y && chkE c sc a ea | _ => false)
  | .lset a, e => (match e with | .Call (.Name x _) [.Call (.Name y _) [ea] [] _] [] _ => decide (x = "len") && gl sc x && decide (y = "set") && gl sc y && chkE c sc a ea | _ => false)
  | .index a x, e => (match e with | .Call (.Attribute ea m p) [ex] [] q => decide (m = "index") && (p.endLine == q.line) && isNm ea && chkE c sc a ea && chkE c sc x ex | _ => false)
def chkEs (c : Ck) (sc : Scope) : IEs → List Expr → Bool
  | .nil, [] => true
  | .cons a as, e :: es => chkE c sc a e && chkEs c sc as es
  | _, _ => false
def chkO (c : Ck) (sc : Scope) : IEs → Option Expr → Bool
  | .nil, none => true
  | .cons a as, some e => chkE c sc a e && (match as with | .nil => true | _ => false)
  | _, _ => false
def chkIt (c : Ck) (sc : Scope) : IIt → Expr → Bool
  | .keys j, e => (match e with | .Name y _ => nmOk c.N j y && visB sc y | _ => false)
  | .seq a, e => chkE c sc a e
  | .rng es, e => (match e with | .Call (.Name x _) as [] _ => decide (x = "range") && gl sc x && (decide (as.length = 1) || decide (as.length = 2) || decide (as.length = 3)) && chkEs c sc es as | _ => false)
end
end CF
namespace CF
open PySem PySem.Spec PyProof.Rows L2

def okE (e : Expr) : Bool := match e with | .Starred _ _ => false | .Slice _ _ _ _ => false | .Set _ _ _ => false | _ => true
theorem okE.star {e : Expr} (h : okE e = true) (es : List Expr) (env : PySem.Env) : starEach (e :: es) env = (false, eval e env) :: starEach es env := by
  cases e <;> first | rfl | (exact absurd h (by simp [okE]))
theorem okE.plain {e : Expr} (h : okE e = true) : PlainIx e := by
  intro o i
  cases e <;> first | rfl | (exact absurd h (by simp [okE]))
theorem okE.fold {e : Expr} (h : okE e = true) (env : PySem.Env) (x : Value) : foldedSetIterable e env x = pure x := by
  cases e <;> first | rfl | (exact absurd h (by simp [okE]))
theorem okE.mark {e : Expr} (h : okE e = true) (op : CmpOp) : behindInMarks op e = false := by
  cases e <;> first | rfl | (exact absurd h (by simp [okE]))
theorem chkE_ok {c : Ck} {sc : Scope} {ie : IE} {e : Expr} (h : chkE c sc ie e = true) : okE e = true := by
  cases ie <;> (unfold chkE at h; first | (cases h; done) | (split at h <;> first | rfl | cases h))

def PRepL (K : PySem.W.Frag) (Hf H : Hp) : List PyData → List V → Prop
  | [], vs => vs = []
  | d :: ds, vs => ∃ v r, vs = v :: r ∧ PRep K Hf H d v ∧ PRepL K Hf H ds r
section
variable {K : PySem.W.Frag} {Hf H Hf' H' : Hp}
theorem PRepL.ext (z : Ext Hf H Hf' H') : ∀ {ds : List PyData} {vs : List V}, PRepL K Hf H ds vs → PRepL K Hf' H' ds vs
  | [], _, h => h
  | d :: ds, _, h => by
    obtain ⟨v, r, rfl, h1, h2⟩ := h
    exact ⟨v, r, rfl, h1.ext z, PRepL.ext z h2⟩
theorem PRepL.full (s : Same Hf H) : ∀ {ds : List PyData} {vs : List V}, PRepL K Hf H ds vs → RepL K H ds vs
  | [], _, h => by unfold RepL; exact h
  | d :: ds, _, h => by
    obtain ⟨v, r, rfl, h1, h2⟩ := h
    exact RepL.cons (h1.full s) (PRepL.full s h2)
end
/-! ### what a reading means over plain data -/
def SemE (X : Cx) (G : Nat → Pm) (ie : IE) (t : TE) : Prop := ∀ (Bf B Hf H : Hp) (r : Ev) (σ : L2.St) (Q : PyData → Prop) (Qv : VK), StR X.K X.N.length Bf B Hf H r σ → wpE G ie r Q →
  (∀ d v Hf' H', Ext Hf H Hf' H' → Rep X.K Hf' d v → Q d → Qv v H') → t σ H Qv
/-- more of a value that is looked at: whether it is frozen, where it stands -/
structure NoI (K : PySem.W.Frag) (Hf : Hp) (ie : IE) (r : Ev) (σ : L2.St) (d : PyData) (v : V) : Prop where
  no : isOwnE ie r = false → Rep K Hf d v
  sl : ∀ j, ie = .var j → σ[j]? = some (some v)
def SemP (X : Cx) (G : Nat → Pm) (ie : IE) (t : TE) : Prop := ∀ (Bf B Hf H : Hp) (r : Ev) (σ : L2.St) (Q : PyData → Prop) (Qv : VK), StR X.K X.N.length Bf B Hf H r σ → pk ie r (wpE G ie r) Q →
  (∀ d v Hf' H', Ext Hf H Hf' H' → PRep X.K Hf' H' d v → NoI X.K Hf' ie r σ d v → Q d → Qv v H') → t σ H Qv
def SemT (X : Cx) (G : Nat → Pm) (ie : IE) (t : TT) : Prop := ∀ (Bf B Hf H : Hp) (r : Ev) (σ : L2.St) (Q : Bool → Prop) (Qv : Bool → Hp → Prop), StR X.K X.N.length Bf B Hf H r σ → wpE G ie r (tr Q) →
  (∀ b Hf' H', Ext Hf H Hf' H' → Q b → Qv b H') → t σ H Qv
def SemA (X : Cx) (G : Nat → Pm) (es : IEs) (t : TA) : Prop := ∀ (Bf B Hf H : Hp) (r : Ev) (σ : L2.St) (Q : List PyData → Prop) (Qv : List V → Hp → Prop), StR X.K X.N.length Bf B Hf H r σ → wpEs G es r Q →
  (∀ ds vs Hf' H', Ext Hf H Hf' H' → PRepL X.K Hf' H' ds vs → (noOwn es r = true → RepL X.K Hf' ds vs) → ds.length = es.len → Q ds → Qv vs H') → t σ H Qv
abbrev AllE (X : Cx) (sc : Scope) (e : Expr) (t : TE) : Prop := ∀ q : Vr, q.env.scope = sc → PE (at' X q) e t
abbrev AllT (X : Cx) (sc : Scope) (e : Expr) (t : TT) : Prop := ∀ q : Vr, q.env.scope = sc → PT (at' X q) e t
abbrev AllA (X : Cx) (sc : Scope) (e : List Expr) (t : TA) : Prop := ∀ q : Vr, q.env.scope = sc → PA (at' X q) e t
def Jd (X : Cx) (sc : Scope) (G : Nat → Pm) (ie : IE) (e : Expr) : Prop := (∃ t, AllE X sc e t ∧ SemE X G ie t ∧ SemP X G ie t) ∧ ∃ t, AllT X sc e t ∧ SemT X G ie t
def JdA (X : Cx) (sc : Scope) (G : Nat → Pm) (es : IEs) (e : List Expr) : Prop := ∃ t, AllA X sc e t ∧ SemA X G es t

section
variable {X : Cx} {sc : Scope} {G : Nat → Pm} {ie : IE} {e : Expr} {t : TE}
theorem isOwnE_var {a : IE} {r : Ev} (h : ∀ i, a ≠ .var i) : isOwnE a r = false := by
  cases a <;> first | rfl | (rename_i i; exact absurd rfl (h i))
theorem SemE.p (hv : ∀ i, ie ≠ .var i) (h : SemE X G ie t) : SemP X G ie t := by
  intro Bf B Hf H r σ Q Qv R w k
  have w' : wpE G ie r Q := by
    cases ie <;> first
      | exact w
      | (rename_i i; exact absurd rfl (hv i))
  exact h Bf B Hf H r σ Q Qv R w' fun d v Hf' H' z rep q => k d v Hf' H' z (.inl rep) ⟨fun _ => rep, fun j e => absurd e (hv j)⟩ q
theorem SemE.tt (h : SemE X G ie t) : SemT X G ie (tB t) := by
  intro Bf B Hf H r σ Q Qv R w k
  refine h Bf B Hf H r σ _ _ R w fun d v Hf' H' z rep q => ?_
  obtain ⟨b, rfl, q⟩ := q
  unfold Rep at rep
  exact ⟨b, rep, k b Hf' H' z q⟩
/-- from an expression whose test is its value's truth -/
theorem jd_mk (hv : ∀ i, ie ≠ .var i) (h : AllE X sc e t) (hs : SemE X G ie t) (he : ∀ env whole, isTrue e env whole = (do let v ← whole; standAt e.pos; holding [v] (truthy v))) : Jd X sc G ie e :=
  ⟨⟨t, h, hs, hs.p hv⟩, _, fun q hq => pt_val (h q hq) (he _), hs.tt⟩
theorem jd_var {N : List Str} {T cs d} (x : XOk N T cs d X) {c : Ck} (hc : c.N = N) {i : Nat} (h : chkE c sc (.var i) e = true) : Jd X sc G (.var i) e := by
  obtain ⟨y, pos, rfl⟩ : ∃ y pos, e = .Name y pos := by
    unfold chkE at h
    split at h
    · exact ⟨_, _, rfl⟩
    · cases h
  simp only [chkE, nmOk, visB, Bool.and_eq_true, decide_eq_true_eq, Bool.not_eq_true'] at h
  obtain ⟨h1, ⟨h2, h3⟩, h4⟩ := h
  have hN : X.N[i]? = some y := by rw [x.n, ← hc]; exact h1
  have hv : Vis sc y := by
    unfold Vis
    split at h2
    · exact .inl (by assumption)
    · exact .inr (.inl (by assumption))
    · exact .inr (.inr (by assumption))
    · cases h2
  have hp : AllE X sc (.Name y pos) (tVar i) := fun q hq => pe_var (X := at' X q) hN (by show Vis q.env.scope y; rw [hq]; exact hv) h3 h4
  have hs : SemE X G (.var i) (tVar i) := by
    intro Bf B Hf H r σ Q Qv R w k
    have w' : (match r.get i with | .val d => Q d | _ => False) := by rw [wpE] at w; exact w
    have q := R.sl i
    cases e : r.get i with
    | val d =>
      rw [e] at w' q
      obtain ⟨v, e1, rep⟩ := q
      exact ⟨v, e1, k d v Hf H (Ext.refl R.e.c) rep w'⟩
    | _ => rw [e] at w'; exact w'.elim
  refine ⟨⟨_, hp, hs, ?_⟩, _, fun q hq => pt_val (hp q hq), hs.tt⟩
  intro Bf B Hf H r σ Q Qv R w k
  have w' : (match r.get i with | .val d => Q d | .own d => Q d | .lck d => Q d | _ => False) := w
  have q := R.sl i
  cases e : r.get i with
  | val d =>
    rw [e] at w' q
    obtain ⟨v, e1, rep⟩ := q
    exact ⟨v, e1, k d v Hf H (Ext.refl R.e.c) (.inl rep) ⟨fun _ => rep, fun j ej => by cases ej; exact e1⟩ w'⟩
  | own d =>
    rw [e] at w' q
    obtain ⟨p, e1, rep, _⟩ := q
    refine ⟨_, e1, k d _ Hf H (Ext.refl R.e.c) (.inr rep) ⟨fun z => ?_, fun j ej => by cases ej; exact e1⟩ w'⟩
    have z' : (r.get i).isO = false := z
    rw [e] at z'
    cases z'
  | lck d =>
    rw [e] at w' q
    obtain ⟨p, e1, rep, _⟩ := q
    refine ⟨_, e1, k d _ Hf H (Ext.refl R.e.c) (.inr rep) ⟨fun z => ?_, fun j ej => by cases ej; exact e1⟩ w'⟩
    have z' : (r.get i).isO = false := z
    rw [e] at z'
    cases z'
  | un => rw [e] at w'; exact w'.elim
  | kyd l => rw [e] at w'; exact w'.elim

/-! ### arguments -/
theorem ja_nil : JdA X sc G .nil [] := ⟨_, fun q hq => pa_nil, fun Bf B Hf H r σ Q Qv R w k => by
  rw [wpEs] at w
  exact k [] [] Hf H (Ext.refl R.e.c) rfl (fun _ => RepL.nil) rfl w⟩
theorem ja_cons {es : IEs} {as : List Expr} (h : Jd X sc G ie e) (ok : okE e = true) (h' : JdA X sc G es as) : JdA X sc G (.cons ie es) (e :: as) := by
  obtain ⟨⟨t, p, _, sp⟩, _⟩ := h
  obtain ⟨ta, pa, sa⟩ := h'
  refine ⟨_, fun q hq => pa_cons (p q hq) (pa q hq) (okE.star ok _ _), fun Bf B Hf H r σ Q Qv R w k => ?_⟩
  rw [wpEs] at w
  refine sp Bf B Hf H r σ _ _ R w fun d v H1f H1 z1 rep1 rr1 w1 => ?_
  refine sa Bf B H1f H1 r σ _ _ (R.ext z1) w1 fun ds vs H2f H2 z2 rep2 rr2 hl q => ?_
  refine k (d :: ds) (v :: vs) H2f H2 (z1.trans z2) ⟨v, vs, rfl, rep1.ext z2, rep2⟩ (fun no => ?_) (by rw [List.length_cons, hl]; rfl) q
  have no' : (!isOwnE ie r && noOwn es r) = true := no
  rw [Bool.and_eq_true, Bool.not_eq_true'] at no'
  exact RepL.cons (Rep.mono z2.b _ _ (rr1.no no'.1)) (rr2 no'.2)

theorem cmp_okA (hu : X.A.units + 66 < cLine) (op : CmpOp) : ∃ r, (∀ q, OpR (at' X q) (compareOp op) r) ∧ SemR X.K r (cmpD op) := by
  obtain ⟨r, h1, h2⟩ := cmp_ok (K := X.K) op
  exact ⟨r, fun q => h1 (at' X q) rfl hu, h2⟩
/-! ### the constructs -/
theorem jd_kint {i : Int} {k pos} : Jd X sc G (.kint i) (.Constant (.int i) k pos) :=
  jd_mk (fun _ z => by cases z) (fun q hq => pe_int) (fun Bf B Hf H r σ Q Qv R w k => by rw [wpE] at w; exact k _ _ _ _ (Ext.refl R.e.c) rep_int w) (fun _ _ => rfl)
theorem jd_kstr {i : Str} {k pos} : Jd X sc G (.kstr i) (.Constant (.str i) k pos) :=
  jd_mk (fun _ z => by cases z) (fun q hq => pe_str) (fun Bf B Hf H r σ Q Qv R w k => by rw [wpE] at w; exact k _ _ _ _ (Ext.refl R.e.c) rep_str w) (fun _ _ => rfl)
theorem jd_kbool {i : Bool} {k pos} : Jd X sc G (.kbool i) (.Constant (.bool i) k pos) :=
  jd_mk (fun _ z => by cases z) (fun q hq => pe_bl) (fun Bf B Hf H r σ Q Qv R w k => by rw [wpE] at w; exact k _ _ _ _ (Ext.refl R.e.c) rep_bool w) (fun _ _ => rfl)
theorem jd_knone {k pos} : Jd X sc G .knone (.Constant .none k pos) :=
  jd_mk (fun _ z => by cases z) (fun q hq => pe_non) (fun Bf B Hf H r σ Q Qv R w k => by rw [wpE] at w; exact k _ _ _ _ (Ext.refl R.e.c) rep_none w) (fun _ _ => rfl)
theorem gl_of {x : Str} (h : gl sc x = true) : (∀ q : Vr, q.env.scope = sc → Gl (at' X q) x) ∧ (x == ("__debug__" : Str)) = false ∧ x ≠ "__name__" := by
  simp only [gl, Bool.and_eq_true, decide_eq_true_eq, Bool.not_eq_true'] at h
  obtain ⟨⟨h1, h2⟩, h3⟩ := h
  refine ⟨fun q hs => ?_, h2, h3⟩
  show q.env.scope.names.lookup x = _
  rw [hs]
  exact h1
theorem jd_gint {N : List Str} {T cs d} (x : XOk N T cs d X) {y : Str} {i : Int} {pos} (h : gl sc y = true) (hm : (y, i) ∈ cs) : Jd X sc G (.gint y i) (.Name y pos) := by
  obtain ⟨g1, g2, g3⟩ := gl_of (X := X) h
  obtain ⟨t, e⟩ := x.cs y i hm
  exact jd_mk (fun _ z => by cases z) (fun q hq => pe_glob (v := .int i) (g1 q hq) e ⟨t, rfl⟩ g2) (fun Bf B Hf H r σ Q Qv R w k => by rw [wpE] at w; exact k _ _ _ _ (Ext.refl R.e.c) rep_int w) (fun _ _ => rfl)
theorem jd_bin {op : Operator} {a b : IE} {ea eb : Expr} {pos : Pos} (ha : Jd X sc G a ea) (hb : Jd X sc G b eb) (hr : ∃ r, (∀ q, OpR (at' X q) (binaryOp op) r) ∧ SemR X.K r (binP op)) : Jd X sc G (.bin op a b) (.BinOp ea op eb pos) := by
  obtain ⟨⟨ta, pa, _, sa⟩, _⟩ := ha
  obtain ⟨⟨tb, pb, _, sb⟩, _⟩ := hb
  obtain ⟨rr, ho, hs⟩ := hr
  refine jd_mk (fun _ z => by cases z) (fun q hq => pe_op (ho q) (pa q hq) (pb q hq)) (fun Bf B Hf H r σ Q Qv R w k => ?_) (fun _ _ => rfl)
  rw [wpE] at w
  refine sa Bf B Hf H r σ _ _ R w fun x v H1f H1 z1 rep1 _ w1 => ?_
  refine sb Bf B H1f H1 r σ _ _ (R.ext z1) w1 fun y u H2f H2 z2 rep2 _ w2 => ?_
  exact hs H2f H2 x y v u Q Qv z2.c (rep1.ext z2) rep2 w2 fun d v' Hf' H' z3 rep q => k d v' Hf' H' ((z1.trans z2).trans z3) rep q
theorem jd_neg {a : IE} {ea : Expr} {pos : Pos} (ha : Jd X sc G a ea) : Jd X sc G (.neg a) (.UnaryOp .USub ea pos) := by
  obtain ⟨⟨ta, pa, sa, _⟩, _⟩ := ha
  refine jd_mk (fun _ z => by cases z) (fun q hq => pe_un un_neg (pa q hq)) (fun Bf B Hf H r σ Q Qv R w k => ?_) (fun _ _ => rfl)
  rw [wpE] at w
  refine sa Bf B Hf H r σ _ _ R w fun x v H1f H1 z1 rep1 w1 => ?_
  obtain ⟨i, rfl, q⟩ := w1
  unfold Rep at rep1
  exact ⟨i, rep1, k _ _ _ _ z1 rep_int q⟩
theorem jd_no {a : IE} {ea : Expr} {pos : Pos} (ha : Jd X sc G a ea) : Jd X sc G (.no a) (.UnaryOp .Not ea pos) := by
  obtain ⟨⟨ta, pa, sa, _⟩, tt, pt, st⟩ := ha
  have hs : SemE X G (.no a) (tNotV ta) := fun Bf B Hf H r σ Q Qv R w k => by
    rw [wpE] at w
    refine sa Bf B Hf H r σ _ _ R w fun x v H1f H1 z1 rep1 w1 => ?_
    obtain ⟨b, rfl, q⟩ := w1
    unfold Rep at rep1
    exact ⟨b, rep1, k _ _ _ _ z1 rep_bool q⟩
  refine ⟨⟨_, fun q hq => pe_not (pa q hq), hs, hs.p fun _ z => by cases z⟩, _, fun q hq => pt_not (pt q hq), fun Bf B Hf H r σ Q Qv R w k => ?_⟩
  rw [wpE] at w
  refine st Bf B Hf H r σ (fun b => Q (!b)) _ R (?_ : wpE G a r (tr fun b => Q (!b))) fun b Hf' H' z q => k _ _ _ z q
  have e : (tr fun b => tr Q (.bool (!b))) = tr fun b => Q (!b) := by
    funext d
    apply propext
    constructor
    · rintro ⟨b, e, b', e', q⟩
      cases e'
      exact ⟨b, e, q⟩
    · rintro ⟨b, e, q⟩
      exact ⟨b, e, _, rfl, q⟩
  rw [e] at w
  exact w
theorem jd_cmp {op : CmpOp} {a b : IE} {ea eb : Expr} {pos : Pos} (hu : X.A.units + 66 < cLine) (ha : Jd X sc G a ea) (hb : Jd X sc G b eb) (ok : okE eb = true) : Jd X sc G (.cmp op a b) (.Compare ea [op] [eb] pos) := by
  obtain ⟨⟨ta, pa, _, sa⟩, _⟩ := ha
  obtain ⟨⟨tb, pb, _, sb⟩, _⟩ := hb
  obtain ⟨rr, ho, hs⟩ := cmp_okA hu op
  have hE : SemE X G (.cmp op a b) (tOp rr ta tb) := fun Bf B Hf H r σ Q Qv R w k => by
    rw [wpE] at w
    refine sa Bf B Hf H r σ _ _ R w fun x v H1f H1 z1 rep1 _ w1 => ?_
    refine sb Bf B H1f H1 r σ _ _ (R.ext z1) w1 fun y u H2f H2 z2 rep2 _ w2 => ?_
    exact hs H2f H2 x y v u Q Qv z2.c (rep1.ext z2) rep2 w2 fun d v' Hf' H' z3 rep q => k d v' Hf' H' ((z1.trans z2).trans z3) rep q
  exact ⟨⟨_, fun q hq => pe_cmpR (ho q) (pa q hq) (pb q hq) (okE.mark ok _), hE, hE.p fun _ z => by cases z⟩, _, fun q hq => pt_cmpR (ho q) (pa q hq) (pb q hq) (okE.mark ok _), hE.tt⟩
theorem jd_chain {o1 o2 : CmpOp} {a b c : IE} {ea eb ec : Expr} {pos : Pos} (hu : X.A.units + 66 < cLine) (ha : Jd X sc G a ea) (hb : Jd X sc G b eb) (hc : Jd X sc G c ec) (ok : okE ec = true) : Jd X sc G (.chain o1 o2 a b c) (.Compare ea [o1, o2] [eb, ec] pos) := by
  obtain ⟨⟨ta, pa, sa, _⟩, _⟩ := ha
  obtain ⟨⟨tb, pb, sb, _⟩, _⟩ := hb
  obtain ⟨⟨tc, pc, sc, _⟩, _⟩ := hc
  obtain ⟨rr, ho, hs⟩ := cmp_okA hu o1
  obtain ⟨rr2, ho2, hs2⟩ := cmp_okA hu o2
  have hm : lastMarks [o1, o2] [eb, ec] = false := by
    show behindInMarks o2 ec = false
    exact okE.mark ok _
  have hE : SemE X G (.chain o1 o2 a b c) (tChain rr rr2 ta tb tc) := fun Bf B Hf H r σ Q Qv R w k => by
    rw [wpE] at w
    refine sa Bf B Hf H r σ _ _ R w fun x v H1f H1 z1 rep1 w1 => ?_
    refine sb Bf B H1f H1 r σ _ _ (R.ext z1) w1 fun y u H2f H2 z2 rep2 w2 => ?_
    refine hs H2f H2 x y v u (tr fun t => if t = true then wpE G c r fun z => cmpP o2 y z fun t => Q (.bool t) else Q (.bool false)) _ z2.c (.inl (Rep.mono z2.b _ _ rep1)) (.inl rep2) ?_ fun d v' H3f H3 z3 rep3 q => ?_
    · unfold cmpD
      have e : (fun t => tr (fun t => if t = true then wpE G c r fun z => cmpP o2 y z fun t => Q (.bool t) else Q (.bool false)) (.bool t)) = fun t => if t = true then wpE G c r fun z => cmpP o2 y z fun t => Q (.bool t) else Q (.bool false) := by
        funext t
        apply propext
        constructor
        · rintro ⟨b, e, q⟩
          cases e
          exact q
        · exact fun q => ⟨t, rfl, q⟩
      rw [e]
      exact w2
    · obtain ⟨t, rfl, q⟩ := q
      unfold Rep at rep3
      refine ⟨t, rep3, ?_⟩
      cases t with
      | false => exact iteF (k _ _ _ _ ((z1.trans z2).trans z3) rep_bool (by simpa using q))
      | true =>
        refine iteT ?_
        rw [if_pos rfl] at q
        refine sc Bf B H3f H3 r σ _ _ (R.ext ((z1.trans z2).trans z3)) q fun z w' H4f H4 z4 rep4 q4 => ?_
        exact hs2 H4f H4 y z u w' Q Qv z4.c (.inl (Rep.mono z4.b _ _ (Rep.mono z3.b _ _ rep2))) (.inl rep4) q4 fun d v' Hf' H' z5 rep q => k d v' Hf' H' ((((z1.trans z2).trans z3).trans z4).trans z5) rep q
  exact ⟨⟨_, fun q hq => pe_chain (ho q) (ho2 q) (pa q hq) (pb q hq) (pc q hq) hm, hE, hE.p fun _ z => by cases z⟩, _, fun q hq => pt_chain (ho q) (ho2 q) (pa q hq) (pb q hq) (pc q hq) hm, hE.tt⟩
end
end CF
namespace CF
open PySem PySem.Spec PyProof.Rows L2
section
variable {X : Cx} {sc : Scope} {G : Nat → Pm}

/-! ### and, or -/
/-- the parts of an and, an or: all but the last tests -/
def JdB (X : Cx) (sc : Scope) (G : Nat → Pm) (op : BoolOp) (es : IEs) (vs : List Expr) : Prop := ∀ pos,
  (∃ t, AllE X sc (.BoolOp op vs pos) t ∧ ∀ (Bf B Hf H : Hp) (r : Ev) (σ : L2.St) (Q : PyData → Prop) (Qv : VK), StR X.K X.N.length Bf B Hf H r σ → wpBop G op es r Q → (∀ d v Hf' H', Ext Hf H Hf' H' → Rep X.K Hf' d v → Q d → Qv v H') → t σ H Qv) ∧
  ∃ t, (∀ q : Vr, q.env.scope = sc → PW (at' X q) (.BoolOp op vs pos) t) ∧ ∀ (Bf B Hf H : Hp) (r : Ev) (σ : L2.St) (Q : Bool → Prop) (Qv : Bool → Hp → Prop), StR X.K X.N.length Bf B Hf H r σ → wpBop G op es r (tr Q) → (∀ b Hf' H', Ext Hf H Hf' H' → Q b → Qv b H') → t σ H Qv
theorem tr_bool {Q : Bool → Prop} {b : Bool} (h : tr Q (.bool b)) : Q b := by
  obtain ⟨c, e, q⟩ := h
  cases e
  exact q
theorem jb_one {op : BoolOp} {a : IE} {ea : Expr} (ha : Jd X sc G a ea) : JdB X sc G op (.cons a .nil) [ea] := by
  intro pos
  obtain ⟨⟨ta, pa, sa, _⟩, tt, pt, st⟩ := ha
  refine ⟨⟨ta, fun q hq => pe_one (pa q hq), fun Bf B Hf H r σ Q Qv R w k => ?_⟩, tt, ?_, fun Bf B Hf H r σ Q Qv R w k => ?_⟩
  · rw [wpBop] at w
    exact sa Bf B Hf H r σ Q Qv R w k
  · cases op
    · exact fun q hq => pw_and1 (pt q hq)
    · exact fun q hq => pw_or1 (pt q hq)
  · rw [wpBop] at w
    exact st Bf B Hf H r σ Q Qv R w k
theorem jb_cons {op : BoolOp} {a b : IE} {es : IEs} {ea eb : Expr} {vs : List Expr} (ha : Jd X sc G a ea) (hb : JdB X sc G op (.cons b es) (eb :: vs)) : JdB X sc G op (.cons a (.cons b es)) (ea :: eb :: vs) := by
  intro pos
  obtain ⟨⟨ta, pa, sa, _⟩, tt, pt, st⟩ := ha
  obtain ⟨⟨tb, pb, sb⟩, tw, pw, sw⟩ := hb pos
  cases op
  · refine ⟨⟨_, fun q hq => pe_and (pa q hq) (pb q hq), fun Bf B Hf H r σ Q Qv R w k => ?_⟩, _, fun q hq => pw_and (pt q hq) (pw q hq), fun Bf B Hf H r σ Q Qv R w k => ?_⟩
    · rw [wpBop] at w
      refine sa Bf B Hf H r σ _ _ R w fun x v H1f H1 z1 rep1 w1 => ?_
      obtain ⟨c, rfl, w1⟩ := w1
      unfold Rep at rep1
      refine ⟨c, rep1, ?_⟩
      cases c with
      | false => exact iteF (k _ _ _ _ z1 rep_bool (by simpa using w1))
      | true => exact iteT (sb Bf B H1f H1 r σ Q Qv (R.ext z1) (by simpa using w1) fun d v Hf' H' z2 => k d v Hf' H' (z1.trans z2))
    · rw [wpBop] at w
      refine st Bf B Hf H r σ _ _ R w fun c H1f H1 z1 w1 => ?_
      cases c with
      | false => exact iteF (k _ _ _ z1 (tr_bool (by simpa using w1)))
      | true => exact iteT (sw Bf B H1f H1 r σ Q Qv (R.ext z1) (by simpa using w1) fun d Hf' H' z2 => k d Hf' H' (z1.trans z2))
  · refine ⟨⟨_, fun q hq => pe_or (pa q hq) (pb q hq), fun Bf B Hf H r σ Q Qv R w k => ?_⟩, _, fun q hq => pw_or (pt q hq) (pw q hq), fun Bf B Hf H r σ Q Qv R w k => ?_⟩
    · rw [wpBop] at w
      refine sa Bf B Hf H r σ _ _ R w fun x v H1f H1 z1 rep1 w1 => ?_
      obtain ⟨c, rfl, w1⟩ := w1
      unfold Rep at rep1
      refine ⟨c, rep1, ?_⟩
      cases c with
      | true => exact iteT (k _ _ _ _ z1 rep_bool (by simpa using w1))
      | false => exact iteF (sb Bf B H1f H1 r σ Q Qv (R.ext z1) (by simpa using w1) fun d v Hf' H' z2 => k d v Hf' H' (z1.trans z2))
    · rw [wpBop] at w
      refine st Bf B Hf H r σ _ _ R w fun c H1f H1 z1 w1 => ?_
      cases c with
      | true => exact iteT (k _ _ _ z1 (tr_bool (by simpa using w1)))
      | false => exact iteF (sw Bf B H1f H1 r σ Q Qv (R.ext z1) (by simpa using w1) fun d Hf' H' z2 => k d Hf' H' (z1.trans z2))
theorem jd_bop {op : BoolOp} {es : IEs} {vs : List Expr} {pos : Pos} (h : JdB X sc G op es vs) : Jd X sc G (.bop op es) (.BoolOp op vs pos) := by
  obtain ⟨⟨t, p, s⟩, tt, pw, sw⟩ := h pos
  have hs : SemE X G (.bop op es) t := fun Bf B Hf H r σ Q Qv R w k => by
    rw [wpE] at w
    exact s Bf B Hf H r σ Q Qv R w k
  refine ⟨⟨t, p, hs, hs.p fun _ z => by cases z⟩, tt, fun q hq => (pw q hq).pt, fun Bf B Hf H r σ Q Qv R w k => ?_⟩
  rw [wpE] at w
  exact sw Bf B Hf H r σ Q Qv R w k

/-! ### calls -/
theorem ja_plain {es : IEs} {as : List Expr} {c : Ck} {sc : Scope} (h : chkEs c sc es as = true) (pos : Pos) (env : PySem.Env) : (backTo pos (starEach as env)).any (·.1) = false := by
  induction as generalizing es with
  | nil => rfl
  | cons a as ih =>
    cases es with
    | nil => exact absurd h (by simp [chkEs])
    | cons e es =>
      have h' : (chkE c sc e a && chkEs c sc es as) = true := by simpa [chkEs] using h
      rw [Bool.and_eq_true] at h'
      rw [okE.star (chkE_ok h'.1)]
      exact ih h'.2
theorem flat_rep {K : PySem.W.Frag} {H H' : Hp} {d : PyData} {v : V} (f : flat d = true) (h : Rep K H d v) : Rep K H' d v := Rep.flat f h
/-- a call of a function of the table; for a fresh one also as a list of one's own -/
theorem call_sem {f : Nat} {g : FnE} {es : IEs} {ta : TA} (hG : G f = g.G) (sa : SemA X G es ta) (he : es.len = g.ar) (Bf B Hf H : Hp) (r : Ev) (σ : L2.St) (Q : PyData → Prop) (Qv : VK) (R : StR X.K X.N.length Bf B Hf H r σ) (w : wpE G (.call f es) r Q)
    (k : ∀ d v Hf' H', Ext Hf H Hf' H' → (if g.fresh = true then (ORep X.K Hf' H' d v ∧ (∀ p, v = .ref p → H p = none)) ∨ (flat d = true ∧ Rep X.K Hf' d v) else Rep X.K Hf' d v) → Q d → Qv v H') : tCallM (spD X.K g.ar g.fresh g.G) ta σ H Qv := by
  rw [wpE] at w
  refine sa Bf B Hf H r σ _ _ R w fun ds vs H1f H1 z1 rep1 rr1 hl w1 => ?_
  rw [hG] at w1
  have lenV : vs.length = g.ar := by rw [← (PRepL.full z1.c rep1).length, hl, he]
  refine ⟨lenV, ?_⟩
  by_cases no : noOwn es r = true
  · refine ⟨H1f, ds, _, z1.c, rr1 no, w1, fun d v H2f H2 z2 rep q => ?_⟩
    refine k d v H2f H2 (z1.trans z2) ?_ q.2
    by_cases fr : g.fresh = true
    · rw [if_pos fr] at rep ⊢
      refine .inl ⟨rep.1, fun p e => ?_⟩
      exact z1.a.free (rep.2 p e)
    · rw [if_neg fr] at rep ⊢
      exact rep
  · refine ⟨H1, ds, _, Same.refl _, PRepL.full z1.c rep1, w1, fun d v H2f H2 z2 rep q => ?_⟩
    have fl : flat d = true := by
      rcases q.1 with q | q
      · exact q
      · exact absurd q no
    have rp : ∀ H', Rep X.K H' d v := fun H' => by
      by_cases fr : g.fresh = true
      · rw [if_pos fr] at rep
        cases d <;> first
          | exact (rep.1 : False).elim
          | exact absurd fl (by simp [flat])
      · rw [if_neg fr] at rep
        exact flat_rep fl rep
    refine k d v H1f H2 ⟨z1.a.trans z2.a, z1.b, z1.c.trans z2.a, z1.d⟩ ?_ q.2
    by_cases fr : g.fresh = true
    · rw [if_pos fr]
      exact .inr ⟨fl, rp _⟩
    · rw [if_neg fr]
      exact rp _
theorem ORep.fr {K : PySem.W.Frag} {Hf H Hf' H' : Hp} {d : PyData} {v : V} (z : Ext Hf H Hf' H') (h : ORep K Hf' H' d v) (hn : ∀ p, v = .ref p → H p = none) : ∃ Hf2, Ext Hf H Hf2 H' ∧ Rep K Hf2 d v := by
  obtain ⟨p, o, rfl, h1, h2⟩ := h.ref
  have hp := hn p rfl
  refine ⟨upd Hf' p o, ⟨z.a, z.b.trans (Same.frz z.c h1 h2).1, (Same.frz z.c h1 h2).2, fun q hq => ?_⟩, h.freeze h2⟩
  rw [upd_ne (fun e => hq (by rw [e]; exact hp))]
  exact z.d q hq
theorem call_pe {N : List Str} {T cs d} (x : XOk N T cs d X) {f : Nat} {g : FnE} {ea : Expr} {as : List Expr} {ta : TA} {y : Str} {p pos : Pos} (hT : T[f]? = some g) (hy : g.name = y) (hg : gl sc y = true) (pa : AllA X sc (ea :: as) ta)
    (ok : okE ea = true) (hpl : ∀ env, (backTo pos (starEach as env)).any (·.1) = false) : AllE X sc (.Call (.Name y p) (ea :: as) [] pos) (tCallM (spD X.K g.ar g.fresh g.G) ta) := by
  obtain ⟨a, F⟩ := x.fn f g hT
  obtain ⟨h1, h2, fd, ps, h3, h4, h5⟩ := F
  obtain ⟨g1, g2, g3⟩ := gl_of (X := X) hg
  exact fun q hq => pe_callM (X := at' X q) h5 x.rm (g1 q hq) (by rw [← hy]; exact h1) h2 h4 (pa q hq) g2 (okE.star ok _ _) (hpl _)
theorem jd_call {N : List Str} {T cs d} (x : XOk N T cs d X) {f : Nat} {g : FnE} {es : IEs} {ea : Expr} {as : List Expr} {y : Str} {p pos : Pos} (hT : T[f]? = some g) (hG : G f = g.G) (hy : g.name = y) (hg : gl sc y = true) (ha : JdA X sc G es (ea :: as))
    (ok : okE ea = true) (hpl : ∀ env, (backTo pos (starEach as env)).any (·.1) = false) (he : es.len = g.ar) : Jd X sc G (.call f es) (.Call (.Name y p) (ea :: as) [] pos) := by
  obtain ⟨ta, pa, sa⟩ := ha
  refine jd_mk (fun _ z => by cases z) (call_pe x hT hy hg pa ok hpl) (fun Bf B Hf H r σ Q Qv R w k => ?_) (fun _ _ => rfl)
  refine call_sem hG sa he Bf B Hf H r σ Q Qv R w fun d v Hf' H' z rep q => ?_
  by_cases fr : g.fresh = true
  · rw [if_pos fr] at rep
    rcases rep with ⟨rep, hn⟩ | ⟨_, rep⟩
    · obtain ⟨Hf2, z2, rep2⟩ := rep.fr z hn
      exact k d v Hf2 H' z2 rep2 q
    · exact k d v Hf' H' z rep q
  · rw [if_neg fr] at rep
    exact k d v Hf' H' z rep q
end
end CF
namespace CF
open PySem PySem.Spec PyProof.Rows L2

/-! ### built-in functions -/
def SemC (K : PySem.W.Frag) (r : List V → Hp → VK → Prop) (P : List PyData → (PyData → Prop) → Prop) : Prop :=
  ∀ (Hf H : Hp) (ds : List PyData) (vs : List V) (Q : PyData → Prop) (Qv : VK), Same Hf H → PRepL K Hf H ds vs → P ds Q →
    (∀ d v Hf' H', Ext Hf H Hf' H' → Rep K Hf' d v → Q d → Qv v H') → r vs H Qv
section
variable {K : PySem.W.Frag} {Hf H : Hp}
theorem one_of {ds : List PyData} {vs : List V} {P : PyData → Prop} (h : PRepL K Hf H ds vs) (e : ∃ d, ds = [d] ∧ P d) : ∃ d v, ds = [d] ∧ vs = [v] ∧ PRep K Hf H d v ∧ P d := by
  obtain ⟨d, rfl, p⟩ := e
  obtain ⟨v, r, rfl, h1, h2⟩ := h
  have h2' : r = [] := h2
  subst h2'
  exact ⟨d, v, rfl, rfl, h1, p⟩
theorem prep1 {d : PyData} {vs : List V} (h : PRepL K Hf H [d] vs) : ∃ v, vs = [v] ∧ PRep K Hf H d v := by
  obtain ⟨v, r, rfl, h1, h2⟩ := h
  have h2' : r = [] := h2
  subst h2'
  exact ⟨v, rfl, h1⟩
theorem prep2 {d e : PyData} {vs : List V} (h : PRepL K Hf H [d, e] vs) : ∃ v u, vs = [v, u] ∧ PRep K Hf H d v ∧ PRep K Hf H e u := by
  obtain ⟨v, r, rfl, h1, h2⟩ := h
  obtain ⟨u, rfl, h3⟩ := prep1 h2
  exact ⟨v, u, rfl, h1, h3⟩
theorem max_ite (i j : Int) : (if j > i then j else i) = max i j := by
  rw [Int.max_def]
  split <;> split <;> omega
theorem min_ite (i j : Int) : (if j < i then j else i) = min i j := by
  rw [Int.min_def]
  split <;> split <;> omega
/-- the pair that stands at a place -/
def pairAt (H : Hp) (v : V) : Int × Int := match v with
  | .ref t => (match H t with | some (.tup [.int i, .int j]) => (i, j) | _ => (0, 0))
  | _ => (0, 0)
def pairD (p : Int × Int) : PyData := .tuple [.int p.1, .int p.2]
theorem pair_of {i j : Int} {v : V} (s : Same Hf H) (h : Rep K Hf (.tuple [.int i, .int j]) v) : ∃ t, v = .ref t ∧ H t = some (.tup [.int i, .int j]) ∧ pairAt H v = (i, j) := by
  unfold Rep at h
  obtain ⟨t, vs, rfl, h1, h2⟩ := h
  have e : vs = [i, j].map V.int := RepL.ints (ns := [i, j]) h2
  subst e
  have h3 := s _ _ h1
  refine ⟨t, rfl, h3, ?_⟩
  unfold pairAt
  show (match H t with | some (.tup [.int i, .int j]) => (i, j) | _ => (0, 0)) = (i, j)
  rw [h3]
  rfl
theorem pairs_of (s : Same Hf H) : ∀ {xs : List PyData} {vs : List V}, RepL K Hf xs vs → (∀ x ∈ xs, ∃ i j, x = .tuple [.int i, .int j]) →
    xs = vs.map (fun v => pairD (pairAt H v)) ∧ ∀ v ∈ vs, Rep K Hf (pairD (pairAt H v)) v ∧ ∃ t, v = .ref t ∧ H t = some (.tup [.int (pairAt H v).1, .int (pairAt H v).2])
  | [], vs, h, _ => by unfold RepL at h; subst h; exact ⟨rfl, fun v hv => absurd hv (by simp)⟩
  | x :: xs, vs, h, hx => by
    unfold RepL at h
    obtain ⟨v, r, rfl, h1, h2⟩ := h
    obtain ⟨i, j, rfl⟩ := hx x List.mem_cons_self
    obtain ⟨t, e1, e2, e3⟩ := pair_of s h1
    obtain ⟨q1, q2⟩ := pairs_of s h2 fun y hy => hx y (List.mem_cons_of_mem _ hy)
    refine ⟨?_, fun u hu => ?_⟩
    · rw [List.map_cons, ← q1, e3]
      rfl
    · rcases List.mem_cons.mp hu with e | hu
      · subst e
        rw [e3]
        exact ⟨h1, t, e1, e2⟩
      · exact q2 u hu
theorem repL_map {f : V → PyData} : ∀ {vs : List V}, (∀ v ∈ vs, Rep K Hf (f v) v) → RepL K Hf (vs.map f) vs
  | [], _ => RepL.nil
  | v :: vs, h => RepL.cons (h v List.mem_cons_self) (repL_map fun u hu => h u (List.mem_cons_of_mem _ hu))
end
/-- the call of one of these -/
def BtOk (X : Cx) (f : Bf) : Prop := ∃ r : List V → Hp → VK → Prop, SemC X.K r (bltP f) ∧
  ((∃ id, bootBuiltins f.nm.1 = some (.builtin id) ∧ ∀ q, CallR (at' X q) (.builtin id) r) ∨ ∃ T, bootBuiltins f.nm.1 = some (.type T) ∧ ∀ q, CallR (at' X q) (.type T) r)
section
variable {X : Cx}
theorem bt_len : BtOk X .len := by
  refine ⟨fun xs H Q => ∃ p ys, xs = [.ref p] ∧ (SqL X.K H p ys ∨ SqT X.K H p ys) ∧ Q (.int ys.length) H, ?_, .inl ⟨_, PySem.boot_len, fun q => call_len_seq (X := at' X q)⟩⟩
  intro Hf H ds vs Q Qv s rep p k
  unfold bltP at p
  split at p <;> first | exact p.elim | contradiction | skip
  · obtain ⟨v, rfl, q⟩ := prep1 rep
    obtain ⟨a, ws, rfl, h1, h2⟩ := q.list s
    refine ⟨a, ws, rfl, .inl h1, ?_⟩
    rw [← h2.length]
    exact k _ _ _ _ (Ext.refl s) rep_int p
  · obtain ⟨v, rfl, q⟩ := prep1 rep
    obtain ⟨a, ws, rfl, h1, h2⟩ := q.tuple s
    refine ⟨a, ws, rfl, .inr (SqT.of h1), ?_⟩
    rw [← h2.length]
    exact k _ _ _ _ (Ext.refl s) rep_int p
theorem bt_max2 (hc : X.calm = true) : BtOk X .max2 := by
  refine ⟨_, ?_, .inl ⟨_, boot_max, fun q => call_max2 hc⟩⟩
  intro Hf H ds vs Q Qv s rep p k
  unfold bltP at p
  split at p <;> first | exact p.elim | contradiction | skip
  obtain ⟨v, u, rfl, q1, q2⟩ := prep2 rep
  refine ⟨_, _, by rw [q1.int, q2.int], ?_⟩
  rw [max_ite]
  exact k _ _ _ _ (Ext.refl s) rep_int p
theorem bt_min2 (hc : X.calm = true) : BtOk X .min2 := by
  refine ⟨_, ?_, .inl ⟨_, boot_min, fun q => call_min2 hc⟩⟩
  intro Hf H ds vs Q Qv s rep p k
  unfold bltP at p
  split at p <;> first | exact p.elim | contradiction | skip
  obtain ⟨v, u, rfl, q1, q2⟩ := prep2 rep
  refine ⟨_, _, by rw [q1.int, q2.int], ?_⟩
  rw [min_ite]
  exact k _ _ _ _ (Ext.refl s) rep_int p
theorem bt_maxL (hc : X.calm = true) : BtOk X .maxL := by
  refine ⟨rMax X.K, ?_, .inl ⟨_, boot_max, fun q => cr_max (X := at' X q) hc⟩⟩
  intro Hf H ds vs Q Qv s rep p k
  unfold bltP at p
  split at p <;> first | exact p.elim | contradiction | skip
  obtain ⟨v, rfl, q⟩ := prep1 rep
  obtain ⟨a, ws, rfl, h1, h2⟩ := q.list s
  obtain ⟨ns, rfl, p1, p2⟩ := p
  have e := h2.ints
  subst e
  exact ⟨a, ns, rfl, h1, p1, fun m hm hy => k _ _ _ _ (Ext.refl s) rep_int (p2 m hm hy)⟩
theorem bt_minL (hc : X.calm = true) : BtOk X .minL := by
  refine ⟨rMin X.K, ?_, .inl ⟨_, boot_min, fun q => cr_min (X := at' X q) hc⟩⟩
  intro Hf H ds vs Q Qv s rep p k
  unfold bltP at p
  split at p <;> first | exact p.elim | contradiction | skip
  obtain ⟨v, rfl, q⟩ := prep1 rep
  obtain ⟨a, ws, rfl, h1, h2⟩ := q.list s
  obtain ⟨ns, rfl, p1, p2⟩ := p
  have e := h2.ints
  subst e
  exact ⟨a, ns, rfl, h1, p1, fun m hm hy => k _ _ _ _ (Ext.refl s) rep_int (p2 m hm hy)⟩
theorem bt_sum (hc : X.calm = true) : BtOk X .sum := by
  refine ⟨rSum X.K, ?_, .inl ⟨_, boot_sum, fun q => cr_sum (X := at' X q) hc⟩⟩
  intro Hf H ds vs Q Qv s rep p k
  unfold bltP at p
  split at p <;> first | exact p.elim | contradiction | skip
  obtain ⟨v, rfl, q⟩ := prep1 rep
  obtain ⟨a, ws, rfl, h1, h2⟩ := q.list s
  obtain ⟨ns, rfl, p1⟩ := p
  have e := h2.ints
  subst e
  exact ⟨a, ns, rfl, h1, k _ _ _ _ (Ext.refl s) rep_int p1⟩
theorem bt_all (hc : X.calm = true) : BtOk X .all := by
  refine ⟨rAll X.K, ?_, .inl ⟨_, boot_all, fun q => cr_all (X := at' X q) hc⟩⟩
  intro Hf H ds vs Q Qv s rep p k
  unfold bltP at p
  split at p <;> first | exact p.elim | contradiction | skip
  obtain ⟨v, rfl, q⟩ := prep1 rep
  obtain ⟨a, ws, rfl, h1, h2⟩ := q.list s
  obtain ⟨ns, rfl, p1⟩ := p
  have e := h2.bools
  subst e
  exact ⟨a, ns, rfl, h1, k _ _ _ _ (Ext.refl s) rep_bool p1⟩
theorem bt_list1 : BtOk X .list1 := by
  refine ⟨fun xs H Q => ∃ p ys, xs = [.ref p] ∧ (SqL X.K H p ys ∨ SqT X.K H p ys) ∧ ∀ l, H l = none → Q (.ref l) (upd H l (.lst ys)), ?_, .inr ⟨_, boot_list, fun q => call_list_of (X := at' X q)⟩⟩
  intro Hf H ds vs Q Qv s rep p k
  unfold bltP at p
  split at p <;> first | exact p.elim | contradiction | skip
  · obtain ⟨v, rfl, q⟩ := prep1 rep
    obtain ⟨a, ws, rfl, h1, h2⟩ := q.list s
    exact ⟨a, ws, rfl, .inl h1, fun l hl => k _ _ _ _ (Ext.new s hl) (rep_newL (s.free hl) h2) p⟩
  · obtain ⟨v, rfl, q⟩ := prep1 rep
    obtain ⟨a, ws, rfl, h1, h2⟩ := q.tuple s
    exact ⟨a, ws, rfl, .inr (SqT.of h1), fun l hl => k _ _ _ _ (Ext.new s hl) (rep_newL (s.free hl) h2) p⟩
theorem bt_tuple1 : BtOk X .tuple1 := by
  refine ⟨fun xs H Q => ∃ p ys, xs = [.ref p] ∧ ((SqL X.K H p ys ∧ ∀ l, H l = none → Q (.ref l) (upd H l (.tup ys))) ∨ (SqT X.K H p ys ∧ Q (.ref p) H)), ?_, .inr ⟨_, boot_tuple, fun q => call_tuple_of (X := at' X q)⟩⟩
  intro Hf H ds vs Q Qv s rep p k
  unfold bltP at p
  split at p <;> first | exact p.elim | contradiction | skip
  · obtain ⟨v, rfl, q⟩ := prep1 rep
    obtain ⟨a, ws, rfl, h1, h2⟩ := q.list s
    exact ⟨a, ws, rfl, .inl ⟨h1, fun l hl => k _ _ _ _ (Ext.new s hl) (rep_newT (s.free hl) h2) p⟩⟩
  · obtain ⟨v, rfl, q⟩ := prep1 rep
    have q' := q
    obtain ⟨a, ws, rfl, h1, h2⟩ := q.tuple s
    rcases q' with q' | q'
    · exact ⟨a, ws, rfl, .inr ⟨SqT.of h1, k _ _ _ _ (Ext.refl s) q' p⟩⟩
    · exact q'.elim
theorem bt_int1 : BtOk X .int1 := by
  refine ⟨_, ?_, .inr ⟨_, boot_int, fun q => call_int1⟩⟩
  intro Hf H ds vs Q Qv s rep p k
  unfold bltP at p
  split at p <;> first | exact p.elim | contradiction | skip
  · obtain ⟨v, rfl, q⟩ := prep1 rep
    exact .inl ⟨_, by rw [q.int], k _ _ _ _ (Ext.refl s) rep_int p⟩
  · obtain ⟨v, rfl, q⟩ := prep1 rep
    exact .inr ⟨_, by rw [q.bool], k _ _ _ _ (Ext.refl s) rep_int p⟩
theorem bt_str1 : BtOk X .str1 := by
  refine ⟨_, ?_, .inr ⟨_, boot_str, fun q => call_str_int⟩⟩
  intro Hf H ds vs Q Qv s rep p k
  unfold bltP at p
  split at p <;> first | exact p.elim | contradiction | skip
  obtain ⟨v, rfl, q⟩ := prep1 rep
  exact ⟨_, by rw [q.int], p.1, k _ _ _ _ (Ext.refl s) rep_str p.2⟩
theorem bt_sortI : BtOk X .sortI := by
  refine ⟨rSorted X.K, ?_, .inl ⟨_, boot_sorted, fun q => cr_sorted (X := at' X q)⟩⟩
  intro Hf H ds vs Q Qv s rep p k
  unfold bltP at p
  split at p <;> first | exact p.elim | contradiction | skip
  obtain ⟨v, rfl, q⟩ := prep1 rep
  obtain ⟨a, ws, rfl, h1, h2⟩ := q.list s
  obtain ⟨ns, rfl, p1, p2⟩ := p
  have e := h2.ints
  subst e
  exact ⟨a, ns, rfl, h1, p1, fun ns' l hp hs hl => k _ _ _ _ (Ext.new s hl) (rep_newL (s.free hl) (repL_ints ns')) (p2 ns' hp hs)⟩
theorem bt_sortP : BtOk X .sortP := by
  refine ⟨rSortedPO X.K, ?_, .inl ⟨_, boot_sorted, fun q => cr_sortedPO (X := at' X q)⟩⟩
  intro Hf H ds vs Q Qv s rep p k
  unfold bltP at p
  split at p <;> first | exact p.elim | contradiction | skip
  rename_i xs
  obtain ⟨v, rfl, q⟩ := prep1 rep
  obtain ⟨a, ws, rfl, h1, h2⟩ := q.list s
  obtain ⟨p1, p2⟩ := p
  obtain ⟨e1, e2⟩ := pairs_of s h2 p1
  refine ⟨a, ws, pairAt H, rfl, h1, fun x hx => (e2 x hx).2, fun ys l hs hp hl => ?_⟩
  refine k _ _ _ _ (Ext.new s hl) (rep_newL (s.free hl) (repL_map (f := fun v => pairD (pairAt H v)) fun v hv => (e2 v (hp.perm.mem_iff.mp hv)).1)) (p2 _ ?_ ?_)
  · rw [e1]
    exact hp.perm.map _
  · refine List.pairwise_map.mpr (List.Pairwise.imp (fun {x y} h => ?_) hs)
    have h' := SrtO.lexB_no.mp h
    show (pairAt H x).1 < (pairAt H y).1 ∨ ((pairAt H x).1 = (pairAt H y).1 ∧ (pairAt H x).2 ≤ (pairAt H y).2)
    omega
theorem bt_ok (hc : X.calm = true) (f : Bf) : BtOk X f := by
  cases f
  · exact bt_len
  · exact bt_max2 hc
  · exact bt_min2 hc
  · exact bt_maxL hc
  · exact bt_minL hc
  · exact bt_sum hc
  · exact bt_all hc
  · exact bt_list1
  · exact bt_tuple1
  · exact bt_int1
  · exact bt_str1
  · exact bt_sortI
  · exact bt_sortP
end
end CF
namespace CF
open PySem PySem.Spec PyProof.Rows L2
section
variable {X : Cx} {sc : Scope} {G : Nat → Pm}
theorem jd_blt {N : List Str} {T cs d} (x : XOk N T cs d X) {f : Bf} {es : IEs} {ea : Expr} {as : List Expr} {y : Str} {p pos : Pos} (hy : f.nm.1 = y) (hmem : y ∈ bnames) (hg : gl sc y = true) (ha : JdA X sc G es (ea :: as))
    (ok : okE ea = true) (hpl : ∀ env, (backTo pos (starEach as env)).any (·.1) = false) : Jd X sc G (.blt f es) (.Call (.Name y p) (ea :: as) [] pos) := by
  obtain ⟨ta, pa, sa⟩ := ha
  obtain ⟨r, sem, hcall⟩ := bt_ok x.calm f
  obtain ⟨g1, g2, g3⟩ := gl_of (X := X) hg
  have hm := x.mb y hmem
  have hp : AllE X sc (.Call (.Name y p) (ea :: as) [] pos) (tCB r ta) := by
    rcases hcall with ⟨id, hb, hc⟩ | ⟨T, hb, hc⟩
    · rw [hy] at hb
      exact fun q hq => pe_callB (hc q) (g1 q hq) hm hb (pa q hq) g3 g2 (okE.star ok _ _) (hpl _)
    · rw [hy] at hb
      exact fun q hq => pe_callTy (hc q) (g1 q hq) hm hb (pa q hq) g3 g2 (okE.star ok _ _) (hpl _)
  refine jd_mk (fun _ z => by cases z) hp (fun Bf B Hf H r' σ Q Qv R w k => ?_) (fun _ _ => rfl)
  rw [wpE] at w
  refine sa Bf B Hf H r' σ _ _ R w fun ds vs H1f H1 z1 rep1 _ _ w1 => ?_
  exact sem H1f H1 ds vs Q Qv z1.c rep1 w1 fun d v Hf' H' z2 rep q => k d v Hf' H' (z1.trans z2) rep q

/-! ### isinstance -/
def dTy : PyData → String
  | .none => "NoneType" | .bool _ => "bool" | .int _ => "int" | .str _ => "str" | .list _ => "list" | .tuple _ => "tuple" | .dict _ => "dict"
theorem isi_ty {K : PySem.W.Frag} {Hf H : Hp} {d : PyData} {v : V} (s : Same Hf H) (h : PRep K Hf H d v) : TyX K H v (.type (dTy d)) := by
  cases d with
  | none => cases h.none; exact .base .non
  | bool b => cases h.bool; exact .base (.bl b)
  | int b => cases h.int; exact .base (.int b)
  | str b => cases h.str; exact .base (.str b)
  | list xs =>
    obtain ⟨a, vs, e, h1, _⟩ := h.list s
    subst e
    rcases h1 with (h1 | ⟨o, h1⟩) | ⟨o, its, n, h1, h2, _⟩
    · exact .base (.lst h1)
    · exact .base (.frz h1)
    · exact .kList h1 h2
  | tuple xs =>
    obtain ⟨a, vs, e, h1, _⟩ := h.tuple s
    subst e
    exact .base (.tup h1)
  | dict kvs =>
    have h' := h.full s
    unfold Rep at h'
    obtain ⟨a, ks, e, h1 | ⟨o, h1⟩, _⟩ := h'
    · subst e
      exact .base (.dK h1)
    · subst e
      exact .fDict h1
theorem isi_kit (d : PyData) (t : Ty) : kitB (dTy d) t.nm = some (isT d t) := by
  cases d <;> cases t <;> (simp only [dTy, Ty.nm, isT]; decide +kernel)
theorem boot_ty (t : Ty) : bootBuiltins (t.nm : Str) = some (.type t.nm) := by
  cases t
  · exact boot_int
  · exact boot_bool
  · exact boot_str
  · exact boot_list
  · exact boot_tuple
theorem ty_mem (t : Ty) : (t.nm : Str) ∈ bnames := by
  cases t <;> decide +kernel
theorem jd_isi {N : List Str} {T cs d} (x : XOk N T cs d X) {a : IE} {t : Ty} {ea : Expr} {y z : Str} {p p2 pos : Pos} (hy : y = "isinstance") (hg : gl sc y = true) (hz : z = (t.nm : Str)) (hg2 : gl sc z = true) (ha : Jd X sc G a ea) (ok : okE ea = true) :
    Jd X sc G (.isi a t) (.Call (.Name y p) [ea, .Name z p2] [] pos) := by
  subst hy hz
  obtain ⟨⟨ta, pa, _, sa⟩, _⟩ := ha
  obtain ⟨g1, g2, g3⟩ := gl_of (X := X) hg
  obtain ⟨k1, k2, k3⟩ := gl_of (X := X) hg2
  have pz : AllE X sc (.Name (t.nm : Str) p2) (tC (.ty t.nm)) := fun q hq => pe_bltn (X := at' X q) (v := .ty t.nm) (k1 q hq) (x.mb _ (ty_mem t)) (boot_ty t) rfl k3 k2
  have pas : AllA X sc [ea, .Name (t.nm : Str) p2] (tCons ta (tCons (tC (.ty t.nm)) tNil)) := fun q hq => pa_cons (pa q hq) (pa_cons (pz q hq) pa_nil) (okE.star ok _ _)
  have hp : AllE X sc (.Call (.Name "isinstance" p) [ea, .Name (t.nm : Str) p2] [] pos) (tCB (rIsi X.K) (tCons ta (tCons (tC (.ty t.nm)) tNil))) := fun q hq => pe_callB (X := at' X q) (p := p) (pos := pos) call_isi (g1 q hq) (x.mb _ (by decide +kernel)) boot_isinstance (pas q hq) g3 g2 (okE.star ok _ _) rfl
  refine jd_mk (fun _ z => by cases z) hp (fun Bf B Hf H r σ Q Qv R w k => ?_) (fun _ _ => rfl)
  rw [wpE] at w
  refine sa Bf B Hf H r σ _ _ R w fun d v H1f H1 z1 rep1 _ w1 => ?_
  exact ⟨v, .ty t.nm, _, _, _, rfl, .ty _, isi_ty z1.c rep1, kit_ty (isi_kit d t), k _ _ _ _ z1 rep_bool w1⟩
end
end CF
namespace CF
open PySem PySem.Spec PyProof.Rows L2
/-- an expression that makes a new list -/
def SemO (X : Cx) (G : Nat → Pm) (ie : IE) (t : TE) : Prop := ∀ (Bf B Hf H : Hp) (r : Ev) (σ : L2.St) (Q : PyData → Prop) (Qv : VK), StR X.K X.N.length Bf B Hf H r σ → wpE G ie r Q →
  (∀ d v Hf' H', Ext Hf H Hf' H' → ((ORep X.K Hf' H' d v ∧ (∀ p, v = .ref p → H p = none)) ∨ (flat d = true ∧ Rep X.K Hf' d v)) → Q d → Qv v H') → t σ H Qv
section
variable {X : Cx} {sc : Scope} {G : Nat → Pm} {ie : IE} {t : TE}
theorem SemO.e (h : SemO X G ie t) : SemE X G ie t := fun Bf B Hf H r σ Q Qv R w k =>
  h Bf B Hf H r σ Q Qv R w fun d v Hf' H' z rep q => by
    rcases rep with ⟨rep, hn⟩ | ⟨_, rep⟩
    · obtain ⟨Hf2, z2, rep2⟩ := rep.fr z hn
      exact k d v Hf2 H' z2 rep2 q
    · exact k d v Hf' H' z rep q
theorem fine_of {es : IEs} {r : Ev} (h : es.fine r = true) : noOwn es r = true ∧ es.len ≤ 1000 := by
  unfold IEs.fine at h
  rw [Bool.and_eq_true, decide_eq_true_eq] at h
  exact h
theorem jd_tup {es : IEs} {as : List Expr} {k pos} (ha : JdA X sc G es as) : Jd X sc G (.tup es) (.Tuple as k pos) := by
  obtain ⟨ta, pa, sa⟩ := ha
  refine jd_mk (fun _ z => by cases z) (fun q hq => pe_tup (pa q hq)) (fun Bf B Hf H r σ Q Qv R w k => ?_) (fun _ _ => rfl)
  rw [wpE] at w
  refine sa Bf B Hf H r σ _ _ R w fun ds vs H1f H1 z1 rep1 rr1 hl w1 => ?_
  obtain ⟨f1, f2⟩ := fine_of w1.1
  have hv : vs.length = es.len := by rw [← (PRepL.full z1.c rep1).length, hl]
  exact ⟨mil_line (by omega), fun p hp => k _ _ _ _ (z1.trans (Ext.new z1.c hp)) (rep_newT (z1.c.free hp) (rr1 f1)) w1.2⟩
theorem ext_newO {Hf H Hf' H' : Hp} {p : Addr} {o : HO} (z : Ext Hf H Hf' H') (hp : H' p = none) : Ext Hf H Hf' (upd H' p o) := z.trans (Ext.newO z.c hp)
theorem sem_lst {es : IEs} {ta : TA} (sa : SemA X G es ta) : SemO X G (.lst es) (tLst ta) := fun Bf B Hf H r σ Q Qv R w k => by
  rw [wpE] at w
  refine sa Bf B Hf H r σ _ _ R w fun ds vs H1f H1 z1 rep1 rr1 hl w1 => ?_
  obtain ⟨f1, f2⟩ := fine_of w1.1
  have hv : vs.length = es.len := by rw [← (PRepL.full z1.c rep1).length, hl]
  refine ⟨mil_line (by omega), fun p hp => k (.list ds) _ _ _ (ext_newO z1 hp) (.inl ⟨⟨p, vs, rfl, z1.c.free hp, upd_same, rr1 f1⟩, fun q e => ?_⟩) w1.2⟩
  cases e
  exact z1.a.free hp
theorem jd_lst {es : IEs} {as : List Expr} {pos} (ha : JdA X sc G es as) : Jd X sc G (.lst es) (.List as pos) := by
  obtain ⟨ta, pa, sa⟩ := ha
  exact jd_mk (fun _ z => by cases z) (fun q hq => pe_lst (pa q hq)) (sem_lst sa).e (fun _ _ => rfl)
theorem jd_ix {a i : IE} {ea ei : Expr} {pos} (ha : Jd X sc G a ea) (hi : Jd X sc G i ei) (ok : okE ei = true) : Jd X sc G (.ix a i) (.Subscript ea ei pos) := by
  obtain ⟨⟨ta, pa, _, sa⟩, _⟩ := ha
  obtain ⟨⟨ti, pi, si, _⟩, _⟩ := hi
  refine jd_mk (fun _ z => by cases z) (t := tOp (fun x y H Q => rIxL X.K x y H Q ∨ rIxT X.K x y H Q) ta ti) (fun q hq => pe_ix ((ix_list (X := at' X q)).or ix_tup) (pa q hq) (pi q hq) (okE.plain ok)) (fun Bf B Hf H r σ Q Qv R w k => ?_) (fun _ _ => rfl)
  rw [wpE] at w
  refine sa Bf B Hf H r σ _ _ R w fun d v H1f H1 z1 rep1 no w1 => ?_
  clear no
  refine si Bf B H1f H1 r σ _ _ (R.ext z1) w1 fun y u H2f H2 z2 rep2 w2 => ?_
  have rep1' := rep1.ext z2
  cases d <;> cases y <;> simp only [ixP] at w2
  · rename_i xs i
    obtain ⟨e, he, q⟩ := w2
    obtain ⟨p, vs, rfl, h1, h2⟩ := rep1'.list z2.c
    unfold Rep at rep2
    obtain ⟨j, hj1, hj2, _⟩ := atI_get he
    obtain ⟨v, hv, rv⟩ := h2.get hj2
    refine .inl ⟨p, vs, i, v, rfl, rep2, h1, ?_, k _ _ _ _ (z1.trans z2) rv q⟩
    unfold atI at he ⊢
    rw [← h2.length]
    cases hx : ixN xs.length i with
    | none => rw [hx] at he; cases he
    | some j' =>
      rw [hx] at he
      have he' : xs[j']? = some e := he
      obtain ⟨v', hv', rv'⟩ := h2.get he'
      have ej : j' = j := by
        obtain ⟨q1, q2, q3, q4⟩ := ixN_seq hx
        rw [hj1] at q1
        exact (Option.some.inj q1).symm
      subst ej
      exact hv
  · rename_i xs i
    obtain ⟨e, he, q⟩ := w2
    obtain ⟨p, vs, rfl, h1, h2⟩ := rep1'.tuple z2.c
    unfold Rep at rep2
    obtain ⟨j, hj1, hj2, _⟩ := atI_get he
    obtain ⟨v, hv, rv⟩ := h2.get hj2
    refine .inr ⟨p, vs, i, v, rfl, rep2, SqT.of h1, ?_, k _ _ _ _ (z1.trans z2) rv q⟩
    unfold atI at he ⊢
    rw [← h2.length]
    cases hx : ixN xs.length i with
    | none => rw [hx] at he; cases he
    | some j' =>
      rw [hx] at he
      have he' : xs[j']? = some e := he
      have ej : j' = j := by
        obtain ⟨q1, q2, q3, q4⟩ := ixN_seq hx
        rw [hj1] at q1
        exact (Option.some.inj q1).symm
      subst ej
      exact hv

/-! ### dicts -/
theorem valV_dV : ∀ {l : List (Int × Int)} {i : Int}, valV (dV l) (Sum.inl i : Key) = (dgetL l i).map V.int
  | [], i => rfl
  | p :: l, i => by
    unfold valV dgetL dV
    rw [List.map_cons, List.find?_cons, List.find?_cons]
    by_cases h : p.1 = i
    · have h' : ((Sum.inl p.1 : Key) = Sum.inl i) := by rw [h]
      simp only [decide_eq_true h, decide_eq_true h']
      rfl
    · have h' : ¬ ((Sum.inl p.1 : Key) = Sum.inl i) := fun e => h (Sum.inl.inj e)
      simp only [decide_eq_false h, decide_eq_false h']
      exact valV_dV (l := l) (i := i)
theorem any_dV {l : List (Int × Int)} {k : Int} : ((dV l).any fun kv => decide (kv.1 = (Sum.inl k : Key))) = l.any fun p => decide (p.1 = k) := by
  unfold dV
  rw [List.any_map]
  congr 1
  funext p
  show decide ((Sum.inl p.1 : Key) = Sum.inl k) = decide (p.1 = k)
  by_cases h : p.1 = k
  · rw [decide_eq_true h, decide_eq_true (by rw [h])]
  · rw [decide_eq_false h, decide_eq_false (fun e => h (Sum.inl.inj e))]
theorem putK_dV {l : List (Int × Int)} {k v : Int} : putK (dV l) (Sum.inl k : Key) (V.int v) = dV (dputL l k v) := by
  unfold putK dputL
  rw [any_dV]
  by_cases h : (l.any fun p => decide (p.1 = k)) = true
  · rw [if_pos h, if_pos h]
    unfold dV
    rw [List.map_map, List.map_map]
    refine List.map_congr_left fun p _ => ?_
    show (if (Sum.inl p.1 : Key) = Sum.inl k then (Sum.inl p.1, V.int v) else (Sum.inl p.1, V.int p.2)) = _
    by_cases e : p.1 = k
    · rw [if_pos (by rw [e])]
      simp [e]
    · rw [if_neg (fun z => e (Sum.inl.inj z))]
      simp [e]
  · rw [if_neg h, if_neg h]
    unfold dV
    rw [List.map_append]
    rfl
theorem pe_nm {N : List Str} {T cs d} (x : XOk N T cs d X) {c : Ck} (hc : c.N = N) {i : Nat} {y : Str} {py : Pos} (h1 : nmOk c.N i y = true) (hv : visB sc y = true) : AllE X sc (.Name y py) (tVar i) := by
  simp only [nmOk, visB, Bool.and_eq_true, decide_eq_true_eq, Bool.not_eq_true'] at h1 hv
  obtain ⟨⟨h2, h3⟩, h4⟩ := hv
  have hN : X.N[i]? = some y := by rw [x.n, ← hc]; exact h1
  have hv : Vis sc y := by
    unfold Vis
    split at h2
    · exact .inl (by assumption)
    · exact .inr (.inl (by assumption))
    · exact .inr (.inr (by assumption))
    · cases h2
  exact fun q hq => pe_var (X := at' X q) hN (by show Vis q.env.scope y; rw [hq]; exact hv) h3 h4
theorem StR.dict {K : PySem.W.Frag} {n : Nat} {Bf B Hf H : Hp} {r : Ev} {σ : L2.St} {j : Nat} {l : List (Int × Int)} (R : StR K n Bf B Hf H r σ) (hl : r.get j = .kyd l ∨ r.get j = .own (.dict (dL l))) : ∃ p, σ[j]? = some (some (.ref p)) ∧ Rd H p (.dK (dV l)) := by
  have q := R.sl j
  rcases hl with hl | hl
  · rw [hl] at q
    obtain ⟨p, o, e, h⟩ := q
    exact ⟨p, e, .inr ⟨o, R.e.c _ _ h⟩⟩
  · rw [hl] at q
    obtain ⟨p, e, ⟨p', ks, e', _, h, l', e1, e2⟩, _⟩ := q
    cases e'
    obtain rfl := dL_inj e1
    subst e2
    exact ⟨p, e, .inl h⟩
theorem jd_kix {N : List Str} {T cs d} (x : XOk N T cs d X) {c : Ck} (hc : c.N = N) {j : Nat} {i : IE} {y : Str} {py pos : Pos} {ei : Expr} (h1 : nmOk c.N j y = true) (h2 : visB sc y = true) (hi : Jd X sc G i ei) (ok : okE ei = true) : Jd X sc G (.kix j i) (.Subscript (.Name y py) ei pos) := by
  obtain ⟨⟨ti, pi, si, _⟩, _⟩ := hi
  refine jd_mk (fun _ z => by cases z) (t := tDGet (tVar j) ti) (fun q hq => pe_dget (X := at' X q) (by have := x.un; show X.A.units + 1 < cLine; omega) (pe_nm x hc h1 h2 q hq) (pi q hq) (okE.plain ok)) (fun Bf B Hf H r σ Q Qv R w k => ?_) (fun _ _ => rfl)
  rw [wpE] at w
  obtain ⟨l, hl, w⟩ := w
  obtain ⟨p, hs, hd⟩ := R.dict hl
  refine ⟨_, hs, ?_⟩
  refine si Bf B Hf H r σ _ _ R w fun d v H1f H1 z1 rep w1 => ?_
  obtain ⟨i, rfl, n, hn, q⟩ := w1
  unfold Rep at rep
  subst rep
  exact ⟨p, .int n, rfl, .inl ⟨dV l, Sum.inl i, Rd.same z1.a hd, rfl, by rw [valV_dV, hn]; rfl⟩, k _ _ _ _ z1 rep_int q⟩
theorem sem_dic0 : SemO X G .dic0 tDNewK := fun Bf B Hf H r σ Q Qv R w k => by
  rw [wpE] at w
  intro p hp
  refine k (.dict (dL [])) _ _ _ (ext_newO (Ext.refl R.e.c) hp) (.inl ⟨⟨p, [], rfl, R.e.c.free hp, upd_same, [], rfl, rfl⟩, fun q e => ?_⟩) w
  cases e
  exact hp
theorem jd_dic0 {pos : Pos} : Jd X sc G .dic0 (.Dict [] [] pos) := jd_mk (fun _ z => by cases z) (fun q hq => pe_dnewK) (sem_dic0).e (fun _ _ => rfl)

/-! ### slices -/
def JdO (X : Cx) (sc : Scope) (G : Nat → Pm) (es : IEs) (e : Option Expr) : Prop := ∃ t, (∀ q : Vr, q.env.scope = sc → PO (at' X q) e t) ∧ ∀ (Bf B Hf H : Hp) (r : Ev) (σ : L2.St) (Q : Option Int → Prop) (Qv : Option Int → Hp → Prop), StR X.K X.N.length Bf B Hf H r σ →
  (wpEs G es r fun ds => partP ds Q) → (∀ o Hf' H', Ext Hf H Hf' H' → Q o → Qv o H') → t σ H Qv
theorem jo_none : JdO X sc G .nil none := ⟨_, fun q hq => po_none, fun Bf B Hf H r σ Q Qv R w k => by
  rw [wpEs] at w
  exact k none _ _ (Ext.refl R.e.c) w⟩
theorem jo_some {a : IE} {ea : Expr} (ha : Jd X sc G a ea) : JdO X sc G (.cons a .nil) (some ea) := by
  obtain ⟨⟨ta, pa, _, sa⟩, _⟩ := ha
  refine ⟨_, fun q hq => po_some (pa q hq), fun Bf B Hf H r σ Q Qv R w k => ?_⟩
  rw [wpEs] at w
  refine sa Bf B Hf H r σ _ _ R w fun d v H1f H1 z1 rep1 _ w1 => ?_
  rw [wpEs] at w1
  cases d <;> simp only [partP] at w1
  exact ⟨_, rep1.int, k _ _ _ z1 w1⟩
theorem cut_rep {K : PySem.W.Frag} {H : Hp} {xs : List PyData} {vs : List V} {lo hi : Option Int} (h : RepL K H xs vs) : RepL K H (cutP xs lo hi) (cutV vs lo hi) := by
  unfold cutP cutV
  rw [h.length]
  exact (h.drop _).take _
theorem cut_all {α : Type} {xs : List α} {lo hi : Option Int} (h : HT.sIx xs.length 0 lo = 0 ∧ HT.sIx xs.length xs.length hi = xs.length) : (xs.drop (HT.sIx xs.length 0 lo)).take (HT.sIx xs.length xs.length hi - HT.sIx xs.length 0 lo) = xs := by
  rw [h.1, h.2, List.drop_zero, Nat.sub_zero, List.take_length]
theorem jd_sl {a : IE} {lo hi : IEs} {ea : Expr} {l h : Option Expr} {p2 pos} (ha : Jd X sc G a ea) (hl : JdO X sc G lo l) (hh : JdO X sc G hi h) : Jd X sc G (.sl a lo hi) (.Subscript ea (.Slice l h none p2) pos) := by
  obtain ⟨⟨ta, pa, _, sa⟩, _⟩ := ha
  obtain ⟨tl, pl, sl⟩ := hl
  obtain ⟨th, ph, sh⟩ := hh
  refine jd_mk (fun _ z => by cases z) (t := tSl (fun x lo hi H Q => rSlL X.K x lo hi H Q ∨ rSlA X.K x lo hi H Q) ta tl th) (fun q hq => pe_slice ((sl_list (X := at' X q)).or sl_tupA) (pa q hq) (pl q hq) (ph q hq)) (fun Bf B Hf H r σ Q Qv R w k => ?_) (fun _ _ => rfl)
  rw [wpE] at w
  refine sa Bf B Hf H r σ _ _ R w fun d v H1f H1 z1 rep1 _ w1 => ?_
  refine sl Bf B H1f H1 r σ _ _ (R.ext z1) w1 fun o H2f H2 z2 w2 => ?_
  refine sh Bf B H2f H2 r σ _ _ (R.ext (z1.trans z2)) w2 fun o2 H3f H3 z3 w3 => ?_
  have rep1' := rep1.ext (z2.trans z3)
  cases d <;> simp only [slP] at w3
  · obtain ⟨p, vs, rfl, h1, h2⟩ := rep1'.list z3.c
    exact .inl ⟨p, vs, rfl, h1, fun q hq => k _ _ _ _ (((z1.trans z2).trans z3).trans (Ext.new z3.c hq)) (rep_newL (z3.c.free hq) (cut_rep h2)) w3⟩
  · have rr := rep1'
    obtain ⟨p, vs, e, h1, h2⟩ := rep1'.tuple z3.c
    subst e
    refine .inr ⟨p, vs, rfl, SqT.of h1, fun hw => ?_, fun hw q hq => k _ _ _ _ (((z1.trans z2).trans z3).trans (Ext.new z3.c hq)) (rep_newT (z3.c.free hq) (cut_rep h2)) w3⟩
    rw [← h2.length] at hw
    have e : cutP _ o o2 = _ := cut_all hw
    rw [e] at w3
    rcases rr with rr | rr
    · exact k _ _ _ _ ((z1.trans z2).trans z3) rr w3
    · exact rr.elim
end
end CF
namespace CF
open PySem PySem.Spec PyProof.Rows L2
section
variable {X : Cx} {sc : Scope} {G : Nat → Pm}
/-! ### list(range(..)), len(set(..)), xs.index(x) -/
theorem sem_lrng1 {ie : IE} {e : Expr} {N : List Str} {T cs d} (x : XOk N T cs d X) {y z : Str} {p p2 pos pos2 : Pos} (hy : y = "list") (hg : gl sc y = true) (hz : z = "range") (hg2 : gl sc z = true) (ha : Jd X sc G ie e) (ok : okE e = true) :
    Jd X sc G (.lrng (.cons ie .nil)) (.Call (.Name y p) [.Call (.Name z p2) [e] [] pos2] [] pos) := by
  subst hy hz
  obtain ⟨⟨ta, pa, _, sa⟩, _⟩ := ha
  obtain ⟨g1, g2, g3⟩ := gl_of (X := X) hg
  obtain ⟨k1, k2, k3⟩ := gl_of (X := X) hg2
  have hp : AllE X sc (.Call (.Name "list" p) [.Call (.Name "range" p2) [e] [] pos2] [] pos) (tLstRg (tRg1 ta)) := fun q hq => pe_listRg (X := at' X q) (p := p) (pos := pos) x.calm (g1 q hq) (x.mb _ (by decide +kernel)) (prg_1 (p := p2) (pos := pos2) (k1 q hq) (x.mb _ (by decide +kernel)) (pa q hq) (okE.star ok _ _)) (rfl : starEach [Expr.Call (.Name "range" p2) [e] [] pos2] q.env = _)
  refine jd_mk (fun _ z => by cases z) hp (fun Bf B Hf H r σ Q Qv R w k => ?_) (fun _ _ => rfl)
  rw [wpE, wpEs] at w
  refine sa Bf B Hf H r σ _ _ R w fun d v H1f H1 z1 rep1 no w1 => ?_
  clear no
  rw [wpEs] at w1
  cases d <;> simp only [lrngP] at w1
  rename_i b
  obtain ⟨⟨b1, b2⟩, q⟩ := w1
  refine ⟨b, rep1.int, ⟨by omega, by omega, by omega, by omega, by omega⟩, fun l hl => ?_⟩
  refine k _ _ _ _ (z1.trans (Ext.new z1.c hl)) (rep_newL (z1.c.free hl) ?_) q
  have e1 : rgV 0 b = ((List.range b.toNat).map fun i => ((i : Nat) : Int)).map V.int := by
    unfold rgV
    rw [List.map_map, Int.sub_zero]
    refine List.map_congr_left fun i _ => ?_
    show V.int (0 + (i : Int)) = V.int (i : Int)
    rw [Int.zero_add]
  have e2 : ((List.range b.toNat).map fun (i : Nat) => PyData.int (i : Nat)) = ((List.range b.toNat).map fun i => ((i : Nat) : Int)).map PyData.int := by
    rw [List.map_map]
    rfl
  rw [e1, e2]
  exact repL_ints _
theorem jd_lset {ie : IE} {e : Expr} {N : List Str} {T cs d} (x : XOk N T cs d X) {y z : Str} {p p2 pos pos2 : Pos} (hy : y = "len") (hg : gl sc y = true) (hz : z = "set") (hg2 : gl sc z = true) (ha : Jd X sc G ie e) (ok : okE e = true) :
    Jd X sc G (.lset ie) (.Call (.Name y p) [.Call (.Name z p2) [e] [] pos2] [] pos) := by
  subst hy hz
  obtain ⟨⟨ta, pa, _, sa⟩, _⟩ := ha
  obtain ⟨g1, g2, g3⟩ := gl_of (X := X) hg
  obtain ⟨k1, k2, k3⟩ := gl_of (X := X) hg2
  have hp : AllE X sc (.Call (.Name "len" p) [.Call (.Name "set" p2) [e] [] pos2] [] pos) (tLenSetI X.K ta) := fun q hq => L2.pe_lenSetI (X := at' X q) (p := p) (p2 := p2) (q := pos2) (pos := pos) x.calm (g1 q hq) (x.mb _ (by decide +kernel)) (k1 q hq) (x.mb _ (by decide +kernel)) (pa q hq) (okE.star ok _ _)
  refine jd_mk (fun _ z => by cases z) hp (fun Bf B Hf H r σ Q Qv R w k => ?_) (fun _ _ => rfl)
  rw [wpE] at w
  refine sa Bf B Hf H r σ _ _ R w fun d v H1f H1 z1 rep1 _ w1 => ?_
  obtain ⟨ns, rfl, h1, h2, q⟩ := w1
  obtain ⟨a, ws, rfl, q1, q2⟩ := rep1.list z1.c
  have e := q2.ints
  subst e
  exact ⟨a, ns, rfl, q1, h1, h2, k _ _ _ _ z1 rep_int q⟩
theorem jd_index {a x : IE} {ea ex : Expr} {m : Str} {apos pos : Pos} (hu : X.A.units + 66 < cLine) (hm : m = "index") (hl : (apos.endLine == pos.line) = true) (hnm : isNm ea = true) (ha : Jd X sc G a ea) (hx : Jd X sc G x ex) (ok : okE ex = true) :
    Jd X sc G (.index a x) (.Call (.Attribute ea m apos) [ex] [] pos) := by
  subst hm
  obtain ⟨y, py, rfl⟩ : ∃ y py, ea = .Name y py := by
    cases ea <;> first | exact ⟨_, _, rfl⟩ | (exact absurd hnm (by simp [isNm]))
  obtain ⟨⟨ta, pa, _, sa⟩, _⟩ := ha
  obtain ⟨⟨tx, px, sx, _⟩, _⟩ := hx
  have hs : ∀ env, starEach [ex] env = (false, eval ex env) :: starEach [] env := fun env => okE.star ok _ _
  have hp : AllE X sc (.Call (.Attribute (.Name y py) "index" apos) [ex] [] pos) (tBM X.K "list" (rIndexD X.K) ta (tCons tx tNil)) := fun q hq => pe_bm (X := at' X q) (cpos := pos) (apos := apos) PySem.F.plainAttrs_list PySem.F.slot_list_index PySem.F.type_list_index (mt_indexD (X := at' X q) (by show X.A.units + 65 < cLine; omega)) (pa q hq) (pa_cons (px q hq) pa_nil (hs _)) rfl (by rw [hs]; rfl) hl (hs _) rfl
  refine jd_mk (fun _ z => by cases z) hp (fun Bf B Hf H r σ Q Qv R w k => ?_) (fun _ _ => rfl)
  rw [wpE] at w
  refine sa Bf B Hf H r σ _ _ R w fun d v H1f H1 z1 rep1 _ w1 => ?_
  have w1' : ∃ ys, d = .list ys ∧ wpE G x r fun x => ∃ j z, SeqAt.shaped d = true ∧ SeqAt.shaped x = true ∧ ys[j]? = some z ∧ PyData.eqv z x = true ∧ (∀ (m : Nat) z', m < j → ys[m]? = some z' → PyData.eqv z' x = false) ∧ Q (.int (j : Nat)) := w1
  obtain ⟨ys, rfl, w1⟩ := w1'
  have pl : PRep X.K H1f H1 (.list ys) v := rep1
  obtain ⟨p, vs, rfl, h1, h2⟩ := rep1.list z1.c
  refine ⟨.inl ⟨rfl, vs, h1⟩, ?_⟩
  refine sx Bf B H1f H1 r σ _ _ (R.ext z1) w1 fun e u H2f H2 z2 rep2 w2 => ?_
  obtain ⟨j, z, s1, s2, e1, e2, e3, q⟩ := w2
  exact ⟨p, u, e, ys, j, z, rfl, rfl, Rep.shp s1 ((pl.ext z2).full z2.c), Rep.shp s2 (Rep.mono z2.c _ _ rep2), s1, s2, e1, e2, e3, k _ _ _ _ (z1.trans z2) rep_int q⟩

/-! ### what is walked -/
structure Wk (K : PySem.W.Frag) (J : It) (items : List PyData) (Hf H : Hp) (S : List Addr) : Prop where
  there : ∀ p ∈ S, H p ≠ none
  go : ∀ (i : Nat) (H' : Hp), (∀ p ∈ S, H' p = H p) → i < items.length → J.go i H'
  yld : ∀ (i : Nat) (H' : Hp) (x : V) (H2 : Hp), (∀ p ∈ S, H' p = H p) → i < items.length → J.yld i H' x H2 → H2 = H' ∧ ∃ d, items[i]? = some d ∧ Rep K Hf d x
  stop : ∀ (i : Nat) (H' : Hp), (∀ p ∈ S, H' p = H p) → items.length ≤ i → J.stop i H'
theorem sql_at {K : PySem.W.Frag} {H : Hp} {a : Addr} {vs : List V} (h : SqL K H a vs) : ∃ S : List Addr, (∀ p ∈ S, p = a ∧ H p ≠ none) ∧ ∀ H' : Hp, (∀ p ∈ S, H' p = H p) → SqL K H' a vs := by
  rcases h with (h | ⟨o, h⟩) | h
  · exact ⟨[a], fun p hp => by rw [List.mem_singleton.mp hp]; exact ⟨rfl, by rw [h]; exact (fun z => nomatch z)⟩, fun H' hS => .inl (.inl ((hS a (List.mem_singleton.mpr rfl)).trans h))⟩
  · exact ⟨[a], fun p hp => by rw [List.mem_singleton.mp hp]; exact ⟨rfl, by rw [h]; exact (fun z => nomatch z)⟩, fun H' hS => .inl (.inr ⟨o, (hS a (List.mem_singleton.mpr rfl)).trans h⟩)⟩
  · exact ⟨[], fun p hp => absurd hp (by simp), fun H' _ => .inr h⟩
theorem wk_list {K : PySem.W.Frag} {Hf H : Hp} {a : Addr} {xs : List PyData} {vs : List V} (h : SqL K H a vs) (r : RepL K Hf xs vs) : ∃ S, (∀ p ∈ S, p = a ∧ H p ≠ none) ∧ Wk K (Itl K a) xs Hf H S := by
  obtain ⟨S, hS, st⟩ := sql_at h
  refine ⟨S, hS, fun p hp => (hS p hp).2, fun i H' e hi => ?_, fun i H' x H2 e hi y => ?_, fun i H' e hi => ⟨vs, st H' e, by rw [← r.length]; exact hi⟩⟩
  · have hi' : i < vs.length := by rw [← r.length]; exact hi
    exact ⟨vs, vs[i], st H' e, List.getElem?_eq_getElem hi'⟩
  · obtain ⟨y1, y2⟩ := y
    have q := y2 vs (st H' e)
    obtain ⟨d, hd, rep⟩ := r.get' q
    exact ⟨y1, d, hd, rep⟩
theorem wk_tup {K : PySem.W.Frag} {Hf H : Hp} {a : Addr} {xs : List PyData} {vs : List V} (h : H a = some (.tup vs)) (r : RepL K Hf xs vs) : Wk K (Itt K a) xs Hf H [a] := by
  have st : ∀ H' : Hp, (∀ p ∈ [a], H' p = H p) → SqT K H' a vs := fun H' e => SqT.of ((e a (List.mem_singleton.mpr rfl)).trans h)
  refine ⟨fun p hp => by rw [List.mem_singleton.mp hp, h]; exact (fun z => nomatch z), fun i H' e hi => ?_, fun i H' x H2 e hi y => ?_, fun i H' e hi => ⟨vs, st H' e, by rw [← r.length]; exact hi⟩⟩
  · have hi' : i < vs.length := by rw [← r.length]; exact hi
    exact ⟨vs, vs[i], st H' e, List.getElem?_eq_getElem hi'⟩
  · obtain ⟨y1, y2⟩ := y
    have q := y2 vs (st H' e)
    obtain ⟨d, hd, rep⟩ := r.get' q
    exact ⟨y1, d, hd, rep⟩
theorem wk_rng {K : PySem.W.Frag} {Hf H : Hp} {lo : Int} {n : Nat} : Wk K (Itr lo n) ((List.range n).map fun i => .int (lo + (i : Nat))) Hf H [] := by
  refine ⟨fun p hp => absurd hp (by simp), fun i H' e hi => ?_, fun i H' x H2 e hi y => ?_, fun i H' e hi => ?_⟩
  · rw [List.length_map, List.length_range] at hi
    exact hi
  · rw [List.length_map, List.length_range] at hi
    obtain ⟨y1, y2⟩ := y
    subst y2
    refine ⟨y1, .int (lo + (i : Nat)), ?_, rep_int⟩
    rw [List.getElem?_map, List.getElem?_range hi]
    rfl
  · rw [List.length_map, List.length_range] at hi
    exact hi
theorem wk_rngC {K : PySem.W.Frag} {Hf H : Hp} {lo c : Int} {n : Nat} : Wk K (Itc lo c n) ((List.range n).map fun i => .int (lo + (i : Nat) * c)) Hf H [] := by
  refine ⟨fun p hp => absurd hp (by simp), fun i H' e hi => ?_, fun i H' x H2 e hi y => ?_, fun i H' e hi => ?_⟩
  · rw [List.length_map, List.length_range] at hi
    exact hi
  · rw [List.length_map, List.length_range] at hi
    obtain ⟨y1, y2⟩ := y
    subst y2
    refine ⟨y1, .int (lo + (i : Nat) * c), ?_, rep_int⟩
    rw [List.getElem?_map, List.getElem?_range hi]
    rfl
  · rw [List.length_map, List.length_range] at hi
    exact hi
/-- an iterable: where its container stands -/
def WkAt (it : IIt) (r : Ev) (σ : L2.St) (Hf : Hp) (S : List Addr) : Prop :=
  (∀ p ∈ S, Hf p ≠ none) ∨ ∃ j p d, it = .seq (.var j) ∧ (r.get j = .own d ∨ r.get j = .lck d) ∧ σ[j]? = some (some (.ref p)) ∧ ∀ q ∈ S, q = p
def JdI (X : Cx) (sc : Scope) (G : Nat → Pm) (it : IIt) (e : Expr) : Prop := ∃ wi, (∀ (q : Vr) tg, q.env.scope = sc → PI (at' X q) tg e wi) ∧ ∀ (Bf B Hf H : Hp) (r : Ev) (σ : L2.St) (Q : List PyData → Prop) (Rv : It → Hp → Prop), StR X.K X.N.length Bf B Hf H r σ →
  wpIt G it r Q → (∀ items J Hf' H' S, Ext Hf H Hf' H' → Wk X.K J items Hf' H' S → WkAt it r σ Hf' S → Q items → Rv J H') → wi σ H Rv
end
end CF
namespace CF
open PySem PySem.Spec PyProof.Rows L2 HT
section
variable {P : Program} {w : World} {A : Around} {E : Value → Shared → Prop} {s : Shared}
/-- set(l) of a list of whole numbers, with all that is known of the set -/
theorem call_set_lstI {l : Addr} {items : Array Value} (ns : List Int) {Q : Value → Shared → Prop} (hh : A.handled = none) (hl : s.heap.IsList l items) (hit : IntsAre items.toList ns) (hb : ns.length + 1 < scanBound)
    (h : ∀ (h' : Heap) (tk c : Nat), SetR w h' s.heap.objs.size (fun j => decide (j ∈ ns)) c → c ≤ ns.length → (∀ b o, s.heap.get? b = some o → h'.get? b = some o) → Q (.ref s.heap.objs.size) { s with heap := h', toks := tk }) :
    wpAny (model P w) A (call (.type "set") [.ref l]) Q E s := by
  have hisz : items.size = ns.length := by
    have q := IntsAre.length hit
    rw [Array.length_toList] at q
    exact q
  obtain ⟨c, tl, hmro⟩ := F.called_set.mro
  have hmade := F.called_set.made
  have hsub := F.called_set.sub
  refine wpAny_call (codeAny_of_tree ?_)
  show wpAny _ _ (callAny (.type "set") _) _ _ _
  refine wpAny_pure ⟨Code.quiet_builtin _ (by decide +kernel), codeAny_builtin F.entry_type_call ?_⟩
  rw [Around.under_plain (weight_type_call_type "set" [.ref l] []) rfl]
  have h1 := F.called_set.notType
  have h2 := F.called_set.canCreate
  have hct := F.typeCall_set_1 (.ref l)
  repeat (any_goals (first | assumption | wp_step))
  refine codeAny_mono (code_set_led1 (.ref l) (E := E) (Q₁ := fun obj s₁ => obj = .ref s.heap.objs.size ∧ s₁ = { s with heap := s.heap.push { cls := .type "set", dict := none, data := .set #[] 0 (.fresh 0 0 (!w.params.followText "set-order")) } }) ⟨rfl, rfl⟩) fun r s₁ hr => ?_
  cases r with
  | error e => exact hr
  | ok fl =>
    cases fl with
    | ret obj =>
      obtain ⟨rfl, rfl⟩ := hr
      have hS : (s.heap.push { cls := .type "set", dict := none, data := .set #[] 0 (.fresh 0 0 (!w.params.followText "set-order")) }).get? s.heap.objs.size = some { cls := .type "set", dict := none, data := .set #[] 0 (.fresh 0 0 (!w.params.followText "set-order")) } := Heap.get?_push_size _ rfl
      have hT : Shared.TypeIs { s with heap := s.heap.push { cls := .type "set", dict := none, data := .set #[] 0 (.fresh 0 0 (!w.params.followText "set-order")) } } (.ref s.heap.objs.size) "set" := ⟨_, hS, rfl⟩
      have hli := F.called_set.init.lookup
      have hbi := F.called_set.init.bind (.ref s.heap.objs.size)
      repeat (any_goals (first | assumption | wp_step))
      refine codeAny_mono (codeAny_call_builtin (R := wants (fun r s₂ => r = .none ∧ ∃ h' tk c, s₂ = { s with heap := h', toks := tk } ∧ SetR w h' s.heap.objs.size (fun j => decide (j ∈ ns)) c ∧ c ≤ ns.length ∧
          (∀ b o, s.heap.get? b = some o → h'.get? b = some o)) E) F.called_set.init.plain F.entry_set_init (check_set_init_1 hT ?_)) fun r₂ s₂ hr₂ => ?_
      · obtain ⟨ol, hol, hcl, nl, hdl⟩ := hl
        obtain ⟨ocls, odict, odata, oslots⟩ := ol
        simp only at hcl hdl
        subst hcl; subst hdl
        have hol' : (s.heap.push { cls := .type "set", dict := none, data := .set #[] 0 (.fresh 0 0 (!w.params.followText "set-order")) }).get? l = some { cls := .type "list", dict := odict, data := .seq items nl, slots := oslots } := Heap.get?_push_of_some _ hol
        have hsls := F.sub_list_set
        have hslf := F.sub_list_frozenset
        have hne : (Value.type "list" == Value.type "dict") = false := by decide
        have hl1 : (s.heap.push { cls := .type "set", dict := none, data := .set #[] 0 (.fresh 0 0 (!w.params.followText "set-order")) }).IsList l items := ⟨_, hol', rfl, nl, rfl⟩
        unfold Builtin.«set.__init__» noKeywords Builtin.Frozenset.updateFrom
        generalize hPI : pyIter = PI
        wp_walk
        subst hPI
        refine wpAny_pyIter_list hl1 ?_
        refine wpAny_bind (wpAny_runValue ?_)
        have hlS : l < s.heap.objs.size := Heap.lt_size hol
        have hh3 : A.in1.in1.in1.handled = none := by simp [hh]
        have hneI : l ≠ (s.heap.push { cls := .type "set", dict := none, data := .set #[] 0 (.fresh 0 0 (!w.params.followText "set-order")) }).objs.size := by
          rw [Heap.size_push]; exact Nat.ne_of_lt (Nat.lt_succ_of_lt hlS)
        have hSf : s.heap.objs.size ∉ [(s.heap.push { cls := .type "set", dict := none, data := .set #[] 0 (.fresh 0 0 (!w.params.followText "set-order")) }).objs.size, l] := by
          rw [Heap.size_push]; simp only [List.mem_cons, List.mem_singleton, List.not_mem_nil, or_false, not_or]
          exact ⟨Nat.ne_of_lt (Nat.lt_succ_self _), Nat.ne_of_gt hlS⟩
        have hval : ∀ (i : Nat) (v : Value), items[i]? = some v → ∃ k t, ns[i]? = some k ∧ v = .int k t := fun i v hv => by
          have hi : i < ns.length := by rw [← hisz]; exact (Array.getElem?_eq_some_iff.mp hv).1
          obtain ⟨t, e⟩ := PyProof.Rows.IntsAre.int_at hit i v (by rw [Array.getElem?_toList]; exact hv)
          refine ⟨ns[i], t, List.getElem?_eq_getElem hi, ?_⟩
          rw [e, List.getD_eq_getElem?_getD, List.getElem?_eq_getElem hi] <;> rfl
        refine set_update_ints ((Walks.list hh3 _ l hneI items).toS) s.heap.objs.size
          hSf ns hisz hb hval (items.size - 0) 0 _ (by omega) (Nat.zero_le _)
          ⟨⟨_, Heap.get?_push_size _ rfl, rfl, rfl⟩, (hl1.push _)⟩ ?hS0 ?hR
        case hS0 =>
          have hget : ((s.heap.push { cls := .type "set", dict := none, data := .set #[] 0 (.fresh 0 0 (!w.params.followText "set-order")) }).push { cls := .type "list_iterator", data := .fields #[.ref l, .int 0 0] }).get? s.heap.objs.size
              = some { cls := .type "set", dict := none, data := .set #[] 0 (.fresh 0 0 (!w.params.followText "set-order")) } := Heap.get?_push_of_some _ hS
          exact ⟨0, Nat.le_refl 0, setR_new_at hget⟩
        case hR =>
          intro s' c' hm hc' hS'
          obtain ⟨h', g2, d', tk', os'⟩ := s'
          have eg : g2 = s.gens := hm.gens
          have ed : d' = s.drawn := hm.drawn
          have eo : os' = s.os := hm.os
          subst eg; subst ed; subst eo
          show wpAny _ _ _ _ _ _
          refine wpAny_pure ?_
          show wpAny _ _ (ret Value.none) _ _ _
          rw [hisz] at hc'
          refine wpAny_pure ⟨rfl, h', tk', c', rfl, hS', hc', fun b o e => ?_⟩
          have hb0 : b < s.heap.objs.size := Heap.lt_size e
          have hb1 : b ≠ s.heap.objs.size := Nat.ne_of_lt hb0
          have hb2 : b ≠ (s.heap.push { cls := .type "set", dict := none, data := .set #[] 0 (.fresh 0 0 (!w.params.followText "set-order")) }).objs.size := by
            rw [Heap.size_push]; exact Nat.ne_of_lt (Nat.lt_succ_of_lt hb0)
          exact hm.heap b o (by simp only [List.mem_cons, List.mem_singleton, List.not_mem_nil, or_false, not_or]; exact ⟨hb1, hb2⟩) (Heap.get?_push_of_some _ (Heap.get?_push_of_some _ e))
      · cases r₂ with
        | error e => exact hr₂
        | ok fl₂ =>
          cases fl₂ with
          | ret r =>
            obtain ⟨rfl, h', tk, c', rfl, hS', hc', hk'⟩ := hr₂
            repeat (any_goals (first | assumption | wp_step))
            exact h _ _ _ hS' hc' hk'
          | _ => exact hr₂.elim
    | _ => exact hr.elim
end
end CF
namespace CF
open PySem PySem.Spec PyProof.Rows L2
section
variable {X : Cx}
def rSetL (K : PySem.W.Frag) (w : World) : List V → Hp → VK → Prop := fun xs H Q => ∃ (l : Addr) (ns : List Int), xs = [V.ref l] ∧ SqL K H l (ns.map V.int) ∧ ns.length < 4000 ∧ ∀ p c, H p = none → c ≤ ns.length → Q (.ref p) (upd H p (SetO w p (fun j => decide (j ∈ ns)) c))
theorem cr_setL (hc : X.calm = true) : CallR X (.type "set") (rSetL X.K X.w) := by
  intro pins s σ H xs us Q I r h
  obtain ⟨l, ns, rfl, hq, hl, q⟩ := h
  rw [Vals.ref1 r]
  obtain ⟨its, rv, pl, hz⟩ := I.list hq
  refine call_set_lstI (items := its.toArray) ns (I.ok.hd hc) pl.isList (by simpa using rv.ints) (by unfold scanBound; omega) fun h' tk c hR hcl hk => ?_
  exact ⟨.ref _, _, I.laid (t' := tk) hk (Nat.le_refl _) (setO_new hR), rfl, q _ c (I.hok.fresh (Nat.le_refl _)) hcl⟩
end
end CF
namespace CF
open PySem PySem.Spec PyProof.Rows L2
section
variable {X : Cx} {sc : Scope} {G : Nat → Pm}
theorem bootSorted : bootBuiltins "sorted" = some (.builtin "sorted") := by decide +kernel
theorem bootSet : bootBuiltins "set" = some (.type "set") := by decide +kernel
theorem jd_sset {ie : IE} {e : Expr} {N : List Str} {T cs d} (x : XOk N T cs d X) {y z : Str} {p p2 pos pos2 : Pos} (hy : y = "sorted") (hg : gl sc y = true) (hz : z = "set") (hg2 : gl sc z = true) (ha : Jd X sc G ie e) (ok : okE e = true) :
    Jd X sc G (.sset ie) (.Call (.Name y p) [.Call (.Name z p2) [e] [] pos2] [] pos) := by
  subst hy hz
  obtain ⟨⟨ta, pa, _, sa⟩, _⟩ := ha
  obtain ⟨g1, g2, g3⟩ := gl_of (X := X) hg
  obtain ⟨k1, k2, k3⟩ := gl_of (X := X) hg2
  have hin : AllE X sc (.Call (.Name "set" p2) [e] [] pos2) (tCB (rSetL X.K X.w) (tCons ta tNil)) := fun q hq => pe_callTy (X := at' X q) (cr_setL (X := at' X q) x.calm) (k1 q hq) (x.mb _ (by decide +kernel)) bootSet (pa_cons (pa q hq) pa_nil (okE.star ok _ _)) k3 k2 (okE.star ok _ _) rfl
  have hp : AllE X sc (.Call (.Name "sorted" p) [.Call (.Name "set" p2) [e] [] pos2] [] pos) (tCB (rSortedSet X.w) (tCons (tCB (rSetL X.K X.w) (tCons ta tNil)) tNil)) := fun q hq => pe_callB (X := at' X q) (cr_sortedSet (X := at' X q) x.calm) (g1 q hq) (x.mb _ (by decide +kernel)) bootSorted (pa_cons (hin q hq) pa_nil rfl) g3 g2 rfl rfl
  refine jd_mk (fun _ z => by cases z) hp (fun Bf B Hf H r σ Q Qv R w k => ?_) (fun _ _ => rfl)
  rw [wpE] at w
  refine sa Bf B Hf H r σ _ _ R w fun d v H1f H1 z1 rep1 _ w1 => ?_
  obtain ⟨ns, rfl, h1, q⟩ := w1
  obtain ⟨a, ws, rfl, q1, q2⟩ := rep1.list z1.c
  have e := q2.ints
  subst e
  refine ⟨a, ns, rfl, q1, by omega, fun p' c hp' hc => ?_⟩
  refine ⟨p', _, c, rfl, upd_same, by omega, fun ns' q' hs hm hl hq' => ?_⟩
  have zz := Ext.newO (o := SetO X.w p' (fun j => decide (j ∈ ns)) c) z1.c hp'
  refine k _ _ _ _ (z1.trans (zz.trans (Ext.new zz.c hq'))) (rep_newL (zz.c.free hq') (repL_ints ns')) (q ns' ?_ (fun n => ?_) ?_)
  · exact hs.imp fun {a b} h => by omega
  · rw [hm n, decide_eq_true_eq]
  · exact hs.imp fun {a b} h => by omega
end
end CF
namespace CF
open PySem PySem.Spec PyProof.Rows L2
section
variable {X : Cx} {sc : Scope} {G : Nat → Pm}
/-- walking a list or a tuple -/
def iSeq (K : PySem.W.Frag) (t : TE) : TI := fun σ H R => t σ H fun x H1 => ∃ a, x = .ref a ∧ (((∃ xs, SqL K H1 a xs) ∧ R (Itl K a) H1) ∨ ((∃ xs, SqT K H1 a xs) ∧ R (Itt K a) H1))
theorem pi_seq {tg l : Expr} {tl : TE} (hl : PE X l tl) : PI X tg l (iSeq X.K tl) := by
  refine ⟨fun pins s σ H R I h => ?_⟩
  refine thn (hl.run pins s σ H _ I h) fun v s1 ⟨x, H1, I1, r1, q1⟩ => ?_
  obtain ⟨a, e, q1⟩ := q1
  subst e
  cases r1
  rcases q1 with ⟨⟨xs, hq⟩, q⟩ | ⟨⟨xs, hq⟩, q⟩
  · obtain ⟨its, rv, p, hz⟩ := I1.list hq
    refine wpAny_pyIter_list p.isList ?_
    refine ⟨s1.heap.objs.size, [s1.heap.objs.size], _, _, H1, rfl, I1.kept (t' := s1.toks) fun b o e => Heap.get?_push_of_some _ e, turn_list a _, ⟨_, Heap.get?_push_size _ rfl, rfl, rfl⟩, fun b hb => ?_, q⟩
    have e : b = s1.heap.objs.size := by simpa using hb
    subst e
    exact I1.fpOk (Nat.le_refl _) (I1.hok.fresh (Nat.le_refl _))
  · obtain ⟨its, rv, p, hz⟩ := I1.tuple hq
    refine wpAny_pyIter_tuple (show s1.heap.IsTuple a its.toArray from p) ?_
    refine ⟨s1.heap.objs.size, [s1.heap.objs.size], _, _, H1, rfl, I1.kept (t' := s1.toks) fun b o e => Heap.get?_push_of_some _ e, turn_tuple a _, ⟨_, Heap.get?_push_size _ rfl, rfl, rfl⟩, fun b hb => ?_, q⟩
    have e : b = s1.heap.objs.size := by simpa using hb
    subst e
    exact I1.fpOk (Nat.le_refl _) (I1.hok.fresh (Nat.le_refl _))
theorem wk_listF {K : PySem.W.Frag} {Hf H : Hp} {a : Addr} {xs : List PyData} {vs : List V} (s : Same Hf H) (h : SqL K Hf a vs) (r : RepL K Hf xs vs) : ∃ S, (∀ p ∈ S, Hf p ≠ none) ∧ Wk K (Itl K a) xs Hf H S := by
  obtain ⟨S, hS, st⟩ := sql_at h
  have st' : ∀ H' : Hp, (∀ p ∈ S, H' p = H p) → SqL K H' a vs := fun H' e => st H' fun p hp => by
    rw [e p hp]
    cases q : Hf p with
    | none => exact absurd q (hS p hp).2
    | some o => exact s _ _ q
  refine ⟨S, fun p hp => (hS p hp).2, fun p hp z => ?_, fun i H' e hi => ?_, fun i H' x H2 e hi y => ?_, fun i H' e hi => ⟨vs, st' H' e, by rw [← r.length]; exact hi⟩⟩
  · cases q : Hf p with
    | none => exact (hS p hp).2 q
    | some o => rw [s _ _ q] at z; cases z
  · have hi' : i < vs.length := by rw [← r.length]; exact hi
    exact ⟨vs, vs[i], st' H' e, List.getElem?_eq_getElem hi'⟩
  · obtain ⟨y1, y2⟩ := y
    have q := y2 vs (st' H' e)
    obtain ⟨d, hd, rep⟩ := r.get' q
    exact ⟨y1, d, hd, rep⟩
theorem wk_listO {K : PySem.W.Frag} {Hf H : Hp} {a : Addr} {xs : List PyData} {vs : List V} (h : H a = some (.lst vs)) (r : RepL K Hf xs vs) : Wk K (Itl K a) xs Hf H [a] := by
  have st : ∀ H' : Hp, (∀ p ∈ [a], H' p = H p) → SqL K H' a vs := fun H' e => SqL.of ((e a (List.mem_singleton.mpr rfl)).trans h)
  refine ⟨fun p hp => by rw [List.mem_singleton.mp hp, h]; exact (fun z => nomatch z), fun i H' e hi => ?_, fun i H' x H2 e hi y => ?_, fun i H' e hi => ⟨vs, st H' e, by rw [← r.length]; exact hi⟩⟩
  · have hi' : i < vs.length := by rw [← r.length]; exact hi
    exact ⟨vs, vs[i], st H' e, List.getElem?_eq_getElem hi'⟩
  · obtain ⟨y1, y2⟩ := y
    have q := y2 vs (st H' e)
    obtain ⟨d, hd, rep⟩ := r.get' q
    exact ⟨y1, d, hd, rep⟩
theorem isOwnE_cases {a : IE} {r : Ev} (h : ¬ isOwnE a r = false) : ∃ j d, a = .var j ∧ (r.get j = .own d ∨ r.get j = .lck d) := by
  cases a <;> try exact absurd rfl h
  rename_i j
  have h' : ¬ (r.get j).isO = false := h
  cases e : r.get j with
  | own d => exact ⟨j, d, rfl, .inl e⟩
  | lck d => exact ⟨j, d, rfl, .inr e⟩
  | _ => rw [e] at h'; exact absurd rfl h'
theorem ji_seq {a : IE} {ea : Expr} (ha : Jd X sc G a ea) : JdI X sc G (.seq a) ea := by
  obtain ⟨⟨ta, pa, _, sa⟩, _⟩ := ha
  refine ⟨iSeq X.K ta, fun q tg hq => pi_seq (X := at' X q) (pa q hq), fun Bf B Hf H r σ Q Rv R w k => ?_⟩
  rw [wpIt] at w
  refine sa Bf B Hf H r σ _ _ R w fun d v H1f H1 z1 rep1 no w1 => ?_
  by_cases ho : isOwnE a r = false
  · have rep := no.no ho
    cases d <;> simp only [itP] at w1
    · rename_i xs
      unfold Rep at rep
      obtain ⟨p, vs, rfl, h1, h2⟩ := rep
      obtain ⟨S, hS, wk⟩ := wk_listF z1.c h1 h2
      exact ⟨p, rfl, .inl ⟨⟨vs, z1.c.seq h1⟩, k _ _ _ _ S z1 wk (.inl hS) w1⟩⟩
    · rename_i xs
      unfold Rep at rep
      obtain ⟨p, vs, rfl, h1, h2⟩ := rep
      refine ⟨p, rfl, .inr ⟨⟨vs, SqT.of (z1.c _ _ h1)⟩, k _ _ _ _ [p] z1 (wk_tup (z1.c _ _ h1) h2) (.inl fun q hq => ?_) w1⟩⟩
      rw [List.mem_singleton.mp hq, h1]
      exact (fun z => nomatch z)
  · obtain ⟨j, d', rfl, hj⟩ := isOwnE_cases ho
    have hs := no.sl j rfl
    rcases rep1 with rep | rep
    · cases d <;> simp only [itP] at w1
      · rename_i xs
        unfold Rep at rep
        obtain ⟨p, vs, rfl, h1, h2⟩ := rep
        obtain ⟨S, hS, wk⟩ := wk_listF z1.c h1 h2
        exact ⟨p, rfl, .inl ⟨⟨vs, z1.c.seq h1⟩, k _ _ _ _ S z1 wk (.inl hS) w1⟩⟩
      · rename_i xs
        unfold Rep at rep
        obtain ⟨p, vs, rfl, h1, h2⟩ := rep
        refine ⟨p, rfl, .inr ⟨⟨vs, SqT.of (z1.c _ _ h1)⟩, k _ _ _ _ [p] z1 (wk_tup (z1.c _ _ h1) h2) (.inl fun q hq => ?_) w1⟩⟩
        rw [List.mem_singleton.mp hq, h1]
        exact (fun z => nomatch z)
    · cases d <;> simp only [itP] at w1
      · rename_i xs
        obtain ⟨p, vs, rfl, h0, h1, h2⟩ := rep
        refine ⟨p, rfl, .inl ⟨⟨vs, SqL.of h1⟩, k _ _ _ _ [p] z1 (wk_listO h1 h2) (.inr ⟨j, p, d', rfl, hj, hs, fun q hq => List.mem_singleton.mp hq⟩) w1⟩⟩
      · exact rep.elim
theorem wk_keys {K : PySem.W.Frag} {Hf H : Hp} {p : Addr} {o : Obj} {l : List (Int × Int)} (h : H p = some (.frz o (.dK (dV l)))) : Wk K (Itk p o (dV l)) (l.map fun p => .int p.1) Hf H [p] := by
  have st : ∀ H' : Hp, (∀ q ∈ [p], H' q = H q) → H' p = some (.frz o (.dK (dV l))) := fun H' e => (e p (List.mem_singleton.mpr rfl)).trans h
  have hl : (dV l).length = l.length := by unfold dV; rw [List.length_map]
  refine ⟨fun q hq => by rw [List.mem_singleton.mp hq, h]; exact (fun z => nomatch z), fun i H' e hi => ⟨st H' e, ?_⟩, fun i H' x H2 e hi y => ?_, fun i H' e hi => ⟨st H' e, ?_⟩⟩
  · rw [List.length_map] at hi
    omega
  · obtain ⟨y1, k, v, y2, y3⟩ := y
    unfold dV at y2
    rw [List.getElem?_map] at y2
    cases q : l[i]? with
    | none => rw [q] at y2; cases y2
    | some z =>
      rw [q] at y2
      have y2' : (Sum.inl z.1, V.int z.2) = (k, v) := Option.some.inj y2
      cases y2'
      refine ⟨y1, .int z.1, by rw [List.getElem?_map, q]; rfl, ?_⟩
      subst y3
      exact rep_int
  · rw [List.length_map] at hi
    omega
theorem ji_keys {N : List Str} {T cs d} (x : XOk N T cs d X) {c : Ck} (hc : c.N = N) {j : Nat} {y : Str} {py : Pos} (h1 : nmOk c.N j y = true) (h2 : visB sc y = true) : JdI X sc G (.keys j) (.Name y py) := by
  refine ⟨iKeys (tVar j), fun q tg hq => pi_keys (X := at' X q) (pe_nm x hc h1 h2 q hq), fun Bf B Hf H r σ Q Rv R w k => ?_⟩
  rw [wpIt] at w
  obtain ⟨l, hl, w⟩ := w
  have q := R.sl j
  rw [hl] at q
  obtain ⟨p, o, e, h⟩ := q
  have hH := R.e.c _ _ h
  exact ⟨_, e, p, o, rfl, .inl ⟨dV l, hH, k _ _ _ _ [p] (Ext.refl R.e.c) (wk_keys hH) (.inl fun q hq => by rw [List.mem_singleton.mp hq, h]; exact (fun z => nomatch z)) w⟩⟩
theorem chkEs_len {c : Ck} {sc : Scope} : ∀ {es : IEs} {as : List Expr}, chkEs c sc es as = true → es.len = as.length
  | .nil, [], _ => rfl
  | .nil, _ :: _, h => absurd h (by simp [chkEs])
  | .cons e es, [], h => absurd h (by simp [chkEs])
  | .cons e es, a :: as, h => by
    have h' : (chkE c sc e a && chkEs c sc es as) = true := by simpa [chkEs] using h
    rw [Bool.and_eq_true] at h'
    show es.len + 1 = as.length + 1
    rw [chkEs_len h'.2]
theorem chkEs_cons {c : Ck} {sc : Scope} {es : IEs} {a : Expr} {as : List Expr} (h : chkEs c sc es (a :: as) = true) : okE a = true ∧ ∃ es', chkEs c sc es' as = true := by
  cases es with
  | nil => exact absurd h (by simp [chkEs])
  | cons e es =>
    have h' : (chkE c sc e a && chkEs c sc es as) = true := by simpa [chkEs] using h
    rw [Bool.and_eq_true] at h'
    exact ⟨chkE_ok h'.1, es, h'.2⟩
theorem prep3 {K : PySem.W.Frag} {Hf H : Hp} {d e f : PyData} {vs : List V} (h : PRepL K Hf H [d, e, f] vs) : ∃ v u w, vs = [v, u, w] ∧ PRep K Hf H d v ∧ PRep K Hf H e u ∧ PRep K Hf H f w := by
  obtain ⟨v, r, rfl, h1, h2⟩ := h
  obtain ⟨u, w, rfl, h3, h4⟩ := prep2 h2
  exact ⟨v, u, w, rfl, h1, h3, h4⟩
theorem ji_rng {es : IEs} {as : List Expr} {N : List Str} {T cs d} (x : XOk N T cs d X) {c : Ck} {y : Str} {p pos : Pos} (hy : y = "range") (hg : gl sc y = true) (hch : chkEs c sc es as = true) (ha : JdA X sc G es as) (hn : as.length = 1 ∨ as.length = 2 ∨ as.length = 3) :
    JdI X sc G (.rng es) (.Call (.Name y p) as [] pos) := by
  subst hy
  obtain ⟨ta, pa, sa⟩ := ha
  obtain ⟨g1, g2, g3⟩ := gl_of (X := X) hg
  have hm := x.mb "range" (by decide +kernel)
  have hlen := chkEs_len hch
  match as, hn with
  | [a], _ =>
    obtain ⟨ok, _⟩ := chkEs_cons hch
    refine ⟨_, fun q tg hq => pi_range1 (g1 q hq) hm (pa q hq) (okE.star ok _ _), fun Bf B Hf H r σ Q Rv R w k => ?_⟩
    rw [wpIt] at w
    refine sa Bf B Hf H r σ _ _ R w fun ds vs H1f H1 z1 rep1 _ hl w1 => ?_
    rw [hlen] at hl
    match ds, hl with
    | [e], _ =>
      cases e <;> simp only [rngP] at w1
      obtain ⟨v, rfl, q⟩ := prep1 rep1
      refine ⟨_, by rw [q.int], w1.1.1, w1.1.2, ?_⟩
      exact k _ _ _ _ [] z1 wk_rng (.inl fun p hp => absurd hp (by simp)) w1.2
  | [a, b], _ =>
    obtain ⟨ok, es2, h2⟩ := chkEs_cons hch
    obtain ⟨ok2, _⟩ := chkEs_cons h2
    refine ⟨_, fun q tg hq => pi_range2 (g1 q hq) hm (pa q hq) (by rw [okE.star ok, okE.star ok2]; rfl) (okE.star ok2 _ _), fun Bf B Hf H r σ Q Rv R w k => ?_⟩
    rw [wpIt] at w
    refine sa Bf B Hf H r σ _ _ R w fun ds vs H1f H1 z1 rep1 _ hl w1 => ?_
    rw [hlen] at hl
    match ds, hl with
    | [e, f], _ =>
      cases e <;> cases f <;> simp only [rngP] at w1
      obtain ⟨v, u, rfl, q, q2⟩ := prep2 rep1
      refine ⟨_, _, by rw [q.int, q2.int], w1.1, ?_⟩
      exact k _ _ _ _ [] z1 wk_rng (.inl fun p hp => absurd hp (by simp)) w1.2
  | [a, b, e], _ =>
    obtain ⟨ok, es2, h2⟩ := chkEs_cons hch
    obtain ⟨ok2, es3, h3⟩ := chkEs_cons h2
    obtain ⟨ok3, _⟩ := chkEs_cons h3
    refine ⟨_, fun q tg hq => pi_range3 (g1 q hq) hm (pa q hq) (okE.star ok _ _) (by rw [okE.star ok2, okE.star ok3]; rfl), fun Bf B Hf H r σ Q Rv R w k => ?_⟩
    rw [wpIt] at w
    refine sa Bf B Hf H r σ _ _ R w fun ds vs H1f H1 z1 rep1 _ hl w1 => ?_
    rw [hlen] at hl
    match ds, hl with
    | [e, f, g], _ =>
      cases e <;> cases f <;> cases g <;> simp only [rngP] at w1
      obtain ⟨v, u, w', rfl, q, q2, q3⟩ := prep3 rep1
      obtain ⟨n, hn, w1⟩ := w1
      refine ⟨_, _, _, n, by rw [q.int, q2.int, q3.int], hn, ?_⟩
      exact k _ _ _ _ [] z1 wk_rngC (.inl fun p hp => absurd hp (by simp)) w1

/-! ### targets -/
/-- b: what is stored may be a cell (in a def's body), or a local alone -/
abbrev FnQ (b : Bool) (q : Vr) : Prop := b = true → q.fn = fun _ => true
def JdG (X : Cx) (sc : Scope) (b : Bool) (tg : Tg) (e : Expr) : Prop := ∃ g, (∀ q : Vr, q.env.scope = sc → FnQ b q → PG (at' X q) e g) ∧ ∀ (Bf B Hf H : Hp) (r : Ev) (σ : L2.St) (d : PyData) (v : V) (Q : Ev → Prop) (Qv : L2.St → Hp → Prop), StR X.K X.N.length Bf B Hf H r σ → Rep X.K Hf d v → bindT tg d r Q →
  (∀ r' σ', StR X.K X.N.length Bf B Hf H r' σ' → (∀ i, i ∉ tg.slots → σ'[i]? = σ[i]? ∧ r'.get i = r.get i) → (∀ i ∈ tg.slots, r.free i = true) → Q r' → Qv σ' H) → g v σ H Qv
theorem free_of_set {r : Ev} {i : Nat} (d : PyData) (j : Nat) (h : r.free j = true) : Ev.free (r.set i (.val d)) j = true := by
  unfold Ev.free at h ⊢
  by_cases e : i = j
  · subst e
    by_cases hi : i < r.length
    · rw [Ev.get_set_same hi]
    · rw [List.set_eq_of_length_le (by omega)]
      exact h
  · rw [Ev.get_set_ne e]
    exact h
theorem jg_one {b : Bool} {i : Nat} {y : Str} {py : Pos} (nd : X.N.Nodup) (hi : X.N[i]? = some y) (hx : L2.Loc sc y) (hf : ∀ q : Vr, q.env.scope = sc → FnQ b q → q.fn y = true ∨ q.env.scope.names.lookup y = some .local) : JdG X sc b (.one i) (.Name y py) := by
  refine ⟨_, fun q hq hb => pg_name (X := at' X q) nd hi (by show L2.Loc q.env.scope y; rw [hq]; exact hx) (hf q hq hb), fun Bf B Hf H r σ d v Q Qv R rep w k => ?_⟩
  have hlt : i < X.N.length := (List.getElem?_eq_some_iff.mp hi).1
  refine k _ _ (R.setV rep hlt) (fun j hj => ?_) (fun j hj => ?_) w.2
  · have hne : i ≠ j := fun e => hj (by rw [e]; exact List.mem_singleton.mpr rfl)
    exact ⟨List.getElem?_set_ne hne, Ev.get_set_ne hne⟩
  · rw [List.mem_singleton.mp hj]
    exact w.1
/-- several names -/
def JdGs (X : Cx) (sc : Scope) (b : Bool) (is : List Nat) (es : List Expr) : Prop := ∃ g, (∀ q : Vr, q.env.scope = sc → FnQ b q → PGs (at' X q) es g) ∧ (∀ env, (assignEach es env).length = is.length ∧ (assignEach es env).findIdx? (·.1) = none) ∧ ∀ (Bf B Hf H : Hp) (r : Ev) (σ : L2.St) (ds : List PyData) (vs : List V) (Q : Ev → Prop) (Qv : L2.St → Hp → Prop), StR X.K X.N.length Bf B Hf H r σ → RepL X.K Hf ds vs → r.freeAll is = true → ds.length = is.length → Q (setAll r is ds) →
  (∀ r' σ', StR X.K X.N.length Bf B Hf H r' σ' → (∀ i, i ∉ is → σ'[i]? = σ[i]? ∧ r'.get i = r.get i) → Q r' → Qv σ' H) → g vs σ H Qv
theorem jgs_nil {b : Bool} : JdGs X sc b [] [] := ⟨_, fun q hq hb => pgs_nil, fun env => ⟨rfl, rfl⟩, fun Bf B Hf H r σ ds vs Q Qv R rep f hl w k => by
  have e : ds = [] := List.eq_nil_of_length_eq_zero hl
  subst e
  unfold RepL at rep
  subst rep
  exact ⟨rfl, k r σ R (fun i _ => ⟨rfl, rfl⟩) w⟩⟩
theorem jgs_cons {b : Bool} {i : Nat} {is : List Nat} {y : Str} {py : Pos} {es : List Expr} (nd : X.N.Nodup) (hi : X.N[i]? = some y) (hx : L2.Loc sc y) (hf : ∀ q : Vr, q.env.scope = sc → FnQ b q → q.fn y = true ∨ q.env.scope.names.lookup y = some .local) (h : JdGs X sc b is es) : JdGs X sc b (i :: is) (.Name y py :: es) := by
  obtain ⟨g, pg, ha, sg⟩ := h
  have hlt : i < X.N.length := (List.getElem?_eq_some_iff.mp hi).1
  refine ⟨_, fun q hq hb => pgs_cons (pg_name (X := at' X q) nd hi (by show L2.Loc q.env.scope y; rw [hq]; exact hx) (hf q hq hb)) (pg q hq hb) rfl, fun env => ?_, fun Bf B Hf H r σ ds vs Q Qv R rep f hl w k => ?_⟩
  · obtain ⟨h1, h2⟩ := ha env
    constructor
    · show (assignEach es env).length + 1 = is.length + 1
      rw [h1]
    · show List.findIdx? (·.1) ((false, _) :: assignEach es env) = none
      rw [List.findIdx?_cons]
      simp [h2]
  · match ds, hl with
    | d :: ds, hl =>
      unfold RepL at rep
      obtain ⟨v, r1, rfl, h1, h2⟩ := rep
      have f' : (r.free i && Ev.freeAll r is) = true := f
      rw [Bool.and_eq_true] at f'
      refine ⟨v, r1, rfl, ?_⟩
      refine sg Bf B Hf H (r.set i (.val d)) (σ.set i (some v)) ds r1 Q Qv (R.setV h1 hlt) h2 ?_ (by simpa using hl) w fun r' σ' R' hk q => ?_
      · unfold Ev.freeAll at f' ⊢
        rw [List.all_eq_true] at f' ⊢
        exact fun j hj => free_of_set d j (f'.2 j hj)
      · refine k r' σ' R' (fun j hj => ?_) q
        have hne : i ≠ j := fun e => hj (by rw [e]; exact List.mem_cons_self)
        obtain ⟨e1, e2⟩ := hk j fun z => hj (List.mem_cons_of_mem _ z)
        exact ⟨e1.trans (List.getElem?_set_ne hne), e2.trans (Ev.get_set_ne hne)⟩
theorem jg_many {b : Bool} {is : List Nat} {es : List Expr} {k pos} (hc : X.calm = true) (h : JdGs X sc b is es) : JdG X sc b (.many is) (.Tuple es k pos) := by
  obtain ⟨g, pg, ha, sg⟩ := h
  refine ⟨gTup X.K is.length g, fun q hq hb => pg_tup (X := at' X q) (n := is.length) hc (pg q hq hb) (ha _).1 (ha _).2, fun Bf B Hf H r σ d v Q Qv R rep w kk => ?_⟩
  obtain ⟨f, ds, rfl, hl, q⟩ := w
  unfold Rep at rep
  obtain ⟨a, vs, rfl, h1, h2⟩ := rep
  refine ⟨a, vs, rfl, SqT.of (R.e.c _ _ h1), by rw [← h2.length]; exact hl, ?_⟩
  refine sg Bf B Hf H r σ ds vs Q Qv R h2 f hl q fun r' σ' R' hk q' => kk r' σ' R' hk (fun i hi => ?_) q'
  unfold Ev.freeAll at f
  rw [List.all_eq_true] at f
  exact f i hi
/-- from the checker -/
theorem jg_of {N : List Str} {T cs d} (x : XOk N T cs d X) {c : Ck} (hN : c.N = N) {b : Bool} {tg : Tg} {e : Expr} (h : chkT c sc b tg e = true) : JdG X sc b tg e := by
  have one : ∀ {i : Nat} {e : Expr}, chkN c sc b i e = true → ∃ y py, e = .Name y py ∧ X.N[i]? = some y ∧ L2.Loc sc y ∧ ∀ q : Vr, q.env.scope = sc → FnQ b q → (q.fn y = true ∨ q.env.scope.names.lookup y = some .local) := fun {i e} h => by
    unfold chkN at h
    split at h
    · rename_i y py
      rw [Bool.and_eq_true] at h
      obtain ⟨h1, h2⟩ := h
      unfold nmOk at h1
      rw [decide_eq_true_eq] at h1
      refine ⟨y, py, rfl, by rw [x.n, ← hN]; exact h1, ?_⟩
      cases b with
      | true =>
        rw [if_pos rfl] at h2
        refine ⟨?_, fun q hq hb => .inl (by rw [hb rfl])⟩
        unfold locB at h2
        unfold L2.Loc
        split at h2
        · exact .inl (by assumption)
        · exact .inr (by assumption)
        · cases h2
      | false =>
        rw [if_neg Bool.false_ne_true, decide_eq_true_eq] at h2
        exact ⟨.inl h2, fun q hq hb => .inr (by rw [hq]; exact h2)⟩
    · cases h
  have many : ∀ (is : List Nat) (es : List Expr), chkNs c sc b is es = true → JdGs X sc b is es := by
    intro is
    induction is with
    | nil =>
      intro es h
      cases es with
      | nil => exact jgs_nil
      | cons => cases h
    | cons i is ih =>
      intro es h
      cases es with
      | nil => cases h
      | cons e es =>
        have h' : (chkN c sc b i e && chkNs c sc b is es) = true := h
        rw [Bool.and_eq_true] at h'
        obtain ⟨y, py, rfl, h1, h2, h3⟩ := one h'.1
        exact jgs_cons (by rw [x.n]; exact x.nd) h1 h2 h3 (ih es h'.2)
  cases tg with
  | one i =>
    obtain ⟨y, py, rfl, h1, h2, h3⟩ := one (i := i) (e := e) h
    exact jg_one (by rw [x.n]; exact x.nd) h1 h2 h3
  | many is =>
    unfold chkT at h
    cases e <;> try (exact absurd h Bool.false_ne_true)
    exact jg_many x.calm (many is _ h)
end
end CF
namespace CF
open PySem PySem.Spec PyProof.Rows L2
section
variable {K : PySem.W.Frag} {n : Nat} {Bf B H H' Hf Hf' : Hp} {r : Ev} {σ : L2.St}
theorem StR.setU {i : Nat} (R : StR K n Bf B Hf H r σ) : StR K n Bf B Hf H (r.set i .un) (σ.set i none) := by
  have key : ∀ j, (j ≠ i ∧ Ev.get (r.set i .un) j = r.get j ∧ (σ.set i none)[j]? = σ[j]?) ∨ Ev.get (r.set i .un) j = .un := fun j => by
    by_cases e : i = j
    · subst e
      refine .inr ?_
      by_cases hi : i < r.length
      · exact Ev.get_set_same hi
      · rw [List.set_eq_of_length_le (by omega)]
        exact Ev.get_out (by omega)
    · exact .inl ⟨Ne.symm e, Ev.get_set_ne e, List.getElem?_set_ne e⟩
  refine ⟨by rw [List.length_set]; exact R.ln, by rw [List.length_set, List.length_set]; exact R.len, fun j => ?_, fun j k p hjk h1 h2 e1 e2 => ?_, R.e⟩
  · rcases key j with ⟨_, e1, e2⟩ | e
    · rw [e1, e2]
      exact R.sl j
    · rw [e]
      exact trivial
  · rcases key j with ⟨_, a1, a2⟩ | a
    · rcases key k with ⟨_, b1, b2⟩ | b
      · rw [a1] at h1
        rw [b1] at h2
        rw [a2] at e1
        rw [b2] at e2
        exact R.sep j k p hjk h1 h2 e1 e2
      · rw [b] at h2
        cases h2
    · rw [a] at h1
      cases h1
theorem StR.wipe (R : StR K n Bf B Hf H r σ) : ∀ is : List Nat, StR K n Bf B Hf H (wipeE r is) (L2.wipe σ is)
  | [] => R
  | i :: is => (StR.wipe R is).setU
theorem wipe_get (σ : L2.St) (i : Nat) : ∀ vs : List Nat, (L2.wipe σ vs)[i]? = if i ∈ vs then (if i < σ.length then some none else none) else σ[i]?
  | [] => by simp [L2.wipe]
  | v :: vs => by
    have ih := wipe_get σ i vs
    show ((L2.wipe σ vs).set v none)[i]? = _
    by_cases e : v = i
    · subst e
      rw [if_pos List.mem_cons_self]
      by_cases hv : v < σ.length
      · rw [if_pos hv, List.getElem?_set_self (by rw [wipe_length]; exact hv)]
      · rw [if_neg hv, List.getElem?_eq_none (by rw [List.length_set, wipe_length]; omega)]
    · rw [List.getElem?_set_ne e, ih]
      by_cases hm : i ∈ vs
      · rw [if_pos hm, if_pos (List.mem_cons_of_mem _ hm)]
      · rw [if_neg hm, if_neg (fun z => (List.mem_cons.mp z).elim (fun z => e z.symm) hm)]
theorem wipe_same {σ σ2 : L2.St} {vs : List Nat} (hl : σ2.length = σ.length) (h : ∀ i, i ∉ vs → σ2[i]? = (L2.wipe σ vs)[i]?) : L2.wipe σ2 vs = L2.wipe σ vs := by
  refine List.ext_getElem? fun i => ?_
  rw [wipe_get, wipe_get, hl]
  by_cases hm : i ∈ vs
  · rw [if_pos hm, if_pos hm]
  · rw [if_neg hm, if_neg hm, h i hm, wipe_get, if_neg hm]
/-- a list that is not frozen grows -/
theorem Ext.put {p : Addr} {o : HO} (z : Ext Hf H Hf' H') (hp : H p = none) (hf : Hf' p = none) : Ext Hf H Hf' (upd H' p o) := by
  refine ⟨fun b u e => ?_, z.b, fun b u e => ?_, z.d⟩
  · rw [upd_ne (ne_of_none e hp)]
    exact z.a _ _ e
  · rw [upd_ne (ne_of_none e hf)]
    exact z.c _ _ e
end
section
variable {X : Cx} {sc : Scope} {G : Nat → Pm}
def JdF (X : Cx) (sc : Scope) (G : Nat → Pm) (es : IEs) (e : List Expr) : Prop := ∃ t, (∀ q : Vr, q.env.scope = sc → PTs (at' X q) e t) ∧ ∀ (Bf B Hf H : Hp) (r : Ev) (σ : L2.St) (Q : Bool → Prop) (Qv : Bool → Hp → Prop), StR X.K X.N.length Bf B Hf H r σ →
  wpIfs G es r Q → (∀ b Hf' H', Ext Hf H Hf' H' → Q b → Qv b H') → t σ H Qv
theorem jf_nil : JdF X sc G .nil [] := ⟨_, fun q hq => pts_nil, fun Bf B Hf H r σ Q Qv R w k => by
  rw [wpIfs] at w
  exact k true _ _ (Ext.refl R.e.c) w⟩
theorem jf_one {a : IE} {ea : Expr} (ha : Jd X sc G a ea) : JdF X sc G (.cons a .nil) [ea] := by
  obtain ⟨_, tt, pt, st⟩ := ha
  refine ⟨_, fun q hq => pts_one (pt q hq), fun Bf B Hf H r σ Q Qv R w k => ?_⟩
  rw [wpIfs] at w
  exact st Bf B Hf H r σ Q Qv R w k
theorem comp_pe {elt : IE} {tg : Tg} {it : IIt} {ifs : IEs} {e t i : Expr} {fs : List Expr} {csc : Scope} {N : List Str} {T cs d} (x : XOk N T cs d X) {c : Ck} (hN : c.N = N)
    (ok : okE i = true) (hb : blkC c.N sc csc (ownOf c.N tg.slots) = true) (hit : JdI X sc G it i) (htg : JdG X (relS csc sc) false tg t) (hif : JdF X (relS csc sc) G ifs fs) (he : Jd X (relS csc sc) G elt e) :
    ∃ tt : TI × TG × TT × TE, (∀ q : Vr, q.env.scope = sc → PI (at' X q) t i tt.1 ∧ BlkOk (at' X q).N (at' X q).env.scope csc (ownOf c.N tg.slots) ∧
      (∀ (s : Shared) (H : Hp) (C : Addr) (cl : List (Str × Addr)) (fp : List Addr), PG ((at' X q).blk s H csc (compEnvC csc cl C (at' X q).env) fp) t tt.2.1) ∧
      (∀ (s : Shared) (H : Hp) (C : Addr) (cl : List (Str × Addr)) (fp : List Addr), PTs ((at' X q).blk s H csc (compEnvC csc cl C (at' X q).env) fp) fs tt.2.2.1) ∧
      (∀ (s : Shared) (H : Hp) (C : Addr) (cl : List (Str × Addr)) (fp : List Addr), PE ((at' X q).blk s H csc (compEnvC csc cl C (at' X q).env) fp) e tt.2.2.2)) ∧
    SemO X G (.comp elt tg it ifs) (tLc tt.1 tt.2.1 tt.2.2.1 tt.2.2.2 ((ownOf c.N tg.slots).map (·.2))) := by
  obtain ⟨wi, pit, sit⟩ := hit
  obtain ⟨g, pg, sg⟩ := htg
  obtain ⟨tf, pf, sf⟩ := hif
  obtain ⟨⟨te, pe, se, _⟩, _⟩ := he
  refine ⟨(wi, g, tf, te), fun q hq => ⟨pit q t hq, ?_, fun s H C cl fp => ?_, fun s H C cl fp => ?_, fun s H C cl fp => ?_⟩, ?_⟩
  · have h := blkOk_by hb
    show BlkOk X.N q.env.scope csc _
    rw [x.n, ← hN, hq]
    exact h
  · exact pg ⟨s, H, compEnvC csc cl C q.env, q.stack, q.stack, fp, fun x => csc.names.lookup x == some .cell, []⟩ (by rw [← hq]; rfl) (fun z => nomatch z)
  · exact pf ⟨s, H, compEnvC csc cl C q.env, q.stack, q.stack, fp, fun x => csc.names.lookup x == some .cell, []⟩ (by rw [← hq]; rfl)
  · exact pe ⟨s, H, compEnvC csc cl C q.env, q.stack, q.stack, fp, fun x => csc.names.lookup x == some .cell, []⟩ (by rw [← hq]; rfl)
  have hown : (ownOf c.N tg.slots).map (·.2) = tg.slots := by
    unfold ownOf
    rw [List.map_map]
    exact List.map_id _
  rw [hown]
  intro Bf B Hf H r σ Q Qv R w k
  rw [wpE] at w
  refine sit Bf B Hf H r σ _ _ R w fun items J H1f H1 S z1 wk wat w1 => ?_
  obtain ⟨hlen, w1⟩ := w1
  intro D hD
  have R1 := R.ext z1
  refine ⟨fun i m Hc => m + i = items.length ∧ ∃ (Hfc : Hp) (acc : List PyData) (accV : List V), Ext H1f H1 Hfc Hc ∧ Hfc D = none ∧ Hc D = some (.lst accV) ∧ RepL X.K Hfc acc accV ∧ acc.length ≤ i ∧
      compL (fun x k => bindT tg x (wipeE r tg.slots) fun r1 => wpIfs G ifs r1 fun b => if b = true then wpE G elt r1 fun y => k (some y) else k none) (items.drop i) (fun ys => Q (.list (acc ++ ys))),
    ⟨items.length, rfl, H1f, [], [], Ext.newO z1.c hD, z1.c.free hD, upd_same, RepL.nil, Nat.zero_le _, ?_⟩, ?_⟩
  · simpa using w1
  rintro i m Hc ⟨hm, Hfc, acc, accV, zc, hfD, hcD, rep, hacc, w2⟩
  have stay : ∀ p ∈ S, Hc p = H1 p := fun p hp => by
    cases q : H1 p with
    | none => exact absurd q (wk.there p hp)
    | some o => exact zc.a _ _ q
  by_cases hi : i < items.length
  · refine .inr ⟨wk.go i Hc stay hi, fun Hn => ∃ (Hfc : Hp) (acc : List PyData) (accV : List V), Ext H1f H1 Hfc Hn ∧ Hfc D = none ∧ Hn D = some (.lst accV) ∧ RepL X.K Hfc acc accV ∧ acc.length ≤ i + 1 ∧
      compL (fun x k => bindT tg x (wipeE r tg.slots) fun r1 => wpIfs G ifs r1 fun b => if b = true then wpE G elt r1 fun y => k (some y) else k none) (items.drop (i + 1)) (fun ys => Q (.list (acc ++ ys))), ?_, ?_⟩
    · intro H' h
      exact ⟨m - 1, by omega, by omega, h⟩
    · intro v H' hy
      obtain ⟨eH, dt, hd, rv⟩ := wk.yld i Hc v H' stay hi hy
      rw [eH]
      have hdr : items.drop i = dt :: items.drop (i + 1) := by
        rw [List.drop_eq_getElem_cons hi]
        have := (List.getElem?_eq_some_iff.mp hd).2
        rw [this]
      rw [hdr, compL] at w2
      have Rw := (R1.ext zc).wipe tg.slots
      refine sg Bf B Hfc Hc (wipeE r tg.slots) (L2.wipe σ tg.slots) dt v _ _ Rw (Rep.mono zc.b _ _ rv) w2 fun r' σ' R' hk hfree w3 => ?_
      refine ⟨wipe_same (by rw [← R'.len, R'.ln, ← R.len, R.ln]) fun j hj => (hk j hj).1, ?_⟩
      refine sf Bf B Hfc Hc r' σ' _ _ R' w3 fun b H3f H3 z3 w4 => ?_
      cases b with
      | false =>
        refine iteF ⟨H3f, acc, accV, zc.trans z3, z3.frozen hcD hfD, z3.a _ _ hcD, RepL.mono z3.b _ _ rep, by omega, ?_⟩
        simpa using w4
      | true =>
        refine iteT ?_
        rw [if_pos rfl] at w4
        refine se Bf B H3f H3 r' σ' _ _ (R'.ext z3) w4 fun y u H4f H4 z4 rep4 w5 => ?_
        have h4 : H4 D = some (.lst accV) := z4.a _ _ (z3.a _ _ hcD)
        have h4f : H4f D = none := z4.frozen (z3.a _ _ hcD) (z3.frozen hcD hfD)
        have lv := rep.length
        refine ⟨accV, h4, ?_, H4f, acc ++ [y], accV ++ [u], ((zc.trans z3).trans z4).put hD h4f, h4f, upd_same, RepL.append (RepL.mono z4.b _ _ (RepL.mono z3.b _ _ rep)) (RepL.cons rep4 RepL.nil), ?_, ?_⟩
        · show accV.length < sizeLine
          rw [sizeLine_eq]
          omega
        · rw [List.length_append, List.length_singleton]
          omega
        · simpa using w5
  · refine .inl ⟨wk.stop i Hc stay (by omega), ?_⟩
    rw [List.drop_eq_nil_of_le (by omega)] at w2
    have w3 : Q (.list acc) := by simpa [compL] using w2
    refine k (.list acc) (.ref D) Hfc Hc (z1.trans zc) (.inl ⟨⟨D, accV, rfl, hfD, hcD, rep⟩, fun p e => ?_⟩) w3
    cases e
    exact z1.a.free hD
theorem jd_comp {elt : IE} {tg : Tg} {it : IIt} {ifs : IEs} {e t i : Expr} {fs : List Expr} {csc : Scope} {pos : Pos} {N : List Str} {T cs d} (x : XOk N T cs d X) {c : Ck} (hN : c.N = N)
    (ok : okE i = true) (hb : blkC c.N sc csc (ownOf c.N tg.slots) = true) (hit : JdI X sc G it i) (htg : JdG X (relS csc sc) false tg t) (hif : JdF X (relS csc sc) G ifs fs) (he : Jd X (relS csc sc) G elt e) :
    Jd X sc G (.comp elt tg it ifs) (.ListComp e [⟨t, i, fs, 0⟩] csc pos) := by
  obtain ⟨tt, p, s⟩ := comp_pe x hN ok hb hit htg hif he
  refine jd_mk (fun _ z => by cases z) (fun q hq => ?_) s.e (fun _ _ => rfl)
  obtain ⟨p1, p2, p3, p4, p5⟩ := p q hq
  exact pe_lc (X := at' X q) x.calm (by show X.N.Nodup; rw [x.n]; exact x.nd) p1 p2 p3 p4 p5 (fun v => okE.fold ok _ _)
end
end CF
namespace CF
open PySem PySem.Spec PyProof.Rows L2
def Gof (T : List FnE) : Nat → Pm := fun f => match T[f]? with | some g => g.G | none => fun _ _ => False
def ckOf (N : List Str) (T : List FnE) (cs : List (Str × Int)) : Ck := ⟨N, T.map fun g => (g.name, g.ar), cs⟩
theorem bin_okB {K : PySem.W.Frag} {op : Operator} (h : binB op = true) : ∃ r, (∀ X : Cx, X.K = K → OpR X (binaryOp op) r) ∧ SemR K r (binP op) := by
  rcases bin_ok (K := K) op with q | q
  · exact q
  · exfalso
    cases op <;> first
      | exact q (.int 0) (.int 0) (fun _ => True) trivial
      | exact q (.int 0) (.int 0) (fun _ => True) ⟨.inl ⟨by omega, by omega⟩, trivial⟩
      | exact q (.int 0) (.int 1) (fun _ => True) ⟨by omega, trivial⟩
      | exact q (.int 0) (.int 1) (fun _ => True) ⟨⟨by omega, by omega⟩, trivial⟩
      | exact q (.int 0) (.int 1) (fun _ => True) ⟨⟨by omega, by omega, by decide⟩, trivial⟩
      | exact absurd h (by simp [binB])
section
variable {X : Cx} {N : List Str} {T : List FnE} {cs : List (Str × Int)} {d : Nat}
mutual
theorem sndE (x : XOk N T cs d X) : ∀ (ie : IE) (sc : Scope) (e : Expr), chkE (ckOf N T cs) sc ie e = true → Jd X sc (Gof T) ie e
  | .var i, sc, e, h => jd_var x rfl h
  | .kint i, sc, e, h => by
    unfold chkE at h
    split at h
    · obtain rfl := of_decide_eq_true h
      exact jd_kint
    · cases h
  | .kstr i, sc, e, h => by
    unfold chkE at h
    split at h
    · obtain rfl := of_decide_eq_true h
      exact jd_kstr
    · cases h
  | .kbool i, sc, e, h => by
    unfold chkE at h
    split at h
    · obtain rfl := of_decide_eq_true h
      exact jd_kbool
    · cases h
  | .knone, sc, e, h => by
    unfold chkE at h
    split at h
    · exact jd_knone
    · cases h
  | .gint y i, sc, e, h => by
    unfold chkE at h
    split at h
    · simp only [Bool.and_eq_true, decide_eq_true_eq] at h
      obtain ⟨⟨rfl, h1⟩, h2⟩ := h
      exact jd_gint x h1 h2
    · cases h
  | .bin op a b, sc, e, h => by
    unfold chkE at h
    split at h
    · simp only [Bool.and_eq_true, decide_eq_true_eq] at h
      obtain ⟨⟨⟨rfl, h0⟩, h1⟩, h2⟩ := h
      obtain ⟨r, q1, q2⟩ := bin_okB (K := X.K) h0
      exact jd_bin (sndE x a sc _ h1) (sndE x b sc _ h2) ⟨r, fun q => q1 (at' X q) rfl, q2⟩
    · cases h
  | .neg a, sc, e, h => by
    unfold chkE at h
    split at h
    · exact jd_neg (sndE x a sc _ h)
    · cases h
  | .no a, sc, e, h => by
    unfold chkE at h
    split at h
    · exact jd_no (sndE x a sc _ h)
    · cases h
  | .cmp op a b, sc, e, h => by
    unfold chkE at h
    split at h
    · simp only [Bool.and_eq_true, decide_eq_true_eq] at h
      obtain ⟨⟨rfl, h1⟩, h2⟩ := h
      exact jd_cmp x.un (sndE x a sc _ h1) (sndE x b sc _ h2) (chkE_ok h2)
    · cases h
  | .chain o1 o2 a b c, sc, e, h => by
    unfold chkE at h
    split at h
    · simp only [Bool.and_eq_true, decide_eq_true_eq] at h
      obtain ⟨⟨⟨⟨rfl, rfl⟩, h1⟩, h2⟩, h3⟩ := h
      exact jd_chain x.un (sndE x a sc _ h1) (sndE x b sc _ h2) (sndE x c sc _ h3) (chkE_ok h3)
    · cases h
  | .bop op es, sc, e, h => by
    unfold chkE at h
    split at h
    · simp only [Bool.and_eq_true, decide_eq_true_eq] at h
      obtain ⟨⟨rfl, h1⟩, h2⟩ := h
      exact jd_bop (sndB x op es sc _ h1 h2)
    · cases h
  | .call f es, sc, e, h => by
    unfold chkE at h
    split at h
    · simp only [Bool.and_eq_true, decide_eq_true_eq] at h
      obtain ⟨⟨h1, h2⟩, h3⟩ := h
      obtain ⟨g, hg, e1⟩ : ∃ g, T[f]? = some g ∧ _ := by
        have q : (T.map fun g => (g.name, g.ar))[f]? = some _ := h1
        rw [List.getElem?_map] at q
        exact Option.map_eq_some_iff.mp q
      have hG : Gof T f = g.G := by unfold Gof; rw [hg]
      have e2 := congrArg Prod.fst e1
      have e3 := congrArg Prod.snd e1
      simp only at e2 e3
      obtain ⟨ok, es', hes⟩ := chkEs_cons h3
      exact jd_call x hg hG e2 h2 (sndEs x es sc _ h3) ok (fun env => ja_plain hes _ env) e3.symm
    · cases h
  | .blt f es, sc, e, h => by
    unfold chkE at h
    split at h
    · simp only [Bool.and_eq_true, decide_eq_true_eq] at h
      obtain ⟨⟨h1, h2⟩, h3⟩ := h
      obtain ⟨ok, es', hes⟩ := chkEs_cons h3
      have e1 := congrArg Prod.fst h1
      simp only at e1
      exact jd_blt x e1 (by rw [← e1]; cases f <;> decide +kernel) h2 (sndEs x es sc _ h3) ok (fun env => ja_plain hes _ env)
    · cases h
  | .isi a t, sc, e, h => by
    unfold chkE at h
    split at h
    · simp only [Bool.and_eq_true, decide_eq_true_eq] at h
      obtain ⟨⟨⟨⟨h1, h2⟩, h3⟩, h4⟩, h5⟩ := h
      exact jd_isi x h1 h2 h3 h4 (sndE x a sc _ h5) (chkE_ok h5)
    · cases h
  | .tup es, sc, e, h => by
    unfold chkE at h
    split at h
    · exact jd_tup (sndEs x es sc _ h)
    · cases h
  | .lst es, sc, e, h => by
    unfold chkE at h
    split at h
    · exact jd_lst (sndEs x es sc _ h)
    · cases h
  | .ix a i, sc, e, h => by
    unfold chkE at h
    split at h
    · simp only [Bool.and_eq_true] at h
      exact jd_ix (sndE x a sc _ h.1) (sndE x i sc _ h.2) (chkE_ok h.2)
    · cases h
  | .sl a lo hi, sc, e, h => by
    unfold chkE at h
    split at h
    · simp only [Bool.and_eq_true] at h
      exact jd_sl (sndE x a sc _ h.1.1) (sndO x lo sc _ h.1.2) (sndO x hi sc _ h.2)
    · cases h
  | .rev a, sc, e, h => by
    unfold chkE at h
    split at h
    · obtain ⟨⟨ta, pa, _, sa⟩, _⟩ := sndE x a sc _ h
      refine jd_mk (fun _ z => by cases z) (t := tRevA X.K ta) (fun q hq => pe_revAny (X := at' X q) (pa q hq)) (fun Bf B Hf H r σ Q Qv R w k => ?_) (fun _ _ => rfl)
      rw [wpE] at w
      refine sa Bf B Hf H r σ _ _ R w fun d v H1f H1 z1 rep1 no w1 => ?_
      cases d <;> try exact w1.elim
      · obtain ⟨p, vs, rfl, h1, h2⟩ := rep1.list z1.c
        exact .inl ⟨p, vs, rfl, h1, fun q hq => k _ _ _ _ (z1.trans (Ext.new z1.c hq)) (rep_newL (z1.c.free hq) h2.rev) w1⟩
      · obtain ⟨p, vs, rfl, h1, h2⟩ := rep1.tuple z1.c
        exact .inr ⟨p, vs, rfl, SqT.of h1, fun q hq => k _ _ _ _ (z1.trans (Ext.new z1.c hq)) (rep_newT (z1.c.free hq) h2.rev) w1⟩
    · cases h
  | .comp elt tg it ifs, sc, e, h => by
    unfold chkE at h
    split at h
    · simp only [Bool.and_eq_true, decide_eq_true_eq] at h
      obtain ⟨⟨⟨⟨⟨h1, h2⟩, h3⟩, h4⟩, h5⟩, h6⟩ := h
      obtain ⟨ji, ok⟩ := sndIt x it sc _ h1
      exact jd_comp x rfl ok h2 ji (jg_of x rfl h3) (sndF x ifs _ _ h4 h5) (sndE x elt _ _ h6)
    · cases h
  | .lrng es, sc, e, h => by
    unfold chkE at h
    split at h
    · simp only [Bool.and_eq_true, decide_eq_true_eq] at h
      obtain ⟨⟨⟨⟨h1, h2⟩, h3⟩, h4⟩, h5⟩ := h
      match es, h5 with
      | .cons ie .nil, h5 =>
        rw [chkEs, Bool.and_eq_true] at h5
        exact sem_lrng1 x h1 h2 h3 h4 (sndE x ie sc _ h5.1) (chkE_ok h5.1)
      | .nil, h5 => exact absurd h5 (by simp [chkEs])
      | .cons ie (.cons b c), h5 => exact absurd h5 (by simp [chkEs])
    · cases h
  | .sset a, sc, e, h => by
    unfold chkE at h
    split at h
    · simp only [Bool.and_eq_true, decide_eq_true_eq] at h
      obtain ⟨⟨⟨⟨h1, h2⟩, h3⟩, h4⟩, h5⟩ := h
      exact jd_sset x h1 h2 h3 h4 (sndE x a sc _ h5) (chkE_ok h5)
    · cases h
  | .dic0, sc, e, h => by
    unfold chkE at h
    split at h
    · exact jd_dic0
    · cases h
  | .kix j i, sc, e, h => by
    unfold chkE at h
    split at h
    · simp only [Bool.and_eq_true] at h
      exact jd_kix x rfl h.1.1 h.1.2 (sndE x i sc _ h.2) (chkE_ok h.2)
    · cases h
  | .lset a, sc, e, h => by
    unfold chkE at h
    split at h
    · simp only [Bool.and_eq_true, decide_eq_true_eq] at h
      obtain ⟨⟨⟨⟨h1, h2⟩, h3⟩, h4⟩, h5⟩ := h
      exact jd_lset x h1 h2 h3 h4 (sndE x a sc _ h5) (chkE_ok h5)
    · cases h
  | .index a y, sc, e, h => by
    unfold chkE at h
    split at h
    · simp only [Bool.and_eq_true, decide_eq_true_eq] at h
      obtain ⟨⟨⟨⟨h1, h2⟩, h3⟩, h4⟩, h5⟩ := h
      exact jd_index x.un h1 h2 h3 (sndE x a sc _ h4) (sndE x y sc _ h5) (chkE_ok h5)
    · cases h
theorem sndEs (x : XOk N T cs d X) : ∀ (es : IEs) (sc : Scope) (as : List Expr), chkEs (ckOf N T cs) sc es as = true → JdA X sc (Gof T) es as
  | .nil, sc, as, h => by
    cases as with
    | nil => exact ja_nil
    | cons a as => exact absurd h (by simp [chkEs])
  | .cons e es, sc, as, h => by
    cases as with
    | nil => exact absurd h (by simp [chkEs])
    | cons a as =>
      have h' : chkE (ckOf N T cs) sc e a = true ∧ chkEs (ckOf N T cs) sc es as = true := by simpa [chkEs] using h
      exact ja_cons (sndE x e sc _ h'.1) (chkE_ok h'.1) (sndEs x es sc _ h'.2)
theorem sndO (x : XOk N T cs d X) : ∀ (es : IEs) (sc : Scope) (o : Option Expr), chkO (ckOf N T cs) sc es o = true → JdO X sc (Gof T) es o
  | .nil, sc, o, h => by
    cases o with
    | none => exact jo_none
    | some a => exact absurd h (by simp [chkO])
  | .cons e es, sc, o, h => by
    cases o with
    | none => exact absurd h (by simp [chkO])
    | some a =>
      cases es with
      | nil =>
        have h' : chkE (ckOf N T cs) sc e a = true := by simpa [chkO] using h
        exact jo_some (sndE x e sc _ h')
      | cons b c => exact absurd h (by simp [chkO])
theorem sndIt (x : XOk N T cs d X) : ∀ (it : IIt) (sc : Scope) (e : Expr), chkIt (ckOf N T cs) sc it e = true → JdI X sc (Gof T) it e ∧ okE e = true
  | .keys j, sc, e, h => by
    unfold chkIt at h
    split at h
    · rw [Bool.and_eq_true] at h
      exact ⟨ji_keys x rfl h.1 h.2, rfl⟩
    · cases h
  | .seq a, sc, e, h => by
    unfold chkIt at h
    exact ⟨ji_seq (sndE x a sc _ h), chkE_ok h⟩
  | .rng es, sc, e, h => by
    unfold chkIt at h
    split at h
    · simp only [Bool.and_eq_true, Bool.or_eq_true, decide_eq_true_eq] at h
      obtain ⟨⟨⟨h1, h2⟩, h3⟩, h4⟩ := h
      exact ⟨ji_rng x h1 h2 h4 (sndEs x es sc _ h4) (by rcases h3 with (h3 | h3) | h3 <;> omega), rfl⟩
    · cases h
theorem sndB (x : XOk N T cs d X) (op : BoolOp) : ∀ (es : IEs) (sc : Scope) (vs : List Expr), 1 ≤ es.len → chkEs (ckOf N T cs) sc es vs = true → JdB X sc (Gof T) op es vs
  | .nil, sc, vs, h1, h => absurd h1 (by simp [IEs.len])
  | .cons a .nil, sc, vs, h1, h => by
    cases vs with
    | nil => exact absurd h (by simp [chkEs])
    | cons v vs =>
      cases vs with
      | nil =>
        have h' : chkE (ckOf N T cs) sc a v = true := by simpa [chkEs] using h
        exact jb_one (sndE x a sc _ h')
      | cons u vs => exact absurd h (by simp [chkEs])
  | .cons a (.cons b es), sc, vs, h1, h => by
    cases vs with
    | nil => exact absurd h (by simp [chkEs])
    | cons v vs =>
      have h' : chkE (ckOf N T cs) sc a v = true ∧ chkEs (ckOf N T cs) sc (.cons b es) vs = true := by
        rw [chkEs, Bool.and_eq_true] at h
        exact h
      cases vs with
      | nil => exact absurd h'.2 (by simp [chkEs])
      | cons u vs => exact jb_cons (sndE x a sc _ h'.1) (sndB x op (.cons b es) sc _ (by simp [IEs.len]) h'.2)
theorem sndF (x : XOk N T cs d X) : ∀ (es : IEs) (sc : Scope) (vs : List Expr), es.len ≤ 1 → chkEs (ckOf N T cs) sc es vs = true → JdF X sc (Gof T) es vs
  | .nil, sc, vs, h1, h => by
    cases vs with
    | nil => exact jf_nil
    | cons v vs => exact absurd h (by simp [chkEs])
  | .cons a .nil, sc, vs, h1, h => by
    cases vs with
    | nil => exact absurd h (by simp [chkEs])
    | cons v vs =>
      cases vs with
      | nil =>
        have h' : chkE (ckOf N T cs) sc a v = true := by simpa [chkEs] using h
        exact jf_one (sndE x a sc _ h')
      | cons u vs => exact absurd h (by simp [chkEs])
  | .cons a (.cons b es), sc, vs, h1, h => absurd h1 (by simp [IEs.len])
end
end
end CF
namespace CF
open PySem PySem.Spec PyProof.Rows L2

/-! ### the checker of statements -/
def isFr (fr : List Bool) : IE → Bool
  | .comp _ _ _ _ => true
  | .lst _ => true
  | .dic0 => true
  | .call f _ => decide (fr[f]? = some true)
  | .blt .list1 _ => true
  | _ => false
def notTup (e : Expr) : Bool := match e with | .Tuple _ _ _ => false | _ => true
def noComp (e : Expr) : Bool := match e with | .ListComp _ _ _ _ => false | .SetComp _ _ _ _ => false | .DictComp _ _ _ _ _ => false | _ => true
mutual
def chkS (c : Ck) (fr : List Bool) (fresh : Bool) (sc : Scope) : IS → Stmt → Bool
  | .skip, st => (match st with | .Expr (.Constant (.str _) _ _) _ => true | .Pass _ => true | _ => false)
  | .brk, st => (match st with | .Break _ => true | _ => false)
  | .cont, st => (match st with | .Continue _ => true | _ => false)
  | .set i e, st => (match st with | .Assign [.Name y py] ea _ => chkN c sc true i (.Name y py) && chkE c sc e ea | _ => false)
  | .setO i e, st => (match st with | .Assign [.Name y py] ea _ => chkN c sc true i (.Name y py) && isFr fr e && chkE c sc e ea | _ => false)
  | .setT is e, st => (match st with | .Assign [.Tuple es _ _] ea _ => chkNs c sc true is es && notTup ea && chkE c sc e ea | _ => false)
  | .par2 i j a b, st => false
  | .setI i k e, st => (match st with | .Assign [.Subscript (.Name y py) ki _] ea _ => chkE c sc (.var i) (.Name y py) && chkE c sc k ki && chkE c sc e ea | _ => false)
  | .dput i k e, st => (match st with | .Assign [.Subscript (.Name y py) ki _] ea _ => chkE c sc (.var i) (.Name y py) && noComp ea && chkE c sc k ki && chkE c sc e ea | _ => false)
  | .rse, st => (match st with | .Raise _ _ _ => true | _ => false)
  | .app i e, st => (match st with | .Expr (.Call (.Attribute (.Name y py) m apos) [ea] [] cpos) _ => chkE c sc (.var i) (.Name y py) && decide (m = "append") && (apos.endLine == cpos.line) && chkE c sc e ea | _ => false)
  | .ins i k e, st => (match st with | .Expr (.Call (.Attribute (.Name y py) m apos) [ki, ea] [] cpos) _ => chkE c sc (.var i) (.Name y py) && decide (m = "insert") && (apos.endLine == cpos.line) && chkE c sc k ki && chkE c sc e ea | _ => false)
  | .drop e, st => (match st with | .Expr ea _ => noComp ea && chkE c sc e ea | _ => false)
  | .ife e a b, st => (match st with | .If ea sa sb _ => chkE c sc e ea && chkSs c fr fresh sc a sa && chkSs c fr fresh sc b sb | _ => false)
  | .fors tg it b, st => (match st with | .For t i sb [] _ => chkT c sc true tg t && chkIt c sc it i && chkSs c fr fresh sc b sb | _ => false)
  | .whl e b, st => (match st with | .While ea sb [] _ => chkE c sc e ea && chkSs c fr fresh sc b sb | _ => false)
  | .ret e, st => (match st with | .Return (some ea) _ => !fresh && chkE c sc e ea | _ => false)
  | .retO e, st => (match st with | .Return (some ea) _ => fresh && (match e with | .var _ => true | _ => isFr fr e) && chkE c sc e ea | _ => false)
  | .retN, st => (match st with | .Return none _ => !fresh | _ => false)
def chkSs (c : Ck) (fr : List Bool) (fresh : Bool) (sc : Scope) : ISs → List Stmt → Bool
  | .nil, sts => (match sts with | [] => true | _ => false)
  | .cons s ss, sts => (match sts with | st :: sts => chkS c fr fresh sc s st && chkSs c fr fresh sc ss sts | [] => false)
  | .fgt is ss, sts => chkSs c fr fresh sc ss sts
end

/-! ### what a statement's reading means -/
structure Keep (r : Ev) (σ : L2.St) (Hf H : Hp) (r' : Ev) (σ' : L2.St) (Hf' H' : Hp) : Prop where
  f : Same Hf Hf'
  l : ∀ j d, r.get j = .lck d → r'.get j = .lck d ∧ σ'[j]? = σ[j]? ∧ ∀ p, σ[j]? = some (some (.ref p)) → H' p = H p
theorem Keep.refl (r : Ev) (σ : L2.St) (Hf H : Hp) : Keep r σ Hf H r σ Hf H := ⟨Same.refl _, fun j d h => ⟨h, rfl, fun _ _ => rfl⟩⟩
theorem Keep.trans {r r1 r2 : Ev} {σ σ1 σ2 : L2.St} {Hf H H1f H1 H2f H2 : Hp} (a : Keep r σ Hf H r1 σ1 H1f H1) (b : Keep r1 σ1 H1f H1 r2 σ2 H2f H2) : Keep r σ Hf H r2 σ2 H2f H2 :=
  ⟨a.f.trans b.f, fun j d h => by
    obtain ⟨h1, h2, h3⟩ := a.l j d h
    obtain ⟨k1, k2, k3⟩ := b.l j d h1
    exact ⟨k1, k2.trans h2, fun p e => (k3 p (by rw [h2]; exact e)).trans (h3 p e)⟩⟩
theorem StR.lckAt {K : PySem.W.Frag} {n : Nat} {Bf B Hf H : Hp} {r : Ev} {σ : L2.St} (R : StR K n Bf B Hf H r σ) {j : Nat} {d : PyData} (h : r.get j = .lck d ∨ r.get j = .own d) : ∃ p o, σ[j]? = some (some (.ref p)) ∧ ORep K Hf H d (.ref p) ∧ B p = none ∧ H p = some o ∧ Hf p = none := by
  have q := R.sl j
  rcases h with h | h
  · rw [h] at q
    obtain ⟨p, e, o, b⟩ := q
    obtain ⟨p', ob, e1, e2, e3⟩ := o.ref
    cases e1
    exact ⟨p, ob, e, o, b, e3, e2⟩
  · rw [h] at q
    obtain ⟨p, e, o, b⟩ := q
    obtain ⟨p', ob, e1, e2, e3⟩ := o.ref
    cases e1
    exact ⟨p, ob, e, o, b, e3, e2⟩
theorem keep_ext {K : PySem.W.Frag} {n : Nat} {Bf B Hf H Hf' H' : Hp} {r : Ev} {σ : L2.St} (R : StR K n Bf B Hf H r σ) (z : Ext Hf H Hf' H') : Keep r σ Hf H r σ Hf' H' :=
  ⟨z.b, fun j d h => ⟨h, rfl, fun p e => by
    obtain ⟨p', o, e1, _, _, e2, _⟩ := R.lckAt (.inl h)
    rw [e] at e1
    cases e1
    rw [e2, z.a _ _ e2]⟩⟩
/-- slots that are no walked lists are stored -/
theorem keep_set {r r' : Ev} {σ σ' : L2.St} {Hf H : Hp} {is : List Nat} (hf : ∀ i ∈ is, r.free i = true) (hk : ∀ i, i ∉ is → σ'[i]? = σ[i]? ∧ r'.get i = r.get i) : Keep r σ Hf H r' σ' Hf H :=
  ⟨Same.refl _, fun j d h => by
    have hj : j ∉ is := fun hj => by
      have q := hf j hj
      unfold Ev.free at q
      rw [h] at q
      cases q
    obtain ⟨h1, h2⟩ := hk j hj
    exact ⟨by rw [h2]; exact h, h1, fun _ _ => rfl⟩⟩
def RetR (K : PySem.W.Frag) (fresh : Bool) (B Hf H : Hp) (d : PyData) (v : V) : Prop := if fresh = true then ORep K Hf H d v ∧ (∀ p, v = .ref p → B p = none) else Rep K Hf d v
structure KEnd (K : PySem.W.Frag) (n : Nat) (fresh : Bool) (Bf B : Hp) (r : Ev) (σ : L2.St) (Hf H : Hp) (D : Kt) (E : Ends) : Prop where
  nx : ∀ r' σ' Hf' H', StR K n Bf B Hf' H' r' σ' → Keep r σ Hf H r' σ' Hf' H' → D.nx r' → E.nx σ' H'
  bk : ∀ r' σ' Hf' H', StR K n Bf B Hf' H' r' σ' → Keep r σ Hf H r' σ' Hf' H' → D.bk r' → E.bk σ' H'
  ct : ∀ r' σ' Hf' H', StR K n Bf B Hf' H' r' σ' → Keep r σ Hf H r' σ' Hf' H' → D.ct r' → E.ct σ' H'
  rt : ∀ d v Hf' H', Ext Bf B Hf' H' → RetR K fresh B Hf' H' d v → D.rt d → E.rt v H'
theorem KEnd.from {K : PySem.W.Frag} {n : Nat} {fresh : Bool} {Bf B : Hp} {r r1 : Ev} {σ σ1 : L2.St} {Hf H H1f H1 : Hp} {D : Kt} {E : Ends} (k : KEnd K n fresh Bf B r σ Hf H D E) (a : Keep r σ Hf H r1 σ1 H1f H1) : KEnd K n fresh Bf B r1 σ1 H1f H1 D E :=
  ⟨fun r' σ' Hf' H' R b q => k.nx r' σ' Hf' H' R (a.trans b) q, fun r' σ' Hf' H' R b q => k.bk r' σ' Hf' H' R (a.trans b) q, fun r' σ' Hf' H' R b q => k.ct r' σ' Hf' H' R (a.trans b) q, k.rt⟩
def SemS (X : Cx) (G : Nat → Pm) (fresh : Bool) (s : IS) (t : TS) : Prop := ∀ (Bf B Hf H : Hp) (r : Ev) (σ : L2.St) (D : Kt) (E : Ends), StR X.K X.N.length Bf B Hf H r σ → wpS G s r D → KEnd X.K X.N.length fresh Bf B r σ Hf H D E → t E σ H
def SemSs (X : Cx) (G : Nat → Pm) (fresh : Bool) (s : ISs) (t : TS) : Prop := ∀ (Bf B Hf H : Hp) (r : Ev) (σ : L2.St) (D : Kt) (E : Ends), StR X.K X.N.length Bf B Hf H r σ → wpSs G s r D → KEnd X.K X.N.length fresh Bf B r σ Hf H D E → t E σ H
def JdS (X : Cx) (sc : Scope) (G : Nat → Pm) (fresh : Bool) (s : IS) (st : Stmt) : Prop := ∃ t, (∀ q : Vr, q.env.scope = sc → FnQ true q → PS (at' X q) st t) ∧ SemS X G fresh s t
def JdSs (X : Cx) (sc : Scope) (G : Nat → Pm) (fresh : Bool) (s : ISs) (st : List Stmt) : Prop := ∃ t, (∀ q : Vr, q.env.scope = sc → FnQ true q → PSs (at' X q) st t) ∧ SemSs X G fresh s t
section
variable {X : Cx} {sc : Scope} {G : Nat → Pm} {fresh : Bool}
theorem js_nil : JdSs X sc G fresh .nil [] := ⟨_, fun q _ _ => pss_nil, fun Bf B Hf H r σ D E R w k => by
  rw [wpSs] at w
  exact k.nx r σ Hf H R (Keep.refl _ _ _ _) w⟩
theorem js_cons {s : IS} {ss : ISs} {st : Stmt} {sts : List Stmt} (h : JdS X sc G fresh s st) (h' : JdSs X sc G fresh ss sts) : JdSs X sc G fresh (.cons s ss) (st :: sts) := by
  obtain ⟨t, p, st⟩ := h
  obtain ⟨u, p', su⟩ := h'
  refine ⟨_, fun q hq hf => pss_cons (p q hq hf) (p' q hq hf), fun Bf B Hf H r σ D E R w k => ?_⟩
  rw [wpSs] at w
  refine st Bf B Hf H r σ _ _ R w ⟨fun r' σ' Hf' H' R' b q => ?_, k.bk, k.ct, k.rt⟩
  exact su Bf B Hf' H' r' σ' D E R' q (k.from b)
theorem StR.fgt {K : PySem.W.Frag} {n : Nat} {Bf B Hf H : Hp} {r : Ev} {σ : L2.St} (R : StR K n Bf B Hf H r σ) (i : Nat) : StR K n Bf B Hf H (r.set i .un) σ := by
  have g : ∀ j, Ev.get (r.set i .un) j = .un ∨ Ev.get (r.set i .un) j = r.get j := fun j => by
    by_cases hj : i = j
    · subst hj
      by_cases hi : i < r.length
      · exact .inl (Ev.get_set_same hi)
      · exact .inl (Ev.get_out (by rw [List.length_set]; omega))
    · exact .inr (Ev.get_set_ne hj)
  refine ⟨by rw [List.length_set]; exact R.ln, by rw [List.length_set]; exact R.len, fun j => ?_, fun j k p hjk h1 h2 e1 e2 => ?_, R.e⟩
  · rcases g j with e | e
    · rw [e]; exact trivial
    · rw [e]; exact R.sl j
  · rcases g j with e | e
    · rw [e] at h1; cases h1
    · rcases g k with e' | e'
      · rw [e'] at h2; cases h2
      · rw [e] at h1; rw [e'] at h2
        exact R.sep j k p hjk h1 h2 e1 e2
theorem StR.fgts {K : PySem.W.Frag} {n : Nat} {Bf B Hf H : Hp} {r : Ev} {σ : L2.St} (R : StR K n Bf B Hf H r σ) : ∀ is : List Nat, StR K n Bf B Hf H (wipeE r is) σ
  | [] => R
  | i :: is => (StR.fgts R is).fgt i
theorem wipeE_get {r : Ev} : ∀ {is : List Nat} {j : Nat}, j ∉ is → (wipeE r is).get j = r.get j
  | [], j, _ => rfl
  | i :: is, j, h => by
    have h1 : i ≠ j := fun e => h (by rw [e]; exact List.mem_cons_self)
    have h2 : j ∉ is := fun e => h (List.mem_cons_of_mem _ e)
    show Ev.get ((wipeE r is).set i .un) j = r.get j
    rw [Ev.get_set_ne h1]
    exact wipeE_get h2
theorem js_fgt {is : List Nat} {ss : ISs} {sts : List Stmt} (h : JdSs X sc G fresh ss sts) : JdSs X sc G fresh (.fgt is ss) sts := by
  obtain ⟨t, p, st⟩ := h
  refine ⟨t, p, fun Bf B Hf H r σ D E R w k => ?_⟩
  rw [wpSs] at w
  refine st Bf B Hf H _ σ D E (R.fgts is) w.2 (k.from (keep_set (is := is) (fun i hi => ?_) fun j hj => ⟨rfl, wipeE_get hj⟩))
  exact List.all_eq_true.mp w.1 i hi
theorem js_skip {x j pos pos'} : JdS X sc G fresh .skip (.Expr (.Constant (.str x) j pos) pos') := ⟨_, fun q _ _ => ps_doc, fun Bf B Hf H r σ D E R w k => by
  rw [wpS] at w
  exact k.nx r σ Hf H R (Keep.refl _ _ _ _) w⟩
theorem js_pass {pos} : JdS X sc G fresh .skip (.Pass pos) := ⟨_, fun q _ _ => ps_pass, fun Bf B Hf H r σ D E R w k => by
  rw [wpS] at w
  exact k.nx r σ Hf H R (Keep.refl _ _ _ _) w⟩
theorem js_brk {pos} : JdS X sc G fresh .brk (.Break pos) := ⟨_, fun q _ _ => ps_break, fun Bf B Hf H r σ D E R w k => by
  rw [wpS] at w
  exact k.bk r σ Hf H R (Keep.refl _ _ _ _) w⟩
theorem js_cont {pos} : JdS X sc G fresh .cont (.Continue pos) := ⟨_, fun q _ _ => ps_continue, fun Bf B Hf H r σ D E R w k => by
  rw [wpS] at w
  exact k.ct r σ Hf H R (Keep.refl _ _ _ _) w⟩
theorem js_ife {e : IE} {ea : Expr} {a b : ISs} {sa sb : List Stmt} {pos} (he : Jd X sc G e ea) (ha : JdSs X sc G fresh a sa) (hb : JdSs X sc G fresh b sb) : JdS X sc G fresh (.ife e a b) (.If ea sa sb pos) := by
  obtain ⟨_, tt, pt, st⟩ := he
  obtain ⟨ta, pa, sa⟩ := ha
  obtain ⟨tb, pb, sb⟩ := hb
  refine ⟨_, fun q hq hf => ps_if (pt q hq) (pa q hq hf) (pb q hq hf), fun Bf B Hf H r σ D E R w k => ?_⟩
  rw [wpS] at w
  refine st Bf B Hf H r σ _ _ R w fun c H1f H1 z1 w1 => ?_
  cases c with
  | true => exact iteT (sa Bf B H1f H1 r σ D E (R.ext z1) (by simpa using w1) (k.from (keep_ext R z1)))
  | false => exact iteF (sb Bf B H1f H1 r σ D E (R.ext z1) (by simpa using w1) (k.from (keep_ext R z1)))
theorem swaps_no {e : Expr} (h : noComp e = true) (t : Option Expr) (l : Nat) (env : PySem.Env) : swapsWith e t l env = pure false := by
  cases e <;> first | rfl | exact absurd h (by simp [noComp])
theorem js_drop {e : IE} {ea : Expr} {pos} (hn : noComp ea = true) (he : Jd X sc G e ea) : JdS X sc G fresh (.drop e) (.Expr ea pos) := by
  obtain ⟨⟨t, p, s, _⟩, _⟩ := he
  refine ⟨_, fun q hq hf => ps_expr (p q hq) (swaps_no hn _ _ _), fun Bf B Hf H r σ D E R w k => ?_⟩
  rw [wpS] at w
  exact s Bf B Hf H r σ _ _ R w fun d v H1f H1 z1 rep w1 => k.nx r σ H1f H1 (R.ext z1) (keep_ext R z1) w1
/-- a name takes a value -/
theorem set_go {i : Nat} {e : IE} {t : TE} (hi : i < X.N.length) (s : SemE X G e t) : SemS X G fresh (.set i e) (tAsg t (gName i)) := fun Bf B Hf H r σ D E R w k => by
  rw [wpS] at w
  refine s Bf B Hf H r σ _ _ R w fun d v H1f H1 z1 rep w1 => ?_
  refine k.nx _ _ H1f H1 ((R.ext z1).setV rep hi) ((keep_ext R z1).trans (keep_set (is := [i]) (fun j hj => by rw [List.mem_singleton.mp hj]; exact w1.1) fun j hj => ?_)) w1.2
  have hne : i ≠ j := fun e => hj (by rw [e]; exact List.mem_singleton.mpr rfl)
  exact ⟨List.getElem?_set_ne hne, Ev.get_set_ne hne⟩
theorem setO_go {i : Nat} {e : IE} {t : TE} (hi : i < X.N.length) (s : SemO X G e t) : SemS X G fresh (.setO i e) (tAsg t (gName i)) := fun Bf B Hf H r σ D E R w k => by
  rw [wpS] at w
  refine s Bf B Hf H r σ _ _ R w fun d v H1f H1 z1 rep w1 => ?_
  obtain ⟨nf, w1⟩ := w1
  obtain ⟨rep, hn⟩ : ORep X.K H1f H1 d v ∧ ∀ p, v = .ref p → H p = none := by
    rcases rep with rep | ⟨fl, _⟩
    · exact rep
    · rw [nf] at fl
      cases fl
  obtain ⟨p, o, rfl, h1, h2⟩ := rep.ref
  have hp : H p = none := hn p rfl
  have R1 := R.ext z1
  have hB : B p = none := R.e.a.free hp
  refine k.nx _ _ H1f H1 (R1.setO (.inl rfl) rep hB hi fun j hj ho e => ?_) ((keep_ext R z1).trans (keep_set (is := [i]) (fun j hj => by rw [List.mem_singleton.mp hj]; exact w1.1) fun j hj => ?_)) w1.2
  · have q : ∃ d, r.get j = .lck d ∨ r.get j = .own d := by
      cases e : r.get j with
      | own d => exact ⟨d, .inr rfl⟩
      | lck d => exact ⟨d, .inl rfl⟩
      | _ => rw [e] at ho; cases ho
    obtain ⟨d', q⟩ := q
    obtain ⟨p', o', e1, _, _, e2, _⟩ := R.lckAt q
    rw [e] at e1
    cases e1
    rw [hp] at e2
    cases e2
  · have hne : i ≠ j := fun e => hj (by rw [e]; exact List.mem_singleton.mpr rfl)
    exact ⟨List.getElem?_set_ne hne, Ev.get_set_ne hne⟩
end
end CF
namespace CF
open PySem PySem.Spec PyProof.Rows L2
section
variable {X : Cx} {sc : Scope} {G : Nat → Pm} {fresh : Bool} {N : List Str} {T : List FnE} {cs : List (Str × Int)} {d : Nat}
theorem nm_of (x : XOk N T cs d X) {i : Nat} {y : Str} {py : Pos} (h : chkN (ckOf N T cs) sc true i (.Name y py) = true) : X.N[i]? = some y ∧ L2.Loc sc y ∧ i < X.N.length := by
  unfold chkN nmOk at h
  simp only [Bool.and_eq_true, decide_eq_true_eq, if_true] at h
  obtain ⟨h1, h2⟩ := h
  have h1' : X.N[i]? = some y := by rw [x.n]; exact h1
  refine ⟨h1', ?_, (List.getElem?_eq_some_iff.mp h1').1⟩
  unfold locB at h2
  unfold L2.Loc
  split at h2
  · exact .inl (by assumption)
  · exact .inr (by assumption)
  · cases h2
/-- name = value, no comprehension -/
theorem set_ps (x : XOk N T cs d X) {i : Nat} {y : Str} {py pos : Pos} {e : Expr} {t : TE} (h : chkN (ckOf N T cs) sc true i (.Name y py) = true) (hn : ∀ q : Vr, q.env.scope = sc → swapsWith e (some (.Name y py)) pos.line q.env = pure false) (p : AllE X sc e t) :
    ∀ q : Vr, q.env.scope = sc → FnQ true q → PS (at' X q) (.Assign [.Name y py] e pos) (tAsg t (gName i)) := fun q hq hf => by
  obtain ⟨h1, h2, h3⟩ := nm_of x h
  exact ps_set (X := at' X q) (by show X.N.Nodup; rw [x.n]; exact x.nd) h1 (by show L2.Loc q.env.scope y; rw [hq]; exact h2) (p q hq) (hn q hq) (.inl (by show q.fn y = true; rw [hf rfl]))
theorem swaps_comp {elt : Expr} {gs : List Comprehension} {csc : Scope} {pos py : Pos} {y : Str} {l : Nat} {env : PySem.Env} (hk : env.scope.kind = .function) :
    swapsWith (.ListComp elt gs csc pos) (some (.Name y py)) l env = pure ((env.scope.names.lookup y == some .local) && (py.line == pos.line) && !(csc.names.any fun (n, k) => n == y && (k == .local || k == .cell))) := by
  have hb : env.blockKind = .function := by unfold PySem.Env.blockKind; rw [hk]; rfl
  unfold swapsWith
  simp only [hb]
  rfl
theorem asg_ps (x : XOk N T cs d X) (hk : sc.kind = .function) {i : Nat} {y : Str} {py pos : Pos} {ie : IE} {e : Expr} (h : chkN (ckOf N T cs) sc true i (.Name y py) = true) (he : chkE (ckOf N T cs) sc ie e = true) :
    ∃ t, (∀ q : Vr, q.env.scope = sc → FnQ true q → PS (at' X q) (.Assign [.Name y py] e pos) (tAsg t (gName i))) ∧ SemE X (Gof T) ie t ∧ ((∃ elt tg it ifs, ie = .comp elt tg it ifs) → SemO X (Gof T) ie t) := by
  by_cases hc : ∃ elt tg it ifs, ie = .comp elt tg it ifs
  · obtain ⟨elt, tg, it, ifs, rfl⟩ := hc
    unfold chkE at he
    split at he
    · rename_i ee t i' fs csc cpos
      simp only [Bool.and_eq_true, decide_eq_true_eq] at he
      obtain ⟨⟨⟨⟨⟨h1, h2⟩, h3⟩, h4⟩, h5⟩, h6⟩ := he
      obtain ⟨ji, ok⟩ := sndIt x it sc _ h1
      obtain ⟨tt, p, s⟩ := comp_pe x rfl ok h2 ji (jg_of x rfl h3) (sndF x ifs _ _ h4 h5) (sndE x elt _ _ h6)
      refine ⟨_, fun q hq hf => ?_, s.e, fun _ => s⟩
      obtain ⟨p1, p2, p3, p4, p5⟩ := p q hq
      obtain ⟨n1, n2, n3⟩ := nm_of x h
      have hkq : q.env.scope.kind = .function := by rw [hq]; exact hk
      have hsw := swaps_comp (elt := ee) (gs := [⟨t, i', fs, 0⟩]) (csc := csc) (pos := cpos) (py := py) (y := y) (l := pos.line) hkq
      have nd : X.N.Nodup := by rw [x.n]; exact x.nd
      cases hb : ((q.env.scope.names.lookup y == some NameKind.local) && (py.line == cpos.line) && !(csc.names.any fun (n, k) => n == y && (k == .local || k == .cell))) with
      | false =>
        rw [hb] at hsw
        exact ps_set (X := at' X q) nd n1 (by show L2.Loc q.env.scope y; rw [hq]; exact n2) (pe_lc (X := at' X q) x.calm nd p1 p2 p3 p4 p5 (fun v => okE.fold ok _ _)) hsw (.inl (by show q.fn y = true; rw [hf rfl]))
      | true =>
        rw [hb] at hsw
        have hyl : q.env.scope.names.lookup y = some .local := by
          rw [Bool.and_eq_true, Bool.and_eq_true] at hb
          exact beq_iff_eq.mp hb.1.1
        exact ps_setLc (X := at' X q) x.calm nd n1 hyl hsw p1 p2 p3 p4 p5 (fun v => okE.fold ok _ _)
    · cases he
  · obtain ⟨⟨t, p, s, _⟩, _⟩ := sndE x ie sc e he
    refine ⟨t, ?_, s, fun z => absurd z hc⟩
    have hnc : noComp e = true := by
      cases e <;> first
        | rfl
        | (exfalso
           cases ie <;> first
             | exact hc ⟨_, _, _, _, rfl⟩
             | (unfold chkE at he; first | (cases he; done) | (split at he <;> first | cases he | (rename_i h'; cases h'))))
    exact set_ps x h (fun q hq => swaps_no hnc _ _ _) p
theorem js_set (x : XOk N T cs d X) (hk : sc.kind = .function) {i : Nat} {y : Str} {py pos : Pos} {ie : IE} {e : Expr} (h : chkN (ckOf N T cs) sc true i (.Name y py) = true) (he : chkE (ckOf N T cs) sc ie e = true) : JdS X sc (Gof T) fresh (.set i ie) (.Assign [.Name y py] e pos) := by
  obtain ⟨t, p, s, _⟩ := asg_ps x hk h he
  exact ⟨_, p, set_go (nm_of x h).2.2 s⟩
/-- what makes a new list -/
theorem fr_ok (x : XOk N T cs d X) {ie : IE} {e : Expr} (hf : isFr (T.map (·.fresh)) ie = true) (hc : ¬ ∃ elt tg it ifs, ie = .comp elt tg it ifs) (h : chkE (ckOf N T cs) sc ie e = true) : noComp e = true ∧ ∃ t, AllE X sc e t ∧ SemO X (Gof T) ie t := by
  cases ie with
  | comp elt tg it ifs => exact absurd ⟨_, _, _, _, rfl⟩ hc
  | lst es =>
    unfold chkE at h
    split at h
    · obtain ⟨ta, pa, sa⟩ := sndEs x es sc _ h
      exact ⟨rfl, _, fun q hq => pe_lst (pa q hq), sem_lst sa⟩
    · cases h
  | dic0 =>
    unfold chkE at h
    split at h
    · exact ⟨rfl, _, fun q hq => pe_dnewK, sem_dic0⟩
    · cases h
  | call f es =>
    unfold chkE at h
    split at h
    · simp only [Bool.and_eq_true, decide_eq_true_eq] at h
      obtain ⟨⟨h1, h2⟩, h3⟩ := h
      obtain ⟨g, hg, e1⟩ : ∃ g, T[f]? = some g ∧ _ := by
        have q : (T.map fun g => (g.name, g.ar))[f]? = some _ := h1
        rw [List.getElem?_map] at q
        exact Option.map_eq_some_iff.mp q
      have hfr : g.fresh = true := by
        unfold isFr at hf
        rw [decide_eq_true_eq, List.getElem?_map, hg] at hf
        exact Option.some.inj hf
      have hG : Gof T f = g.G := by unfold Gof; rw [hg]
      have e2 := congrArg Prod.fst e1
      have e3 := congrArg Prod.snd e1
      simp only at e2 e3
      obtain ⟨ok, es', hes⟩ := chkEs_cons h3
      obtain ⟨ta, pa, sa⟩ := sndEs x es sc _ h3
      refine ⟨rfl, _, call_pe x hg e2 h2 pa ok (fun env => ja_plain hes _ env), fun Bf B Hf H r σ Q Qv R w k => ?_⟩
      refine call_sem hG sa e3.symm Bf B Hf H r σ Q Qv R w fun d v Hf' H' z rep q => ?_
      rw [if_pos hfr] at rep
      exact k d v Hf' H' z rep q
    · cases h
  | blt f es =>
    obtain rfl : f = .list1 := by cases f <;> first | rfl | (exact absurd hf (by simp [isFr]))
    unfold chkE at h
    split at h
    · simp only [Bool.and_eq_true, decide_eq_true_eq] at h
      obtain ⟨⟨h1, h2⟩, h3⟩ := h
      obtain ⟨ok, es', hes⟩ := chkEs_cons h3
      obtain ⟨ta, pa, sa⟩ := sndEs x es sc _ h3
      have e1 := congrArg Prod.fst h1
      simp only at e1
      have e1' := e1
      rw [← e1'] at h2 ⊢
      obtain ⟨g1, g2, g3⟩ := gl_of (X := X) h2
      refine ⟨rfl, tCB (fun xs H Q => ∃ p ys, xs = [.ref p] ∧ (SqL X.K H p ys ∨ SqT X.K H p ys) ∧ ∀ l, H l = none → Q (.ref l) (upd H l (.lst ys))) ta,
        fun q hq => pe_callTy (X := at' X q) (call_list_of (X := at' X q)) (g1 q hq) (x.mb _ (by decide +kernel)) boot_list (pa q hq) g3 g2 (okE.star ok _ _) (ja_plain hes _ _), fun Bf B Hf H r σ Q Qv R w k => ?_⟩
      rw [wpE] at w
      refine sa Bf B Hf H r σ _ _ R w fun ds vs H1f H1 z1 rep1 _ _ w1 => ?_
      unfold bltP at w1
      split at w1 <;> first | exact w1.elim | contradiction | skip
      · obtain ⟨v, rfl, q⟩ := prep1 rep1
        obtain ⟨a, ws, rfl, q1, q2⟩ := q.list z1.c
        exact ⟨a, ws, rfl, .inl q1, fun l hl => k (.list _) _ _ _ (ext_newO z1 hl) (.inl ⟨⟨l, ws, rfl, z1.c.free hl, upd_same, q2⟩, fun p e => by cases e; exact z1.a.free hl⟩) w1⟩
      · obtain ⟨v, rfl, q⟩ := prep1 rep1
        obtain ⟨a, ws, rfl, q1, q2⟩ := q.tuple z1.c
        exact ⟨a, ws, rfl, .inr (SqT.of q1), fun l hl => k (.list _) _ _ _ (ext_newO z1 hl) (.inl ⟨⟨l, ws, rfl, z1.c.free hl, upd_same, q2⟩, fun p e => by cases e; exact z1.a.free hl⟩) w1⟩
    · cases h
  | _ => exact absurd hf (by simp [isFr])
theorem js_setO (x : XOk N T cs d X) (hk : sc.kind = .function) {i : Nat} {y : Str} {py pos : Pos} {ie : IE} {e : Expr} (h : chkN (ckOf N T cs) sc true i (.Name y py) = true) (hf : isFr (T.map (·.fresh)) ie = true) (he : chkE (ckOf N T cs) sc ie e = true) : JdS X sc (Gof T) fresh (.setO i ie) (.Assign [.Name y py] e pos) := by
  by_cases hc : ∃ elt tg it ifs, ie = .comp elt tg it ifs
  · obtain ⟨t, p, _, s⟩ := asg_ps (pos := pos) x hk h he
    exact ⟨_, p, setO_go (nm_of x h).2.2 (s hc)⟩
  · obtain ⟨hn, t, p, s⟩ := fr_ok x hf hc he
    exact ⟨_, set_ps x h (fun q hq => swaps_no hn _ _ _) p, setO_go (nm_of x h).2.2 s⟩
/-- several names take the parts of a tuple -/
theorem js_setT (x : XOk N T cs d X) {is : List Nat} {es : List Expr} {k tp pos} {ie : IE} {e : Expr} (h : chkNs (ckOf N T cs) sc true is es = true) (hn : notTup e = true) (he : Jd X sc (Gof T) ie e) : JdS X sc (Gof T) fresh (.setT is ie) (.Assign [.Tuple es k tp] e pos) := by
  obtain ⟨⟨t, p, s, _⟩, _⟩ := he
  obtain ⟨g, pg, sg⟩ : JdG X sc true (.many is) (.Tuple es k tp) := jg_of x rfl (c := ckOf N T cs) (by unfold chkT; exact h)
  refine ⟨_, fun q hq hf => ps_asg (p q hq) (pg q hq hf) (by cases e <;> rfl) (by cases e <;> first | rfl | exact absurd hn (by simp [notTup])) rfl, fun Bf B Hf H r σ D E R w kk => ?_⟩
  rw [wpS] at w
  refine s Bf B Hf H r σ _ _ R w fun dd v H1f H1 z1 rep w1 => ?_
  refine sg Bf B H1f H1 r σ dd v D.nx _ (R.ext z1) rep w1 fun r' σ' R' hk hfree q => ?_
  exact kk.nx r' σ' H1f H1 R' ((keep_ext R z1).trans (keep_set hfree hk)) q
end
end CF
namespace CF
open PySem PySem.Spec PyProof.Rows L2
section
variable {X : Cx} {sc : Scope} {G : Nat → Pm} {fresh : Bool} {N : List Str} {T : List FnE} {cs : List (Str × Int)} {d : Nat}
/-- a list of one's own is changed in its place -/
theorem own_putG {K : PySem.W.Frag} {n : Nat} {Bf B Hf H H1f H1 : Hp} {r : Ev} {σ : L2.St} {i : Nat} {dd ed : PyData} {p : Addr} {ob : HO} (R : StR K n Bf B Hf H r σ) (z : Ext Hf H H1f H1) (hi : r.get i = .own dd) (hp : σ[i]? = some (some (.ref p)))
    (new : H1f p = none → ORep K H1f (upd H1 p ob) ed (.ref p)) : StR K n Bf B H1f (upd H1 p ob) (r.set i (.own ed)) σ ∧ Keep r σ Hf H (r.set i (.own ed)) σ H1f (upd H1 p ob) := by
  have R1 := R.ext z
  obtain ⟨p', o, e1, orep, hB, e2, e3⟩ := R1.lckAt (.inr hi)
  rw [hp] at e1
  cases e1
  have hlt : i < r.length := by
    by_cases h : i < r.length
    · exact h
    · rw [Ev.get_out (by omega)] at hi
      cases hi
  have hs : σ.set i (some (.ref p)) = σ := by
    refine List.ext_getElem? fun j => ?_
    by_cases hj : i = j
    · subst hj
      rw [List.getElem?_set_self (by rw [← R.len]; exact hlt), hp]
    · rw [List.getElem?_set_ne hj]
  have other : ∀ j p', j ≠ i → (r.get j).isO = true → σ[j]? = some (some (.ref p')) → p' ≠ p := fun j p' hj ho e z => by
    subst z
    exact R1.sep j i p' hj ho (by rw [hi]; rfl) e hp
  -- the state with the changed heap
  have ext2 : Ext Bf B H1f (upd H1 p ob) := R1.e.put hB e3
  have same2 : ∀ {d : PyData} {q : Addr}, q ≠ p → ORep K H1f H1 d (.ref q) → ORep K H1f (upd H1 p ob) d (.ref q) := fun {d q} hq h => by
    cases d with
    | list xs =>
      obtain ⟨q', vs, e, h1, h2, h3⟩ := h
      cases e
      exact ⟨q, vs, rfl, h1, by rw [upd_ne hq]; exact h2, h3⟩
    | dict kvs =>
      obtain ⟨q', vs, e, h1, h2, h3⟩ := h
      cases e
      exact ⟨q, vs, rfl, h1, by rw [upd_ne hq]; exact h2, h3⟩
    | _ => exact h.elim
  refine ⟨⟨by rw [List.length_set]; exact R.ln, by rw [List.length_set]; exact R.len, fun j => ?_, fun j k q hjk h1 h2 e1 e2 => ?_, ext2⟩, ⟨z.b, fun j d' h => ?_⟩⟩
  · by_cases hj : i = j
    · subst hj
      rw [Ev.get_set_same hlt, hp]
      exact ⟨p, rfl, new e3, hB⟩
    · rw [Ev.get_set_ne hj]
      have q := R1.sl j
      cases e : r.get j with
      | un => exact trivial
      | val d =>
        rw [e] at q
        exact q
      | kyd l =>
        rw [e] at q
        exact q
      | own d =>
        rw [e] at q
        obtain ⟨p', e1, o1, b1⟩ := q
        exact ⟨p', e1, same2 (other j p' (Ne.symm hj) (by rw [e]; rfl) e1) o1, b1⟩
      | lck d =>
        rw [e] at q
        obtain ⟨p', e1, o1, b1⟩ := q
        exact ⟨p', e1, same2 (other j p' (Ne.symm hj) (by rw [e]; rfl) e1) o1, b1⟩
  · have kk : ∀ j, (Ev.get (r.set i (.own ed)) j).isO = true → (r.get j).isO = true := fun j h => by
      by_cases hj : i = j
      · subst hj
        rw [hi]
        rfl
      · rw [Ev.get_set_ne hj] at h
        exact h
    exact R1.sep j k q hjk (kk j h1) (kk k h2) e1 e2
  · have hj : i ≠ j := fun e => by
      subst e
      rw [hi] at h
      cases h
    refine ⟨by rw [Ev.get_set_ne hj]; exact h, rfl, fun q e => ?_⟩
    rw [upd_ne (other j q (Ne.symm hj) (by rw [h]; rfl) e)]
    exact ((keep_ext R z).l j d' h).2.2 q e
theorem own_put {K : PySem.W.Frag} {n : Nat} {Bf B Hf H H1f H1 : Hp} {r : Ev} {σ : L2.St} {i : Nat} {xs ys : List PyData} {p : Addr} {us ws : List V} (R : StR K n Bf B Hf H r σ) (z : Ext Hf H H1f H1) (hi : r.get i = .own (.list xs)) (hp : σ[i]? = some (some (.ref p))) (hH : H1 p = some (.lst us))
    (rep : RepL K H1f ys ws) : StR K n Bf B H1f (upd H1 p (.lst ws)) (r.set i (.own (.list ys))) σ ∧ Keep r σ Hf H (r.set i (.own (.list ys))) σ H1f (upd H1 p (.lst ws)) := own_putG R z hi hp fun e3 => ⟨p, ws, rfl, e3, upd_same, rep⟩
theorem own_at {K : PySem.W.Frag} {n : Nat} {Bf B Hf H H1f H1 : Hp} {r : Ev} {σ : L2.St} {i : Nat} {xs : List PyData} (R : StR K n Bf B Hf H r σ) (z : Ext Hf H H1f H1) (hi : r.get i = .own (.list xs)) : ∃ p vs, σ[i]? = some (some (.ref p)) ∧ H1 p = some (.lst vs) ∧ RepL K H1f xs vs := by
  obtain ⟨p, o, e1, orep, hB, e2, e3⟩ := (R.ext z).lckAt (.inr hi)
  obtain ⟨q, vs, e, h1, h2, h3⟩ := orep
  cases e
  exact ⟨p, vs, e1, h2, h3⟩
theorem ownL_of {s : Sl} {Q : List PyData → Prop} (h : ownL s Q) : ∃ xs, s = .own (.list xs) ∧ Q xs := by
  unfold ownL at h
  split at h
  · exact ⟨_, rfl, h⟩
  · exact h.elim
theorem pe_slot (x : XOk N T cs d X) {i : Nat} {y : Str} {py : Pos} (h : chkE (ckOf N T cs) sc (.var i) (.Name y py) = true) : AllE X sc (.Name y py) (tVar i) := by
  unfold chkE at h
  simp only [nmOk, visB, Bool.and_eq_true, decide_eq_true_eq, Bool.not_eq_true'] at h
  obtain ⟨h1, ⟨h2, h3⟩, h4⟩ := h
  have hN : X.N[i]? = some y := by rw [x.n]; exact h1
  have hv : Vis sc y := by
    unfold Vis
    split at h2
    · exact .inl (by assumption)
    · exact .inr (.inl (by assumption))
    · exact .inr (.inr (by assumption))
    · cases h2
  exact fun q hq => pe_var (X := at' X q) hN (by show Vis q.env.scope y; rw [hq]; exact hv) h3 h4
theorem js_app (x : XOk N T cs d X) {i : Nat} {y m : Str} {py apos cpos pos : Pos} {ie : IE} {e : Expr} (hv : chkE (ckOf N T cs) sc (.var i) (.Name y py) = true) (hm : m = "append") (hl : (apos.endLine == cpos.line) = true) (ok : okE e = true) (he : Jd X sc (Gof T) ie e) :
    JdS X sc (Gof T) fresh (.app i ie) (.Expr (.Call (.Attribute (.Name y py) m apos) [e] [] cpos) pos) := by
  subst hm
  obtain ⟨⟨t, p, s, _⟩, _⟩ := he
  have hs : ∀ env, starEach [e] env = (false, eval e env) :: starEach [] env := fun env => okE.star ok _ _
  refine ⟨tDrop (tBM X.K "list" rAppend (tVar i) (tCons t tNil)), fun q hq hf => ps_expr (pe_bm (X := at' X q) (cpos := cpos) (apos := apos) PySem.F.plainAttrs_list PySem.F.slot_list_append PySem.F.type_list_append (mt_append (X := at' X q)) (pe_slot x hv q hq) (pa_cons (p q hq) pa_nil (hs _)) rfl (by rw [hs]; rfl) hl (hs _) rfl) rfl, fun Bf B Hf H r σ D E R w k => ?_⟩
  rw [wpS] at w
  obtain ⟨xs, hx, w⟩ := ownL_of w
  obtain ⟨p0, vs0, e0, h0, r0⟩ := own_at R (Ext.refl R.e.c) hx
  refine ⟨.ref p0, e0, .inl ⟨rfl, vs0, SqL.of h0⟩, ?_⟩
  refine s Bf B Hf H r σ _ _ R w fun dd v H1f H1 z1 rep w1 => ?_
  obtain ⟨hlen, w1⟩ := w1
  obtain ⟨p1, vs, e1, h1, r1⟩ := own_at R z1 hx
  rw [e0] at e1
  cases e1
  have hl1 := r1.length
  refine ⟨p0, vs, v, rfl, rfl, h1, by show vs.length < sizeLine; rw [sizeLine_eq]; omega, ?_⟩
  obtain ⟨R2, k2⟩ := own_put R z1 hx e0 h1 (r1.append (RepL.cons rep RepL.nil))
  exact k.nx _ _ _ _ R2 k2 w1
theorem js_ins (x : XOk N T cs d X) {i : Nat} {y m : Str} {py apos cpos pos : Pos} {ik ie : IE} {ek e : Expr} (hv : chkE (ckOf N T cs) sc (.var i) (.Name y py) = true) (hm : m = "insert") (hl : (apos.endLine == cpos.line) = true) (okk : okE ek = true) (ok : okE e = true) (hk : Jd X sc (Gof T) ik ek) (he : Jd X sc (Gof T) ie e) :
    JdS X sc (Gof T) fresh (.ins i ik ie) (.Expr (.Call (.Attribute (.Name y py) m apos) [ek, e] [] cpos) pos) := by
  subst hm
  obtain ⟨⟨t, p, s, _⟩, _⟩ := he
  obtain ⟨⟨tk, pk, sk, _⟩, _⟩ := hk
  have hs2 : ∀ env, starEach [e] env = (false, eval e env) :: starEach [] env := fun env => okE.star ok _ _
  have hs : ∀ env, starEach [ek, e] env = (false, eval ek env) :: starEach [e] env := fun env => okE.star okk _ _
  refine ⟨tDrop (tBM X.K "list" (fun x vs H Q => ∃ (l : Addr) (xs : List V) (i : Int) (y : V), x = .ref l ∧ vs = [.int i, y] ∧ H l = some (.lst xs) ∧ xs.length < sizeLine ∧ 0 ≤ i ∧ i < 2 ^ 63 ∧ Q .non (upd H l (.lst (xs.take i.toNat ++ [y] ++ xs.drop i.toNat)))) (tVar i) (tCons tk (tCons t tNil))),
    fun q hq hf => ps_expr (pe_bm (X := at' X q) (cpos := cpos) (apos := apos) PySem.F.plainAttrs_list PySem.F.slot_list_insert PySem.F.type_list_insert (mt_insert (X := at' X q)) (pe_slot x hv q hq) (pa_cons (pk q hq) (pa_cons (p q hq) pa_nil (hs2 _)) (hs _)) rfl (by rw [hs, hs2]; rfl) hl (hs _) (by rw [hs2]; rfl)) rfl, fun Bf B Hf H r σ D E R w k => ?_⟩
  rw [wpS] at w
  obtain ⟨xs, hx, w⟩ := ownL_of w
  obtain ⟨p0, vs0, e0, h0, r0⟩ := own_at R (Ext.refl R.e.c) hx
  refine ⟨.ref p0, e0, .inl ⟨rfl, vs0, SqL.of h0⟩, ?_⟩
  refine sk Bf B Hf H r σ _ _ R w fun dk vk H0f H0 z0 repk w => ?_
  refine s Bf B H0f H0 r σ _ _ (R.ext z0) w fun dd v H1f H1 z1 rep w1 => ?_
  obtain ⟨n, rfl, hlen, hn0, hn1, w1⟩ := w1
  obtain ⟨p1, vs, e1, h1, r1⟩ := own_at R (z0.trans z1) hx
  rw [e0] at e1
  cases e1
  have hl1 := r1.length
  unfold Rep at repk
  refine ⟨p0, vs, n, v, rfl, by rw [repk], h1, by show vs.length < sizeLine; rw [sizeLine_eq]; omega, hn0, by omega, ?_⟩
  obtain ⟨R2, k2⟩ := own_put R (z0.trans z1) hx e0 h1 (((r1.take n.toNat).append (RepL.cons rep RepL.nil)).append (r1.drop n.toNat))
  exact k.nx _ _ _ _ R2 k2 w1
theorem js_setI (x : XOk N T cs d X) {i : Nat} {y : Str} {py p2 pos : Pos} {ik ie : IE} {ek e : Expr} (hv : chkE (ckOf N T cs) sc (.var i) (.Name y py) = true) (okk : okE ek = true) (hk : Jd X sc (Gof T) ik ek) (he : Jd X sc (Gof T) ie e) :
    JdS X sc (Gof T) fresh (.setI i ik ie) (.Assign [.Subscript (.Name y py) ek p2] e pos) := by
  obtain ⟨⟨t, p, s, _⟩, _⟩ := he
  obtain ⟨⟨tk, pk, sk, _⟩, _⟩ := hk
  refine ⟨_, fun q hq hf => ps_asg (p q hq) (pg_sub (pe_slot x hv q hq) (pk q hq) (set_list (X := at' X q)) (by intro v; cases ek <;> first | rfl | exact absurd okk (by simp [okE]))) (by cases e <;> rfl) (by cases e <;> rfl) rfl, fun Bf B Hf H r σ D E R w k => ?_⟩
  rw [wpS] at w
  obtain ⟨xs, hx, w⟩ := ownL_of w
  refine s Bf B Hf H r σ _ _ R w fun dd v H0f H0 z0 rep w => ?_
  obtain ⟨p0, vs0, e0, h0, r0⟩ := own_at R z0 hx
  refine ⟨.ref p0, e0, ?_⟩
  refine sk Bf B H0f H0 r σ _ _ (R.ext z0) w fun dk vk H1f H1 z1 repk w1 => ?_
  obtain ⟨n, j, rfl, hix, w1⟩ := w1
  obtain ⟨p1, vs, e1, h1, r1⟩ := own_at R (z0.trans z1) hx
  rw [e0] at e1
  cases e1
  unfold Rep at repk
  refine ⟨p0, vs, n, j, rfl, repk, h1, by rw [← r1.length]; exact hix, ?_⟩
  obtain ⟨R2, k2⟩ := own_put R (z0.trans z1) hx e0 h1 (r1.set (Rep.mono z1.b _ _ rep) j)
  exact k.nx _ _ _ _ R2 k2 w1
theorem ownD_of {s : Sl} {Q : List (Int × Int) → Prop} (h : ownD s Q) : ∃ l, s = .own (.dict (dL l)) ∧ Q l := h
theorem js_dput (x : XOk N T cs d X) {i : Nat} {y : Str} {py p2 pos : Pos} {ik ie : IE} {ek e : Expr} (hv : chkE (ckOf N T cs) sc (.var i) (.Name y py) = true) (hn : noComp e = true) (okk : okE ek = true) (hk : Jd X sc (Gof T) ik ek) (he : Jd X sc (Gof T) ie e) :
    JdS X sc (Gof T) fresh (.dput i ik ie) (.Assign [.Subscript (.Name y py) ek p2] e pos) := by
  obtain ⟨⟨t, p, s, _⟩, _⟩ := he
  obtain ⟨⟨tk, pk, sk, _⟩, _⟩ := hk
  refine ⟨_, fun q hq hf => ps_dput (X := at' X q) (by have := x.un; show X.A.units + 1 < cLine; omega) (pe_slot x hv q hq) (pk q hq) (p q hq) (swaps_no hn _ _ _), fun Bf B Hf H r σ D E R w k => ?_⟩
  rw [wpS] at w
  obtain ⟨l, hx, w⟩ := ownD_of w
  refine s Bf B Hf H r σ _ _ R w fun dd v H0f H0 z0 rep w => ?_
  obtain ⟨p0, e0, h0⟩ := (R.ext z0).dict (.inr hx)
  refine ⟨.ref p0, e0, ?_⟩
  refine sk Bf B H0f H0 r σ _ _ (R.ext z0) w fun dk vk H1f H1 z1 repk w1 => ?_
  obtain ⟨n, rfl, m, rfl, hl, w1⟩ := w1
  unfold Rep at repk rep
  subst repk rep
  have R1 := R.ext (z0.trans z1)
  have q := R1.sl i
  rw [hx] at q
  obtain ⟨p1, e1, ⟨p', ks, e', _, h, l', e2, e3⟩, _⟩ := q
  rw [e0] at e1
  cases e1
  cases e'
  obtain rfl := dL_inj e2
  subst e3
  refine ⟨p0, _, rfl, DPut.k (k := Sum.inl n) h ?_, ?_⟩
  · have : (dV l).length = l.length := by unfold dV; rw [List.length_map]
    rw [sizeLine_eq]
    omega
  rw [putK_dV]
  obtain ⟨R2, k2⟩ := own_putG (ed := .dict (dL (dputL l n m))) (ob := .dK (dV (dputL l n m))) R (z0.trans z1) hx e0 fun e3 => ⟨p0, _, rfl, e3, upd_same, _, rfl, rfl⟩
  exact k.nx _ _ _ _ R2 k2 w1
theorem js_rse {a b : Option Expr} {pos : Pos} : JdS X sc G fresh .rse (.Raise a b pos) := ⟨tNever, fun q _ _ => ps_never, fun Bf B Hf H r σ D E R w k => by
  rw [wpS] at w
  exact w.elim⟩
end
end CF
namespace CF
open PySem PySem.Spec PyProof.Rows L2
section
variable {X : Cx} {sc : Scope} {G : Nat → Pm} {fresh : Bool} {N : List Str} {T : List FnE} {cs : List (Str × Int)} {d : Nat}
theorem relab {K : PySem.W.Frag} {n : Nat} {Bf B Hf H : Hp} {r : Ev} {σ : L2.St} {j : Nat} {a b : Sl} (R : StR K n Bf B Hf H r σ) (ha : r.get j = a) (h : ∃ dd, (a = .own dd ∨ a = .lck dd) ∧ (b = .own dd ∨ b = .lck dd)) : StR K n Bf B Hf H (r.set j b) σ := by
  obtain ⟨dd, h1, h2⟩ := h
  have hlt : j < r.length := by
    by_cases h : j < r.length
    · exact h
    · rw [Ev.get_out (by omega)] at ha
      subst ha
      rcases h1 with h1 | h1 <;> cases h1
  have ao : a.isO = true := by rcases h1 with rfl | rfl <;> rfl
  have kk : ∀ i, (Ev.get (r.set j b) i).isO = true → (r.get i).isO = true := fun i h => by
    by_cases hj : j = i
    · subst hj
      rw [ha]
      exact ao
    · rw [Ev.get_set_ne hj] at h
      exact h
  refine ⟨by rw [List.length_set]; exact R.ln, by rw [List.length_set]; exact R.len, fun i => ?_, fun i k p hik h1 h2 e1 e2 => R.sep i k p hik (kk i h1) (kk k h2) e1 e2, R.e⟩
  by_cases hj : j = i
  · subst hj
    rw [Ev.get_set_same hlt]
    have q := R.sl j
    rw [ha] at q
    rcases h1 with rfl | rfl <;> rcases h2 with rfl | rfl <;> exact q
  · rw [Ev.get_set_ne hj]
    exact R.sl i
/-- the list that a loop walks -/
theorem lock_cases (it : IIt) (r : Ev) : (∃ j dd, it = .seq (.var j) ∧ r.get j = .own dd ∧ lockIt it r = r.set j (.lck dd) ∧ ∀ r', unlockIt it r r' = r'.set j (.own dd)) ∨ (lockIt it r = r ∧ (∀ r', unlockIt it r r' = r') ∧ ∀ j dd, it = .seq (.var j) → r.get j ≠ .own dd) := by
  cases it with
  | rng es => exact .inr ⟨rfl, fun _ => rfl, fun j dd h => by cases h⟩
  | keys j => exact .inr ⟨rfl, fun _ => rfl, fun j dd h => by cases h⟩
  | seq a =>
    cases a <;> try exact .inr ⟨rfl, fun _ => rfl, fun j dd h => by cases h⟩
    rename_i j
    cases e : r.get j with
    | own dd => exact .inl ⟨j, dd, rfl, e, by show (match r.get j with | .own d => r.set j (.lck d) | _ => r) = _; rw [e], fun r' => by show (match r.get j with | .own d => r'.set j (.own d) | _ => r') = _; rw [e]⟩
    | _ => exact .inr ⟨by show (match r.get j with | .own d => r.set j (.lck d) | _ => r) = _; rw [e], fun r' => by show (match r.get j with | .own d => r'.set j (.own d) | _ => r') = _; rw [e], fun j' dd h => by cases h; rw [e]; exact (fun z => nomatch z)⟩
theorem js_for (x : XOk N T cs d X) {tg : Tg} {it : IIt} {b : ISs} {t i : Expr} {sb : List Stmt} {pos : Pos} (ok : okE i = true) (htg : JdG X sc true tg t) (hit : JdI X sc G it i) (hb : JdSs X sc G fresh b sb) : JdS X sc G fresh (.fors tg it b) (.For t i sb [] pos) := by
  obtain ⟨g, pg, sg⟩ := htg
  obtain ⟨wi, pit, sit⟩ := hit
  obtain ⟨tb, pb, sb'⟩ := hb
  refine ⟨_, fun q hq hf => ps_for (X := at' X q) PassesOwn.never x.calm (pit q t hq) (pg q hq hf) (pb q hq hf) (fun v => okE.fold ok _ _), fun Bf B Hf H r σ D E R w k => ?_⟩
  rw [wpS] at w
  refine sit Bf B Hf H r σ _ _ R w fun items J H1f H1 S z1 wk wat w1 => ?_
  -- the walked list is locked
  have R1 := R.ext z1
  obtain ⟨RL, hL, hU⟩ : StR X.K X.N.length Bf B H1f H1 (lockIt it r) σ ∧ (∀ j dd, (r.get j = .lck dd ∨ (it = .seq (.var j) ∧ r.get j = .own dd)) → (lockIt it r).get j = .lck dd) ∧
      (∀ r' σ' Hf' H', StR X.K X.N.length Bf B Hf' H' r' σ' → Keep (lockIt it r) σ H1f H1 r' σ' Hf' H' → StR X.K X.N.length Bf B Hf' H' (unlockIt it r r') σ' ∧ Keep r σ H1f H1 (unlockIt it r r') σ' Hf' H') := by
    rcases lock_cases it r with ⟨j, dd, hit', hj, e1, e2⟩ | ⟨e1, e2, e3⟩
    · rw [e1]
      have hlt : j < r.length := by
        by_cases h : j < r.length
        · exact h
        · rw [Ev.get_out (by omega)] at hj
          cases hj
      refine ⟨relab R1 hj ⟨dd, .inl rfl, .inr rfl⟩, fun j' dd' h => ?_, fun r' σ' Hf' H' R' kp => ?_⟩
      · by_cases hjj : j = j'
        · subst hjj
          rw [Ev.get_set_same hlt]
          rcases h with h | ⟨_, h⟩
          · rw [hj] at h
            cases h
          · rw [hj] at h
            cases h
            rfl
        · rw [Ev.get_set_ne hjj]
          rcases h with h | ⟨h, _⟩
          · exact h
          · rw [hit'] at h
            cases h
            exact absurd rfl hjj
      · rw [e2]
        have hr' := (kp.l j dd (Ev.get_set_same hlt)).1
        refine ⟨relab R' hr' ⟨dd, .inr rfl, .inl rfl⟩, ⟨kp.f, fun j' dd' h => ?_⟩⟩
        have hjj : j ≠ j' := fun e => by
          subst e
          rw [hj] at h
          cases h
        have q := kp.l j' dd' (by rw [Ev.get_set_ne hjj]; exact h)
        exact ⟨by rw [Ev.get_set_ne hjj]; exact q.1, q.2⟩
    · rw [e1]
      refine ⟨R1, fun j dd h => ?_, fun r' σ' Hf' H' R' kp => ?_⟩
      · rcases h with h | ⟨h, h'⟩
        · exact h
        · exact absurd h' (e3 j dd h)
      · rw [e2]
        exact ⟨R', kp⟩
  have stay : ∀ {rc : Ev} {σc : L2.St} {Hfc Hc : Hp}, StR X.K X.N.length Bf B Hfc Hc rc σc → Keep (lockIt it r) σ H1f H1 rc σc Hfc Hc → ∀ p ∈ S, Hc p = H1 p := fun {rc σc Hfc Hc} Rc kp p hp => by
    rcases wat with h | ⟨j, p', dd, e1, e2, e3, e4⟩
    · cases q : H1f p with
      | none => exact absurd q (h p hp)
      | some o => rw [z1.c _ _ q, Rc.e.c _ _ (kp.f _ _ q)]
    · have hl : (lockIt it r).get j = .lck dd := hL j dd (e2.elim (fun h => .inr ⟨e1, h⟩) .inl)
      rw [e4 p hp]
      exact (kp.l j dd hl).2.2 p' e3
  have kE : ∀ {rc : Ev} {σc : L2.St} {Hfc Hc : Hp}, StR X.K X.N.length Bf B Hfc Hc rc σc → Keep (lockIt it r) σ H1f H1 rc σc Hfc Hc → D.nx (unlockIt it r rc) → E.nx σc Hc := fun {rc σc Hfc Hc} Rc kp q => by
    obtain ⟨a, b⟩ := hU _ _ _ _ Rc kp
    exact k.nx _ _ _ _ a ((keep_ext R z1).trans b) q
  refine ⟨fun i m σc Hc => m + i = items.length ∧ ∃ (rc : Ev) (Hfc : Hp), StR X.K X.N.length Bf B Hfc Hc rc σc ∧ Keep (lockIt it r) σ H1f H1 rc σc Hfc Hc ∧
      forL (fun x r1 D1 => bindT tg x r1 fun r2 => wpSs G b r2 D1) (items.drop i) { D with nx := fun r' => D.nx (unlockIt it r r') } rc,
    ⟨items.length, rfl, _, H1f, RL, Keep.refl _ _ _ _, by rw [List.drop_zero]; exact w1⟩, ?_⟩
  rintro i m σc Hc ⟨hm, rc, Hfc, Rc, kp, w2⟩
  by_cases hi : i < items.length
  · refine .inr ⟨wk.go i Hc (stay Rc kp) hi, fun σn Hn => ∃ (rc : Ev) (Hfc : Hp), StR X.K X.N.length Bf B Hfc Hn rc σn ∧ Keep (lockIt it r) σ H1f H1 rc σn Hfc Hn ∧
      forL (fun x r1 D1 => bindT tg x r1 fun r2 => wpSs G b r2 D1) (items.drop (i + 1)) { D with nx := fun r' => D.nx (unlockIt it r r') } rc, fun σ' H' h => ⟨m - 1, by omega, by omega, h⟩, fun v H' hy => ?_⟩
    obtain ⟨eH, dt, hd, rv⟩ := wk.yld i Hc v H' (stay Rc kp) hi hy
    rw [eH]
    have hdr : items.drop i = dt :: items.drop (i + 1) := by
      rw [List.drop_eq_getElem_cons hi]
      have := (List.getElem?_eq_some_iff.mp hd).2
      rw [this]
    rw [hdr, forL] at w2
    refine sg Bf B Hfc Hc rc σc dt v _ _ Rc (Rep.mono kp.f _ _ rv) w2 fun r' σ' R' hk hfree w3 => ?_
    have kp' := kp.trans (keep_set hfree hk)
    refine sb' Bf B Hfc Hc r' σ' _ _ R' w3 ⟨fun r2 σ2 Hf2 H2 R2 k2 q => ⟨r2, Hf2, R2, kp'.trans k2, q⟩, fun r2 σ2 Hf2 H2 R2 k2 q => kE R2 (kp'.trans k2) q, fun r2 σ2 Hf2 H2 R2 k2 q => ⟨r2, Hf2, R2, kp'.trans k2, q⟩, k.rt⟩
  · refine .inl ⟨wk.stop i Hc (stay Rc kp) (by omega), ?_⟩
    rw [List.drop_eq_nil_of_le (by omega)] at w2
    exact kE Rc kp w2
theorem js_whl {e : IE} {ea : Expr} {b : ISs} {sb : List Stmt} {pos} (he : Jd X sc G e ea) (hb : JdSs X sc G fresh b sb) : JdS X sc G fresh (.whl e b) (.While ea sb [] pos) := by
  obtain ⟨_, tt, pt, st⟩ := he
  obtain ⟨tb, pb, sb'⟩ := hb
  refine ⟨_, fun q hq hf => ps_while (X := at' X q) PassesOwn.never (pt q hq) (pb q hq hf), fun Bf B Hf H r σ D E R w k => ?_⟩
  rw [wpS] at w
  obtain ⟨I, ⟨m0, i0⟩, turn⟩ := w
  refine ⟨fun m σc Hc => ∃ (rc : Ev) (Hfc : Hp), StR X.K X.N.length Bf B Hfc Hc rc σc ∧ Keep r σ Hf H rc σc Hfc Hc ∧ I m rc, ⟨m0, r, Hf, R, Keep.refl _ _ _ _, i0⟩, ?_⟩
  rintro m σc Hc ⟨rc, Hfc, Rc, kp, im⟩
  refine st Bf B Hfc Hc rc σc _ _ Rc (turn m rc im) fun c H1f H1 z1 w1 => ?_
  cases c with
  | false => exact iteF (k.nx _ _ _ _ (Rc.ext z1) (kp.trans (keep_ext Rc z1)) (by simpa using w1))
  | true =>
    refine iteT ⟨fun σn Hn => ∃ m', m' < m ∧ ∃ (rc : Ev) (Hfc : Hp), StR X.K X.N.length Bf B Hfc Hn rc σn ∧ Keep r σ Hf H rc σn Hfc Hn ∧ I m' rc, fun σ' H' h => h, ?_⟩
    have w2 : wpSs G b rc { nx := fun r' => ∃ m', m' < m ∧ I m' r', ct := fun r' => ∃ m', m' < m ∧ I m' r', bk := D.nx, rt := D.rt } := by simpa using w1
    have kp' := kp.trans (keep_ext Rc z1)
    exact sb' Bf B H1f H1 rc σc _ _ (Rc.ext z1) w2 ⟨fun r2 σ2 Hf2 H2 R2 k2 ⟨m', hm, q⟩ => ⟨m', hm, r2, Hf2, R2, kp'.trans k2, q⟩, fun r2 σ2 Hf2 H2 R2 k2 q => k.nx _ _ _ _ R2 (kp'.trans k2) q, fun r2 σ2 Hf2 H2 R2 k2 ⟨m', hm, q⟩ => ⟨m', hm, r2, Hf2, R2, kp'.trans k2, q⟩, k.rt⟩
theorem js_retN {pos} : JdS X sc G false .retN (.Return none pos) := ⟨_, fun q _ _ => ps_retN, fun Bf B Hf H r σ D E R w k => by
  rw [wpS] at w
  exact k.rt PyData.none V.non Hf H R.e (rep_none (K := X.K) (H := Hf)) w⟩
theorem js_ret {e : IE} {ea : Expr} {pos} (he : Jd X sc G e ea) : JdS X sc G false (.ret e) (.Return (some ea) pos) := by
  obtain ⟨⟨t, p, _, s⟩, _⟩ := he
  refine ⟨_, fun q hq _ => ps_ret (p q hq), fun Bf B Hf H r σ D E R w k => ?_⟩
  rw [wpS] at w
  refine s Bf B Hf H r σ _ _ R w fun dd v H1f H1 z1 rep no w1 => ?_
  have R1 := R.ext z1
  by_cases ho : isOwnE e r = false
  · exact k.rt dd v H1f H1 R1.e (no.no ho) w1
  · obtain ⟨j, d', rfl, hj⟩ := isOwnE_cases ho
    rcases rep with rep | rep
    · exact k.rt dd v H1f H1 R1.e rep w1
    · obtain ⟨p', o, e1, _, hB, e2, e3⟩ := R1.lckAt (d := d') (hj.elim .inr .inl)
      have hs := no.sl j rfl
      rw [e1] at hs
      cases hs
      refine k.rt dd _ (upd H1f p' o) H1 ⟨R1.e.a, R1.e.b.trans (Same.frz R1.e.c e3 e2).1, (Same.frz R1.e.c e3 e2).2, fun q hq => ?_⟩ (rep.freeze e2) w1
      rw [upd_ne (fun e => hq (by rw [e]; exact hB))]
      exact R1.e.d q hq
theorem js_retO (x : XOk N T cs d X) (hk : sc.kind = .function) {e : IE} {ea : Expr} {pos} (hf : (match e with | .var _ => true | _ => isFr (T.map (·.fresh)) e) = true) (h : chkE (ckOf N T cs) sc e ea = true) : JdS X sc (Gof T) true (.retO e) (.Return (some ea) pos) := by
  by_cases hv : ∃ i, e = .var i
  · obtain ⟨i, rfl⟩ := hv
    obtain ⟨y, py, rfl⟩ : ∃ y py, ea = .Name y py := by
      have h' := h
      unfold chkE at h'
      split at h'
      · exact ⟨_, _, rfl⟩
      · cases h'
    refine ⟨_, fun q hq _ => ps_ret (pe_slot x h q hq), fun Bf B Hf H r σ D E R w k => ?_⟩
    rw [wpS] at w
    have w' : (match r.get i with | .own d => D.rt d | _ => False) := w
    cases e : r.get i with
    | own dd =>
      rw [e] at w'
      obtain ⟨p', o, e1, orep, hB, e2, e3⟩ := R.lckAt (.inr e)
      exact ⟨_, e1, k.rt dd _ Hf H R.e ⟨orep, fun q eq => by cases eq; exact hB⟩ w'⟩
    | _ => rw [e] at w'; exact w'.elim
  · have key : ∃ t, AllE X sc ea t ∧ SemO X (Gof T) e t := by
      by_cases hc : ∃ elt tg it ifs, e = .comp elt tg it ifs
      · obtain ⟨elt, tg, it, ifs, rfl⟩ := hc
        unfold chkE at h
        split at h
        · simp only [Bool.and_eq_true, decide_eq_true_eq] at h
          obtain ⟨⟨⟨⟨⟨h1, h2⟩, h3⟩, h4⟩, h5⟩, h6⟩ := h
          obtain ⟨ji, ok⟩ := sndIt x it sc _ h1
          obtain ⟨tt, p, s⟩ := comp_pe x rfl ok h2 ji (jg_of x rfl h3) (sndF x ifs _ _ h4 h5) (sndE x elt _ _ h6)
          refine ⟨_, fun q hq => ?_, s⟩
          obtain ⟨p1, p2, p3, p4, p5⟩ := p q hq
          exact pe_lc (X := at' X q) x.calm (by show X.N.Nodup; rw [x.n]; exact x.nd) p1 p2 p3 p4 p5 (fun v => okE.fold ok _ _)
        · cases h
      · have hf' : isFr (T.map (·.fresh)) e = true := by
          cases e <;> first
            | exact hf
            | exact absurd ⟨_, rfl⟩ hv
        exact (fr_ok x hf' hc h).2
    obtain ⟨t, p, s⟩ := key
    refine ⟨_, fun q hq _ => ps_ret (p q hq), fun Bf B Hf H r σ D E R w k => ?_⟩
    have w' : wpE (Gof T) e r fun d => flat d = false ∧ D.rt d := by
      cases e <;> first
        | exact absurd ⟨_, rfl⟩ hv
        | (simp only [wpS] at w; exact w)
    refine s Bf B Hf H r σ _ _ R w' fun dd v H1f H1 z1 rep w1 => ?_
    obtain ⟨nf, w1⟩ := w1
    rcases rep with ⟨rep, hn⟩ | ⟨fl, _⟩
    · exact k.rt dd v H1f H1 (R.ext z1).e ⟨rep, fun p e => R.e.a.free (hn p e)⟩ w1
    · rw [nf] at fl
      cases fl
mutual
theorem sndS (x : XOk N T cs d X) (hk : sc.kind = .function) : ∀ (s : IS) (st : Stmt), chkS (ckOf N T cs) (T.map (·.fresh)) fresh sc s st = true → JdS X sc (Gof T) fresh s st
  | .skip, st, h => by
    unfold chkS at h
    split at h
    · exact js_skip
    · exact js_pass
    · cases h
  | .brk, st, h => by
    unfold chkS at h
    split at h
    · exact js_brk
    · cases h
  | .cont, st, h => by
    unfold chkS at h
    split at h
    · exact js_cont
    · cases h
  | .set i e, st, h => by
    unfold chkS at h
    split at h
    · rw [Bool.and_eq_true] at h
      exact js_set x hk h.1 h.2
    · cases h
  | .setO i e, st, h => by
    unfold chkS at h
    split at h
    · simp only [Bool.and_eq_true] at h
      exact js_setO x hk h.1.1 h.1.2 h.2
    · cases h
  | .setT is e, st, h => by
    unfold chkS at h
    split at h
    · simp only [Bool.and_eq_true] at h
      exact js_setT x h.1.1 h.1.2 (sndE x e sc _ h.2)
    · cases h
  | .par2 i j a b, st, h => by
    unfold chkS at h
    cases h
  | .setI i k e, st, h => by
    unfold chkS at h
    split at h
    · simp only [Bool.and_eq_true] at h
      exact js_setI x h.1.1 (chkE_ok h.1.2) (sndE x k sc _ h.1.2) (sndE x e sc _ h.2)
    · cases h
  | .dput i k e, st, h => by
    unfold chkS at h
    split at h
    · simp only [Bool.and_eq_true] at h
      exact js_dput x h.1.1.1 h.1.1.2 (chkE_ok h.1.2) (sndE x k sc _ h.1.2) (sndE x e sc _ h.2)
    · cases h
  | .rse, st, h => by
    unfold chkS at h
    split at h
    · exact js_rse
    · cases h
  | .app i e, st, h => by
    unfold chkS at h
    split at h
    · simp only [Bool.and_eq_true, decide_eq_true_eq] at h
      exact js_app x h.1.1.1 h.1.1.2 h.1.2 (chkE_ok h.2) (sndE x e sc _ h.2)
    · cases h
  | .ins i k e, st, h => by
    unfold chkS at h
    split at h
    · simp only [Bool.and_eq_true, decide_eq_true_eq] at h
      exact js_ins x h.1.1.1.1 h.1.1.1.2 h.1.1.2 (chkE_ok h.1.2) (chkE_ok h.2) (sndE x k sc _ h.1.2) (sndE x e sc _ h.2)
    · cases h
  | .drop e, st, h => by
    unfold chkS at h
    split at h
    · rw [Bool.and_eq_true] at h
      exact js_drop h.1 (sndE x e sc _ h.2)
    · cases h
  | .ife e a b, st, h => by
    unfold chkS at h
    split at h
    · simp only [Bool.and_eq_true] at h
      exact js_ife (sndE x e sc _ h.1.1) (sndSs x hk a _ h.1.2) (sndSs x hk b _ h.2)
    · cases h
  | .fors tg it b, st, h => by
    unfold chkS at h
    split at h
    · simp only [Bool.and_eq_true] at h
      obtain ⟨ji, ok⟩ := sndIt x it sc _ h.1.2
      exact js_for x ok (jg_of x rfl h.1.1) ji (sndSs x hk b _ h.2)
    · cases h
  | .whl e b, st, h => by
    unfold chkS at h
    split at h
    · simp only [Bool.and_eq_true] at h
      exact js_whl (sndE x e sc _ h.1) (sndSs x hk b _ h.2)
    · cases h
  | .ret e, st, h => by
    unfold chkS at h
    split at h
    · rw [Bool.and_eq_true, Bool.not_eq_true'] at h
      obtain ⟨rfl, h2⟩ := h
      exact js_ret (sndE x e sc _ h2)
    · cases h
  | .retO e, st, h => by
    unfold chkS at h
    split at h
    · simp only [Bool.and_eq_true] at h
      obtain ⟨⟨rfl, h1⟩, h2⟩ := h
      exact js_retO x hk h1 h2
    · cases h
  | .retN, st, h => by
    unfold chkS at h
    split at h
    · rw [Bool.not_eq_true'] at h
      subst h
      exact js_retN
    · cases h
theorem sndSs (x : XOk N T cs d X) (hk : sc.kind = .function) : ∀ (s : ISs) (st : List Stmt), chkSs (ckOf N T cs) (T.map (·.fresh)) fresh sc s st = true → JdSs X sc (Gof T) fresh s st
  | .nil, st, h => by
    cases st with
    | nil => exact js_nil
    | cons a as => exact absurd h (by simp [chkSs])
  | .cons s ss, st, h => by
    cases st with
    | nil => exact absurd h (by simp [chkSs])
    | cons a as =>
      rw [chkSs, Bool.and_eq_true] at h
      exact js_cons (sndS x hk s a h.1) (sndSs x hk ss as h.2)
  | .fgt is ss, st, h => by
    rw [chkSs] at h
    exact js_fgt (sndSs x hk ss st h)
end
end
end CF
namespace CF
open PySem PySem.Spec PyProof.Rows L2
def startE (n : Nat) (ds : List PyData) : Ev := ds.map .val ++ List.replicate (n - ds.length) .un
theorem start_rel {K : PySem.W.Frag} {Hf H : Hp} {N : List Str} {ds : List PyData} {vs : List V} (s : Same Hf H) (r : RepL K Hf ds vs) (hl : ds.length ≤ N.length) : StR K N.length Hf H Hf H (startE N.length ds) (L2.start N vs) := by
  have hv := r.length
  have get1 : ∀ i, (startE N.length ds).get i = (match ds[i]? with | some d => .val d | none => .un) := fun i => by
    unfold startE Ev.get
    rw [List.getD_eq_getElem?_getD]
    by_cases hi : i < ds.length
    · rw [List.getElem?_append_left (by simpa using hi), List.getElem?_map, List.getElem?_eq_getElem hi]
      rfl
    · rw [List.getElem?_append_right (by simpa using hi), List.getElem?_eq_none (l := ds) (by omega), List.getElem?_replicate]
      split <;> rfl
  refine ⟨?_, ?_, fun i => ?_, fun i j p hij h1 => ?_, Ext.refl s⟩
  · unfold startE
    rw [List.length_append, List.length_map, List.length_replicate]
    omega
  · unfold startE L2.start
    rw [List.length_append, List.length_map, List.length_replicate, List.length_append, List.length_map, List.length_replicate]
    omega
  · rw [get1]
    cases e : ds[i]? with
    | none => exact trivial
    | some d =>
      obtain ⟨v, e1, e2⟩ := r.get e
      refine ⟨v, ?_, e2⟩
      have hi : i < vs.length := (List.getElem?_eq_some_iff.mp e1).1
      unfold L2.start
      rw [List.getElem?_append_left (by simpa using hi), List.getElem?_map, e1]
      rfl
  · rw [get1] at h1
    cases e : ds[i]? with
    | none => rw [e] at h1; cases h1
    | some d => rw [e] at h1; cases h1
section
variable {P : Program} {w : World} {K : PySem.W.Frag} {mg : Str → Option Value} {base : Heap}
/-- what a module has for every def -/
structure MdOk (mg : Str → Option Value) (cs : List (Str × Int)) : Prop where
  mb : ∀ x ∈ bnames, mg x = none
  cs : ∀ x i, (x, i) ∈ cs → ∃ t, mg x = some (.int i t)
/-- THE RULE: a def of the text keeps a promise over plain data -/
theorem def_ok {x qual : Str} {st : Stmt} {f : Addr} {fd : FuncData} {N ps : List Str} {d : Nat} {T : List FnE} {cs : List (Str × Int)} {body : ISs} {fresh : Bool} {G : Pm}
    (M : MdOk mg cs) (F : Fun K x qual st f fd) (S : FnScope N ps (defScope st)) (hT : ∀ (i : Nat) g, T[i]? = some g → ∃ f', FnAt P w K mg base d g f')
    (hch : chkSs (ckOf N T cs) (T.map (·.fresh)) fresh (defScope st) body (defBody st) = true)
    (hsem : ∀ ds R, ds.length = ps.length → G ds R → wpSs (Gof T) body (startE N.length ds) { nx := fun _ => fresh = false ∧ R .none, rt := R }) :
    FnM P w K mg base (d + 1) f fd ps (spD K ps.length fresh G) := by
  obtain ⟨oc, od, kV, doc, pm, an, cdv, ct, osl, rfl, lk, hcd⟩ := F.ex
  refine fn_ofM lk hcd S (fun vs H Q h => h.1) fun A outer s H vs Q hr hsp => ?_
  obtain ⟨hlen, Hf, ds, R, hs, rep, hG, hQ⟩ := hsp
  have hX : XOk N T cs d (cxOf CX0 P w K mg base N qual (defScope st) f cdv A outer s H E0) := ⟨rfl, S.nd, rfl, hr, M.mb, M.cs, hT⟩
  obtain ⟨t, pt, sem⟩ := sndSs (fresh := fresh) hX S.kind body _ hch
  refine ⟨t, pt ⟨s, H, _, outer, _, [], fun _ => true, []⟩ rfl (fun _ => rfl), ?_⟩
  have hdl : ds.length = ps.length := by rw [rep.length]; exact hlen
  have hpl : ds.length ≤ N.length := by
    have := congrArg List.length S.pre
    rw [List.length_take] at this
    omega
  refine sem Hf H Hf H _ _ _ _ (start_rel hs rep hpl) (hsem ds R hdl hG) ⟨fun r' σ' Hf' H' R' _ q => ?_, fun _ _ _ _ _ _ q => q, fun _ _ _ _ _ _ q => q, fun dd v Hf' H' z rr q => hQ dd v Hf' H' z rr q⟩
  obtain ⟨q1, q2⟩ := q
  refine hQ .none .non Hf' H' R'.e ?_ q2
  rw [q1]
  exact (rep_none (K := K) (H := Hf'))
/-! ### a def that walks a dict that it is handed: it is locked while the body runs -/
theorem pss_lockOr {X : Cx} {st : List Stmt} {t : TS} (h : PSs X st t) : PSs X st (fun D σ H => t D σ H ∨ tLock t D σ H) := by
  refine ⟨fun pins s σ H D I hw => ?_⟩
  rcases hw with hw | hw
  · exact h.run pins s σ H D I hw
  obtain ⟨d, u, hd, mu, hw⟩ := hw
  obtain ⟨od, I1⟩ := I.lock hd mu
  refine thn (h.run pins s σ _ _ I1 (hw od)) fun f s1 q => ?_
  cases f with
  | next => obtain ⟨σ', H', I2, e, q⟩ := q; exact ⟨σ', _, I2.unlock e (I.nofrz hd mu), q⟩
  | brk => obtain ⟨σ', H', I2, e, q⟩ := q; exact ⟨σ', _, I2.unlock e (I.nofrz hd mu), q⟩
  | cont => obtain ⟨σ', H', I2, e, q⟩ := q; exact ⟨σ', _, I2.unlock e (I.nofrz hd mu), q⟩
  | ret v => obtain ⟨x, σ', H', I2, r, e, q⟩ := q; exact ⟨x, σ', _, I2.unlock e (I.nofrz hd mu), r, q⟩
section
variable {K : PySem.W.Frag} {H : Hp} {a : Addr} {od : Obj} {ks : List (Key × V)}
theorem SqL.lock {b : Addr} {vs : List V} (h : H a = some (.dK ks)) (q : SqL K H b vs) : SqL K (upd H a (.frz od (.dK ks))) b vs := by
  rcases q with (q | ⟨o, q⟩) | q
  · exact .inl (.inl (by rw [upd_ne (fun e => by rw [e, h] at q; cases q)]; exact q))
  · exact .inl (.inr ⟨o, by rw [upd_ne (fun e => by rw [e, h] at q; cases q)]; exact q⟩)
  · exact .inr q
mutual
theorem Rep.lock (h : H a = some (.dK ks)) : ∀ (d : PyData) (v : V), Rep K H d v → Rep K (upd H a (.frz od (.dK ks))) d v
  | .none, v, q => by unfold Rep at q ⊢; exact q
  | .bool b, v, q => by unfold Rep at q ⊢; exact q
  | .int i, v, q => by unfold Rep at q ⊢; exact q
  | .str x, v, q => by unfold Rep at q ⊢; exact q
  | .tuple xs, v, q => by
    unfold Rep at q ⊢
    obtain ⟨b, vs, e, h1, h2⟩ := q
    exact ⟨b, vs, e, by rw [upd_ne (fun e => by rw [e, h] at h1; cases h1)]; exact h1, RepL.lock h xs vs h2⟩
  | .list xs, v, q => by
    unfold Rep at q ⊢
    obtain ⟨b, vs, e, h1, h2⟩ := q
    exact ⟨b, vs, e, SqL.lock h h1, RepL.lock h xs vs h2⟩
  | .dict kvs, v, q => by
    unfold Rep at q ⊢
    obtain ⟨b, us, e, h1, h2⟩ := q
    refine ⟨b, us, e, ?_, h2⟩
    by_cases hb : b = a
    · subst hb
      rcases h1 with h1 | ⟨o, h1⟩
      · rw [h] at h1
        cases h1
        exact .inr ⟨od, upd_same⟩
      · rw [h] at h1
        cases h1
    · rcases h1 with h1 | ⟨o, h1⟩
      · exact .inl (by rw [upd_ne hb]; exact h1)
      · exact .inr ⟨o, by rw [upd_ne hb]; exact h1⟩
theorem RepL.lock (h : H a = some (.dK ks)) : ∀ (ds : List PyData) (vs : List V), RepL K H ds vs → RepL K (upd H a (.frz od (.dK ks))) ds vs
  | [], vs, q => by unfold RepL at q ⊢; exact q
  | x :: xs, vs, q => by
    unfold RepL at q ⊢
    obtain ⟨v, r, e, h1, h2⟩ := q
    exact ⟨v, r, e, Rep.lock h x v h1, RepL.lock h xs r h2⟩
end
theorem start_kyd {n : Nat} {Bf B : Hp} {r : Ev} {σ : L2.St} {j : Nat} {l : List (Int × Int)} {p : Addr} {o : Obj} (R : StR K n Bf B Bf B r σ) (hs : σ[j]? = some (some (.ref p))) (hH : Bf p = some (.frz o (.dK (dV l)))) (no : ∀ i, (r.get i).isO = false) : StR K n Bf B Bf B (r.set j (.kyd l)) σ := by
  have g : ∀ i, (Ev.get (r.set j (.kyd l)) i = .kyd l ∧ i = j) ∨ Ev.get (r.set j (.kyd l)) i = r.get i := fun i => by
    by_cases e : j = i
    · subst e
      by_cases hi : j < r.length
      · exact .inl ⟨Ev.get_set_same hi, rfl⟩
      · exact .inr (by rw [List.set_eq_of_length_le (by omega)])
    · exact .inr (Ev.get_set_ne e)
  refine ⟨by rw [List.length_set]; exact R.ln, by rw [List.length_set]; exact R.len, fun i => ?_, fun i k q hik h1 => ?_, R.e⟩
  · rcases g i with ⟨e, rfl⟩ | e
    · rw [e]
      exact ⟨p, o, hs, hH⟩
    · rw [e]
      exact R.sl i
  · rcases g i with ⟨e, rfl⟩ | e
    · rw [e] at h1
      cases h1
    · rw [e, no i] at h1
      cases h1
end
theorem startE_noO {n : Nat} {ds : List PyData} (i : Nat) : ((startE n ds).get i).isO = false := by
  unfold startE Ev.get
  rw [List.getD_eq_getElem?_getD]
  by_cases hi : i < ds.length
  · rw [List.getElem?_append_left (by simpa using hi), List.getElem?_map, List.getElem?_eq_getElem hi]
    rfl
  · rw [List.getElem?_append_right (by simpa using hi), List.getElem?_replicate]
    split <;> rfl
theorem def_okL {x qual : Str} {st : Stmt} {f : Addr} {fd : FuncData} {N ps : List Str} {d : Nat} {T : List FnE} {cs : List (Str × Int)} {body : ISs} {G : Pm} (j : Nat)
    (M : MdOk mg cs) (F : Fun K x qual st f fd) (S : FnScope N ps (defScope st)) (hT : ∀ (i : Nat) g, T[i]? = some g → ∃ f', FnAt P w K mg base d g f')
    (hch : chkSs (ckOf N T cs) (T.map (·.fresh)) false (defScope st) body (defBody st) = true)
    (hG : ∀ ds R, G ds R → ∃ l, ds[j]? = some (.dict (dL l)))
    (hsem : ∀ ds R l, ds.length = ps.length → G ds R → ds[j]? = some (.dict (dL l)) → wpSs (Gof T) body ((startE N.length ds).set j (.kyd l)) { nx := fun _ => R .none, rt := fun d => flat d = true ∧ R d }) :
    FnM P w K mg base (d + 1) f fd ps (spD K ps.length false G) := by
  obtain ⟨oc, od, kV, doc, pm, an, cdv, ct, osl, rfl, lk, hcd⟩ := F.ex
  refine fn_ofM lk hcd S (fun vs H Q h => h.1) fun A outer s H vs Q hr hsp => ?_
  obtain ⟨hlen, Hf, ds, R, hs, rep, hg, hQ⟩ := hsp
  have hX : XOk N T cs d (cxOf CX0 P w K mg base N qual (defScope st) f cdv A outer s H E0) := ⟨rfl, S.nd, rfl, hr, M.mb, M.cs, hT⟩
  obtain ⟨t, pt, sem⟩ := sndSs (fresh := false) hX S.kind body _ hch
  refine ⟨_, pss_lockOr (pt ⟨s, H, _, outer, _, [], fun _ => true, []⟩ rfl (fun _ => rfl)), ?_⟩
  have hdl : ds.length = ps.length := by rw [rep.length]; exact hlen
  have hpl : ds.length ≤ N.length := by
    have := congrArg List.length S.pre
    rw [List.length_take] at this
    omega
  obtain ⟨l, hl⟩ := hG ds R hg
  obtain ⟨v, hv, rv⟩ := rep.get hl
  unfold Rep at rv
  obtain ⟨a, ks, rfl, hrd, l', e1, e2⟩ := rv
  obtain rfl := dL_inj e1
  subst e2
  have hsl : (L2.start N vs)[j]? = some (some (.ref a)) := by
    have hi : j < vs.length := (List.getElem?_eq_some_iff.mp hv).1
    unfold L2.start
    rw [List.getElem?_append_left (by simpa using hi), List.getElem?_map, hv]
    rfl
  have w := hsem ds R l hdl hg hl
  have fin : ∀ (H' : Hp) (d : PyData) (v : V) (Hx : Hp), Same H H' → flat d = true → Rep K Hx d v → R d → Q v H' := fun H' d v Hx hH fl rr q => hQ d v Hf H' ⟨hH, Same.refl _, hs.trans hH, fun _ _ => rfl⟩ (by rw [if_neg Bool.false_ne_true]; exact Rep.flat fl rr) q
  rcases hrd with hrd | ⟨o, hrd⟩
  · refine .inr ⟨a, _, hs _ _ hrd, trivial, fun od => ?_⟩
    have s2 : Same (upd Hf a (.frz od (.dK (dV l)))) (upd H a (.frz od (.dK (dV l)))) := fun b u e => by
      by_cases hb : b = a
      · subst hb
        rw [upd_same] at e ⊢
        exact e
      · rw [upd_ne hb] at e ⊢
        exact hs _ _ e
    have back : ∀ H' : Hp, Same (upd H a (.frz od (.dK (dV l)))) H' → H' a = some (.frz od (.dK (dV l))) ∧ Same H (upd H' a (.dK (dV l))) := fun H' h => ⟨h _ _ upd_same, fun b u e => by
      by_cases hb : b = a
      · subst hb
        rw [hs _ _ hrd] at e
        cases e
        exact upd_same
      · rw [upd_ne hb]
        exact h _ _ (by rw [upd_ne hb]; exact e)⟩
    refine sem _ _ _ _ _ _ _ _ (start_kyd (start_rel s2 (RepL.lock hrd _ _ rep) hpl) hsl upd_same startE_noO) w ⟨fun r' σ' Hf' H' R' _ q => ?_, fun _ _ _ _ _ _ q => q.elim, fun _ _ _ _ _ _ q => q.elim, fun dd v Hf' H' z rr q => ?_⟩
    · obtain ⟨b1, b2⟩ := back H' R'.e.a
      exact ⟨b1, fin _ .none .non Hf' b2 rfl (rep_none (K := K) (H := Hf')) q⟩
    · obtain ⟨b1, b2⟩ := back H' z.a
      exact ⟨b1, fin _ dd v Hf' b2 q.1 (by unfold RetR at rr; rw [if_neg Bool.false_ne_true] at rr; exact rr) q.2⟩
  · refine .inl (sem Hf H Hf H _ _ _ _ (start_kyd (start_rel hs rep hpl) hsl hrd startE_noO) w ⟨fun r' σ' Hf' H' R' _ q => ?_, fun _ _ _ _ _ _ q => q.elim, fun _ _ _ _ _ _ q => q.elim, fun dd v Hf' H' z rr q => ?_⟩)
    · exact fin _ .none .non Hf' R'.e.a rfl (rep_none (K := K) (H := Hf')) q
    · exact fin _ dd v Hf' z.a q.1 (by unfold RetR at rr; rw [if_neg Bool.false_ne_true] at rr; exact rr) q.2
theorem FnM.at {x : Str} {f : Addr} {fd : FuncData} {ps : List Str} {d : Nat} {fresh : Bool} {G : Pm} (h : FnM P w K mg base d f fd ps (spD K ps.length fresh G)) (g : mg x = some (.ref f)) (k : PySem.W.keepIn K (.ref f) = true) (b : Binds K fd ps []) :
    FnAt P w K mg base d ⟨x, ps.length, fresh, G⟩ f := ⟨g, k, fd, ps, rfl, b, h⟩
/-- the law's own promise -/
def gLaw : Pm := fun ds R => ∃ ns : List Int, ds = [.list (ns.map PyData.int)] ∧ ns.length ≤ 63 ∧ R (.bool true)
def spLaw (K : PySem.W.Frag) : Sp := fun vs H Q _ => spD K 1 false gLaw vs H Q
theorem law_fn {x : Str} {f : Addr} {fd : FuncData} {d : Nat} (h : FnM P w K mg base d f fd [x] (spD K 1 false gLaw)) (hd : d ≤ 680) : FnOk P w K mg base CX0 230 f fd [x] (spLaw K) :=
  ⟨fun vs H Q E q => h.len vs H Q q, fun A outer s H args us vs Q E hr he hb hv hs => codeAny_mono (h.run A outer s H args us vs Q ⟨hr.hd, by
    have := hr.dp
    have e : recursionLimit = 1000 := rfl
    omega, by
    have := hr.un
    have e : cLine = 9900 := rfl
    omega⟩ he hb hv hs) fun r s' q => by
      cases r with
      | error e => exact q
      | ok fl => exact q⟩
theorem law_sp (K : PySem.W.Frag) (H : Hp) (a : Addr) (ns : List Int) (hn : ns.length ≤ 63) (_ : Only H) (hS : SqL K H a (ns.map V.int)) : spLaw K [.ref a] H (fun v _ => v = .bl true) fun _ _ _ => False := by
  refine ⟨rfl, H, [.list (ns.map PyData.int)], fun d => d = .bool true, Same.refl _, RepL.cons ?_ RepL.nil, ⟨ns, rfl, hn, rfl⟩, fun d v Hf' H' z rr q => ?_⟩
  · unfold Rep
    exact ⟨a, _, rfl, hS, repL_ints ns⟩
  · subst q
    have r' : Rep K Hf' (.bool true) v := rr
    unfold Rep at r'
    exact r'
end
end CF
namespace CF
open PySem PySem.Spec PyProof.Rows L2
section
variable {P : Program} {w : World} {K : PySem.W.Frag} {mg : Str → Option Value} {base : Heap}
abbrev TsOk (P : Program) (w : World) (K : PySem.W.Frag) (mg : Str → Option Value) (base : Heap) (d : Nat) (T : List FnE) : Prop := ∀ (i : Nat) g, T[i]? = some g → ∃ f', FnAt P w K mg base d g f'
theorem ts_nil {d : Nat} : TsOk P w K mg base d [] := fun i g h => by simp at h
theorem ts_cons {c d : Nat} {g : FnE} {f : Addr} {T : List FnE} (A : FnAt P w K mg base c g f) (r : TsOk P w K mg base d T) (h : c ≤ d := by decide) : TsOk P w K mg base d (g :: T) := fun i g' e => by
  cases i with
  | zero =>
    have e' : g = g' := by simpa using e
    subst e'
    exact ⟨f, A.mono h⟩
  | succ i => exact r i g' (by simpa using e)
theorem fnM_void {d : Nat} {f : Addr} {fd : FuncData} {ps : List Str} {fresh : Bool} {G : Pm} (hG : ∀ ds R, G ds R → False) : FnM P w K mg base d f fd ps (spD K ps.length fresh G) :=
  ⟨fun vs H Q h => h.1, fun A outer s H args us vs Q hr he hb hv hs => by
    obtain ⟨_, Hf, ds, R, _, _, h, _⟩ := hs
    exact (hG _ _ h).elim⟩
end
/-! ### reckoning -/
section
variable {G : Nat → Pm} {r : Ev} {Q : PyData → Prop} {D : Kt}
theorem get0 {x : Sl} {r : List Sl} : Ev.get (x :: r) 0 = x := rfl
theorem getS {x : Sl} {r : List Sl} {n : Nat} : Ev.get (x :: r) (n + 1) = Ev.get r n := rfl
theorem free_eq {r : Ev} {i : Nat} : Ev.free r i = (match r.get i with | .lck _ => false | _ => true) := rfl
theorem gof0 {g : FnE} {T : List FnE} : Gof (g :: T) 0 = g.G := rfl
theorem gofS {g : FnE} {T : List FnE} {n : Nat} : Gof (g :: T) (n + 1) = Gof T n := rfl
theorem pk_var_ {i : Nat} {w : (PyData → Prop) → Prop} : pk (.var i) r w Q = (match r.get i with | .val d => Q d | .own d => Q d | .lck d => Q d | _ => False) := rfl
theorem tr_bool_ {q : Bool → Prop} {b : Bool} : tr q (.bool b) = q b := propext ⟨tr_bool, fun h => ⟨b, rfl, h⟩⟩
theorem tr_lam {q : Bool → Prop} : (fun b => tr q (.bool b)) = q := funext fun b => tr_bool_
end
end CF
namespace CF
open PySem PySem.Spec PyProof.Rows L2
/-! ### rules to reckon with -/
theorem forL_idx {step : PyData → Ev → Kt → Prop} {items : List PyData} {D : Kt} {r : Ev} (I : Nat → Ev → Prop) (h0 : I 0 r) (hn : ∀ r, I items.length r → D.nx r)
    (hs : ∀ (i : Nat) x r (K : Ev → Prop), items[i]? = some x → I i r → (∀ r', I (i + 1) r' → K r') → step x r { nx := K, ct := K, bk := D.nx, rt := D.rt }) : forL step items D r := by
  have key : ∀ (l : List PyData) (i : Nat) (r : Ev), i + l.length = items.length → (∀ k, l[k]? = items[i + k]?) → I i r → forL step l D r := by
    intro l
    induction l with
    | nil =>
      intro i r e _ h
      rw [forL]
      have e' : i = items.length := by simpa using e
      subst e'
      exact hn r h
    | cons x xs ih =>
      intro i r e hk h
      rw [forL]
      refine hs i x r _ (by have := hk 0; simpa using this.symm) h fun r' h' => ih (i + 1) r' (by simp at e; omega) (fun k => ?_) h'
      have := hk (k + 1)
      rw [show i + 1 + k = i + (k + 1) by omega, ← this]
      rfl
  exact key items 0 r (by omega) (fun k => by rw [Nat.zero_add]) h0
theorem forL_rng {step : PyData → Ev → Kt → Prop} {n : Nat} {g : Nat → PyData} {D : Kt} {r : Ev} (I : Nat → Ev → Prop) (h0 : I 0 r) (hn : ∀ r, I n r → D.nx r)
    (hs : ∀ (i : Nat) r (K : Ev → Prop), i < n → I i r → (∀ r', I (i + 1) r' → K r') → step (g i) r { nx := K, ct := K, bk := D.nx, rt := D.rt }) : forL step ((List.range n).map g) D r := by
  refine forL_idx I h0 (by simpa using hn) fun i x r K hx hi hk => ?_
  rw [List.getElem?_map] at hx
  cases e : (List.range n)[i]? with
  | none => rw [e] at hx; cases hx
  | some j =>
    rw [e] at hx
    cases hx
    obtain ⟨h1, h2⟩ := List.getElem?_eq_some_iff.mp e
    simp at h1 h2
    subst h2
    exact hs _ r K h1 hi hk
theorem forL_map {α : Type} {step : PyData → Ev → Kt → Prop} {l : List α} {g : α → PyData} {D : Kt} {r : Ev} (I : Nat → Ev → Prop) (h0 : I 0 r) (hn : ∀ r, I l.length r → D.nx r)
    (hs : ∀ (i : Nat) (a : α) r (K : Ev → Prop), l[i]? = some a → I i r → (∀ r', I (i + 1) r' → K r') → step (g a) r { nx := K, ct := K, bk := D.nx, rt := D.rt }) : forL step (l.map g) D r := by
  refine forL_idx I h0 (by simpa using hn) fun i x r K hx hi hk => ?_
  rw [List.getElem?_map] at hx
  cases e : l[i]? with
  | none => rw [e] at hx; cases hx
  | some j =>
    rw [e] at hx
    cases hx
    exact hs _ _ r K e hi hk
/-- a walk that carries a value: what is done of the list, and what is left -/
theorem forL_fold {α σ : Type} {step : PyData → Ev → Kt → Prop} {g : α → PyData} {D : Kt} {r : Ev} (env : σ → Ev) (f : σ → α → σ) (P : σ → Prop) : ∀ {l : List α} {s : σ}, r = env s → P s → (hn : P (l.foldl f s) → D.nx (env (l.foldl f s))) →
    (hs : ∀ (a : α) (s : σ) (K : Ev → Prop), a ∈ l → P s → (P (f s a) → K (env (f s a))) → step (g a) (env s) { nx := K, ct := K, bk := D.nx, rt := D.rt }) → forL step (l.map g) D r := by
  intro l
  induction l generalizing r with
  | nil => intro s e p hn hs; subst e; rw [List.map_nil, forL]; exact hn p
  | cons a l ih =>
    intro s e p hn hs
    subst e
    rw [List.map_cons, forL]
    exact hs a s _ List.mem_cons_self p fun p' => ih rfl p' hn fun b s' K hb => hs b s' K (List.mem_cons_of_mem _ hb)
theorem compL_map {α : Type} {step : PyData → (Option PyData → Prop) → Prop} {g : α → PyData} (f : α → PyData) : ∀ {l : List α} {Q : List PyData → Prop}, (∀ a ∈ l, ∀ k : Option PyData → Prop, k (some (f a)) → step (g a) k) → Q (l.map f) → compL step (l.map g) Q
  | [], Q, h, q => by rw [List.map_nil, compL]; exact q
  | a :: l, Q, h, q => by
    rw [List.map_cons, compL]
    refine h a List.mem_cons_self _ ?_
    exact compL_map f (fun b hb => h b (List.mem_cons_of_mem _ hb)) q
theorem compL_filt {α : Type} {step : PyData → (Option PyData → Prop) → Prop} {g : α → PyData} (f : α → Option PyData) : ∀ {l : List α} {Q : List PyData → Prop}, (∀ a ∈ l, ∀ k : Option PyData → Prop, k (f a) → step (g a) k) → Q (l.filterMap f) → compL step (l.map g) Q
  | [], Q, h, q => by rw [List.map_nil, compL]; exact q
  | a :: l, Q, h, q => by
    rw [List.map_cons, compL]
    refine h a List.mem_cons_self _ ?_
    refine compL_filt f (fun b hb => h b (List.mem_cons_of_mem _ hb)) ?_
    rw [List.filterMap_cons] at q
    cases e : f a with
    | none => rw [e] at q; exact q
    | some y => rw [e] at q; exact q
/-- what comes of each item is known by a relation -/
theorem compL_rel {α β : Type} {step : PyData → (Option PyData → Prop) → Prop} {g : α → PyData} (R : α → β → Prop) (f : β → PyData) : ∀ {l : List α} {Q : List PyData → Prop}, (∀ a ∈ l, ∀ k : Option PyData → Prop, (∀ b, R a b → k (some (f b))) → step (g a) k) → (∀ bs : List β, bs.length = l.length → (∀ (i : Nat) a b, l[i]? = some a → bs[i]? = some b → R a b) → Q (bs.map f)) → compL step (l.map g) Q
  | [], Q, h, q => by
    rw [List.map_nil, compL]
    exact q [] rfl fun i a b e => by simp at e
  | a :: l, Q, h, q => by
    rw [List.map_cons, compL]
    refine h a List.mem_cons_self _ fun b hb => ?_
    refine compL_rel R f (fun c hc => h c (List.mem_cons_of_mem _ hc)) fun bs hl hr => ?_
    refine q (b :: bs) (by simp [hl]) fun i x y hx hy => ?_
    cases i with
    | zero =>
      simp at hx hy
      subst hx
      subst hy
      exact hb
    | succ i => exact hr i x y (by simpa using hx) (by simpa using hy)
section
variable {Q : PyData → Prop} {q : Bool → Prop}
theorem at_nat {α : Type} {xs : List α} {k : Nat} {d : α} (h : xs[k]? = some d) : atI xs (k : Int) = some d := by
  have hk : k < xs.length := (List.getElem?_eq_some_iff.mp h).1
  unfold atI ixN
  rw [if_pos (by omega), if_pos (by omega)]
  simpa using h
theorem at_int {α : Type} {xs : List α} {k : Int} {d : α} (h0 : 0 ≤ k) (h : xs[k.toNat]? = some d) : atI xs k = some d := by
  obtain ⟨n, rfl⟩ := Int.eq_ofNat_of_zero_le h0
  exact at_nat h
theorem ix_l {xs : List PyData} {i : Int} {d : PyData} (h : atI xs i = some d) (hq : Q d) : ixP (.list xs) (.int i) Q := ⟨d, h, hq⟩
theorem ix_t {xs : List PyData} {i : Int} {d : PyData} (h : atI xs i = some d) (hq : Q d) : ixP (.tuple xs) (.int i) Q := ⟨d, h, hq⟩
theorem at_lit0 {α : Type} {x : α} {xs : List α} : atI (x :: xs) 0 = some x := by
  refine at_nat (k := 0) rfl
theorem at_lit1 {α : Type} {x y : α} {xs : List α} : atI (x :: y :: xs) 1 = some y := by
  refine at_nat (k := 1) rfl
theorem at_lit2 {α : Type} {x y z : α} {xs : List α} : atI (x :: y :: z :: xs) 2 = some z := by
  refine at_nat (k := 2) rfl
theorem at_lit3 {α : Type} {x y z u : α} {xs : List α} : atI (x :: y :: z :: u :: xs) 3 = some u := by
  refine at_nat (k := 3) rfl
theorem at_lit4 {α : Type} {x y z u t : α} {xs : List α} : atI (x :: y :: z :: u :: t :: xs) 4 = some t := by
  refine at_nat (k := 4) rfl
theorem ex_some {α : Type} {a : α} {p : α → Prop} : (∃ d, some a = some d ∧ p d) ↔ p a := ⟨fun ⟨_, e, h⟩ => by cases e; exact h, fun h => ⟨a, rfl, h⟩⟩
theorem ex_eq_ {α : Type} {a : α} {p : α → Prop} : (∃ d, a = d ∧ p d) ↔ p a := ⟨fun ⟨_, e, h⟩ => by cases e; exact h, fun h => ⟨a, rfl, h⟩⟩
theorem ex_int {i : Int} {p : Int → Prop} : (∃ n, PyData.int i = .int n ∧ p n) ↔ p i := ⟨fun ⟨_, e, h⟩ => by cases e; exact h, fun h => ⟨i, rfl, h⟩⟩
theorem ex_tup {xs : List PyData} {p : List PyData → Prop} : (∃ n, PyData.tuple xs = .tuple n ∧ p n) ↔ p xs := ⟨fun ⟨_, e, h⟩ => by cases e; exact h, fun h => ⟨xs, rfl, h⟩⟩
theorem at2 {α : Type} {a b : α} {i : Int} {p : α → Prop} (h0 : 0 ≤ i) (h2 : i < 2) (ha : i = 0 → p a) (hb : i = 1 → p b) : ∃ d, atI [a, b] i = some d ∧ p d := by
  rcases (by omega : i = 0 ∨ i = 1) with rfl | rfl
  · exact ⟨a, at_lit0, ha rfl⟩
  · exact ⟨b, at_lit1, hb rfl⟩
theorem at3 {α : Type} {a b c : α} {i : Int} {p : α → Prop} (h0 : 0 ≤ i) (h2 : i < 3) (ha : i = 0 → p a) (hb : i = 1 → p b) (hc : i = 2 → p c) : ∃ d, atI [a, b, c] i = some d ∧ p d := by
  rcases (by omega : i = 0 ∨ i = 1 ∨ i = 2) with rfl | rfl | rfl
  · exact ⟨a, at_lit0, ha rfl⟩
  · exact ⟨b, at_lit1, hb rfl⟩
  · exact ⟨c, at_lit2, hc rfl⟩
theorem at_map {α β : Type} {xs : List α} {f : α → β} {k : Nat} {d : α} {p : β → Prop} (h : xs[k]? = some d) (hp : p (f d)) : ∃ e, atI (xs.map f) (k : Int) = some e ∧ p e := ⟨f d, at_nat (by rw [List.getElem?_map, h]; rfl), hp⟩
theorem at_mapI {α β : Type} {xs : List α} {f : α → β} {k : Int} {d : α} {p : β → Prop} (h0 : 0 ≤ k) (h : xs[k.toNat]? = some d) (hp : p (f d)) : ∃ e, atI (xs.map f) k = some e ∧ p e := ⟨f d, at_int h0 (by rw [List.getElem?_map, h]; rfl), hp⟩
theorem zadd {i : Nat} : (0 : Int) + (i : Nat) = (i : Int) := Int.zero_add _
theorem flat_int {i : Int} : flat (.int i) = true := rfl
theorem flat_bool {i : Bool} : flat (.bool i) = true := rfl
theorem flat_str {i : Str} : flat (.str i) = true := rfl
theorem flat_none : flat .none = true := rfl
theorem flat_list {i : List PyData} : flat (.list i) = false := rfl
theorem flat_tup {i : List PyData} : flat (.tuple i) = false := rfl
theorem mod_lt_ {a b : Int} (h : 0 < b) : 0 ≤ a % b ∧ a % b < b := ⟨Int.emod_nonneg _ (by omega), Int.emod_lt_of_pos _ h⟩
end
section
variable {Q : PyData → Prop} {q : Bool → Prop} {i j : Int} {a b : List PyData} {x y : PyData}
theorem bp_add : binP .Add (.int i) (.int j) Q = Q (.int (i + j)) := rfl
theorem bp_adds {a b : Str} : binP .Add (.str a) (.str b) Q = (a.length + b.length ≤ 1000000 ∧ Q (.str (a ++ b))) := rfl
theorem bp_addl : binP .Add (.list a) (.list b) Q = (a.length + b.length ≤ 1000000 ∧ Q (.list (a ++ b))) := rfl
theorem bp_addt : binP .Add (.tuple a) (.tuple b) Q = (a.length + b.length ≤ 1000000 ∧ Q (.tuple (a ++ b))) := rfl
theorem bp_sub : binP .Sub (.int i) (.int j) Q = Q (.int (i - j)) := rfl
theorem bp_mul : binP .Mult (.int i) (.int j) Q = (CMul i j ∧ Q (.int (i * j))) := rfl
theorem bp_mult : binP .Mult (.tuple a) (.int i) Q = (a ≠ [] ∧ 2 ≤ i ∧ i ≤ 1000 ∧ a.length ≤ 1000 ∧ Q (.tuple (List.replicate i.toNat a).flatten)) := rfl
theorem bp_div : binP .FloorDiv (.int i) (.int j) Q = (CDiv i j ∧ Q (.int (i / j))) := rfl
theorem bp_mod : binP .Mod (.int i) (.int j) Q = (0 < j ∧ Q (.int (i % j))) := rfl
theorem bp_pow : binP .Pow (.int i) (.int j) Q = (CPow i j ∧ Q (.int (i ^ j.toNat))) := rfl
theorem cp_lt : cmpP .Lt (.int i) (.int j) q = q (decide (i < j)) := rfl
theorem cp_le : cmpP .LtE (.int i) (.int j) q = q (decide (i ≤ j)) := rfl
theorem cp_gt : cmpP .Gt (.int i) (.int j) q = q (decide (j < i)) := rfl
theorem cp_ge : cmpP .GtE (.int i) (.int j) q = q (decide (j ≤ i)) := rfl
theorem cp_eq : cmpP .Eq x y q = (SeqAt.shaped x = true ∧ SeqAt.shaped y = true ∧ q (PyData.eqv x y)) := rfl
theorem cp_ne : cmpP .NotEq x y q = (SeqAt.shaped x = true ∧ SeqAt.shaped y = true ∧ q (!PyData.eqv x y)) := rfl
theorem cp_is : cmpP .Is x .none q = q (isNoneD x) := by cases x <;> rfl
theorem cp_isn : cmpP .IsNot x .none q = q (!isNoneD x) := by cases x <;> rfl
theorem cp_isb {a b : Bool} : cmpP .Is (.bool a) (.bool b) q = q (decide (a = b)) := rfl
theorem cp_isnb {a b : Bool} : cmpP .IsNot (.bool a) (.bool b) q = q (!decide (a = b)) := rfl
theorem cp_inl : cmpP .In x (.list a) q = (SeqAt.shaped x = true ∧ SeqAt.shaped (.list a) = true ∧ q (a.any fun z => PyData.eqv z x)) := rfl
theorem cp_nil_ : cmpP .NotIn x (.list a) q = (SeqAt.shaped x = true ∧ SeqAt.shaped (.list a) = true ∧ q (!a.any fun z => PyData.eqv z x)) := rfl
theorem cp_int : cmpP .In x (.tuple a) q = (SeqAt.shaped x = true ∧ SeqAt.shaped (.tuple a) = true ∧ q (a.any fun z => PyData.eqv z x)) := rfl
theorem cp_nit : cmpP .NotIn x (.tuple a) q = (SeqAt.shaped x = true ∧ SeqAt.shaped (.tuple a) = true ∧ q (!a.any fun z => PyData.eqv z x)) := rfl
theorem isn_int : isNoneD (.int i) = false := rfl
theorem isn_none : isNoneD .none = true := rfl
theorem isn_tup : isNoneD (.tuple a) = false := rfl
theorem isn_list : isNoneD (.list a) = false := rfl
theorem ip_l : ixP (.list a) (.int i) Q = (∃ d, atI a i = some d ∧ Q d) := rfl
theorem ip_t : ixP (.tuple a) (.int i) Q = (∃ d, atI a i = some d ∧ Q d) := rfl
theorem sp_l {lo hi : Option Int} : slP (.list a) lo hi Q = Q (.list (cutP a lo hi)) := rfl
theorem sp_t {lo hi : Option Int} : slP (.tuple a) lo hi Q = Q (.tuple (cutP a lo hi)) := rfl
theorem bu_lenl : bltP .len [.list a] Q = Q (.int a.length) := rfl
theorem bu_lent : bltP .len [.tuple a] Q = Q (.int a.length) := rfl
theorem bu_max : bltP .max2 [.int i, .int j] Q = Q (.int (max i j)) := rfl
theorem bu_min : bltP .min2 [.int i, .int j] Q = Q (.int (min i j)) := rfl
theorem bu_maxL : bltP .maxL [.list a] Q = (∃ ns : List Int, a = ns.map PyData.int ∧ 0 < ns.length ∧ ∀ m, m ∈ ns → (∀ y, y ∈ ns → y ≤ m) → Q (.int m)) := rfl
theorem bu_minL : bltP .minL [.list a] Q = (∃ ns : List Int, a = ns.map PyData.int ∧ 0 < ns.length ∧ ∀ m, m ∈ ns → (∀ y, y ∈ ns → m ≤ y) → Q (.int m)) := rfl
theorem bu_sum : bltP .sum [.list a] Q = (∃ ns : List Int, a = ns.map PyData.int ∧ Q (.int ns.sum)) := rfl
theorem bu_all : bltP .all [.list a] Q = (∃ bs : List Bool, a = bs.map PyData.bool ∧ Q (.bool (bs.all id))) := rfl
theorem bu_list : bltP .list1 [.list a] Q = Q (.list a) := rfl
theorem bu_listt : bltP .list1 [.tuple a] Q = Q (.list a) := rfl
theorem bu_tup : bltP .tuple1 [.list a] Q = Q (.tuple a) := rfl
theorem bu_tupt : bltP .tuple1 [.tuple a] Q = Q (.tuple a) := rfl
theorem bu_int : bltP .int1 [.int i] Q = Q (.int i) := rfl
theorem bu_intb {b : Bool} : bltP .int1 [.bool b] Q = Q (.int (if b then 1 else 0)) := rfl
theorem bu_str : bltP .str1 [.int i] Q = (i.natAbs.log2 < 1920 ∧ Q (.str (toString i))) := rfl
theorem bu_sortI : bltP .sortI [.list a] Q = (∃ ns : List Int, a = ns.map PyData.int ∧ ns.length < 64 ∧ ∀ ns' : List Int, ns'.Perm ns → ns'.Pairwise (· ≤ ·) → Q (.list (ns'.map PyData.int))) := rfl
theorem bu_sortP : bltP .sortP [.list a] Q = ((∀ x ∈ a, ∃ i j, x = .tuple [.int i, .int j]) ∧ ∀ ys : List PyData, ys.Perm a → ys.Pairwise ltD → Q (.list ys)) := rfl
theorem it_l {Q : List PyData → Prop} : itP (.list a) Q = Q a := rfl
theorem it_t {Q : List PyData → Prop} : itP (.tuple a) Q = Q a := rfl
theorem eqv_int : PyData.eqv (.int i) (.int j) = decide (i = j) := by
  by_cases h : i = j <;> simp [PyData.eqv, h]
end
/-! ### what may be compared -/
def Shp (n : Nat) (d : PyData) : Prop := d.canLay0 = true ∧ d.depth ≤ n
theorem Shp.ok {n : Nat} {d : PyData} (h : Shp n d) (hn : n ≤ 64 := by decide) : SeqAt.shaped d = true := by
  unfold SeqAt.shaped
  rw [h.1, decide_eq_true (Nat.le_trans h.2 hn)]
  rfl
theorem Shp.int {i : Int} : Shp 0 (.int i) := ⟨by simp [PyData.canLay0], by simp [PyData.depth]⟩
theorem Shp.bool {i : Bool} : Shp 0 (.bool i) := ⟨by simp [PyData.canLay0], by simp [PyData.depth]⟩
theorem Shp.non : Shp 0 .none := ⟨by simp [PyData.canLay0], by simp [PyData.depth]⟩
theorem Shp.all {n : Nat} : ∀ {xs : List PyData}, (∀ x ∈ xs, Shp n x) → PyData.canLayAll0 xs = true ∧ PyData.depthAll xs ≤ n
  | [], _ => ⟨by simp [PyData.canLayAll0], by simp [PyData.depthAll]⟩
  | x :: xs, h => by
    obtain ⟨h1, h2⟩ := h x List.mem_cons_self
    obtain ⟨h3, h4⟩ := Shp.all fun y hy => h y (List.mem_cons_of_mem _ hy)
    refine ⟨by simp [PyData.canLayAll0, h1, h3], ?_⟩
    simp only [PyData.depthAll]
    omega
theorem Shp.list {n : Nat} {xs : List PyData} (h : ∀ x ∈ xs, Shp n x) : Shp (n + 1) (.list xs) := ⟨by simp only [PyData.canLay0]; exact (Shp.all h).1, by have := (Shp.all h).2; simp only [PyData.depth]; omega⟩
theorem Shp.tup {n : Nat} {xs : List PyData} (h : ∀ x ∈ xs, Shp n x) : Shp (n + 1) (.tuple xs) := ⟨by simp only [PyData.canLay0]; exact (Shp.all h).1, by have := (Shp.all h).2; simp only [PyData.depth]; omega⟩
theorem Shp.ints (ns : List Int) : Shp 1 (.list (ns.map .int)) := Shp.list (n := 0) fun x hx => by
  obtain ⟨i, _, rfl⟩ := List.mem_map.mp hx
  exact Shp.int
theorem Shp.intt (ns : List Int) : Shp 1 (.tuple (ns.map .int)) := Shp.tup (n := 0) fun x hx => by
  obtain ⟨i, _, rfl⟩ := List.mem_map.mp hx
  exact Shp.int
theorem Shp.pair {a b : Int} : Shp 1 (.tuple [.int a, .int b]) := Shp.tup (n := 0) fun x hx => by
  simp at hx
  rcases hx with rfl | rfl
  · exact Shp.int
  · exact Shp.int
theorem shp_int {i : Int} : SeqAt.shaped (.int i) = true := Shp.int.ok
theorem shp_bool {i : Bool} : SeqAt.shaped (.bool i) = true := Shp.bool.ok
theorem shp_none : SeqAt.shaped .none = true := Shp.non.ok
theorem shp_ints {ns : List Int} : SeqAt.shaped (.list (ns.map .int)) = true := (Shp.ints ns).ok
theorem shp_nil : SeqAt.shaped (.list []) = true := (Shp.ints []).ok
theorem shp_pair {a b : Int} : SeqAt.shaped (.tuple [.int a, .int b]) = true := Shp.pair.ok
theorem eqvAll_map {α : Type} [DecidableEq α] {f : α → PyData} (h : ∀ a b, PyData.eqv (f a) (f b) = decide (a = b)) : ∀ xs ys : List α, PyData.eqvAll (xs.map f) (ys.map f) = decide (xs = ys)
  | [], [] => by simp [PyData.eqvAll]
  | [], y :: ys => by simp [PyData.eqvAll]
  | x :: xs, [] => by simp [PyData.eqvAll]
  | x :: xs, y :: ys => by
    rw [List.map_cons, List.map_cons, PyData.eqvAll, h, eqvAll_map h xs ys, Bool.eq_iff_iff]
    simp
theorem eqv_list {a b : List PyData} : PyData.eqv (.list a) (.list b) = PyData.eqvAll a b := by simp only [PyData.eqv]
theorem eqv_tup {a b : List PyData} : PyData.eqv (.tuple a) (.tuple b) = PyData.eqvAll a b := by simp only [PyData.eqv]
theorem eqv_ints {a b : List Int} : PyData.eqv (.list (a.map .int)) (.list (b.map .int)) = decide (a = b) := by rw [eqv_list, eqvAll_map fun _ _ => eqv_int]
theorem eqv_pair {a b c d : Int} : PyData.eqv (.tuple [.int a, .int b]) (.tuple [.int c, .int d]) = decide (a = c ∧ b = d) := by
  rw [eqv_tup, Bool.eq_iff_iff]
  simp [PyData.eqvAll, eqv_int]
section
variable {Q : List PyData → Prop} {q : PyData → Prop} {q1 : Option Int → Prop} {i j k : Int}
theorem rg1 : rngP [.int i] Q = ((-(2 ^ 62) ≤ i ∧ i < 2 ^ 62) ∧ Q ((List.range i.toNat).map fun i => .int (i : Nat))) := by simp only [rngP, zadd]
theorem rg2 : rngP [.int i, .int j] Q = ((-(2 ^ 62) ≤ i ∧ i < 2 ^ 62 ∧ -(2 ^ 62) ≤ j ∧ j < 2 ^ 62) ∧ Q ((List.range (j - i).toNat).map fun k => .int (i + (k : Nat)))) := rfl
theorem rg3 : rngP [.int i, .int j, .int k] Q = ∃ n, RgC i j k n ∧ Q ((List.range n).map fun m => .int (i + (m : Nat) * k)) := rfl
theorem lrg1 : lrngP [.int i] q = ((-(2 ^ 62) ≤ i ∧ i ≤ 1000000) ∧ q (.list ((List.range i.toNat).map fun i => .int (i : Nat)))) := rfl
theorem lrg2 : lrngP [.int i, .int j] q = ((0 ≤ i ∧ i ≤ 1000000 ∧ 0 ≤ j ∧ j ≤ 1000000) ∧ q (.list ((List.range (j - i).toNat).map fun k => .int (i + (k : Nat))))) := rfl
theorem pt0 : partP [] q1 = q1 none := rfl
theorem pt1 : partP [.int i] q1 = q1 (some i) := rfl
theorem cdiv_iff : CDiv i j = (0 < j ∧ j < 1073741824) := rfl
end
section
variable {p : PyData → Prop} {a b c i : Int}
theorem at2i (h0 : 0 ≤ i) (h2 : i < 2) (h : ∀ m, (m = a ∨ m = b) → p (.int m)) : ∃ d, atI [PyData.int a, .int b] i = some d ∧ p d := at2 h0 h2 (fun _ => h _ (.inl rfl)) fun _ => h _ (.inr rfl)
theorem at3i (h0 : 0 ≤ i) (h2 : i < 3) (h : ∀ m, (m = a ∨ m = b ∨ m = c) → p (.int m)) : ∃ d, atI [PyData.int a, .int b, .int c] i = some d ∧ p d := at3 h0 h2 (fun _ => h _ (.inl rfl)) (fun _ => h _ (.inr (.inl rfl))) fun _ => h _ (.inr (.inr rfl))
theorem mem_at {α : Type} {xs : List α} {k : Nat} (h : k < xs.length) : xs[k]? = some xs[k] := by simp [h]
end
/-! ### floors, orders, windows as data -/
def eJob (j : Int × List Int) : PyData := .tuple [.int j.1, .tuple (j.2.map .int)]
def eOrd (o : Nat × Nat) : PyData := .tuple [.int o.1, .int o.2]
def eP (w : Int × Int) : PyData := .tuple [.int w.1, .int w.2]
structure Fl where
  crews : List Int
  jobs : List (Int × List Int)
  orders : List (Nat × Nat)
def eFl (F : Fl) : PyData := .tuple [.tuple (F.crews.map .int), .tuple (F.jobs.map eJob), .tuple (F.orders.map eOrd)]
section
variable {Q : PyData → Prop} {F : Fl} {j : Int × List Int} {o : Nat × Nat} {w : Int × Int} {p : List PyData → Prop}
theorem fl0 : ixP (eFl F) (.int 0) Q = Q (.tuple (F.crews.map .int)) := propext (by unfold eFl; rw [ip_t, at_lit0, ex_some])
theorem fl1 : ixP (eFl F) (.int 1) Q = Q (.tuple (F.jobs.map eJob)) := propext (by unfold eFl; rw [ip_t, at_lit1, ex_some])
theorem fl2 : ixP (eFl F) (.int 2) Q = Q (.tuple (F.orders.map eOrd)) := propext (by unfold eFl; rw [ip_t, at_lit2, ex_some])
theorem jb0 : ixP (eJob j) (.int 0) Q = Q (.int j.1) := propext (by unfold eJob; rw [ip_t, at_lit0, ex_some])
theorem jb1 : ixP (eJob j) (.int 1) Q = Q (.tuple (j.2.map .int)) := propext (by unfold eJob; rw [ip_t, at_lit1, ex_some])
theorem od0 : ixP (eOrd o) (.int 0) Q = Q (.int o.1) := propext (by unfold eOrd; rw [ip_t, at_lit0, ex_some])
theorem od1 : ixP (eOrd o) (.int 1) Q = Q (.int o.2) := propext (by unfold eOrd; rw [ip_t, at_lit1, ex_some])
theorem ep0 : ixP (eP w) (.int 0) Q = Q (.int w.1) := propext (by unfold eP; rw [ip_t, at_lit0, ex_some])
theorem ep1 : ixP (eP w) (.int 1) Q = Q (.int w.2) := propext (by unfold eP; rw [ip_t, at_lit1, ex_some])
theorem ex_fl : (∃ ds, eFl F = .tuple ds ∧ p ds) ↔ p [.tuple (F.crews.map .int), .tuple (F.jobs.map eJob), .tuple (F.orders.map eOrd)] := by unfold eFl; exact ex_tup
theorem ex_job : (∃ ds, eJob j = .tuple ds ∧ p ds) ↔ p [.int j.1, .tuple (j.2.map .int)] := by unfold eJob; exact ex_tup
theorem ex_ord : (∃ ds, eOrd o = .tuple ds ∧ p ds) ↔ p [.int o.1, .int o.2] := by unfold eOrd; exact ex_tup
theorem ex_ep : (∃ ds, eP w = .tuple ds ∧ p ds) ↔ p [.int w.1, .int w.2] := by unfold eP; exact ex_tup
theorem shp_ep : SeqAt.shaped (eP w) = true := Shp.pair.ok
theorem shp_eps {W : List (Int × Int)} : SeqAt.shaped (.list (W.map eP)) = true := (Shp.list (n := 1) fun x hx => by obtain ⟨w, _, rfl⟩ := List.mem_map.mp hx; exact Shp.pair).ok
theorem eqv_ep {w u : Int × Int} : PyData.eqv (eP w) (eP u) = decide (w = u) := by
  unfold eP
  rw [eqv_pair]
  rcases w with ⟨a, b⟩
  rcases u with ⟨c, d⟩
  simp
theorem eqv_eps {W U : List (Int × Int)} : PyData.eqv (.list (W.map eP)) (.list (U.map eP)) = decide (W = U) := by rw [eqv_list, eqvAll_map fun _ _ => eqv_ep]
end
theorem ex_intN {i : Int} {p : Int → Nat → Prop} : (∃ (n : Int) (j : Nat), PyData.int i = .int n ∧ p n j) ↔ ∃ j, p i j := ⟨fun ⟨n, j, e, h⟩ => by cases e; exact ⟨j, h⟩, fun ⟨j, h⟩ => ⟨i, j, rfl, h⟩⟩
theorem rv_l {a : List PyData} {Q : PyData → Prop} : revP (.list a) Q = Q (.list a.reverse) := rfl
theorem rv_t {a : List PyData} {Q : PyData → Prop} : revP (.tuple a) Q = Q (.tuple a.reverse) := rfl
end CF
namespace CF
open PySem PySem.Spec PyProof.Rows L2
/-! ### the rules, joined -/
theorem wpl : (type_of% @bp_add) ∧ (type_of% @bp_adds) ∧ (type_of% @bp_addl) ∧ (type_of% @bp_addt) ∧ (type_of% @bp_sub) ∧ (type_of% @bp_mul) ∧ (type_of% @bp_mult) ∧ (type_of% @bp_div) ∧ (type_of% @bp_mod) ∧ (type_of% @bp_pow) ∧ (type_of% @cp_lt) ∧ (type_of% @cp_le) ∧ (type_of% @cp_gt) ∧ (type_of% @cp_ge) ∧ (type_of% @cp_eq) ∧ (type_of% @cp_ne) ∧ (type_of% @cp_is) ∧ (type_of% @cp_isn) ∧ (type_of% @cp_isb) ∧ (type_of% @cp_isnb) ∧ (type_of% @cp_inl) ∧ (type_of% @cp_nil_) ∧ (type_of% @cp_int) ∧ (type_of% @cp_nit) ∧ (type_of% @isn_int) ∧ (type_of% @isn_none) ∧ (type_of% @isn_tup) ∧ (type_of% @isn_list) ∧ (type_of% @ip_l) ∧ (type_of% @ip_t) ∧ (type_of% @sp_l) ∧ (type_of% @sp_t) ∧ (type_of% @rv_l) ∧ (type_of% @rv_t) ∧ (type_of% @bu_lenl) ∧ (type_of% @bu_lent) ∧ (type_of% @bu_max) ∧ (type_of% @bu_min) ∧ (type_of% @bu_maxL) ∧ (type_of% @bu_minL) ∧ (type_of% @bu_sum) ∧ (type_of% @bu_all) ∧ (type_of% @bu_list) ∧ (type_of% @bu_listt) ∧ (type_of% @bu_tup) ∧ (type_of% @bu_tupt) ∧ (type_of% @bu_int) ∧ (type_of% @bu_intb) ∧ (type_of% @bu_str) ∧ (type_of% @bu_sortI) ∧ (type_of% @bu_sortP) ∧ (type_of% @it_l) ∧ (type_of% @it_t) ∧ (type_of% @eqv_int) ∧ (type_of% @rg1) ∧ (type_of% @rg2) ∧ (type_of% @rg3) ∧ (type_of% @lrg1) ∧ (type_of% @lrg2) ∧ (type_of% @pt0) ∧ (type_of% @pt1) ∧ (type_of% @cdiv_iff) ∧ (type_of% @get0) ∧ (type_of% @getS) ∧ (type_of% @gof0) ∧ (type_of% @gofS) ∧ (type_of% @tr_bool_) ∧ (type_of% @List.map_cons.{0,0}) ∧ (type_of% @List.map_nil.{0,0}) ∧ (type_of% @List.cons_append.{0}) ∧ (type_of% @List.nil_append.{0}) ∧ (type_of% @List.set_cons_zero.{0}) ∧ (type_of% @List.set_cons_succ.{0}) ∧ (type_of% @List.all_cons.{0}) ∧ (type_of% @List.all_nil.{0}) ∧ (type_of% @at_lit0) ∧ (type_of% @at_lit1) ∧ (type_of% @at_lit2) ∧ (type_of% @at_lit3) ∧ (type_of% @at_lit4) ∧ (type_of% @ex_some) ∧ (type_of% @ex_eq_) ∧ (type_of% @ex_int) ∧ (type_of% @ex_intN) ∧ (type_of% @ex_tup) ∧ (type_of% @flat_int) ∧ (type_of% @flat_bool) ∧ (type_of% @flat_str) ∧ (type_of% @flat_none) ∧ (type_of% @flat_list) ∧ (type_of% @flat_tup) ∧ (type_of% @fl0) ∧ (type_of% @fl1) ∧ (type_of% @fl2) ∧ (type_of% @jb0) ∧ (type_of% @jb1) ∧ (type_of% @od0) ∧ (type_of% @od1) ∧ (type_of% @ep0) ∧ (type_of% @ep1) ∧ (type_of% @ex_fl) ∧ (type_of% @ex_job) ∧ (type_of% @ex_ord) ∧ (type_of% @ex_ep) ∧ (type_of% @shp_ep) ∧ (type_of% @shp_eps) ∧ (type_of% @eqv_ep) ∧ (type_of% @eqv_eps) ∧ (type_of% @shp_int) ∧ (type_of% @shp_bool) ∧ (type_of% @shp_none) ∧ (type_of% @shp_ints) ∧ (type_of% @shp_nil) ∧ (type_of% @shp_pair) ∧ (type_of% @eqv_ints) ∧ (type_of% @eqv_pair) :=
  ⟨@bp_add, @bp_adds, @bp_addl, @bp_addt, @bp_sub, @bp_mul, @bp_mult, @bp_div, @bp_mod, @bp_pow, @cp_lt, @cp_le, @cp_gt, @cp_ge, @cp_eq, @cp_ne, @cp_is, @cp_isn, @cp_isb, @cp_isnb, @cp_inl, @cp_nil_, @cp_int, @cp_nit, @isn_int, @isn_none, @isn_tup, @isn_list, @ip_l, @ip_t, @sp_l, @sp_t, @rv_l, @rv_t, @bu_lenl, @bu_lent, @bu_max, @bu_min, @bu_maxL, @bu_minL, @bu_sum, @bu_all, @bu_list, @bu_listt, @bu_tup, @bu_tupt, @bu_int, @bu_intb, @bu_str, @bu_sortI, @bu_sortP, @it_l, @it_t, @eqv_int, @rg1, @rg2, @rg3, @lrg1, @lrg2, @pt0, @pt1, @cdiv_iff, @get0, @getS, @gof0, @gofS, @tr_bool_, @List.map_cons.{0,0}, @List.map_nil.{0,0}, @List.cons_append.{0}, @List.nil_append.{0}, @List.set_cons_zero.{0}, @List.set_cons_succ.{0}, @List.all_cons.{0}, @List.all_nil.{0}, @at_lit0, @at_lit1, @at_lit2, @at_lit3, @at_lit4, @ex_some, @ex_eq_, @ex_int, @ex_intN, @ex_tup, @flat_int, @flat_bool, @flat_str, @flat_none, @flat_list, @flat_tup, @fl0, @fl1, @fl2, @jb0, @jb1, @od0, @od1, @ep0, @ep1, @ex_fl, @ex_job, @ex_ord, @ex_ep, @shp_ep, @shp_eps, @eqv_ep, @eqv_eps, @shp_int, @shp_bool, @shp_none, @shp_ints, @shp_nil, @shp_pair, @eqv_ints, @eqv_pair⟩
theorem wpu : (type_of% @List.length_map.{0,0}) ∧ (type_of% @List.length_range) ∧ (type_of% @free_eq) ∧ (type_of% @List.length_cons.{0}) ∧ (type_of% @List.length_nil.{0}) ∧ (type_of% @true_and) ∧ (type_of% @and_true) ∧ (type_of% @true_or) ∧ (type_of% @or_true) ∧ (type_of% @Bool.and_true) ∧ (type_of% @Bool.true_and) ∧ (type_of% @Bool.and_self) ∧ (type_of% @Bool.not_false) ∧ (type_of% @Bool.not_true) ∧ (type_of% @Int.toNat_natCast) ∧ (type_of% @decide_eq_true_eq) ∧ (type_of% @decide_true) ∧ (type_of% @decide_eq_false_iff_not) ∧ (type_of% @not_false_eq_true) ∧ (type_of% @not_true_eq_false) ∧ (type_of% @and_self) ∧ (type_of% @Bool.false_eq_true) ∧ (type_of% @zadd) :=
  ⟨@List.length_map.{0,0}, @List.length_range, @free_eq, @List.length_cons.{0}, @List.length_nil.{0}, @true_and, @and_true, @true_or, @or_true, @Bool.and_true, @Bool.true_and, @Bool.and_self, @Bool.not_false, @Bool.not_true, @Int.toNat_natCast, @decide_eq_true_eq, @decide_true, @decide_eq_false_iff_not, @not_false_eq_true, @not_true_eq_false, @and_self, @Bool.false_eq_true, @zadd⟩
end CF
namespace CF
open PySem PySem.Spec PyProof.Rows L2
-- 0 _law_script, 1 _law_k
def ir_l_cell_at_t0 : ISs :=
  (.cons (.ret (.kint 0))
  .nil)
def ir_l_cell_at : ISs :=
  (.cons (.ife (.cmp .Lt (.var 1) (.blt .len (.cons (.var 0) .nil)))
    (.cons (.ret (.bin .Mod (.ix (.var 0) (.var 1)) (.kint 1000000000000000003)))
    .nil)
    .nil)
  ir_l_cell_at_t0)
-- calls: 
-- 0 _law_cell, 1 _law_k, 2 _law_number
def ir_l_mix : ISs :=
  (.cons (.set 2 (.bin .Mod (.bin .Add (.bin .Add (.bin .Mult (.var 0) (.kint 48271)) (.bin .Mult (.var 1) (.kint 69621))) (.kint 11)) (.kint 2147483647)))
  (.cons (.ret (.bin .Mod (.bin .Add (.bin .Add (.bin .Mult (.var 2) (.var 2)) (.bin .Mult (.kint 7) (.var 2))) (.var 1)) (.kint 2147483629)))
  .nil))
-- calls: 
-- 0 _law_found
def ir_l_whole : ISs :=
  (.cons (.ret (.bop .And (.cons (.isi (.var 0) .int) (.cons (.no (.isi (.var 0) .bool)) .nil))))
  .nil)
-- calls: 
-- 0 _law_cell, 1 _law_many, 2 _law_greatest, 3 _law_k
def ir_l_crews : ISs :=
  (.cons (.set 1 (.bin .Add (.kint 1) (.ix (.lst (.cons (.bin .Mod (.var 0) (.kint 2)) (.cons (.bin .Mod (.var 0) (.kint 4)) .nil))) (.bin .FloorDiv (.bin .Mod (.bin .FloorDiv (.var 0) (.kint 4)) (.kint 3)) (.kint 2)))))
  (.cons (.set 2 (.ix (.lst (.cons (.kint 4) (.cons (.kint 4) (.cons (.kint 50) .nil)))) (.bin .Mod (.bin .FloorDiv (.var 0) (.kint 12)) (.kint 3))))
  (.cons (.ret (.blt .tuple1 (.cons (.comp (.bin .Add (.kint 1) (.bin .Mod (.call 0 (.cons (.var 0) (.cons (.var 3) .nil))) (.var 2))) (.one 3) (.rng (.cons (.var 1) .nil)) .nil) .nil)))
  .nil)))
-- calls: _law_mix
-- 0 _law_cell, 1 _law_crews_here, 2 _law_most, 3 _law_needs, 4 _law_k, 5 _law_more, 6 _law_need
def ir_l_job_t0 : ISs :=
  (.cons (.app 3 (.var 6))
  (.fgt [4, 5, 6] .nil))
def ir_l_job_b0 : ISs :=
  (.cons (.set 5 (.call 0 (.cons (.var 0) (.cons (.bin .Add (.var 4) (.kint 3)) .nil))))
  (.cons (.set 6 (.bin .Mod (.var 5) (.bin .Add (.ix (.var 1) (.var 4)) (.kint 1))))
  (.cons (.ife (.cmp .Eq (.bin .Mod (.bin .FloorDiv (.var 5) (.kint 64)) (.kint 4)) (.kint 0))
    (.cons (.set 6 (.ix (.lst (.cons (.kint 0) (.cons (.ix (.var 1) (.var 4)) .nil))) (.bin .Mod (.bin .FloorDiv (.var 5) (.kint 256)) (.kint 2))))
    .nil)
    .nil)
  ir_l_job_t0)))
def ir_l_job_t1 : ISs :=
  (.cons (.ret (.tup (.cons (.bin .Add (.kint 1) (.bin .Mod (.var 0) (.var 2))) (.cons (.blt .tuple1 (.cons (.var 3) .nil)) .nil))))
  .nil)
def ir_l_job : ISs :=
  (.cons (.setO 3 (.lst .nil))
  (.cons (.fors (.one 4) (.rng (.cons (.blt .len (.cons (.var 1) .nil)) .nil)) ir_l_job_b0)
  ir_l_job_t1))
-- calls: _law_mix
-- 0 _law_cell, 1 _law_many, 2 _law_most, 3 _law_line, 4 _law_orders_here, 5 _law_k, 6 _law_one, 7 _law_other
def ir_l_orders_b0 : ISs :=
  (.cons (.set 6 (.bin .Mod (.call 0 (.cons (.var 0) (.cons (.bin .Add (.kint 50) (.var 5)) .nil))) (.var 1)))
  (.cons (.set 7 (.bin .Mod (.call 0 (.cons (.var 0) (.cons (.bin .Add (.kint 150) (.var 5)) .nil))) (.var 1)))
  (.cons (.ife (.cmp .NotEq (.var 6) (.var 7))
    (.cons (.app 4 (.tup (.cons (.ix (.ix (.var 3) (.blt .min2 (.cons (.var 6) (.cons (.var 7) .nil)))) (.kint 1)) (.cons (.ix (.ix (.var 3) (.blt .max2 (.cons (.var 6) (.cons (.var 7) .nil)))) (.kint 1)) .nil))))
    .nil)
    .nil)
  (.fgt [5, 6, 7] .nil))))
def ir_l_orders_t0 : ISs :=
  (.cons (.ret (.blt .tuple1 (.cons (.var 4) .nil)))
  .nil)
def ir_l_orders : ISs :=
  (.cons (.set 3 (.blt .sortP (.cons (.comp (.tup (.cons (.bin .Mod (.call 0 (.cons (.var 0) (.cons (.var 5) .nil))) (.kint 997)) (.cons (.var 5) .nil))) (.one 5) (.rng (.cons (.var 1) .nil)) .nil) .nil)))
  (.cons (.setO 4 (.lst .nil))
  (.cons (.fors (.one 5) (.rng (.cons (.bin .Mod (.var 0) (.bin .Add (.var 2) (.kint 1))) .nil)) ir_l_orders_b0)
  ir_l_orders_t0)))
-- calls: _law_mix
-- 0 _law_script, 1 _law_at, 2 _law_many, 3 _law_most, 4 _law_orders_here, 5 _law_crews_here, 6 _law_jobs, 7 _law_k
def ir_l_floor_b0 : ISs :=
  (.cons (.app 6 (.call 2 (.cons (.call 3 (.cons (.call 1 (.cons (.var 0) (.cons (.bin .Add (.var 1) (.kint 1)) .nil))) (.cons (.bin .Add (.kint 70) (.var 7)) .nil))) (.cons (.var 5) (.cons (.var 3) .nil)))))
  (.fgt [7] .nil))
def ir_l_floor_t0 : ISs :=
  (.cons (.ret (.tup (.cons (.var 5) (.cons (.blt .tuple1 (.cons (.var 6) .nil)) (.cons (.call 4 (.cons (.call 1 (.cons (.var 0) (.cons (.bin .Add (.var 1) (.kint 2)) .nil))) (.cons (.var 2) (.cons (.var 4) .nil)))) .nil)))))
  .nil)
def ir_l_floor : ISs :=
  (.cons (.set 5 (.call 0 (.cons (.call 1 (.cons (.var 0) (.cons (.var 1) .nil))) .nil)))
  (.cons (.setO 6 (.lst .nil))
  (.cons (.fors (.one 7) (.rng (.cons (.var 2) .nil)) ir_l_floor_b0)
  ir_l_floor_t0)))
-- calls: _law_crews, _law_cell_at, _law_job, _law_mix, _law_orders
-- 0 _law_found, 1 _law_due, 2 _law_k
def ir_l_numbers_b0 : ISs :=
  (.cons (.ife (.bop .Or (.cons (.no (.call 0 (.cons (.ix (.var 0) (.var 2)) .nil))) (.cons (.cmp .NotEq (.ix (.var 0) (.var 2)) (.ix (.var 1) (.var 2))) .nil)))
    (.cons (.ret (.kbool false))
    .nil)
    .nil)
  (.fgt [2] .nil))
def ir_l_numbers_t0 : ISs :=
  (.cons (.ret (.kbool true))
  .nil)
def ir_l_numbers_t1 : ISs :=
  (.cons (.fors (.one 2) (.rng (.cons (.blt .len (.cons (.var 1) .nil)) .nil)) ir_l_numbers_b0)
  ir_l_numbers_t0)
def ir_l_numbers : ISs :=
  (.cons (.ife (.bop .Or (.cons (.no (.isi (.var 0) .list)) (.cons (.cmp .NotEq (.blt .len (.cons (.var 0) .nil)) (.blt .len (.cons (.var 1) .nil))) .nil)))
    (.cons (.ret (.kbool false))
    .nil)
    .nil)
  ir_l_numbers_t1)
-- calls: _law_whole
end CF
namespace CF
open PySem PySem.Spec PyProof.Rows L2
/-! ### the floor that a law draws -/
def cellAt (ns : List Int) (k : Nat) : Int := if k < ns.length then ns.getD k 0 % 1000000000000000003 else 0
theorem cell_bd (ns : List Int) (k : Nat) : 0 ≤ cellAt ns k ∧ cellAt ns k < 1000000000000000003 := by
  unfold cellAt
  split
  · exact mod_lt_ (by omega)
  · omega
def g_l_cell_at : Pm := fun ds R => ∃ (ns : List Int) (k : Int), ds = [.list (ns.map .int), .int k] ∧ 0 ≤ k ∧ R (.int (cellAt ns k.toNat))
abbrev e_l_cell_at : FnE := ⟨"_law_cell_at", 2, false, g_l_cell_at⟩
theorem sem_l_cell_at : ∀ ds R, ds.length = 2 → g_l_cell_at ds R → wpSs (Gof []) ir_l_cell_at (startE 2 ds) { nx := fun _ => false = false ∧ R .none, rt := R } := by
  rintro _ R _ ⟨ns, k, rfl, hk, q⟩
  obtain ⟨k, rfl⟩ := Int.eq_ofNat_of_zero_le hk
  (try simp only [ir_l_cell_at, ir_l_cell_at_t0, ↓wpSs, ↓wpS, ↓wpE, ↓wpEs, ↓wpBop, ↓wpIfs, ↓wpIt, ↓pk, ↓bindT, ↓ownL, ↓lockIt, ↓unlockIt, isT, ↓setAll, ↓wipeE, ↓startE, ↓Tg.slots, ↓IEs.fine, ↓IEs.len, ↓noOwn, ↓isOwnE, ↓Sl.isO, ↓Ev.freeAll, List.replicate, if_true, if_false, reduceIte, Nat.reduceLeDiff, Nat.reduceSub, Nat.reduceAdd, eq_self, reduceCtorEq, Int.reduceLT, Nat.reduceLT, ↓wpl, wpu])
  unfold cellAt at q
  split
  · rename_i h
    have h : k < ns.length := by simpa using h
    refine at_map (d := ns[k]) (by simp [h]) ?_
    (try simp only [↓wpSs, ↓wpS, ↓wpE, ↓wpEs, ↓wpBop, ↓wpIfs, ↓wpIt, ↓pk, ↓bindT, ↓ownL, ↓lockIt, ↓unlockIt, isT, ↓setAll, ↓wipeE, ↓startE, ↓Tg.slots, ↓IEs.fine, ↓IEs.len, ↓noOwn, ↓isOwnE, ↓Sl.isO, ↓Ev.freeAll, List.replicate, if_true, if_false, reduceIte, Nat.reduceLeDiff, Nat.reduceSub, Nat.reduceAdd, eq_self, reduceCtorEq, Int.reduceLT, Nat.reduceLT, ↓wpl, wpu])
    simpa [h] using q
  · rename_i h
    have h : ¬ k < ns.length := by simpa using h
    simpa [h] using q
def mix (c k : Int) : Int := (((c * 48271 + k * 69621 + 11) % 2147483647) * ((c * 48271 + k * 69621 + 11) % 2147483647) + 7 * ((c * 48271 + k * 69621 + 11) % 2147483647) + k) % 2147483629
theorem mix_bd (c k : Int) : 0 ≤ mix c k ∧ mix c k < 2147483629 := mod_lt_ (by omega)
def g_l_mix : Pm := fun ds R => ∃ c k : Int, ds = [.int c, .int k] ∧ R (.int (mix c k))
abbrev e_l_mix : FnE := ⟨"_law_mix", 2, false, g_l_mix⟩
theorem cmul_r {i j : Int} (h : -(2 ^ 64) < j ∧ j < 2 ^ 64) : CMul i j := .inr h
theorem cmul_l {i j : Int} (h : -(2 ^ 64) < i ∧ i < 2 ^ 64) : CMul i j := .inl h
theorem sem_l_mix : ∀ ds R, ds.length = 2 → g_l_mix ds R → wpSs (Gof []) ir_l_mix (startE 3 ds) { nx := fun _ => false = false ∧ R .none, rt := R } := by
  rintro _ R _ ⟨c, k, rfl, q⟩
  (try simp only [ir_l_mix, ↓wpSs, ↓wpS, ↓wpE, ↓wpEs, ↓wpBop, ↓wpIfs, ↓wpIt, ↓pk, ↓bindT, ↓ownL, ↓lockIt, ↓unlockIt, isT, ↓setAll, ↓wipeE, ↓startE, ↓Tg.slots, ↓IEs.fine, ↓IEs.len, ↓noOwn, ↓isOwnE, ↓Sl.isO, ↓Ev.freeAll, List.replicate, if_true, if_false, reduceIte, Nat.reduceLeDiff, Nat.reduceSub, Nat.reduceAdd, eq_self, reduceCtorEq, Int.reduceLT, Nat.reduceLT, ↓wpl, wpu])
  have h := mod_lt_ (a := c * 48271 + k * 69621 + 11) (b := 2147483647) (by omega)
  exact ⟨cmul_r (by omega), cmul_r (by omega), cmul_r (by omega), cmul_l (by omega), q⟩
def GoodCr (cs : List Int) : Prop := 1 ≤ cs.length ∧ cs.length ≤ 4 ∧ ∀ c ∈ cs, 1 ≤ c ∧ c ≤ 50
def g_l_crews : Pm := fun ds R => ∃ c : Int, ds = [.int c] ∧ 0 ≤ c ∧ ∀ cs, GoodCr cs → R (.tuple (cs.map .int))
abbrev e_l_crews : FnE := ⟨"_law_crews", 1, false, g_l_crews⟩
theorem mix_ap {c k : Int} {Q : PyData → Prop} : g_l_mix [.int c, .int k] Q = Q (.int (mix c k)) := by
  refine propext ⟨?_, fun h => ⟨c, k, rfl, h⟩⟩
  rintro ⟨c', k', e, h⟩
  cases e
  exact h
theorem sem_l_crews : ∀ ds R, ds.length = 1 → g_l_crews ds R → wpSs (Gof [e_l_mix]) ir_l_crews (startE 4 ds) { nx := fun _ => false = false ∧ R .none, rt := R } := by
  rintro _ R _ ⟨c, rfl, hc, q⟩
  (try simp only [ir_l_crews, ↓wpSs, ↓wpS, ↓wpE, ↓wpEs, ↓wpBop, ↓wpIfs, ↓wpIt, ↓pk, ↓bindT, ↓ownL, ↓lockIt, ↓unlockIt, isT, ↓setAll, ↓wipeE, ↓startE, ↓Tg.slots, ↓IEs.fine, ↓IEs.len, ↓noOwn, ↓isOwnE, ↓Sl.isO, ↓Ev.freeAll, List.replicate, if_true, if_false, reduceIte, Nat.reduceLeDiff, Nat.reduceSub, Nat.reduceAdd, eq_self, reduceCtorEq, Int.reduceLT, Nat.reduceLT, ↓wpl, wpu])
  refine at2i (by omega) (by omega) fun m hm => ?_
  refine at3i (by omega) (by omega) fun g hg => ?_
  (try simp only [↓wpSs, ↓wpS, ↓wpE, ↓wpEs, ↓wpBop, ↓wpIfs, ↓wpIt, ↓pk, ↓bindT, ↓ownL, ↓lockIt, ↓unlockIt, isT, ↓setAll, ↓wipeE, ↓startE, ↓Tg.slots, ↓IEs.fine, ↓IEs.len, ↓noOwn, ↓isOwnE, ↓Sl.isO, ↓Ev.freeAll, List.replicate, if_true, if_false, reduceIte, Nat.reduceLeDiff, Nat.reduceSub, Nat.reduceAdd, eq_self, reduceCtorEq, Int.reduceLT, Nat.reduceLT, ↓wpl, wpu])
  refine ⟨by omega, by omega, ?_⟩
  refine compL_map (fun k : Nat => .int (1 + mix c k % g)) (fun k _ K h => ?_) ?_
  · (try simp only [mix_ap, ↓wpSs, ↓wpS, ↓wpE, ↓wpEs, ↓wpBop, ↓wpIfs, ↓wpIt, ↓pk, ↓bindT, ↓ownL, ↓lockIt, ↓unlockIt, isT, ↓setAll, ↓wipeE, ↓startE, ↓Tg.slots, ↓IEs.fine, ↓IEs.len, ↓noOwn, ↓isOwnE, ↓Sl.isO, ↓Ev.freeAll, List.replicate, if_true, if_false, reduceIte, Nat.reduceLeDiff, Nat.reduceSub, Nat.reduceAdd, eq_self, reduceCtorEq, Int.reduceLT, Nat.reduceLT, ↓wpl, wpu])
    exact ⟨by omega, h⟩
  · have := q ((List.range (1 + m).toNat).map fun k : Nat => 1 + mix c k % g) ⟨by simp; omega, by simp; omega, fun x hx => ?_⟩
    · rw [List.map_map] at this
      exact this
    · obtain ⟨k, _, rfl⟩ := List.mem_map.mp hx
      have := mod_lt_ (a := mix c k) (b := g) (by omega)
      omega
def GoodJob (cs : List Int) (most : Int) (j : Int × List Int) : Prop := 1 ≤ j.1 ∧ j.1 ≤ most ∧ j.2.length = cs.length ∧ ∀ (k : Nat) c n, cs[k]? = some c → j.2[k]? = some n → 0 ≤ n ∧ n ≤ c
def g_l_job : Pm := fun ds R => ∃ (c : Int) (cs : List Int) (most : Int), ds = [.int c, .tuple (cs.map .int), .int most] ∧ 0 ≤ c ∧ GoodCr cs ∧ 1 ≤ most ∧ most ≤ 50 ∧ ∀ j, GoodJob cs most j → R (eJob j)
abbrev e_l_job : FnE := ⟨"_law_job", 3, false, g_l_job⟩
def drawn (c : Int) (cr : Int) (k : Nat) : Int := if mix c (k + 3) / 64 % 4 = 0 then (if mix c (k + 3) / 256 % 2 = 0 then 0 else cr) else mix c (k + 3) % (cr + 1)
theorem drawn_bd {c cr : Int} {k : Nat} (h : 1 ≤ cr) : 0 ≤ drawn c cr k ∧ drawn c cr k ≤ cr := by
  unfold drawn
  have := mod_lt_ (a := mix c (k + 3)) (b := cr + 1) (by omega)
  split
  · split <;> omega
  · omega
theorem sem_l_job : ∀ ds R, ds.length = 3 → g_l_job ds R → wpSs (Gof [e_l_mix]) ir_l_job (startE 7 ds) { nx := fun _ => false = false ∧ R .none, rt := R } := by
  rintro _ R _ ⟨c, cs, most, rfl, hc, ⟨c1, c4, hcs⟩, hm1, hm2, q⟩
  (try simp only [ir_l_job, ↓wpSs, ↓wpS, ↓wpE, ↓wpEs, ↓wpBop, ↓wpIfs, ↓wpIt, ↓pk, ↓bindT, ↓ownL, ↓lockIt, ↓unlockIt, isT, ↓setAll, ↓wipeE, ↓startE, ↓Tg.slots, ↓IEs.fine, ↓IEs.len, ↓noOwn, ↓isOwnE, ↓Sl.isO, ↓Ev.freeAll, List.replicate, if_true, if_false, reduceIte, Nat.reduceLeDiff, Nat.reduceSub, Nat.reduceAdd, eq_self, reduceCtorEq, Int.reduceLT, Nat.reduceLT, ↓wpl, wpu])
  refine ⟨by omega, ?_⟩
  refine forL_rng (fun i r => r = [.val (.int c), .val (.tuple (cs.map .int)), .val (.int most), .own (.list ((List.range i).map fun k => .int (drawn c (cs.getD k 0) k))), .un, .un, .un]) rfl ?_ ?_
  · rintro _ rfl
    (try simp only [ir_l_job_t1, ↓wpSs, ↓wpS, ↓wpE, ↓wpEs, ↓wpBop, ↓wpIfs, ↓wpIt, ↓pk, ↓bindT, ↓ownL, ↓lockIt, ↓unlockIt, isT, ↓setAll, ↓wipeE, ↓startE, ↓Tg.slots, ↓IEs.fine, ↓IEs.len, ↓noOwn, ↓isOwnE, ↓Sl.isO, ↓Ev.freeAll, List.replicate, if_true, if_false, reduceIte, Nat.reduceLeDiff, Nat.reduceSub, Nat.reduceAdd, eq_self, reduceCtorEq, Int.reduceLT, Nat.reduceLT, ↓wpl, wpu])
    refine ⟨by omega, ?_⟩
    have hb := mod_lt_ (a := c) (b := most) (by omega)
    have := q (1 + c % most, (List.range cs.length).map fun k => drawn c (cs.getD k 0) k) ⟨by show 1 ≤ 1 + c % most; omega, by show 1 + c % most ≤ most; omega, by simp, fun k x n hx hn => ?_⟩
    · rw [eJob, List.map_map] at this
      exact this
    · have hk : k < cs.length := (List.getElem?_eq_some_iff.mp hx).1
      simp [hk] at hn
      subst hn
      have hx' : cs[k] = x := by simpa [hk] using hx
      rw [hx']
      exact drawn_bd (hcs x (List.mem_of_getElem? hx)).1
  · rintro i _ K hi rfl hK
    (try simp only [ir_l_job_b0, ir_l_job_t0, mix_ap, ↓wpSs, ↓wpS, ↓wpE, ↓wpEs, ↓wpBop, ↓wpIfs, ↓wpIt, ↓pk, ↓bindT, ↓ownL, ↓lockIt, ↓unlockIt, isT, ↓setAll, ↓wipeE, ↓startE, ↓Tg.slots, ↓IEs.fine, ↓IEs.len, ↓noOwn, ↓isOwnE, ↓Sl.isO, ↓Ev.freeAll, List.replicate, if_true, if_false, reduceIte, Nat.reduceLeDiff, Nat.reduceSub, Nat.reduceAdd, eq_self, reduceCtorEq, Int.reduceLT, Nat.reduceLT, ↓wpl, wpu])
    have hi : i < cs.length := by simpa using hi
    have hx := mem_at hi
    have hcr := hcs cs[i] (List.getElem_mem hi)
    refine at_map hx ?_
    (try simp only [↓wpSs, ↓wpS, ↓wpE, ↓wpEs, ↓wpBop, ↓wpIfs, ↓wpIt, ↓pk, ↓bindT, ↓ownL, ↓lockIt, ↓unlockIt, isT, ↓setAll, ↓wipeE, ↓startE, ↓Tg.slots, ↓IEs.fine, ↓IEs.len, ↓noOwn, ↓isOwnE, ↓Sl.isO, ↓Ev.freeAll, List.replicate, if_true, if_false, reduceIte, Nat.reduceLeDiff, Nat.reduceSub, Nat.reduceAdd, eq_self, reduceCtorEq, Int.reduceLT, Nat.reduceLT, ↓wpl, wpu])
    refine ⟨by omega, ?_⟩
    have hg : cs.getD i 0 = cs[i] := by rw [List.getD_eq_getElem?_getD, hx]; rfl
    have done : K [.val (.int c), .val (.tuple (cs.map .int)), .val (.int most), .own (.list ((List.range i).map (fun k => .int (drawn c (cs.getD k 0) k)) ++ [.int (drawn c cs[i] i)])), .un, .un, .un] := by
      refine hK _ ?_
      rw [List.range_succ, List.map_append, List.map_singleton, hg]
    unfold drawn at done
    split
    · rename_i h
      rw [if_pos h] at done
      refine at_map hx ?_
      refine at2 (by omega) (by omega) (fun h0 => ⟨by omega, ?_⟩) fun h0 => ⟨by omega, ?_⟩
      · rw [if_pos h0] at done
        exact done
      · rw [if_neg (by omega)] at done
        exact done
    · rename_i h
      rw [if_neg h] at done
      exact ⟨by omega, done⟩
def GoodOr (n : Nat) (os : List (Nat × Nat)) : Prop := ∃ rank : Nat → Nat, (∀ i, i < n → rank i < n) ∧ ∀ o ∈ os, o.1 < n ∧ o.2 < n ∧ rank o.1 < rank o.2
def g_l_orders : Pm := fun ds R => ∃ (c : Int) (n : Nat) (most : Int), ds = [.int c, .int n, .int most] ∧ 0 ≤ c ∧ 1 ≤ n ∧ n ≤ 12 ∧ 0 ≤ most ∧ most ≤ 40 ∧ ∀ os : List (Nat × Nat), os.length ≤ most.toNat → GoodOr n os → R (.tuple (os.map eOrd))
abbrev e_l_orders : FnE := ⟨"_law_orders", 3, false, g_l_orders⟩
theorem sem_l_orders : ∀ ds R, ds.length = 3 → g_l_orders ds R → wpSs (Gof [e_l_mix]) ir_l_orders (startE 8 ds) { nx := fun _ => false = false ∧ R .none, rt := R } := by
  rintro _ R _ ⟨c, n, most, rfl, hc, hn1, hn12, hm1, hm2, q⟩
  (try simp only [ir_l_orders, ↓wpSs, ↓wpS, ↓wpE, ↓wpEs, ↓wpBop, ↓wpIfs, ↓wpIt, ↓pk, ↓bindT, ↓ownL, ↓lockIt, ↓unlockIt, isT, ↓setAll, ↓wipeE, ↓startE, ↓Tg.slots, ↓IEs.fine, ↓IEs.len, ↓noOwn, ↓isOwnE, ↓Sl.isO, ↓Ev.freeAll, List.replicate, if_true, if_false, reduceIte, Nat.reduceLeDiff, Nat.reduceSub, Nat.reduceAdd, eq_self, reduceCtorEq, Int.reduceLT, Nat.reduceLT, ↓wpl, wpu])
  refine ⟨by omega, by omega, ?_⟩
  refine compL_map (fun k : Nat => .tuple [.int (mix c k % 997), .int k]) (fun k _ K h => ?_) ?_
  · (try simp only [mix_ap, ↓wpSs, ↓wpS, ↓wpE, ↓wpEs, ↓wpBop, ↓wpIfs, ↓wpIt, ↓pk, ↓bindT, ↓ownL, ↓lockIt, ↓unlockIt, isT, ↓setAll, ↓wipeE, ↓startE, ↓Tg.slots, ↓IEs.fine, ↓IEs.len, ↓noOwn, ↓isOwnE, ↓Sl.isO, ↓Ev.freeAll, List.replicate, if_true, if_false, reduceIte, Nat.reduceLeDiff, Nat.reduceSub, Nat.reduceAdd, eq_self, reduceCtorEq, Int.reduceLT, Nat.reduceLT, ↓wpl, wpu])
    exact h
  · refine ⟨fun x hx => ?_, fun ys hp _ => ?_⟩
    · obtain ⟨k, _, rfl⟩ := List.mem_map.mp hx
      exact ⟨_, _, rfl⟩
    · let g : Nat → PyData := fun k => .tuple [.int (mix c k % 997), .int k]
      let pr : PyData → Nat := fun x => match x with | .tuple [_, .int j] => j.toNat | _ => 0
      have hpg : ∀ k, pr (g k) = k := fun k => by simp [pr, g]
      have hys : ys = (ys.map pr).map g := by
        rw [List.map_map]
        refine (List.map_id ys).symm.trans (List.map_congr_left fun y hy => ?_)
        obtain ⟨k, _, rfl⟩ := List.mem_map.mp (hp.mem_iff.mp hy)
        exact (congrArg g (hpg k)).symm
      have hl : (ys.map pr).Perm (List.range n) := by
        have := hp.map pr
        rw [List.map_map] at this
        have e : List.map (pr ∘ fun k : Nat => PyData.tuple [.int (mix c k % 997), .int k]) (List.range n) = List.range n := by
          refine (List.map_congr_left fun k _ => ?_).trans (List.map_id _)
          exact hpg k
        rw [e] at this
        exact this
      generalize ys.map pr = l at hys hl
      subst hys
      clear hp
      have hll : l.length = n := by simpa using hl.length_eq
      have hnd : l.Nodup := hl.nodup_iff.mpr List.nodup_range
      have hb := mod_lt_ (a := c) (b := most + 1) (by omega)
      refine ⟨by omega, by omega, ?_⟩
      have hme : ∀ {a : Nat} (h : a < l.length), l[a] < n := fun {a} h => List.mem_range.mp (hl.mem_iff.mp (List.getElem_mem h))
      refine forL_rng (fun i r => ∃ os : List (Nat × Nat), r = [.val (.int c), .val (.int n), .val (.int most), .val (.list (l.map g)), .own (.list (os.map eOrd)), .un, .un, .un] ∧ os.length ≤ i ∧ ∀ o ∈ os, o.1 < n ∧ o.2 < n ∧ l.idxOf o.1 < l.idxOf o.2) ⟨[], rfl, by simp, fun o ho => by simp at ho⟩ ?_ ?_
      · rintro _ ⟨os, rfl, h1, h2⟩
        (try simp only [ir_l_orders_t0, ↓wpSs, ↓wpS, ↓wpE, ↓wpEs, ↓wpBop, ↓wpIfs, ↓wpIt, ↓pk, ↓bindT, ↓ownL, ↓lockIt, ↓unlockIt, isT, ↓setAll, ↓wipeE, ↓startE, ↓Tg.slots, ↓IEs.fine, ↓IEs.len, ↓noOwn, ↓isOwnE, ↓Sl.isO, ↓Ev.freeAll, List.replicate, if_true, if_false, reduceIte, Nat.reduceLeDiff, Nat.reduceSub, Nat.reduceAdd, eq_self, reduceCtorEq, Int.reduceLT, Nat.reduceLT, ↓wpl, wpu])
        exact q os (by omega) ⟨fun i => l.idxOf i, fun i hi => by rw [← hll]; exact List.idxOf_lt_length_of_mem (hl.mem_iff.mpr (List.mem_range.mpr hi)), h2⟩
      · rintro i _ K hi ⟨os, rfl, h1, h2⟩ hK
        (try simp only [ir_l_orders_b0, mix_ap, ↓wpSs, ↓wpS, ↓wpE, ↓wpEs, ↓wpBop, ↓wpIfs, ↓wpIt, ↓pk, ↓bindT, ↓ownL, ↓lockIt, ↓unlockIt, isT, ↓setAll, ↓wipeE, ↓startE, ↓Tg.slots, ↓IEs.fine, ↓IEs.len, ↓noOwn, ↓isOwnE, ↓Sl.isO, ↓Ev.freeAll, List.replicate, if_true, if_false, reduceIte, Nat.reduceLeDiff, Nat.reduceSub, Nat.reduceAdd, eq_self, reduceCtorEq, Int.reduceLT, Nat.reduceLT, ↓wpl, wpu])
        have b1 := mod_lt_ (a := mix c (50 + i)) (b := n) (by omega)
        have b2 := mod_lt_ (a := mix c (150 + i)) (b := n) (by omega)
        generalize mix c (50 + i) % n = a at b1
        generalize mix c (150 + i) % n = b at b2
        refine ⟨by omega, by omega, ?_⟩
        split
        · rename_i hne
          have hne : a ≠ b := by simpa using hne
          refine at_mapI (by omega) (mem_at (by omega)) ?_
          show ixP (g _) _ _
          (try simp only [g, ↓wpSs, ↓wpS, ↓wpE, ↓wpEs, ↓wpBop, ↓wpIfs, ↓wpIt, ↓pk, ↓bindT, ↓ownL, ↓lockIt, ↓unlockIt, isT, ↓setAll, ↓wipeE, ↓startE, ↓Tg.slots, ↓IEs.fine, ↓IEs.len, ↓noOwn, ↓isOwnE, ↓Sl.isO, ↓Ev.freeAll, List.replicate, if_true, if_false, reduceIte, Nat.reduceLeDiff, Nat.reduceSub, Nat.reduceAdd, eq_self, reduceCtorEq, Int.reduceLT, Nat.reduceLT, ↓wpl, wpu])
          refine at_mapI (by omega) (mem_at (by omega)) ?_
          (try simp only [g, ↓wpSs, ↓wpS, ↓wpE, ↓wpEs, ↓wpBop, ↓wpIfs, ↓wpIt, ↓pk, ↓bindT, ↓ownL, ↓lockIt, ↓unlockIt, isT, ↓setAll, ↓wipeE, ↓startE, ↓Tg.slots, ↓IEs.fine, ↓IEs.len, ↓noOwn, ↓isOwnE, ↓Sl.isO, ↓Ev.freeAll, List.replicate, if_true, if_false, reduceIte, Nat.reduceLeDiff, Nat.reduceSub, Nat.reduceAdd, eq_self, reduceCtorEq, Int.reduceLT, Nat.reduceLT, ↓wpl, wpu])
          refine ⟨by omega, ?_⟩
          refine hK _ ⟨os ++ [(l[(min a b).toNat]'(by omega), l[(max a b).toNat]'(by omega))], by rw [List.map_append]; rfl, by simp; omega, fun o ho => ?_⟩
          rw [List.mem_append, List.mem_singleton] at ho
          rcases ho with ho | rfl
          · exact h2 o ho
          · refine ⟨hme _, hme _, ?_⟩
            show l.idxOf l[(min a b).toNat] < l.idxOf l[(max a b).toNat]
            rw [hnd.idxOf_getElem, hnd.idxOf_getElem]
            omega
        · refine hK _ ⟨os, rfl, by omega, h2⟩
structure GoodFl (most : Int) (F : Fl) : Prop where
  c : GoodCr F.crews
  j1 : 1 ≤ F.jobs.length
  j2 : F.jobs.length ≤ 12
  j : ∀ j ∈ F.jobs, GoodJob F.crews most j
  o : F.orders.length ≤ 40
  r : GoodOr F.jobs.length F.orders
def g_l_floor : Pm := fun ds R => ∃ (ns : List Int) (at_ : Int) (n : Nat) (most ol : Int), ds = [.list (ns.map .int), .int at_, .int n, .int most, .int ol] ∧ 0 ≤ at_ ∧ 1 ≤ n ∧ n ≤ 12 ∧ 1 ≤ most ∧ most ≤ 50 ∧ 0 ≤ ol ∧ ol ≤ 40 ∧ ∀ F : Fl, GoodFl most F → F.jobs.length = n → F.orders.length ≤ ol.toNat → R (eFl F)
abbrev e_l_floor : FnE := ⟨"_law_floor", 5, false, g_l_floor⟩
theorem cell_ap {ns : List Int} {k : Int} {Q : PyData → Prop} (h : 0 ≤ k) (q : Q (.int (cellAt ns k.toNat))) : g_l_cell_at [.list (ns.map .int), .int k] Q := ⟨ns, k, rfl, h, q⟩
theorem sem_l_floor : ∀ ds R, ds.length = 5 → g_l_floor ds R → wpSs (Gof [e_l_crews, e_l_cell_at, e_l_job, e_l_mix, e_l_orders]) ir_l_floor (startE 8 ds) { nx := fun _ => false = false ∧ R .none, rt := R } := by
  rintro _ R _ ⟨ns, at_, n, most, ol, rfl, ha, hn1, hn2, hm1, hm2, ho1, ho2, q⟩
  (try simp only [ir_l_floor, ↓wpSs, ↓wpS, ↓wpE, ↓wpEs, ↓wpBop, ↓wpIfs, ↓wpIt, ↓pk, ↓bindT, ↓ownL, ↓lockIt, ↓unlockIt, isT, ↓setAll, ↓wipeE, ↓startE, ↓Tg.slots, ↓IEs.fine, ↓IEs.len, ↓noOwn, ↓isOwnE, ↓Sl.isO, ↓Ev.freeAll, List.replicate, if_true, if_false, reduceIte, Nat.reduceLeDiff, Nat.reduceSub, Nat.reduceAdd, eq_self, reduceCtorEq, Int.reduceLT, Nat.reduceLT, ↓wpl, wpu])
  refine cell_ap ha ⟨_, rfl, (cell_bd _ _).1, fun cs hcs => ?_⟩
  (try simp only [↓wpSs, ↓wpS, ↓wpE, ↓wpEs, ↓wpBop, ↓wpIfs, ↓wpIt, ↓pk, ↓bindT, ↓ownL, ↓lockIt, ↓unlockIt, isT, ↓setAll, ↓wipeE, ↓startE, ↓Tg.slots, ↓IEs.fine, ↓IEs.len, ↓noOwn, ↓isOwnE, ↓Sl.isO, ↓Ev.freeAll, List.replicate, if_true, if_false, reduceIte, Nat.reduceLeDiff, Nat.reduceSub, Nat.reduceAdd, eq_self, reduceCtorEq, Int.reduceLT, Nat.reduceLT, ↓wpl, wpu])
  refine ⟨by omega, ?_⟩
  refine forL_rng (fun i r => ∃ js : List (Int × List Int), r = [.val (.list (ns.map .int)), .val (.int at_), .val (.int n), .val (.int most), .val (.int ol), .val (.tuple (cs.map .int)), .own (.list (js.map eJob)), .un] ∧ js.length = i ∧ ∀ j ∈ js, GoodJob cs most j) ⟨[], rfl, rfl, fun j hj => by simp at hj⟩ ?_ ?_
  · rintro _ ⟨js, rfl, h1, h2⟩
    (try simp only [ir_l_floor_t0, ↓wpSs, ↓wpS, ↓wpE, ↓wpEs, ↓wpBop, ↓wpIfs, ↓wpIt, ↓pk, ↓bindT, ↓ownL, ↓lockIt, ↓unlockIt, isT, ↓setAll, ↓wipeE, ↓startE, ↓Tg.slots, ↓IEs.fine, ↓IEs.len, ↓noOwn, ↓isOwnE, ↓Sl.isO, ↓Ev.freeAll, List.replicate, if_true, if_false, reduceIte, Nat.reduceLeDiff, Nat.reduceSub, Nat.reduceAdd, eq_self, reduceCtorEq, Int.reduceLT, Nat.reduceLT, ↓wpl, wpu])
    refine cell_ap (by omega) ⟨_, _, _, rfl, (cell_bd _ _).1, hn1, hn2, ho1, ho2, fun os h3 h4 => ?_⟩
    (try simp only [↓wpSs, ↓wpS, ↓wpE, ↓wpEs, ↓wpBop, ↓wpIfs, ↓wpIt, ↓pk, ↓bindT, ↓ownL, ↓lockIt, ↓unlockIt, isT, ↓setAll, ↓wipeE, ↓startE, ↓Tg.slots, ↓IEs.fine, ↓IEs.len, ↓noOwn, ↓isOwnE, ↓Sl.isO, ↓Ev.freeAll, List.replicate, if_true, if_false, reduceIte, Nat.reduceLeDiff, Nat.reduceSub, Nat.reduceAdd, eq_self, reduceCtorEq, Int.reduceLT, Nat.reduceLT, ↓wpl, wpu])
    have h5 : js.length = n := by simpa using h1
    exact q ⟨cs, js, os⟩ ⟨hcs, by show 1 ≤ js.length; omega, by show js.length ≤ 12; omega, h2, by show os.length ≤ 40; omega, by show GoodOr js.length os; rw [h5]; exact h4⟩ h5 h3
  · rintro i _ K hi ⟨js, rfl, h1, h2⟩ hK
    (try simp only [ir_l_floor_b0, mix_ap, ↓wpSs, ↓wpS, ↓wpE, ↓wpEs, ↓wpBop, ↓wpIfs, ↓wpIt, ↓pk, ↓bindT, ↓ownL, ↓lockIt, ↓unlockIt, isT, ↓setAll, ↓wipeE, ↓startE, ↓Tg.slots, ↓IEs.fine, ↓IEs.len, ↓noOwn, ↓isOwnE, ↓Sl.isO, ↓Ev.freeAll, List.replicate, if_true, if_false, reduceIte, Nat.reduceLeDiff, Nat.reduceSub, Nat.reduceAdd, eq_self, reduceCtorEq, Int.reduceLT, Nat.reduceLT, ↓wpl, wpu])
    refine cell_ap (by omega) ?_
    (try simp only [mix_ap, ↓wpSs, ↓wpS, ↓wpE, ↓wpEs, ↓wpBop, ↓wpIfs, ↓wpIt, ↓pk, ↓bindT, ↓ownL, ↓lockIt, ↓unlockIt, isT, ↓setAll, ↓wipeE, ↓startE, ↓Tg.slots, ↓IEs.fine, ↓IEs.len, ↓noOwn, ↓isOwnE, ↓Sl.isO, ↓Ev.freeAll, List.replicate, if_true, if_false, reduceIte, Nat.reduceLeDiff, Nat.reduceSub, Nat.reduceAdd, eq_self, reduceCtorEq, Int.reduceLT, Nat.reduceLT, ↓wpl, wpu])
    refine ⟨_, _, _, rfl, (mix_bd _ _).1, hcs, hm1, hm2, fun j hj => ?_⟩
    (try simp only [↓wpSs, ↓wpS, ↓wpE, ↓wpEs, ↓wpBop, ↓wpIfs, ↓wpIt, ↓pk, ↓bindT, ↓ownL, ↓lockIt, ↓unlockIt, isT, ↓setAll, ↓wipeE, ↓startE, ↓Tg.slots, ↓IEs.fine, ↓IEs.len, ↓noOwn, ↓isOwnE, ↓Sl.isO, ↓Ev.freeAll, List.replicate, if_true, if_false, reduceIte, Nat.reduceLeDiff, Nat.reduceSub, Nat.reduceAdd, eq_self, reduceCtorEq, Int.reduceLT, Nat.reduceLT, ↓wpl, wpu])
    have hi : i < n := by simpa using hi
    refine ⟨by omega, hK _ ⟨js ++ [j], by rw [List.map_append]; rfl, by simp [h1], fun x hx => ?_⟩⟩
    rw [List.mem_append, List.mem_singleton] at hx
    rcases hx with hx | rfl
    · exact h2 x hx
    · exact hj
def g_l_whole : Pm := fun ds R => ∃ d, ds = [d] ∧ R (.bool (isT d .int && !isT d .bool))
abbrev e_l_whole : FnE := ⟨"_law_whole", 1, false, g_l_whole⟩
theorem whole_int {i : Int} {Q : PyData → Prop} (q : Q (.bool true)) : g_l_whole [.int i] Q := ⟨_, rfl, q⟩
theorem sem_l_whole : ∀ ds R, ds.length = 1 → g_l_whole ds R → wpSs (Gof []) ir_l_whole (startE 1 ds) { nx := fun _ => false = false ∧ R .none, rt := R } := by
  rintro _ R _ ⟨d, rfl, q⟩
  cases d <;> ((try simp only [ir_l_whole, ↓wpSs, ↓wpS, ↓wpE, ↓wpEs, ↓wpBop, ↓wpIfs, ↓wpIt, ↓pk, ↓bindT, ↓ownL, ↓lockIt, ↓unlockIt, isT, ↓setAll, ↓wipeE, ↓startE, ↓Tg.slots, ↓IEs.fine, ↓IEs.len, ↓noOwn, ↓isOwnE, ↓Sl.isO, ↓Ev.freeAll, List.replicate, if_true, if_false, reduceIte, Nat.reduceLeDiff, Nat.reduceSub, Nat.reduceAdd, eq_self, reduceCtorEq, Int.reduceLT, Nat.reduceLT, ↓wpl, wpu]); simpa [isT] using q)
def g_l_numbers : Pm := fun ds R => ∃ ns : List Int, ds = [.list (ns.map .int), .list (ns.map .int)] ∧ ns.length ≤ 1000000 ∧ R (.bool true)
abbrev e_l_numbers : FnE := ⟨"_law_numbers", 2, false, g_l_numbers⟩
theorem sem_l_numbers : ∀ ds R, ds.length = 2 → g_l_numbers ds R → wpSs (Gof [e_l_whole]) ir_l_numbers (startE 3 ds) { nx := fun _ => false = false ∧ R .none, rt := R } := by
  rintro _ R _ ⟨ns, rfl, hl, q⟩
  (try simp only [ir_l_numbers, ir_l_numbers_t1, ↓wpSs, ↓wpS, ↓wpE, ↓wpEs, ↓wpBop, ↓wpIfs, ↓wpIt, ↓pk, ↓bindT, ↓ownL, ↓lockIt, ↓unlockIt, isT, ↓setAll, ↓wipeE, ↓startE, ↓Tg.slots, ↓IEs.fine, ↓IEs.len, ↓noOwn, ↓isOwnE, ↓Sl.isO, ↓Ev.freeAll, List.replicate, if_true, if_false, reduceIte, Nat.reduceLeDiff, Nat.reduceSub, Nat.reduceAdd, eq_self, reduceCtorEq, Int.reduceLT, Nat.reduceLT, ↓wpl, wpu])
  refine ⟨by omega, ?_⟩
  refine forL_rng (fun i r => r = [.val (.list (ns.map .int)), .val (.list (ns.map .int)), .un]) rfl ?_ ?_
  · rintro _ rfl
    (try simp only [ir_l_numbers_t0, ↓wpSs, ↓wpS, ↓wpE, ↓wpEs, ↓wpBop, ↓wpIfs, ↓wpIt, ↓pk, ↓bindT, ↓ownL, ↓lockIt, ↓unlockIt, isT, ↓setAll, ↓wipeE, ↓startE, ↓Tg.slots, ↓IEs.fine, ↓IEs.len, ↓noOwn, ↓isOwnE, ↓Sl.isO, ↓Ev.freeAll, List.replicate, if_true, if_false, reduceIte, Nat.reduceLeDiff, Nat.reduceSub, Nat.reduceAdd, eq_self, reduceCtorEq, Int.reduceLT, Nat.reduceLT, ↓wpl, wpu])
    exact q
  · rintro i _ K hi rfl hK
    (try simp only [ir_l_numbers_b0, ↓wpSs, ↓wpS, ↓wpE, ↓wpEs, ↓wpBop, ↓wpIfs, ↓wpIt, ↓pk, ↓bindT, ↓ownL, ↓lockIt, ↓unlockIt, isT, ↓setAll, ↓wipeE, ↓startE, ↓Tg.slots, ↓IEs.fine, ↓IEs.len, ↓noOwn, ↓isOwnE, ↓Sl.isO, ↓Ev.freeAll, List.replicate, if_true, if_false, reduceIte, Nat.reduceLeDiff, Nat.reduceSub, Nat.reduceAdd, eq_self, reduceCtorEq, Int.reduceLT, Nat.reduceLT, ↓wpl, wpu])
    refine at_map (mem_at hi) (whole_int ?_)
    (try simp only [↓wpSs, ↓wpS, ↓wpE, ↓wpEs, ↓wpBop, ↓wpIfs, ↓wpIt, ↓pk, ↓bindT, ↓ownL, ↓lockIt, ↓unlockIt, isT, ↓setAll, ↓wipeE, ↓startE, ↓Tg.slots, ↓IEs.fine, ↓IEs.len, ↓noOwn, ↓isOwnE, ↓Sl.isO, ↓Ev.freeAll, List.replicate, if_true, if_false, reduceIte, Nat.reduceLeDiff, Nat.reduceSub, Nat.reduceAdd, eq_self, reduceCtorEq, Int.reduceLT, Nat.reduceLT, ↓wpl, wpu])
    refine at_map (mem_at hi) ?_
    (try simp only [↓wpSs, ↓wpS, ↓wpE, ↓wpEs, ↓wpBop, ↓wpIfs, ↓wpIt, ↓pk, ↓bindT, ↓ownL, ↓lockIt, ↓unlockIt, isT, ↓setAll, ↓wipeE, ↓startE, ↓Tg.slots, ↓IEs.fine, ↓IEs.len, ↓noOwn, ↓isOwnE, ↓Sl.isO, ↓Ev.freeAll, List.replicate, if_true, if_false, reduceIte, Nat.reduceLeDiff, Nat.reduceSub, Nat.reduceAdd, eq_self, reduceCtorEq, Int.reduceLT, Nat.reduceLT, ↓wpl, wpu])
    refine at_map (mem_at hi) ?_
    (try simp only [↓wpSs, ↓wpS, ↓wpE, ↓wpEs, ↓wpBop, ↓wpIfs, ↓wpIt, ↓pk, ↓bindT, ↓ownL, ↓lockIt, ↓unlockIt, isT, ↓setAll, ↓wipeE, ↓startE, ↓Tg.slots, ↓IEs.fine, ↓IEs.len, ↓noOwn, ↓isOwnE, ↓Sl.isO, ↓Ev.freeAll, List.replicate, if_true, if_false, reduceIte, Nat.reduceLeDiff, Nat.reduceSub, Nat.reduceAdd, eq_self, reduceCtorEq, Int.reduceLT, Nat.reduceLT, ↓wpl, wpu])
    exact hK _ rfl
theorem floor_ap {ns : List Int} {at_ n most ol : Int} {Q : PyData → Prop} (ha : 0 ≤ at_) (hn1 : 1 ≤ n) (hn2 : n ≤ 12) (hm1 : 1 ≤ most) (hm2 : most ≤ 50) (ho1 : 0 ≤ ol) (ho2 : ol ≤ 40)
    (q : ∀ F : Fl, GoodFl most F → (F.jobs.length : Int) = n → F.orders.length ≤ ol.toNat → Q (eFl F)) : g_l_floor [.list (ns.map .int), .int at_, .int n, .int most, .int ol] Q := by
  obtain ⟨m, rfl⟩ := Int.eq_ofNat_of_zero_le (show 0 ≤ n by omega)
  exact ⟨ns, at_, m, most, ol, rfl, ha, by omega, by omega, hm1, hm2, ho1, ho2, fun F h1 h2 h3 => q F h1 (by rw [h2]) h3⟩
theorem good_mono {a b : Int} (h : a ≤ b) {F : Fl} (hF : GoodFl a F) : GoodFl b F := ⟨hF.c, hF.j1, hF.j2, fun j hj => ⟨(hF.j j hj).1, Int.le_trans (hF.j j hj).2.1 h, (hF.j j hj).2.2⟩, hF.o, hF.r⟩
end CF
namespace CF
open PySem PySem.Spec PyProof.Rows L2
-- 0 at, 1 hours, 2 begin, 3 end
def ir_shared : ISs :=
  (.cons (.ret (.blt .max2 (.cons (.kint 0) (.cons (.bin .Sub (.blt .min2 (.cons (.bin .Add (.var 0) (.var 1)) (.cons (.var 3) .nil))) (.blt .max2 (.cons (.var 0) (.cons (.var 2) .nil)))) .nil))))
  .nil)
-- calls: 
-- 0 window, 1 hours, 2 begin, 3 end
def ir_within : ISs :=
  (.cons (.ret (.blt .min2 (.cons (.call 0 (.cons (.ix (.var 0) (.kint 0)) (.cons (.var 1) (.cons (.var 2) (.cons (.var 3) .nil))))) (.cons (.call 0 (.cons (.ix (.var 0) (.kint 1)) (.cons (.var 1) (.cons (.var 2) (.cons (.var 3) .nil))))) .nil))))
  .nil)
-- calls: shared
-- 0 floor, 1 found, 2 crew, 3 begin, 4 end, 5 total, 6 job, 7 hours, 8 needs
def ir_asked_b0 : ISs :=
  (.cons (.setT [7, 8] (.ix (.ix (.var 0) (.kint 1)) (.var 6)))
  (.cons (.set 5 (.bin .Add (.var 5) (.bin .Mult (.ix (.var 8) (.var 2)) (.call 0 (.cons (.ix (.var 1) (.var 6)) (.cons (.var 7) (.cons (.var 3) (.cons (.var 4) .nil))))))))
  (.fgt [6, 7, 8] .nil)))
def ir_asked_t0 : ISs :=
  (.cons (.ret (.var 5))
  .nil)
def ir_asked : ISs :=
  (.cons (.set 5 (.kint 0))
  (.cons (.fors (.one 6) (.rng (.cons (.blt .len (.cons (.ix (.var 0) (.kint 1)) .nil)) .nil)) ir_asked_b0)
  ir_asked_t0))
-- calls: within
-- 0 _law_start, 1 _law_hours, 2 _law_begin, 3 _law_end, 4 _law_low, 5 _law_high
def ir_l_inside : ISs :=
  (.cons (.set 4 (.blt .max2 (.cons (.var 0) (.cons (.var 2) .nil))))
  (.cons (.set 5 (.blt .min2 (.cons (.bin .Add (.var 0) (.var 1)) (.cons (.var 3) .nil))))
  (.cons (.ret (.ix (.lst (.cons (.kint 0) (.cons (.bin .Sub (.var 5) (.var 4)) .nil))) (.blt .int1 (.cons (.cmp .Gt (.var 5) (.var 4)) .nil))))
  .nil)))
-- calls: 
-- 0 _law_window, 1 _law_hours, 2 _law_begin, 3 _law_end
def ir_l_within : ISs :=
  (.cons (.ret (.blt .min2 (.cons (.call 0 (.cons (.ix (.var 0) (.kint 0)) (.cons (.var 1) (.cons (.var 2) (.cons (.var 3) .nil))))) (.cons (.call 0 (.cons (.ix (.var 0) (.kint 1)) (.cons (.var 1) (.cons (.var 2) (.cons (.var 3) .nil))))) .nil))))
  .nil)
-- calls: _law_inside
-- 0 _law_floor_here, 1 _law_found, 2 _law_crew, 3 _law_begin, 4 _law_end, 5 _law_total, 6 _law_job_here, 7 _law_hours, 8 _law_needs
def ir_l_asked_b0 : ISs :=
  (.cons (.setT [7, 8] (.ix (.ix (.var 0) (.kint 1)) (.var 6)))
  (.cons (.set 5 (.bin .Add (.var 5) (.bin .Mult (.ix (.var 8) (.var 2)) (.call 0 (.cons (.ix (.var 1) (.var 6)) (.cons (.var 7) (.cons (.var 3) (.cons (.var 4) .nil))))))))
  (.fgt [6, 7, 8] .nil)))
def ir_l_asked_t0 : ISs :=
  (.cons (.ret (.var 5))
  .nil)
def ir_l_asked : ISs :=
  (.cons (.set 5 (.kint 0))
  (.cons (.fors (.one 6) (.rng (.cons (.blt .len (.cons (.ix (.var 0) (.kint 1)) .nil)) .nil)) ir_l_asked_b0)
  ir_l_asked_t0))
-- calls: _law_within
end CF
namespace CF
open PySem PySem.Spec PyProof.Rows L2
/-! ### hours within a stretch -/
def mShared (a h b e : Int) : Int := max 0 (min (a + h) e - max a b)
def mWithin (w : Int × Int) (h b e : Int) : Int := min (mShared w.1 h b e) (mShared w.2 h b e)
def sumTo (f : Nat → Int) : Nat → Int
  | 0 => 0
  | n + 1 => sumTo f n + f n
def Fl.h (F : Fl) (k : Nat) : Int := (F.jobs.getD k (0, [])).1
def Fl.need (F : Fl) (k c : Nat) : Int := (F.jobs.getD k (0, [])).2.getD c 0
def mAsked (F : Fl) (W : List (Int × Int)) (c : Nat) (b e : Int) : Int := sumTo (fun k => F.need k c * mWithin (W.getD k (0, 0)) (F.h k) b e) F.jobs.length
theorem getD_of {α : Type} {l : List α} {k : Nat} {d : α} (h : k < l.length) : l.getD k d = l[k] := by simp [h]
def g_shared : Pm := fun ds R => ∃ a h b e : Int, ds = [.int a, .int h, .int b, .int e] ∧ R (.int (mShared a h b e))
abbrev e_shared : FnE := ⟨"shared", 4, false, g_shared⟩
theorem shared_ap {a h b e : Int} {Q : PyData → Prop} (q : Q (.int (mShared a h b e))) : g_shared [.int a, .int h, .int b, .int e] Q := ⟨a, h, b, e, rfl, q⟩
theorem sem_shared : ∀ ds R, ds.length = 4 → g_shared ds R → wpSs (Gof []) ir_shared (startE 4 ds) { nx := fun _ => false = false ∧ R .none, rt := R } := by
  rintro _ R _ ⟨a, h, b, e, rfl, q⟩
  (try simp only [ir_shared, ↓wpSs, ↓wpS, ↓wpE, ↓wpEs, ↓wpBop, ↓wpIfs, ↓wpIt, ↓pk, ↓bindT, ↓ownL, ↓lockIt, ↓unlockIt, isT, ↓setAll, ↓wipeE, ↓startE, ↓Tg.slots, ↓IEs.fine, ↓IEs.len, ↓noOwn, ↓isOwnE, ↓Sl.isO, ↓Ev.freeAll, List.replicate, if_true, if_false, reduceIte, Nat.reduceLeDiff, Nat.reduceSub, Nat.reduceAdd, eq_self, reduceCtorEq, Int.reduceLT, Nat.reduceLT, ↓wpl, wpu])
  exact q
def g_within : Pm := fun ds R => ∃ (w : Int × Int) (h b e : Int), ds = [eP w, .int h, .int b, .int e] ∧ R (.int (mWithin w h b e))
abbrev e_within : FnE := ⟨"within", 4, false, g_within⟩
theorem within_ap {w : Int × Int} {h b e : Int} {Q : PyData → Prop} (q : Q (.int (mWithin w h b e))) : g_within [eP w, .int h, .int b, .int e] Q := ⟨w, h, b, e, rfl, q⟩
theorem sem_within : ∀ ds R, ds.length = 4 → g_within ds R → wpSs (Gof [e_shared]) ir_within (startE 4 ds) { nx := fun _ => false = false ∧ R .none, rt := R } := by
  rintro _ R _ ⟨w, h, b, e, rfl, q⟩
  (try simp only [ir_within, ↓wpSs, ↓wpS, ↓wpE, ↓wpEs, ↓wpBop, ↓wpIfs, ↓wpIt, ↓pk, ↓bindT, ↓ownL, ↓lockIt, ↓unlockIt, isT, ↓setAll, ↓wipeE, ↓startE, ↓Tg.slots, ↓IEs.fine, ↓IEs.len, ↓noOwn, ↓isOwnE, ↓Sl.isO, ↓Ev.freeAll, List.replicate, if_true, if_false, reduceIte, Nat.reduceLeDiff, Nat.reduceSub, Nat.reduceAdd, eq_self, reduceCtorEq, Int.reduceLT, Nat.reduceLT, ↓wpl, wpu])
  refine shared_ap ?_
  (try simp only [↓wpSs, ↓wpS, ↓wpE, ↓wpEs, ↓wpBop, ↓wpIfs, ↓wpIt, ↓pk, ↓bindT, ↓ownL, ↓lockIt, ↓unlockIt, isT, ↓setAll, ↓wipeE, ↓startE, ↓Tg.slots, ↓IEs.fine, ↓IEs.len, ↓noOwn, ↓isOwnE, ↓Sl.isO, ↓Ev.freeAll, List.replicate, if_true, if_false, reduceIte, Nat.reduceLeDiff, Nat.reduceSub, Nat.reduceAdd, eq_self, reduceCtorEq, Int.reduceLT, Nat.reduceLT, ↓wpl, wpu])
  refine shared_ap ?_
  (try simp only [↓wpSs, ↓wpS, ↓wpE, ↓wpEs, ↓wpBop, ↓wpIfs, ↓wpIt, ↓pk, ↓bindT, ↓ownL, ↓lockIt, ↓unlockIt, isT, ↓setAll, ↓wipeE, ↓startE, ↓Tg.slots, ↓IEs.fine, ↓IEs.len, ↓noOwn, ↓isOwnE, ↓Sl.isO, ↓Ev.freeAll, List.replicate, if_true, if_false, reduceIte, Nat.reduceLeDiff, Nat.reduceSub, Nat.reduceAdd, eq_self, reduceCtorEq, Int.reduceLT, Nat.reduceLT, ↓wpl, wpu])
  exact q
def g_asked : Pm := fun ds R => ∃ (F : Fl) (W : List (Int × Int)) (c : Nat) (b e : Int), ds = [eFl F, .list (W.map eP), .int c, .int b, .int e] ∧ GoodFl 50 F ∧ W.length = F.jobs.length ∧ c < F.crews.length ∧ R (.int (mAsked F W c b e))
abbrev e_asked : FnE := ⟨"asked", 5, false, g_asked⟩
theorem asked_ap {F : Fl} {W : List (Int × Int)} {c : Nat} {b e : Int} {Q : PyData → Prop} (hF : GoodFl 50 F) (hW : W.length = F.jobs.length) (hc : c < F.crews.length) (q : Q (.int (mAsked F W c b e))) : g_asked [eFl F, .list (W.map eP), .int c, .int b, .int e] Q := ⟨F, W, c, b, e, rfl, hF, hW, hc, q⟩
theorem need_bd {F : Fl} {most : Int} (hF : GoodFl most F) {k c : Nat} (hk : k < F.jobs.length) (hc : c < F.crews.length) : ∃ h : c < (F.jobs[k]).2.length, (F.jobs[k]).2[c] = F.need k c ∧ 0 ≤ F.need k c ∧ F.need k c ≤ F.crews[c] ∧ F.need k c ≤ 50 := by
  obtain ⟨h1, h2, h3, h4⟩ := hF.j F.jobs[k] (List.getElem_mem hk)
  have hl : c < (F.jobs[k]).2.length := by omega
  have e : (F.jobs[k]).2[c] = F.need k c := by
    unfold Fl.need
    rw [getD_of hk, getD_of hl]
  have hb := h4 c _ _ (mem_at hc) (mem_at hl)
  have hcb := hF.c.2.2 F.crews[c] (List.getElem_mem hc)
  exact ⟨hl, e, by omega, by omega, by omega⟩
theorem hours_bd {F : Fl} {most : Int} (hF : GoodFl most F) {k : Nat} (hk : k < F.jobs.length) : (F.jobs[k]).1 = F.h k ∧ 1 ≤ F.h k ∧ F.h k ≤ most := by
  obtain ⟨h1, h2, _⟩ := hF.j F.jobs[k] (List.getElem_mem hk)
  have e : (F.jobs[k]).1 = F.h k := by
    unfold Fl.h
    rw [getD_of hk]
  exact ⟨e, by omega, by omega⟩
theorem asked_gen {G : Nat → Pm} (hG : G 0 = g_within) : ∀ ds R, ds.length = 5 → g_asked ds R → wpSs G ir_asked (startE 9 ds) { nx := fun _ => false = false ∧ R .none, rt := R } := by
  rintro _ R _ ⟨F, W, c, b, e, rfl, hF, hW, hc, q⟩
  (try simp only [ir_asked, ↓wpSs, ↓wpS, ↓wpE, ↓wpEs, ↓wpBop, ↓wpIfs, ↓wpIt, ↓pk, ↓bindT, ↓ownL, ↓lockIt, ↓unlockIt, isT, ↓setAll, ↓wipeE, ↓startE, ↓Tg.slots, ↓IEs.fine, ↓IEs.len, ↓noOwn, ↓isOwnE, ↓Sl.isO, ↓Ev.freeAll, List.replicate, if_true, if_false, reduceIte, Nat.reduceLeDiff, Nat.reduceSub, Nat.reduceAdd, eq_self, reduceCtorEq, Int.reduceLT, Nat.reduceLT, ↓wpl, wpu])
  have := hF.j2
  refine ⟨by omega, ?_⟩
  refine forL_rng (fun i r => r = [.val (eFl F), .val (.list (W.map eP)), .val (.int c), .val (.int b), .val (.int e), .val (.int (sumTo (fun k => F.need k c * mWithin (W.getD k (0, 0)) (F.h k) b e) i)), .un, .un, .un]) rfl ?_ ?_
  · rintro _ rfl
    (try simp only [ir_asked_t0, ↓wpSs, ↓wpS, ↓wpE, ↓wpEs, ↓wpBop, ↓wpIfs, ↓wpIt, ↓pk, ↓bindT, ↓ownL, ↓lockIt, ↓unlockIt, isT, ↓setAll, ↓wipeE, ↓startE, ↓Tg.slots, ↓IEs.fine, ↓IEs.len, ↓noOwn, ↓isOwnE, ↓Sl.isO, ↓Ev.freeAll, List.replicate, if_true, if_false, reduceIte, Nat.reduceLeDiff, Nat.reduceSub, Nat.reduceAdd, eq_self, reduceCtorEq, Int.reduceLT, Nat.reduceLT, ↓wpl, wpu])
    exact q
  · rintro i _ K hi rfl hK
    obtain ⟨hl, e1, e2, e3, e4⟩ := need_bd hF hi hc
    (try simp only [ir_asked_b0, hG, ↓wpSs, ↓wpS, ↓wpE, ↓wpEs, ↓wpBop, ↓wpIfs, ↓wpIt, ↓pk, ↓bindT, ↓ownL, ↓lockIt, ↓unlockIt, isT, ↓setAll, ↓wipeE, ↓startE, ↓Tg.slots, ↓IEs.fine, ↓IEs.len, ↓noOwn, ↓isOwnE, ↓Sl.isO, ↓Ev.freeAll, List.replicate, if_true, if_false, reduceIte, Nat.reduceLeDiff, Nat.reduceSub, Nat.reduceAdd, eq_self, reduceCtorEq, Int.reduceLT, Nat.reduceLT, ↓wpl, wpu])
    refine at_map (mem_at hi) ?_
    (try simp only [↓wpSs, ↓wpS, ↓wpE, ↓wpEs, ↓wpBop, ↓wpIfs, ↓wpIt, ↓pk, ↓bindT, ↓ownL, ↓lockIt, ↓unlockIt, isT, ↓setAll, ↓wipeE, ↓startE, ↓Tg.slots, ↓IEs.fine, ↓IEs.len, ↓noOwn, ↓isOwnE, ↓Sl.isO, ↓Ev.freeAll, List.replicate, if_true, if_false, reduceIte, Nat.reduceLeDiff, Nat.reduceSub, Nat.reduceAdd, eq_self, reduceCtorEq, Int.reduceLT, Nat.reduceLT, ↓wpl, wpu])
    refine at_map (mem_at hl) ?_
    (try simp only [↓wpSs, ↓wpS, ↓wpE, ↓wpEs, ↓wpBop, ↓wpIfs, ↓wpIt, ↓pk, ↓bindT, ↓ownL, ↓lockIt, ↓unlockIt, isT, ↓setAll, ↓wipeE, ↓startE, ↓Tg.slots, ↓IEs.fine, ↓IEs.len, ↓noOwn, ↓isOwnE, ↓Sl.isO, ↓Ev.freeAll, List.replicate, if_true, if_false, reduceIte, Nat.reduceLeDiff, Nat.reduceSub, Nat.reduceAdd, eq_self, reduceCtorEq, Int.reduceLT, Nat.reduceLT, ↓wpl, wpu])
    refine at_map (mem_at (k := i) (by omega)) (within_ap ?_)
    (try simp only [↓wpSs, ↓wpS, ↓wpE, ↓wpEs, ↓wpBop, ↓wpIfs, ↓wpIt, ↓pk, ↓bindT, ↓ownL, ↓lockIt, ↓unlockIt, isT, ↓setAll, ↓wipeE, ↓startE, ↓Tg.slots, ↓IEs.fine, ↓IEs.len, ↓noOwn, ↓isOwnE, ↓Sl.isO, ↓Ev.freeAll, List.replicate, if_true, if_false, reduceIte, Nat.reduceLeDiff, Nat.reduceSub, Nat.reduceAdd, eq_self, reduceCtorEq, Int.reduceLT, Nat.reduceLT, ↓wpl, wpu])
    refine ⟨cmul_l (by rw [e1]; omega), hK _ ?_⟩
    rw [e1, sumTo, getD_of (show i < W.length by omega), (hours_bd hF hi).1]
theorem sem_asked : ∀ ds R, ds.length = 5 → g_asked ds R → wpSs (Gof [e_within]) ir_asked (startE 9 ds) { nx := fun _ => false = false ∧ R .none, rt := R } := asked_gen rfl
/-! ### the same, reckoned by a law -/
abbrev g_l_inside : Pm := g_shared
abbrev e_l_inside : FnE := ⟨"_law_inside", 4, false, g_l_inside⟩
theorem sem_l_inside : ∀ ds R, ds.length = 4 → g_l_inside ds R → wpSs (Gof []) ir_l_inside (startE 6 ds) { nx := fun _ => false = false ∧ R .none, rt := R } := by
  rintro _ R _ ⟨a, h, b, e, rfl, q⟩
  (try simp only [ir_l_inside, ↓wpSs, ↓wpS, ↓wpE, ↓wpEs, ↓wpBop, ↓wpIfs, ↓wpIt, ↓pk, ↓bindT, ↓ownL, ↓lockIt, ↓unlockIt, isT, ↓setAll, ↓wipeE, ↓startE, ↓Tg.slots, ↓IEs.fine, ↓IEs.len, ↓noOwn, ↓isOwnE, ↓Sl.isO, ↓Ev.freeAll, List.replicate, if_true, if_false, reduceIte, Nat.reduceLeDiff, Nat.reduceSub, Nat.reduceAdd, eq_self, reduceCtorEq, Int.reduceLT, Nat.reduceLT, ↓wpl, wpu])
  unfold mShared at q
  by_cases hc : max a b < min (a + h) e
  · rw [if_pos hc]
    (try simp only [↓wpSs, ↓wpS, ↓wpE, ↓wpEs, ↓wpBop, ↓wpIfs, ↓wpIt, ↓pk, ↓bindT, ↓ownL, ↓lockIt, ↓unlockIt, isT, ↓setAll, ↓wipeE, ↓startE, ↓Tg.slots, ↓IEs.fine, ↓IEs.len, ↓noOwn, ↓isOwnE, ↓Sl.isO, ↓Ev.freeAll, List.replicate, if_true, if_false, reduceIte, Nat.reduceLeDiff, Nat.reduceSub, Nat.reduceAdd, eq_self, reduceCtorEq, Int.reduceLT, Nat.reduceLT, ↓wpl, wpu])
    rw [Int.max_eq_right (by omega)] at q
    exact q
  · rw [if_neg hc]
    (try simp only [↓wpSs, ↓wpS, ↓wpE, ↓wpEs, ↓wpBop, ↓wpIfs, ↓wpIt, ↓pk, ↓bindT, ↓ownL, ↓lockIt, ↓unlockIt, isT, ↓setAll, ↓wipeE, ↓startE, ↓Tg.slots, ↓IEs.fine, ↓IEs.len, ↓noOwn, ↓isOwnE, ↓Sl.isO, ↓Ev.freeAll, List.replicate, if_true, if_false, reduceIte, Nat.reduceLeDiff, Nat.reduceSub, Nat.reduceAdd, eq_self, reduceCtorEq, Int.reduceLT, Nat.reduceLT, ↓wpl, wpu])
    rw [Int.max_eq_left (by omega)] at q
    exact q
abbrev g_l_within : Pm := g_within
abbrev e_l_within : FnE := ⟨"_law_within", 4, false, g_l_within⟩
theorem sem_l_within : ∀ ds R, ds.length = 4 → g_l_within ds R → wpSs (Gof [e_l_inside]) ir_l_within (startE 4 ds) { nx := fun _ => false = false ∧ R .none, rt := R } := by
  rintro _ R _ ⟨w, h, b, e, rfl, q⟩
  (try simp only [ir_l_within, ↓wpSs, ↓wpS, ↓wpE, ↓wpEs, ↓wpBop, ↓wpIfs, ↓wpIt, ↓pk, ↓bindT, ↓ownL, ↓lockIt, ↓unlockIt, isT, ↓setAll, ↓wipeE, ↓startE, ↓Tg.slots, ↓IEs.fine, ↓IEs.len, ↓noOwn, ↓isOwnE, ↓Sl.isO, ↓Ev.freeAll, List.replicate, if_true, if_false, reduceIte, Nat.reduceLeDiff, Nat.reduceSub, Nat.reduceAdd, eq_self, reduceCtorEq, Int.reduceLT, Nat.reduceLT, ↓wpl, wpu])
  refine shared_ap ?_
  (try simp only [↓wpSs, ↓wpS, ↓wpE, ↓wpEs, ↓wpBop, ↓wpIfs, ↓wpIt, ↓pk, ↓bindT, ↓ownL, ↓lockIt, ↓unlockIt, isT, ↓setAll, ↓wipeE, ↓startE, ↓Tg.slots, ↓IEs.fine, ↓IEs.len, ↓noOwn, ↓isOwnE, ↓Sl.isO, ↓Ev.freeAll, List.replicate, if_true, if_false, reduceIte, Nat.reduceLeDiff, Nat.reduceSub, Nat.reduceAdd, eq_self, reduceCtorEq, Int.reduceLT, Nat.reduceLT, ↓wpl, wpu])
  refine shared_ap ?_
  (try simp only [↓wpSs, ↓wpS, ↓wpE, ↓wpEs, ↓wpBop, ↓wpIfs, ↓wpIt, ↓pk, ↓bindT, ↓ownL, ↓lockIt, ↓unlockIt, isT, ↓setAll, ↓wipeE, ↓startE, ↓Tg.slots, ↓IEs.fine, ↓IEs.len, ↓noOwn, ↓isOwnE, ↓Sl.isO, ↓Ev.freeAll, List.replicate, if_true, if_false, reduceIte, Nat.reduceLeDiff, Nat.reduceSub, Nat.reduceAdd, eq_self, reduceCtorEq, Int.reduceLT, Nat.reduceLT, ↓wpl, wpu])
  exact q
abbrev g_l_asked : Pm := g_asked
abbrev e_l_asked : FnE := ⟨"_law_asked", 5, false, g_l_asked⟩
theorem sem_l_asked : ∀ ds R, ds.length = 5 → g_l_asked ds R → wpSs (Gof [e_l_within]) ir_l_asked (startE 9 ds) { nx := fun _ => false = false ∧ R .none, rt := R } := asked_gen rfl
end CF
namespace CF
open PySem PySem.Spec PyProof.Rows L2
/-! ### vectors by functions -/
def vec {α : Type} (n : Nat) (f : Nat → α) : List α := (List.range n).map f
theorem vec_len {α : Type} {n : Nat} {f : Nat → α} : (vec n f).length = n := by simp [vec]
theorem vec_get {α : Type} {n : Nat} {f : Nat → α} {j : Nat} (h : j < n) : (vec n f)[j]? = some (f j) := by simp [vec, h]
theorem vec_getD {α : Type} {n : Nat} {f : Nat → α} {j : Nat} {d : α} (h : j < n) : (vec n f).getD j d = f j := by rw [List.getD_eq_getElem?_getD, vec_get h]; rfl
def fset {α : Type} (f : Nat → α) (i : Nat) (v : α) : Nat → α := fun k => if k = i then v else f k
theorem fset_same {α : Type} {f : Nat → α} {i : Nat} {v : α} : fset f i v i = v := if_pos rfl
theorem fset_ne {α : Type} {f : Nat → α} {i j : Nat} {v : α} (h : j ≠ i) : fset f i v j = f j := if_neg h
theorem vec_set {α : Type} {n : Nat} {f : Nat → α} {j : Nat} {v : α} : (vec n f).set j v = vec n (fset f j v) := by
  refine List.ext_getElem? fun i => ?_
  by_cases hi : i < n
  · rw [vec_get hi]
    by_cases hj : j = i
    · subst hj
      rw [List.getElem?_set_self (by rw [vec_len]; exact hi), fset_same]
    · rw [List.getElem?_set_ne hj, vec_get hi, fset_ne (fun e => hj e.symm)]
  · rw [List.getElem?_eq_none (by rw [List.length_set, vec_len]; omega), List.getElem?_eq_none (by rw [vec_len]; omega)]
theorem vec_map {α β : Type} {n : Nat} {f : Nat → α} {g : α → β} : (vec n f).map g = vec n fun k => g (f k) := by simp [vec, Function.comp_def]
theorem vec_congr {α : Type} {n : Nat} {f g : Nat → α} (h : ∀ k, k < n → f k = g k) : vec n f = vec n g := List.map_congr_left fun k hk => h k (List.mem_range.mp hk)
theorem vec_mem {α : Type} {n : Nat} {f : Nat → α} {x : α} : x ∈ vec n f ↔ ∃ k, k < n ∧ f k = x := by simp [vec]
theorem vec_of {α : Type} {l : List α} {d : α} : l = vec l.length fun k => l.getD k d := by
  refine List.ext_getElem? fun i => ?_
  by_cases hi : i < l.length
  · rw [vec_get hi, getD_of hi]; simp [hi]
  · rw [List.getElem?_eq_none (by omega), List.getElem?_eq_none (by rw [vec_len]; omega)]
/-! ### relaxing along arcs -/
structure Arc where
  s : Nat
  t : Nat
  w : Int
def rlx1 (f : Nat → Int) (e : Arc) : Nat → Int := fset f e.t (max (f e.t) (f e.s + e.w))
def rlx (E : List Arc) (f : Nat → Int) : Nat → Int := E.foldl rlx1 f
def swp (E : List Arc) : Nat → (Nat → Int) → Nat → Int
  | 0, f => f
  | k + 1, f => rlx E (swp E k f)
def Clo (E : List Arc) (f : Nat → Int) : Prop := ∀ e ∈ E, f e.s + e.w ≤ f e.t
theorem rlx1_ge {f : Nat → Int} {e : Arc} (k : Nat) : f k ≤ rlx1 f e k := by
  unfold rlx1
  by_cases h : k = e.t
  · subst h; rw [fset_same]; omega
  · rw [fset_ne h]; omega
theorem rlx_ge : ∀ {E : List Arc} {f : Nat → Int} (k : Nat), f k ≤ rlx E f k
  | [], f, k => Int.le_refl _
  | e :: E, f, k => Int.le_trans (rlx1_ge k) (rlx_ge (E := E) k)
theorem rlx1_id {f : Nat → Int} {e : Arc} (h : f e.s + e.w ≤ f e.t) : rlx1 f e = f := by
  funext k
  unfold rlx1
  by_cases hk : k = e.t
  · subst hk; rw [fset_same]; omega
  · rw [fset_ne hk]
theorem rlx_id : ∀ {E : List Arc} {f : Nat → Int}, Clo E f → rlx E f = f
  | [], f, h => rfl
  | e :: E, f, h => by
    show rlx E (rlx1 f e) = f
    rw [rlx1_id (h e List.mem_cons_self)]
    exact rlx_id fun e he => h e (List.mem_cons_of_mem _ he)
theorem clo_of_id : ∀ {E : List Arc} {f : Nat → Int}, rlx E f = f → Clo E f
  | [], f, h => fun e he => by simp at he
  | e :: E, f, h => by
    have h' : rlx E (rlx1 f e) = f := h
    have h1 : rlx1 f e = f := by
      funext k
      have a := rlx1_ge (f := f) (e := e) k
      have b := rlx_ge (E := E) (f := rlx1 f e) k
      rw [h'] at b
      omega
    rw [h1] at h'
    intro e' he'
    rcases List.mem_cons.mp he' with rfl | he'
    · have := congrFun h1 e'.t
      unfold rlx1 at this
      rw [fset_same] at this
      omega
    · exact clo_of_id h' e' he'
theorem swp_ge {E : List Arc} {f : Nat → Int} : ∀ (i : Nat) (k : Nat), f k ≤ swp E i f k
  | 0, k => Int.le_refl _
  | i + 1, k => Int.le_trans (swp_ge i k) (rlx_ge k)
/-- what is closed already stays, one more rank is closed -/
theorem rlx_rank {E : List Arc} {rank : Nat → Nat} (hr : ∀ e ∈ E, rank e.s < rank e.t) {i : Nat} {f : Nat → Int} (h : ∀ e ∈ E, rank e.t < i → f e.s + e.w ≤ f e.t) :
    (∀ k, rank k < i → rlx E f k = f k) ∧ ∀ e ∈ E, rank e.t < i + 1 → rlx E f e.s + e.w ≤ rlx E f e.t := by
  have key : ∀ (L : List Arc) (g : Nat → Int), (∀ e ∈ L, e ∈ E) → (∀ k, rank k < i → g k = f k) → (∀ k, rank k < i → rlx L g k = f k) ∧ ∀ e ∈ L, rank e.t < i + 1 → f e.s + e.w ≤ rlx L g e.t := by
    intro L
    induction L with
    | nil => exact fun g _ hg => ⟨hg, fun e he => by simp at he⟩
    | cons e L ih =>
      intro g hL hg
      have he := hL e List.mem_cons_self
      have hst := hr e he
      have hg' : ∀ k, rank k < i → rlx1 g e k = f k := fun k hk => by
        unfold rlx1
        by_cases hkt : k = e.t
        · subst hkt
          have h1 := h e he hk
          rw [fset_same, hg _ hk, hg _ (by omega)]
          omega
        · rw [fset_ne hkt, hg k hk]
      obtain ⟨h1, h2⟩ := ih (rlx1 g e) (fun e' he' => hL e' (List.mem_cons_of_mem _ he')) hg'
      refine ⟨h1, fun e' he' hk => ?_⟩
      rcases List.mem_cons.mp he' with rfl | he'
      · have h3 := rlx_ge (E := L) (f := rlx1 g e') e'.t
        have h4 : g e'.s + e'.w ≤ rlx1 g e' e'.t := by
          unfold rlx1
          rw [fset_same]
          omega
        rw [hg e'.s (by omega)] at h4
        show _ ≤ rlx L (rlx1 g e') e'.t
        omega
      · exact h2 e' he' hk
  obtain ⟨h1, h2⟩ := key E f (fun _ h => h) fun _ _ => rfl
  refine ⟨h1, fun e he hk => ?_⟩
  have := h2 e he hk
  rw [h1 e.s (by have := hr e he; omega)]
  exact this
theorem swp_rank {E : List Arc} {rank : Nat → Nat} (hr : ∀ e ∈ E, rank e.s < rank e.t) {f : Nat → Int} : ∀ i : Nat, ∀ e ∈ E, rank e.t < i → swp E i f e.s + e.w ≤ swp E i f e.t
  | 0 => fun e _ h => by omega
  | i + 1 => (rlx_rank hr (swp_rank hr i)).2
theorem swp_clo {E : List Arc} {n : Nat} {rank : Nat → Nat} (hr : ∀ e ∈ E, rank e.s < rank e.t ∧ rank e.t < n) {f : Nat → Int} : Clo E (swp E n f) := fun e he => swp_rank (fun e he => (hr e he).1) n e he (hr e he).2
theorem swp_add {E : List Arc} {f : Nat → Int} {i : Nat} (h : Clo E (swp E i f)) : ∀ k, swp E (i + k) f = swp E i f
  | 0 => rfl
  | k + 1 => by
    show rlx E (swp E (i + k) f) = _
    rw [swp_add h k]
    exact rlx_id h
/-- the least closed one above -/
theorem rlx_le {g : Nat → Int} : ∀ {E : List Arc} {f : Nat → Int}, Clo E g → (∀ k, f k ≤ g k) → ∀ k, rlx E f k ≤ g k
  | [], f, hg, h, k => h k
  | e :: E, f, hg, h, k => by
    refine rlx_le (E := E) (fun e he => hg e (List.mem_cons_of_mem _ he)) (fun k => ?_) k
    unfold rlx1
    by_cases hk : k = e.t
    · subst hk
      rw [fset_same]
      have := hg e List.mem_cons_self
      have := h e.s
      have := h e.t
      omega
    · rw [fset_ne hk]; exact h k
theorem swp_le {g : Nat → Int} {E : List Arc} {f : Nat → Int} (hg : Clo E g) (h : ∀ k, f k ≤ g k) : ∀ (i : Nat) (k : Nat), swp E i f k ≤ g k
  | 0, k => h k
  | i + 1, k => rlx_le hg (swp_le hg h i) k
/-- each value is what it was, or comes along an arc -/
def Att (E : List Arc) (f0 f : Nat → Int) : Prop := ∀ k, f k = f0 k ∨ ∃ e ∈ E, e.t = k ∧ f k ≤ f e.s + e.w
theorem att_rlx {E : List Arc} {f0 : Nat → Int} : ∀ {L : List Arc} {f : Nat → Int}, (∀ e ∈ L, e ∈ E ∧ e.s ≠ e.t) → Att E f0 f → Att E f0 (rlx L f)
  | [], f, hL, h => h
  | e :: L, f, hL, h => by
    refine att_rlx (L := L) (fun e he => hL e (List.mem_cons_of_mem _ he)) fun k => ?_
    obtain ⟨he, hne⟩ := hL e List.mem_cons_self
    have up : ∀ j, f j ≤ rlx1 f e j := fun j => rlx1_ge j
    by_cases hk : k = e.t
    · subst hk
      by_cases hc : f e.s + e.w ≤ f e.t
      · have e1 : rlx1 f e e.t = f e.t := by rw [rlx1_id hc]
        rcases h e.t with h1 | ⟨e', h1, h2, h3⟩
        · exact .inl (by rw [e1, h1])
        · exact .inr ⟨e', h1, h2, by rw [e1]; have := up e'.s; omega⟩
      · refine .inr ⟨e, he, rfl, ?_⟩
        have := up e.s
        unfold rlx1 at this ⊢
        rw [fset_same]
        omega
    · have e1 : rlx1 f e k = f k := by unfold rlx1; rw [fset_ne hk]
      rcases h k with h1 | ⟨e', h1, h2, h3⟩
      · exact .inl (by rw [e1, h1])
      · exact .inr ⟨e', h1, h2, by rw [e1]; have := up e'.s; omega⟩
theorem att_swp {E : List Arc} {f : Nat → Int} (hE : ∀ e ∈ E, e.s ≠ e.t) : ∀ i : Nat, Att E f (swp E i f)
  | 0 => fun k => .inl rfl
  | i + 1 => att_rlx (fun e he => ⟨he, hE e he⟩) (att_swp hE i)
end CF
namespace CF
open PySem PySem.Spec PyProof.Rows L2
-- 0 floor, 1 limit, 2 choices, 3 firsts, 4 lasts, 5 way, 6 job, 7 hour
def ir_own_windows_b0 : ISs :=
  (.cons (.ife (.cmp .Eq (.var 5) (.kstr "late"))
    (.cons (.setI 3 (.var 6) (.blt .max2 (.cons (.ix (.var 3) (.var 6)) (.cons (.bin .Add (.var 7) (.kint 1)) .nil))))
    .nil)
    (.cons (.setI 4 (.var 6) (.blt .min2 (.cons (.ix (.var 4) (.var 6)) (.cons (.var 7) .nil))))
    .nil))
  (.fgt [5, 6, 7] .nil))
def ir_own_windows_t0 : ISs :=
  (.cons (.retO (.comp (.tup (.cons (.ix (.var 3) (.var 6)) (.cons (.ix (.var 4) (.var 6)) .nil))) (.one 6) (.rng (.cons (.blt .len (.cons (.var 3) .nil)) .nil)) .nil))
  .nil)
def ir_own_windows : ISs :=
  (.cons (.setO 3 (.comp (.kint 0) (.one 6) (.seq (.ix (.var 0) (.kint 1))) .nil))
  (.cons (.setO 4 (.comp (.bin .Sub (.var 1) (.ix (.var 6) (.kint 0))) (.one 6) (.seq (.ix (.var 0) (.kint 1))) .nil))
  (.cons (.fors (.many [5, 6, 7]) (.seq (.var 2)) ir_own_windows_b0)
  ir_own_windows_t0)))
-- calls: 
-- 0 floor, 1 limit, 2 choices, 3 found, 4 jobs, 5 turn, 6 one, 7 other
def ir_windows_b0 : ISs :=
  (.cons (.setI 3 (.var 7) (.tup (.cons (.blt .max2 (.cons (.ix (.ix (.var 3) (.var 7)) (.kint 0)) (.cons (.bin .Add (.ix (.ix (.var 3) (.var 6)) (.kint 0)) (.ix (.ix (.var 4) (.var 6)) (.kint 0))) .nil))) (.cons (.ix (.ix (.var 3) (.var 7)) (.kint 1)) .nil))))
  (.cons (.setI 3 (.var 6) (.tup (.cons (.ix (.ix (.var 3) (.var 6)) (.kint 0)) (.cons (.blt .min2 (.cons (.ix (.ix (.var 3) (.var 6)) (.kint 1)) (.cons (.bin .Sub (.ix (.ix (.var 3) (.var 7)) (.kint 1)) (.ix (.ix (.var 4) (.var 6)) (.kint 0))) .nil))) .nil))))
  (.fgt [6, 7] .nil)))
def ir_windows_b1 : ISs :=
  (.fgt [5] (.cons (.fors (.many [6, 7]) (.seq (.ix (.var 0) (.kint 2))) ir_windows_b0)
  .nil))
def ir_windows_t0 : ISs :=
  (.cons (.ret (.var 3))
  .nil)
def ir_windows : ISs :=
  (.cons (.setO 3 (.call 0 (.cons (.var 0) (.cons (.var 1) (.cons (.var 2) .nil)))))
  (.cons (.set 4 (.ix (.var 0) (.kint 1)))
  (.cons (.fors (.one 5) (.seq (.var 4)) ir_windows_b1)
  ir_windows_t0)))
-- calls: own_windows
-- 0 _law_floor_here, 1 _law_limit, 2 _law_choices_here, 3 _law_job_here, 4 _law_first, 5 _law_last, 6 _law_way, 7 _law_other, 8 _law_hour
def ir_l_own_t0 : ISs :=
  (.cons (.ife (.bop .And (.cons (.cmp .Eq (.var 7) (.var 3)) (.cons (.cmp .Eq (.var 6) (.kstr "early")) (.cons (.cmp .Lt (.var 8) (.var 5)) .nil))))
    (.cons (.set 5 (.var 8))
    .nil)
    .nil)
  (.fgt [6, 7, 8] .nil))
def ir_l_own_b0 : ISs :=
  (.cons (.ife (.bop .And (.cons (.cmp .Eq (.var 7) (.var 3)) (.cons (.cmp .Eq (.var 6) (.kstr "late")) (.cons (.cmp .GtE (.var 8) (.var 4)) .nil))))
    (.cons (.set 4 (.bin .Add (.var 8) (.kint 1)))
    .nil)
    .nil)
  ir_l_own_t0)
def ir_l_own_t1 : ISs :=
  (.cons (.ret (.tup (.cons (.var 4) (.cons (.var 5) .nil))))
  .nil)
def ir_l_own : ISs :=
  (.cons (.set 4 (.kint 0))
  (.cons (.set 5 (.bin .Sub (.var 1) (.ix (.ix (.ix (.var 0) (.kint 1)) (.var 3)) (.kint 0))))
  (.cons (.fors (.many [6, 7, 8]) (.seq (.var 2)) ir_l_own_b0)
  ir_l_own_t1)))
-- calls: 
-- 0 _law_floor_here, 1 _law_limit, 2 _law_choices_here, 3 _law_many, 4 _law_own_here, 5 _law_firsts, 6 _law_lasts, 7 _law_changed, 8 _law_one, 9 _law_other, 10 _law_job_here, 11 _law_pair
def ir_l_windows_t0 : ISs :=
  (.cons (.ife (.cmp .Lt (.bin .Sub (.ix (.var 6) (.var 9)) (.ix (.ix (.ix (.var 0) (.kint 1)) (.var 8)) (.kint 0))) (.ix (.var 6) (.var 8)))
    (.cons (.setI 6 (.var 8) (.bin .Sub (.ix (.var 6) (.var 9)) (.ix (.ix (.ix (.var 0) (.kint 1)) (.var 8)) (.kint 0))))
    (.cons (.set 7 (.kbool true))
    .nil))
    .nil)
  (.fgt [8, 9] .nil))
def ir_l_windows_b0 : ISs :=
  (.cons (.ife (.cmp .Gt (.bin .Add (.ix (.var 5) (.var 8)) (.ix (.ix (.ix (.var 0) (.kint 1)) (.var 8)) (.kint 0))) (.ix (.var 5) (.var 9)))
    (.cons (.setI 5 (.var 9) (.bin .Add (.ix (.var 5) (.var 8)) (.ix (.ix (.ix (.var 0) (.kint 1)) (.var 8)) (.kint 0))))
    (.cons (.set 7 (.kbool true))
    .nil))
    .nil)
  ir_l_windows_t0)
def ir_l_windows_b1 : ISs :=
  (.cons (.set 7 (.kbool false))
  (.cons (.fors (.many [8, 9]) (.seq (.ix (.var 0) (.kint 2))) ir_l_windows_b0)
  .nil))
def ir_l_windows_t1 : ISs :=
  (.cons (.ret (.comp (.tup (.cons (.ix (.var 5) (.var 10)) (.cons (.ix (.var 6) (.var 10)) .nil))) (.one 10) (.rng (.cons (.var 3) .nil)) .nil))
  .nil)
def ir_l_windows : ISs :=
  (.cons (.set 3 (.blt .len (.cons (.ix (.var 0) (.kint 1)) .nil)))
  (.cons (.set 4 (.comp (.call 0 (.cons (.var 0) (.cons (.var 1) (.cons (.var 2) (.cons (.var 10) .nil))))) (.one 10) (.rng (.cons (.var 3) .nil)) .nil))
  (.cons (.setO 5 (.comp (.ix (.var 11) (.kint 0)) (.one 11) (.seq (.var 4)) .nil))
  (.cons (.setO 6 (.comp (.ix (.var 11) (.kint 1)) (.one 11) (.seq (.var 4)) .nil))
  (.cons (.set 7 (.kbool true))
  (.fgt [4] (.cons (.whl (.var 7) ir_l_windows_b1)
  ir_l_windows_t1)))))))
-- calls: _law_own
-- 0 _law_cell, 1 _law_many, 2 _law_long, 3 _law_found, 4 _law_k, 5 _law_more, 6 _law_hour
def ir_l_choices_b0 : ISs :=
  (.cons (.set 5 (.call 0 (.cons (.var 0) (.cons (.bin .Add (.var 4) (.kint 5)) .nil))))
  (.cons (.set 6 (.bin .Sub (.bin .Mod (.bin .FloorDiv (.var 5) (.kint 32)) (.bin .Add (.var 2) (.kint 6))) (.kint 3)))
  (.cons (.app 3 (.tup (.cons (.ix (.lst (.cons (.kstr "early") (.cons (.kstr "late") .nil))) (.bin .Mod (.var 5) (.kint 2))) (.cons (.bin .Mod (.bin .FloorDiv (.var 5) (.kint 2)) (.var 1)) (.cons (.var 6) .nil)))))
  (.fgt [4, 5, 6] .nil))))
def ir_l_choices_t0 : ISs :=
  (.cons (.ret (.var 3))
  .nil)
def ir_l_choices : ISs :=
  (.cons (.setO 3 (.lst .nil))
  (.cons (.fors (.one 4) (.rng (.cons (.ix (.lst (.cons (.bin .Mod (.var 0) (.kint 4)) (.cons (.bin .Mod (.var 0) (.kint 20)) .nil))) (.bin .FloorDiv (.bin .Mod (.bin .FloorDiv (.var 0) (.kint 20)) (.kint 5)) (.kint 4))) .nil)) ir_l_choices_b0)
  ir_l_choices_t0))
-- calls: _law_mix
-- 0 _law_found, 1 _law_due, 2 _law_k
def ir_l_pairs_t0 : ISs :=
  (.cons (.ife (.bop .Or (.cons (.no (.call 0 (.cons (.ix (.ix (.var 0) (.var 2)) (.kint 0)) .nil))) (.cons (.no (.call 0 (.cons (.ix (.ix (.var 0) (.var 2)) (.kint 1)) .nil))) .nil)))
    (.cons (.ret (.kbool false))
    .nil)
    .nil)
  (.fgt [2] .nil))
def ir_l_pairs_b0 : ISs :=
  (.cons (.ife (.bop .Or (.cons (.no (.isi (.ix (.var 0) (.var 2)) .tuple)) (.cons (.cmp .NotEq (.blt .len (.cons (.ix (.var 0) (.var 2)) .nil)) (.kint 2)) (.cons (.cmp .NotEq (.ix (.var 0) (.var 2)) (.ix (.var 1) (.var 2))) .nil))))
    (.cons (.ret (.kbool false))
    .nil)
    .nil)
  ir_l_pairs_t0)
def ir_l_pairs_t1 : ISs :=
  (.cons (.ret (.kbool true))
  .nil)
def ir_l_pairs_t2 : ISs :=
  (.cons (.fors (.one 2) (.rng (.cons (.blt .len (.cons (.var 1) .nil)) .nil)) ir_l_pairs_b0)
  ir_l_pairs_t1)
def ir_l_pairs : ISs :=
  (.cons (.ife (.bop .Or (.cons (.no (.isi (.var 0) .list)) (.cons (.cmp .NotEq (.blt .len (.cons (.var 0) .nil)) (.blt .len (.cons (.var 1) .nil))) .nil)))
    (.cons (.ret (.kbool false))
    .nil)
    .nil)
  ir_l_pairs_t2)
-- calls: _law_whole
end CF
namespace CF
open PySem PySem.Spec PyProof.Rows L2
/-! ### windows -/
structure Ch where
  late : Bool
  job : Nat
  hour : Int
def wayS (b : Bool) : Str := if b then "late" else "early"
def eCh (c : Ch) : PyData := .tuple [.str (wayS c.late), .int c.job, .int c.hour]
theorem ex_ch {c : Ch} {p : List PyData → Prop} : (∃ ds, eCh c = .tuple ds ∧ p ds) ↔ p [.str (wayS c.late), .int c.job, .int c.hour] := by unfold eCh; exact ex_tup
theorem shp_way {b : Bool} : SeqAt.shaped (.str (wayS b)) = true := by cases b <;> decide +kernel
theorem shp_late : SeqAt.shaped (.str "late") = true := by decide +kernel
theorem shp_early : SeqAt.shaped (.str "early") = true := by decide +kernel
theorem eqv_late {b : Bool} : PyData.eqv (.str (wayS b)) (.str "late") = b := by cases b <;> decide +kernel
theorem eqv_early {b : Bool} : PyData.eqv (.str (wayS b)) (.str "early") = !b := by cases b <;> decide +kernel
def inF1 (j : Nat) (a : Int) (c : Ch) : Int := if c.late = true ∧ c.job = j then max a (c.hour + 1) else a
def inL1 (j : Nat) (a : Int) (c : Ch) : Int := if c.late = false ∧ c.job = j then min a c.hour else a
def ownF (cs : List Ch) (j : Nat) : Int := cs.foldl (inF1 j) 0
def ownL' (F : Fl) (L : Int) (cs : List Ch) (j : Nat) : Int := cs.foldl (inL1 j) (L - F.h j)
def OkCh (F : Fl) (cs : List Ch) : Prop := ∀ c ∈ cs, c.job < F.jobs.length
def ownW (F : Fl) (L : Int) (cs : List Ch) : List (Int × Int) := vec F.jobs.length fun k => (ownF cs k, ownL' F L cs k)
theorem foldl_take {α β : Type} {f : β → α → β} {l : List α} {b : β} {i : Nat} {a : α} (h : l[i]? = some a) : (l.take (i + 1)).foldl f b = f ((l.take i).foldl f b) a := by
  rw [List.take_add_one, h, Option.toList_some, List.foldl_append]
  rfl
theorem take_all {α : Type} {l : List α} : l.take l.length = l := List.take_length
theorem map_vecD {β : Type} {F : Fl} {g : Int × List Int → β} : F.jobs.map g = vec F.jobs.length fun k => g (F.jobs.getD k (0, [])) := by
  conv => lhs; rw [vec_of (l := F.jobs) (d := (0, []))]
  rw [vec_map]
theorem set_ints {n : Nat} {f : Nat → Int} {j : Nat} {v : Int} : ((vec n f).map PyData.int).set j (.int v) = (vec n (fset f j v)).map .int := by rw [← vec_set, List.map_set]
theorem ixN_nat {n k : Nat} (h : k < n) : ixN n (k : Int) = some k := by
  unfold ixN
  rw [if_pos (by omega), if_pos (by omega)]
  rfl
theorem ex_set {n k : Nat} {p : Nat → Prop} (h : k < n) (hp : p k) : ∃ j, ixN n (k : Int) = some j ∧ p j := ⟨k, ixN_nat h, hp⟩
def g_own_windows : Pm := fun ds R => ∃ (F : Fl) (L : Int) (cs : List Ch), ds = [eFl F, .int L, .list (cs.map eCh)] ∧ GoodFl 50 F ∧ OkCh F cs ∧ R (.list ((ownW F L cs).map eP))
abbrev e_own_windows : FnE := ⟨"own_windows", 3, true, g_own_windows⟩
theorem own_windows_ap {F : Fl} {L : Int} {cs : List Ch} {Q : PyData → Prop} (hF : GoodFl 50 F) (hc : OkCh F cs) (q : Q (.list ((ownW F L cs).map eP))) : g_own_windows [eFl F, .int L, .list (cs.map eCh)] Q := ⟨F, L, cs, rfl, hF, hc, q⟩
theorem sem_own_windows : ∀ ds R, ds.length = 3 → g_own_windows ds R → wpSs (Gof []) ir_own_windows (startE 8 ds) { nx := fun _ => true = false ∧ R .none, rt := R } := by
  rintro _ R _ ⟨F, L, cs, rfl, hF, hcs, q⟩
  have j2 := hF.j2
  (try simp only [ir_own_windows, ↓wpSs, ↓wpS, ↓wpE, ↓wpEs, ↓wpBop, ↓wpIfs, ↓wpIt, ↓pk, ↓bindT, ↓ownL, ↓lockIt, ↓unlockIt, isT, ↓setAll, ↓wipeE, ↓startE, ↓Tg.slots, ↓IEs.fine, ↓IEs.len, ↓noOwn, ↓isOwnE, ↓Sl.isO, ↓Ev.freeAll, List.replicate, if_true, if_false, reduceIte, Nat.reduceLeDiff, Nat.reduceSub, Nat.reduceAdd, eq_self, reduceCtorEq, Int.reduceLT, Nat.reduceLT, ↓wpl, wpu])
  refine ⟨by omega, ?_⟩
  refine compL_map (fun _ => .int 0) (fun j _ K h => h) ?_
  refine ⟨by omega, ?_⟩
  refine compL_map (fun j => .int (L - j.1)) (fun j _ K h => by (try simp only [↓wpSs, ↓wpS, ↓wpE, ↓wpEs, ↓wpBop, ↓wpIfs, ↓wpIt, ↓pk, ↓bindT, ↓ownL, ↓lockIt, ↓unlockIt, isT, ↓setAll, ↓wipeE, ↓startE, ↓Tg.slots, ↓IEs.fine, ↓IEs.len, ↓noOwn, ↓isOwnE, ↓Sl.isO, ↓Ev.freeAll, List.replicate, if_true, if_false, reduceIte, Nat.reduceLeDiff, Nat.reduceSub, Nat.reduceAdd, eq_self, reduceCtorEq, Int.reduceLT, Nat.reduceLT, ↓wpl, wpu]); exact h) ?_
  rw [map_vecD, map_vecD, show (vec F.jobs.length fun k => PyData.int 0) = (vec F.jobs.length fun k => (0 : Int)).map .int by rw [vec_map], show (vec F.jobs.length fun k => PyData.int (L - (F.jobs.getD k (0, [])).1)) = (vec F.jobs.length fun k => L - F.h k).map .int by rw [vec_map]; rfl]
  refine forL_map (fun i r => r = [.val (eFl F), .val (.int L), .val (.list (cs.map eCh)), .own (.list ((vec F.jobs.length (ownF (cs.take i))).map .int)), .own (.list ((vec F.jobs.length (ownL' F L (cs.take i))).map .int)), .un, .un, .un]) rfl ?_ ?_
  · rintro _ rfl
    rw [take_all]
    (try simp only [ir_own_windows_t0, vec_len, ↓wpSs, ↓wpS, ↓wpE, ↓wpEs, ↓wpBop, ↓wpIfs, ↓wpIt, ↓pk, ↓bindT, ↓ownL, ↓lockIt, ↓unlockIt, isT, ↓setAll, ↓wipeE, ↓startE, ↓Tg.slots, ↓IEs.fine, ↓IEs.len, ↓noOwn, ↓isOwnE, ↓Sl.isO, ↓Ev.freeAll, List.replicate, if_true, if_false, reduceIte, Nat.reduceLeDiff, Nat.reduceSub, Nat.reduceAdd, eq_self, reduceCtorEq, Int.reduceLT, Nat.reduceLT, ↓wpl, wpu])
    refine ⟨⟨by omega, by omega⟩, by omega, ?_⟩
    refine compL_map (fun k => .tuple [.int (ownF cs k), .int (ownL' F L cs k)]) (fun k hk K h => ?_) ?_
    · (try simp only [↓wpSs, ↓wpS, ↓wpE, ↓wpEs, ↓wpBop, ↓wpIfs, ↓wpIt, ↓pk, ↓bindT, ↓ownL, ↓lockIt, ↓unlockIt, isT, ↓setAll, ↓wipeE, ↓startE, ↓Tg.slots, ↓IEs.fine, ↓IEs.len, ↓noOwn, ↓isOwnE, ↓Sl.isO, ↓Ev.freeAll, List.replicate, if_true, if_false, reduceIte, Nat.reduceLeDiff, Nat.reduceSub, Nat.reduceAdd, eq_self, reduceCtorEq, Int.reduceLT, Nat.reduceLT, ↓wpl, wpu])
      refine at_map (vec_get (List.mem_range.mp hk)) ?_
      refine at_map (vec_get (List.mem_range.mp hk)) ?_
      exact h
    · unfold ownW at q
      rw [vec_map] at q
      exact q
  · rintro i c _ K hi rfl hK
    have hj := hcs c (List.mem_of_getElem? hi)
    have e1 : ∀ k, ownF (cs.take (i + 1)) k = inF1 k (ownF (cs.take i) k) c := fun k => foldl_take hi
    have e2 : ∀ k, ownL' F L (cs.take (i + 1)) k = inL1 k (ownL' F L (cs.take i) k) c := fun k => foldl_take hi
    (try simp only [ir_own_windows_b0, ex_ch, shp_way, shp_late, eqv_late, ↓wpSs, ↓wpS, ↓wpE, ↓wpEs, ↓wpBop, ↓wpIfs, ↓wpIt, ↓pk, ↓bindT, ↓ownL, ↓lockIt, ↓unlockIt, isT, ↓setAll, ↓wipeE, ↓startE, ↓Tg.slots, ↓IEs.fine, ↓IEs.len, ↓noOwn, ↓isOwnE, ↓Sl.isO, ↓Ev.freeAll, List.replicate, if_true, if_false, reduceIte, Nat.reduceLeDiff, Nat.reduceSub, Nat.reduceAdd, eq_self, reduceCtorEq, Int.reduceLT, Nat.reduceLT, ↓wpl, wpu])
    split
    · rename_i hl
      refine at_map (vec_get hj) ?_
      (try simp only [vec_len, ↓wpSs, ↓wpS, ↓wpE, ↓wpEs, ↓wpBop, ↓wpIfs, ↓wpIt, ↓pk, ↓bindT, ↓ownL, ↓lockIt, ↓unlockIt, isT, ↓setAll, ↓wipeE, ↓startE, ↓Tg.slots, ↓IEs.fine, ↓IEs.len, ↓noOwn, ↓isOwnE, ↓Sl.isO, ↓Ev.freeAll, List.replicate, if_true, if_false, reduceIte, Nat.reduceLeDiff, Nat.reduceSub, Nat.reduceAdd, eq_self, reduceCtorEq, Int.reduceLT, Nat.reduceLT, ↓wpl, wpu])
      refine ex_set hj ?_
      rw [set_ints]
      refine hK _ ?_
      rw [vec_congr fun k _ => e1 k, vec_congr fun k _ => e2 k]
      have h1 : fset (ownF (cs.take i)) c.job (max (ownF (cs.take i) c.job) (c.hour + 1)) = fun k => inF1 k (ownF (cs.take i) k) c := by
        funext k
        unfold inF1 fset
        rw [hl]
        by_cases h : k = c.job
        · subst h; simp
        · rw [if_neg h, if_neg (fun e => h e.2.symm)]
      have h2 : (ownL' F L (cs.take i)) = fun k => inL1 k (ownL' F L (cs.take i) k) c := by
        funext k
        unfold inL1
        rw [hl]
        simp
      rw [h1, ← h2]
    · rename_i hl
      have hl : c.late = false := by simpa using hl
      refine at_map (vec_get hj) ?_
      (try simp only [vec_len, ↓wpSs, ↓wpS, ↓wpE, ↓wpEs, ↓wpBop, ↓wpIfs, ↓wpIt, ↓pk, ↓bindT, ↓ownL, ↓lockIt, ↓unlockIt, isT, ↓setAll, ↓wipeE, ↓startE, ↓Tg.slots, ↓IEs.fine, ↓IEs.len, ↓noOwn, ↓isOwnE, ↓Sl.isO, ↓Ev.freeAll, List.replicate, if_true, if_false, reduceIte, Nat.reduceLeDiff, Nat.reduceSub, Nat.reduceAdd, eq_self, reduceCtorEq, Int.reduceLT, Nat.reduceLT, ↓wpl, wpu])
      refine ex_set hj ?_
      rw [set_ints]
      refine hK _ ?_
      rw [vec_congr fun k _ => e1 k, vec_congr fun k _ => e2 k]
      have h1 : fset (ownL' F L (cs.take i)) c.job (min (ownL' F L (cs.take i) c.job) c.hour) = fun k => inL1 k (ownL' F L (cs.take i) k) c := by
        funext k
        unfold inL1 fset
        rw [hl]
        by_cases h : k = c.job
        · subst h; simp
        · rw [if_neg h, if_neg (fun e => h e.2.symm)]
      have h2 : (ownF (cs.take i)) = fun k => inF1 k (ownF (cs.take i) k) c := by
        funext k
        unfold inF1
        rw [hl]
        simp
      rw [h1, ← h2]
end CF
namespace CF
open PySem PySem.Spec PyProof.Rows L2
def arcF (F : Fl) (o : Nat × Nat) : Arc := ⟨o.1, o.2, F.h o.1⟩
def arcL (F : Fl) (o : Nat × Nat) : Arc := ⟨o.2, o.1, F.h o.1⟩
def arcsF (F : Fl) : List Arc := F.orders.map (arcF F)
def arcsL (F : Fl) : List Arc := F.orders.map (arcL F)
def winF (F : Fl) (cs : List Ch) : Nat → Int := swp (arcsF F) F.jobs.length (ownF cs)
def winG (F : Fl) (L : Int) (cs : List Ch) : Nat → Int := swp (arcsL F) F.jobs.length fun k => -(ownL' F L cs k)
def winL (F : Fl) (L : Int) (cs : List Ch) (k : Nat) : Int := -(winG F L cs k)
def winW (F : Fl) (L : Int) (cs : List Ch) : List (Int × Int) := vec F.jobs.length fun k => (winF F cs k, winL F L cs k)
def vW (n : Nat) (s : (Nat → Int) × (Nat → Int)) : List (Int × Int) := vec n fun k => (s.1 k, -(s.2 k))
def stp (F : Fl) (s : (Nat → Int) × (Nat → Int)) (o : Nat × Nat) : (Nat → Int) × (Nat → Int) := (rlx1 s.1 (arcF F o), rlx1 s.2 (arcL F o))
theorem fold_stp {F : Fl} : ∀ {l : List (Nat × Nat)} {s : (Nat → Int) × (Nat → Int)}, l.foldl (stp F) s = (rlx (l.map (arcF F)) s.1, rlx (l.map (arcL F)) s.2)
  | [], s => rfl
  | o :: l, s => by
    rw [List.foldl_cons, fold_stp]
    rfl
theorem ord_ok {F : Fl} {most : Int} (hF : GoodFl most F) {o : Nat × Nat} (h : o ∈ F.orders) : o.1 < F.jobs.length ∧ o.2 < F.jobs.length ∧ o.1 ≠ o.2 := by
  obtain ⟨rank, _, hr⟩ := hF.r
  obtain ⟨h1, h2, h3⟩ := hr o h
  exact ⟨h1, h2, fun e => by rw [e] at h3; omega⟩
theorem clo_F {F : Fl} {most : Int} (hF : GoodFl most F) {f : Nat → Int} : Clo (arcsF F) (swp (arcsF F) F.jobs.length f) := by
  obtain ⟨rank, hb, hr⟩ := hF.r
  refine swp_clo (rank := rank) fun e he => ?_
  obtain ⟨o, ho, rfl⟩ := List.mem_map.mp he
  exact ⟨(hr o ho).2.2, hb _ (hr o ho).2.1⟩
theorem clo_L {F : Fl} {most : Int} (hF : GoodFl most F) {f : Nat → Int} : Clo (arcsL F) (swp (arcsL F) F.jobs.length f) := by
  obtain ⟨rank, hb, hr⟩ := hF.r
  refine swp_clo (rank := fun k => F.jobs.length - 1 - rank k) fun e he => ?_
  obtain ⟨o, ho, rfl⟩ := List.mem_map.mp he
  obtain ⟨h1, h2, h3⟩ := hr o ho
  have := hb _ h1
  have := hb _ h2
  show F.jobs.length - 1 - rank o.2 < F.jobs.length - 1 - rank o.1 ∧ F.jobs.length - 1 - rank o.1 < F.jobs.length
  omega
theorem set_eps {n : Nat} {f : Nat → Int × Int} {j : Nat} {v : Int × Int} : ((vec n f).map eP).set j (eP v) = (vec n (fset f j v)).map eP := by rw [← vec_set, List.map_set]
theorem get_job {F : Fl} {k : Nat} (h : k < F.jobs.length) : F.jobs[k]? = some (F.jobs.getD k (0, [])) := by rw [getD_of h]; exact mem_at h
theorem set_stp {F : Fl} {s : (Nat → Int) × (Nat → Int)} {o : Nat × Nat} (h : o.1 ≠ o.2) : fset (fset (fun k => (s.1 k, -(s.2 k))) o.2 (max (s.1 o.2) (s.1 o.1 + F.h o.1), -(s.2 o.2))) o.1 (s.1 o.1, min (-(s.2 o.1)) (-(s.2 o.2) - F.h o.1)) = fun k => ((stp F s o).1 k, -((stp F s o).2 k)) := by
  funext k
  unfold stp rlx1 fset arcF arcL
  by_cases h1 : k = o.1
  · subst h1
    simp only [if_true, if_neg h]
    refine Prod.ext rfl ?_
    show min _ _ = -(max _ _)
    omega
  · by_cases h2 : k = o.2
    · subst h2
      simp only [if_true, if_neg h1]
    · simp only [if_neg h1, if_neg h2]
def g_windows : Pm := fun ds R => ∃ (F : Fl) (L : Int) (cs : List Ch), ds = [eFl F, .int L, .list (cs.map eCh)] ∧ GoodFl 50 F ∧ OkCh F cs ∧ R (.list ((winW F L cs).map eP))
abbrev e_windows : FnE := ⟨"windows", 3, false, g_windows⟩
theorem windows_ap {F : Fl} {L : Int} {cs : List Ch} {Q : PyData → Prop} (hF : GoodFl 50 F) (hc : OkCh F cs) (q : Q (.list ((winW F L cs).map eP))) : g_windows [eFl F, .int L, .list (cs.map eCh)] Q := ⟨F, L, cs, rfl, hF, hc, q⟩
theorem sem_windows : ∀ ds R, ds.length = 3 → g_windows ds R → wpSs (Gof [e_own_windows]) ir_windows (startE 8 ds) { nx := fun _ => false = false ∧ R .none, rt := R } := by
  rintro _ R _ ⟨F, L, cs, rfl, hF, hcs, q⟩
  have j2 := hF.j2
  (try simp only [ir_windows, ↓wpSs, ↓wpS, ↓wpE, ↓wpEs, ↓wpBop, ↓wpIfs, ↓wpIt, ↓pk, ↓bindT, ↓ownL, ↓lockIt, ↓unlockIt, isT, ↓setAll, ↓wipeE, ↓startE, ↓Tg.slots, ↓IEs.fine, ↓IEs.len, ↓noOwn, ↓isOwnE, ↓Sl.isO, ↓Ev.freeAll, List.replicate, if_true, if_false, reduceIte, Nat.reduceLeDiff, Nat.reduceSub, Nat.reduceAdd, eq_self, reduceCtorEq, Int.reduceLT, Nat.reduceLT, ↓wpl, wpu])
  refine own_windows_ap hF hcs ?_
  (try simp only [↓wpSs, ↓wpS, ↓wpE, ↓wpEs, ↓wpBop, ↓wpIfs, ↓wpIt, ↓pk, ↓bindT, ↓ownL, ↓lockIt, ↓unlockIt, isT, ↓setAll, ↓wipeE, ↓startE, ↓Tg.slots, ↓IEs.fine, ↓IEs.len, ↓noOwn, ↓isOwnE, ↓Sl.isO, ↓Ev.freeAll, List.replicate, if_true, if_false, reduceIte, Nat.reduceLeDiff, Nat.reduceSub, Nat.reduceAdd, eq_self, reduceCtorEq, Int.reduceLT, Nat.reduceLT, ↓wpl, wpu])
  have e0 : ownW F L cs = vW F.jobs.length (ownF cs, fun k => -(ownL' F L cs k)) := vec_congr fun k _ => by simp
  rw [e0]
  refine forL_map (fun i r => r = [.val (eFl F), .val (.int L), .val (.list (cs.map eCh)), .own (.list ((vW F.jobs.length (swp (arcsF F) i (ownF cs), swp (arcsL F) i fun k => -(ownL' F L cs k))).map eP)), .val (.tuple (F.jobs.map eJob)), .un, .un, .un]) rfl ?_ ?_
  · rintro _ rfl
    (try simp only [ir_windows_t0, ↓wpSs, ↓wpS, ↓wpE, ↓wpEs, ↓wpBop, ↓wpIfs, ↓wpIt, ↓pk, ↓bindT, ↓ownL, ↓lockIt, ↓unlockIt, isT, ↓setAll, ↓wipeE, ↓startE, ↓Tg.slots, ↓IEs.fine, ↓IEs.len, ↓noOwn, ↓isOwnE, ↓Sl.isO, ↓Ev.freeAll, List.replicate, if_true, if_false, reduceIte, Nat.reduceLeDiff, Nat.reduceSub, Nat.reduceAdd, eq_self, reduceCtorEq, Int.reduceLT, Nat.reduceLT, ↓wpl, wpu])
    exact q
  · rintro i j _ K hi rfl hK
    (try simp only [ir_windows_b1, ↓wpSs, ↓wpS, ↓wpE, ↓wpEs, ↓wpBop, ↓wpIfs, ↓wpIt, ↓pk, ↓bindT, ↓ownL, ↓lockIt, ↓unlockIt, isT, ↓setAll, ↓wipeE, ↓startE, ↓Tg.slots, ↓IEs.fine, ↓IEs.len, ↓noOwn, ↓isOwnE, ↓Sl.isO, ↓Ev.freeAll, List.replicate, if_true, if_false, reduceIte, Nat.reduceLeDiff, Nat.reduceSub, Nat.reduceAdd, eq_self, reduceCtorEq, Int.reduceLT, Nat.reduceLT, ↓wpl, wpu])
    refine forL_fold (env := fun s => [.val (eFl F), .val (.int L), .val (.list (cs.map eCh)), .own (.list ((vW F.jobs.length s).map eP)), .val (.tuple (F.jobs.map eJob)), .un, .un, .un]) (f := stp F) (P := fun _ => True) rfl trivial (fun _ => ?_) ?_
    · rw [fold_stp]
      exact hK _ rfl
    · rintro o s K' ho _ hK'
      obtain ⟨ho1, ho2, hne⟩ := ord_ok hF ho
      (try simp only [ir_windows_b0, vW, ↓wpSs, ↓wpS, ↓wpE, ↓wpEs, ↓wpBop, ↓wpIfs, ↓wpIt, ↓pk, ↓bindT, ↓ownL, ↓lockIt, ↓unlockIt, isT, ↓setAll, ↓wipeE, ↓startE, ↓Tg.slots, ↓IEs.fine, ↓IEs.len, ↓noOwn, ↓isOwnE, ↓Sl.isO, ↓Ev.freeAll, List.replicate, if_true, if_false, reduceIte, Nat.reduceLeDiff, Nat.reduceSub, Nat.reduceAdd, eq_self, reduceCtorEq, Int.reduceLT, Nat.reduceLT, ↓wpl, wpu])
      refine at_map (vec_get ho2) ?_
      (try simp only [↓wpSs, ↓wpS, ↓wpE, ↓wpEs, ↓wpBop, ↓wpIfs, ↓wpIt, ↓pk, ↓bindT, ↓ownL, ↓lockIt, ↓unlockIt, isT, ↓setAll, ↓wipeE, ↓startE, ↓Tg.slots, ↓IEs.fine, ↓IEs.len, ↓noOwn, ↓isOwnE, ↓Sl.isO, ↓Ev.freeAll, List.replicate, if_true, if_false, reduceIte, Nat.reduceLeDiff, Nat.reduceSub, Nat.reduceAdd, eq_self, reduceCtorEq, Int.reduceLT, Nat.reduceLT, ↓wpl, wpu])
      refine at_map (vec_get ho1) ?_
      (try simp only [↓wpSs, ↓wpS, ↓wpE, ↓wpEs, ↓wpBop, ↓wpIfs, ↓wpIt, ↓pk, ↓bindT, ↓ownL, ↓lockIt, ↓unlockIt, isT, ↓setAll, ↓wipeE, ↓startE, ↓Tg.slots, ↓IEs.fine, ↓IEs.len, ↓noOwn, ↓isOwnE, ↓Sl.isO, ↓Ev.freeAll, List.replicate, if_true, if_false, reduceIte, Nat.reduceLeDiff, Nat.reduceSub, Nat.reduceAdd, eq_self, reduceCtorEq, Int.reduceLT, Nat.reduceLT, ↓wpl, wpu])
      (try simp only [↓wpSs, ↓wpS, ↓wpE, ↓wpEs, ↓wpBop, ↓wpIfs, ↓wpIt, ↓pk, ↓bindT, ↓ownL, ↓lockIt, ↓unlockIt, isT, ↓setAll, ↓wipeE, ↓startE, ↓Tg.slots, ↓IEs.fine, ↓IEs.len, ↓noOwn, ↓isOwnE, ↓Sl.isO, ↓Ev.freeAll, List.replicate, if_true, if_false, reduceIte, Nat.reduceLeDiff, Nat.reduceSub, Nat.reduceAdd, eq_self, reduceCtorEq, Int.reduceLT, Nat.reduceLT, ↓wpl, wpu])
      refine at_map (get_job ho1) ?_
      (try simp only [↓wpSs, ↓wpS, ↓wpE, ↓wpEs, ↓wpBop, ↓wpIfs, ↓wpIt, ↓pk, ↓bindT, ↓ownL, ↓lockIt, ↓unlockIt, isT, ↓setAll, ↓wipeE, ↓startE, ↓Tg.slots, ↓IEs.fine, ↓IEs.len, ↓noOwn, ↓isOwnE, ↓Sl.isO, ↓Ev.freeAll, List.replicate, if_true, if_false, reduceIte, Nat.reduceLeDiff, Nat.reduceSub, Nat.reduceAdd, eq_self, reduceCtorEq, Int.reduceLT, Nat.reduceLT, ↓wpl, wpu])
      refine at_map (vec_get ho2) ?_
      (try simp only [↓wpSs, ↓wpS, ↓wpE, ↓wpEs, ↓wpBop, ↓wpIfs, ↓wpIt, ↓pk, ↓bindT, ↓ownL, ↓lockIt, ↓unlockIt, isT, ↓setAll, ↓wipeE, ↓startE, ↓Tg.slots, ↓IEs.fine, ↓IEs.len, ↓noOwn, ↓isOwnE, ↓Sl.isO, ↓Ev.freeAll, List.replicate, if_true, if_false, reduceIte, Nat.reduceLeDiff, Nat.reduceSub, Nat.reduceAdd, eq_self, reduceCtorEq, Int.reduceLT, Nat.reduceLT, ↓wpl, wpu])
      (try simp only [↓wpSs, ↓wpS, ↓wpE, ↓wpEs, ↓wpBop, ↓wpIfs, ↓wpIt, ↓pk, ↓bindT, ↓ownL, ↓lockIt, ↓unlockIt, isT, ↓setAll, ↓wipeE, ↓startE, ↓Tg.slots, ↓IEs.fine, ↓IEs.len, ↓noOwn, ↓isOwnE, ↓Sl.isO, ↓Ev.freeAll, List.replicate, if_true, if_false, reduceIte, Nat.reduceLeDiff, Nat.reduceSub, Nat.reduceAdd, eq_self, reduceCtorEq, Int.reduceLT, Nat.reduceLT, ↓wpl, wpu])
      rw [vec_len]
      refine ex_set ho2 ?_
      have p1 : ∀ a b : Int, PyData.tuple [.int a, .int b] = eP (a, b) := fun a b => rfl
      rw [p1, set_eps]
      refine at_map (vec_get ho1) ?_
      (try simp only [↓wpSs, ↓wpS, ↓wpE, ↓wpEs, ↓wpBop, ↓wpIfs, ↓wpIt, ↓pk, ↓bindT, ↓ownL, ↓lockIt, ↓unlockIt, isT, ↓setAll, ↓wipeE, ↓startE, ↓Tg.slots, ↓IEs.fine, ↓IEs.len, ↓noOwn, ↓isOwnE, ↓Sl.isO, ↓Ev.freeAll, List.replicate, if_true, if_false, reduceIte, Nat.reduceLeDiff, Nat.reduceSub, Nat.reduceAdd, eq_self, reduceCtorEq, Int.reduceLT, Nat.reduceLT, ↓wpl, wpu])
      (try simp only [↓wpSs, ↓wpS, ↓wpE, ↓wpEs, ↓wpBop, ↓wpIfs, ↓wpIt, ↓pk, ↓bindT, ↓ownL, ↓lockIt, ↓unlockIt, isT, ↓setAll, ↓wipeE, ↓startE, ↓Tg.slots, ↓IEs.fine, ↓IEs.len, ↓noOwn, ↓isOwnE, ↓Sl.isO, ↓Ev.freeAll, List.replicate, if_true, if_false, reduceIte, Nat.reduceLeDiff, Nat.reduceSub, Nat.reduceAdd, eq_self, reduceCtorEq, Int.reduceLT, Nat.reduceLT, ↓wpl, wpu])
      refine at_map (vec_get ho1) ?_
      (try simp only [↓wpSs, ↓wpS, ↓wpE, ↓wpEs, ↓wpBop, ↓wpIfs, ↓wpIt, ↓pk, ↓bindT, ↓ownL, ↓lockIt, ↓unlockIt, isT, ↓setAll, ↓wipeE, ↓startE, ↓Tg.slots, ↓IEs.fine, ↓IEs.len, ↓noOwn, ↓isOwnE, ↓Sl.isO, ↓Ev.freeAll, List.replicate, if_true, if_false, reduceIte, Nat.reduceLeDiff, Nat.reduceSub, Nat.reduceAdd, eq_self, reduceCtorEq, Int.reduceLT, Nat.reduceLT, ↓wpl, wpu])
      refine at_map (vec_get ho2) ?_
      (try simp only [↓wpSs, ↓wpS, ↓wpE, ↓wpEs, ↓wpBop, ↓wpIfs, ↓wpIt, ↓pk, ↓bindT, ↓ownL, ↓lockIt, ↓unlockIt, isT, ↓setAll, ↓wipeE, ↓startE, ↓Tg.slots, ↓IEs.fine, ↓IEs.len, ↓noOwn, ↓isOwnE, ↓Sl.isO, ↓Ev.freeAll, List.replicate, if_true, if_false, reduceIte, Nat.reduceLeDiff, Nat.reduceSub, Nat.reduceAdd, eq_self, reduceCtorEq, Int.reduceLT, Nat.reduceLT, ↓wpl, wpu])
      (try simp only [↓wpSs, ↓wpS, ↓wpE, ↓wpEs, ↓wpBop, ↓wpIfs, ↓wpIt, ↓pk, ↓bindT, ↓ownL, ↓lockIt, ↓unlockIt, isT, ↓setAll, ↓wipeE, ↓startE, ↓Tg.slots, ↓IEs.fine, ↓IEs.len, ↓noOwn, ↓isOwnE, ↓Sl.isO, ↓Ev.freeAll, List.replicate, if_true, if_false, reduceIte, Nat.reduceLeDiff, Nat.reduceSub, Nat.reduceAdd, eq_self, reduceCtorEq, Int.reduceLT, Nat.reduceLT, ↓wpl, wpu])
      refine at_map (get_job ho1) ?_
      (try simp only [↓wpSs, ↓wpS, ↓wpE, ↓wpEs, ↓wpBop, ↓wpIfs, ↓wpIt, ↓pk, ↓bindT, ↓ownL, ↓lockIt, ↓unlockIt, isT, ↓setAll, ↓wipeE, ↓startE, ↓Tg.slots, ↓IEs.fine, ↓IEs.len, ↓noOwn, ↓isOwnE, ↓Sl.isO, ↓Ev.freeAll, List.replicate, if_true, if_false, reduceIte, Nat.reduceLeDiff, Nat.reduceSub, Nat.reduceAdd, eq_self, reduceCtorEq, Int.reduceLT, Nat.reduceLT, ↓wpl, wpu])
      rw [vec_len]
      refine ex_set ho1 ?_
      rw [p1, set_eps]
      simp only [fset_same, fset_ne hne]
      have := hK' trivial
      unfold vW at this
      rw [← set_stp hne] at this
      exact this
end CF
namespace CF
open PySem PySem.Spec PyProof.Rows L2
def g_l_own : Pm := fun ds R => ∃ (F : Fl) (L : Int) (cs : List Ch) (k : Nat), ds = [eFl F, .int L, .list (cs.map eCh), .int k] ∧ k < F.jobs.length ∧ R (eP (ownF cs k, ownL' F L cs k))
abbrev e_l_own : FnE := ⟨"_law_own", 4, false, g_l_own⟩
theorem l_own_ap {F : Fl} {L : Int} {cs : List Ch} {k : Nat} {Q : PyData → Prop} (hk : k < F.jobs.length) (q : Q (eP (ownF cs k, ownL' F L cs k))) : g_l_own [eFl F, .int L, .list (cs.map eCh), .int k] Q := ⟨F, L, cs, k, rfl, hk, q⟩
theorem sem_l_own : ∀ ds R, ds.length = 4 → g_l_own ds R → wpSs (Gof []) ir_l_own (startE 9 ds) { nx := fun _ => false = false ∧ R .none, rt := R } := by
  rintro _ R _ ⟨F, L, cs, k, rfl, hk, q⟩
  (try simp only [ir_l_own, ↓wpSs, ↓wpS, ↓wpE, ↓wpEs, ↓wpBop, ↓wpIfs, ↓wpIt, ↓pk, ↓bindT, ↓ownL, ↓lockIt, ↓unlockIt, isT, ↓setAll, ↓wipeE, ↓startE, ↓Tg.slots, ↓IEs.fine, ↓IEs.len, ↓noOwn, ↓isOwnE, ↓Sl.isO, ↓Ev.freeAll, List.replicate, if_true, if_false, reduceIte, Nat.reduceLeDiff, Nat.reduceSub, Nat.reduceAdd, eq_self, reduceCtorEq, Int.reduceLT, Nat.reduceLT, ↓wpl, wpu])
  refine at_map (get_job hk) ?_
  (try simp only [↓wpSs, ↓wpS, ↓wpE, ↓wpEs, ↓wpBop, ↓wpIfs, ↓wpIt, ↓pk, ↓bindT, ↓ownL, ↓lockIt, ↓unlockIt, isT, ↓setAll, ↓wipeE, ↓startE, ↓Tg.slots, ↓IEs.fine, ↓IEs.len, ↓noOwn, ↓isOwnE, ↓Sl.isO, ↓Ev.freeAll, List.replicate, if_true, if_false, reduceIte, Nat.reduceLeDiff, Nat.reduceSub, Nat.reduceAdd, eq_self, reduceCtorEq, Int.reduceLT, Nat.reduceLT, ↓wpl, wpu])
  refine forL_map (fun i r => r = [.val (eFl F), .val (.int L), .val (.list (cs.map eCh)), .val (.int k), .val (.int (ownF (cs.take i) k)), .val (.int (ownL' F L (cs.take i) k)), .un, .un, .un]) rfl ?_ ?_
  · rintro _ rfl
    rw [take_all]
    (try simp only [ir_l_own_t1, ↓wpSs, ↓wpS, ↓wpE, ↓wpEs, ↓wpBop, ↓wpIfs, ↓wpIt, ↓pk, ↓bindT, ↓ownL, ↓lockIt, ↓unlockIt, isT, ↓setAll, ↓wipeE, ↓startE, ↓Tg.slots, ↓IEs.fine, ↓IEs.len, ↓noOwn, ↓isOwnE, ↓Sl.isO, ↓Ev.freeAll, List.replicate, if_true, if_false, reduceIte, Nat.reduceLeDiff, Nat.reduceSub, Nat.reduceAdd, eq_self, reduceCtorEq, Int.reduceLT, Nat.reduceLT, ↓wpl, wpu])
    exact q
  · rintro i c _ K hi rfl hK
    have e1 : ownF (cs.take (i + 1)) k = inF1 k (ownF (cs.take i) k) c := foldl_take hi
    have e2 : ownL' F L (cs.take (i + 1)) k = inL1 k (ownL' F L (cs.take i) k) c := foldl_take hi
    generalize ownF (cs.take i) k = a at e1
    generalize ownL' F L (cs.take i) k = b at e2
    have tail : ∀ a' : Int, a' = inF1 k a c → wpSs (Gof []) ir_l_own_t0 [.val (eFl F), .val (.int L), .val (.list (cs.map eCh)), .val (.int k), .val (.int a'), .val (.int b), .val (.str (wayS c.late)), .val (.int c.job), .val (.int c.hour)] { nx := K, rt := R, bk := fun r' => wpSs (Gof []) ir_l_own_t1 r' { nx := fun x => R .none, rt := R }, ct := K } := by
      intro a' ha'
      have hk2 : ∀ b' : Int, b' = inL1 k b c → K [.val (eFl F), .val (.int L), .val (.list (cs.map eCh)), .val (.int k), .val (.int a'), .val (.int b'), .un, .un, .un] := fun b' h => hK _ (by rw [e1, e2, ← ha', ← h])
      (try simp only [ir_l_own_t0, shp_way, shp_early, eqv_early, ↓wpSs, ↓wpS, ↓wpE, ↓wpEs, ↓wpBop, ↓wpIfs, ↓wpIt, ↓pk, ↓bindT, ↓ownL, ↓lockIt, ↓unlockIt, isT, ↓setAll, ↓wipeE, ↓startE, ↓Tg.slots, ↓IEs.fine, ↓IEs.len, ↓noOwn, ↓isOwnE, ↓Sl.isO, ↓Ev.freeAll, List.replicate, if_true, if_false, reduceIte, Nat.reduceLeDiff, Nat.reduceSub, Nat.reduceAdd, eq_self, reduceCtorEq, Int.reduceLT, Nat.reduceLT, ↓wpl, wpu])
      repeat' split
      all_goals refine hk2 _ ?_
      all_goals unfold inL1
      all_goals simp_all
      all_goals omega
    (try simp only [ir_l_own_b0, ex_ch, shp_way, shp_late, eqv_late, ↓wpSs, ↓wpS, ↓wpE, ↓wpEs, ↓wpBop, ↓wpIfs, ↓wpIt, ↓pk, ↓bindT, ↓ownL, ↓lockIt, ↓unlockIt, isT, ↓setAll, ↓wipeE, ↓startE, ↓Tg.slots, ↓IEs.fine, ↓IEs.len, ↓noOwn, ↓isOwnE, ↓Sl.isO, ↓Ev.freeAll, List.replicate, if_true, if_false, reduceIte, Nat.reduceLeDiff, Nat.reduceSub, Nat.reduceAdd, eq_self, reduceCtorEq, Int.reduceLT, Nat.reduceLT, ↓wpl, wpu])
    repeat' split
    all_goals refine tail _ ?_
    all_goals unfold inF1
    all_goals simp_all
    all_goals omega
end CF
namespace CF
open PySem PySem.Spec PyProof.Rows L2
def stpB (F : Fl) (s : ((Nat → Int) × (Nat → Int)) × Bool) (o : Nat × Nat) : ((Nat → Int) × (Nat → Int)) × Bool := (stp F s.1 o, s.2 || decide (s.1.1 o.2 < s.1.1 o.1 + F.h o.1) || decide (s.1.2 o.1 < s.1.2 o.2 + F.h o.1))
theorem stpB_1 {F : Fl} : ∀ {l : List (Nat × Nat)} {s : ((Nat → Int) × (Nat → Int)) × Bool}, (l.foldl (stpB F) s).1 = l.foldl (stp F) s.1
  | [], s => rfl
  | o :: l, s => by rw [List.foldl_cons, List.foldl_cons, stpB_1]; rfl
theorem stpB_id {F : Fl} {s : (Nat → Int) × (Nat → Int)} {o : Nat × Nat} (h1 : ¬ s.1 o.2 < s.1 o.1 + F.h o.1) (h2 : ¬ s.2 o.1 < s.2 o.2 + F.h o.1) : stp F s o = s := by
  refine Prod.ext (rlx1_id ?_) (rlx1_id ?_)
  · show s.1 o.1 + F.h o.1 ≤ s.1 o.2; omega
  · show s.2 o.2 + F.h o.1 ≤ s.2 o.1; omega
theorem stpB_2 {F : Fl} : ∀ {l : List (Nat × Nat)} {s : ((Nat → Int) × (Nat → Int)) × Bool}, (l.foldl (stpB F) s).2 = false → s.2 = false ∧ (l.foldl (stpB F) s).1 = s.1
  | [], s, h => ⟨h, rfl⟩
  | o :: l, s, h => by
    rw [List.foldl_cons] at h ⊢
    obtain ⟨h1, h2⟩ := stpB_2 h
    rw [h2]
    unfold stpB at h1
    simp only [Bool.or_eq_false_iff, decide_eq_false_iff_not] at h1
    exact ⟨h1.1.1, stpB_id h1.1.2 h1.2⟩
theorem swp_same {E : List Arc} {f : Nat → Int} {n i : Nat} (hn : Clo E (swp E n f)) (hi : Clo E (swp E i f)) : swp E i f = swp E n f := by
  rcases Nat.le_total i n with h | h
  · have := swp_add hi (n - i)
    rw [show i + (n - i) = n by omega] at this
    exact this.symm
  · have := swp_add hn (i - n)
    rw [show n + (i - n) = i by omega] at this
    exact this
def g_l_windows : Pm := fun ds R => ∃ (F : Fl) (L : Int) (cs : List Ch), ds = [eFl F, .int L, .list (cs.map eCh)] ∧ GoodFl 50 F ∧ R (.list ((winW F L cs).map eP))
abbrev e_l_windows : FnE := ⟨"_law_windows", 3, false, g_l_windows⟩
theorem l_windows_ap {F : Fl} {L : Int} {cs : List Ch} {Q : PyData → Prop} (hF : GoodFl 50 F) (q : Q (.list ((winW F L cs).map eP))) : g_l_windows [eFl F, .int L, .list (cs.map eCh)] Q := ⟨F, L, cs, rfl, hF, q⟩
def envW (F : Fl) (L : Int) (cs : List Ch) (s : ((Nat → Int) × (Nat → Int)) × Bool) : Ev := [.val (eFl F), .val (.int L), .val (.list (cs.map eCh)), .val (.int F.jobs.length), .un, .own (.list ((vec F.jobs.length s.1.1).map .int)), .own (.list ((vec F.jobs.length fun k => -(s.1.2 k)).map .int)), .val (.bool s.2), .un, .un, .un, .un]
theorem sem_l_windows : ∀ ds R, ds.length = 3 → g_l_windows ds R → wpSs (Gof [e_l_own]) ir_l_windows (startE 12 ds) { nx := fun _ => false = false ∧ R .none, rt := R } := by
  rintro _ R _ ⟨F, L, cs, rfl, hF, q⟩
  have j2 := hF.j2
  (try simp only [ir_l_windows, ↓wpSs, ↓wpS, ↓wpE, ↓wpEs, ↓wpBop, ↓wpIfs, ↓wpIt, ↓pk, ↓bindT, ↓ownL, ↓lockIt, ↓unlockIt, isT, ↓setAll, ↓wipeE, ↓startE, ↓Tg.slots, ↓IEs.fine, ↓IEs.len, ↓noOwn, ↓isOwnE, ↓Sl.isO, ↓Ev.freeAll, List.replicate, if_true, if_false, reduceIte, Nat.reduceLeDiff, Nat.reduceSub, Nat.reduceAdd, eq_self, reduceCtorEq, Int.reduceLT, Nat.reduceLT, ↓wpl, wpu])
  refine ⟨by omega, by omega, ?_⟩
  refine compL_map (fun k => eP (ownF cs k, ownL' F L cs k)) (fun k hk K h => l_own_ap (List.mem_range.mp hk) h) ?_
  rw [show (List.range F.jobs.length).map (fun k => eP (ownF cs k, ownL' F L cs k)) = (ownW F L cs).map eP by unfold ownW; rw [vec_map]; rfl]
  (try simp only [show (ownW F L cs).length = F.jobs.length from vec_len, ↓wpSs, ↓wpS, ↓wpE, ↓wpEs, ↓wpBop, ↓wpIfs, ↓wpIt, ↓pk, ↓bindT, ↓ownL, ↓lockIt, ↓unlockIt, isT, ↓setAll, ↓wipeE, ↓startE, ↓Tg.slots, ↓IEs.fine, ↓IEs.len, ↓noOwn, ↓isOwnE, ↓Sl.isO, ↓Ev.freeAll, List.replicate, if_true, if_false, reduceIte, Nat.reduceLeDiff, Nat.reduceSub, Nat.reduceAdd, eq_self, reduceCtorEq, Int.reduceLT, Nat.reduceLT, ↓wpl, wpu])
  refine ⟨by omega, ?_⟩
  refine compL_map (fun w => .int w.1) (fun w _ K h => by (try simp only [↓wpSs, ↓wpS, ↓wpE, ↓wpEs, ↓wpBop, ↓wpIfs, ↓wpIt, ↓pk, ↓bindT, ↓ownL, ↓lockIt, ↓unlockIt, isT, ↓setAll, ↓wipeE, ↓startE, ↓Tg.slots, ↓IEs.fine, ↓IEs.len, ↓noOwn, ↓isOwnE, ↓Sl.isO, ↓Ev.freeAll, List.replicate, if_true, if_false, reduceIte, Nat.reduceLeDiff, Nat.reduceSub, Nat.reduceAdd, eq_self, reduceCtorEq, Int.reduceLT, Nat.reduceLT, ↓wpl, wpu]); exact h) ?_
  (try simp only [↓wpSs, ↓wpS, ↓wpE, ↓wpEs, ↓wpBop, ↓wpIfs, ↓wpIt, ↓pk, ↓bindT, ↓ownL, ↓lockIt, ↓unlockIt, isT, ↓setAll, ↓wipeE, ↓startE, ↓Tg.slots, ↓IEs.fine, ↓IEs.len, ↓noOwn, ↓isOwnE, ↓Sl.isO, ↓Ev.freeAll, List.replicate, if_true, if_false, reduceIte, Nat.reduceLeDiff, Nat.reduceSub, Nat.reduceAdd, eq_self, reduceCtorEq, Int.reduceLT, Nat.reduceLT, ↓wpl, wpu])
  refine ⟨by omega, ?_⟩
  refine compL_map (fun w => .int w.2) (fun w _ K h => by (try simp only [↓wpSs, ↓wpS, ↓wpE, ↓wpEs, ↓wpBop, ↓wpIfs, ↓wpIt, ↓pk, ↓bindT, ↓ownL, ↓lockIt, ↓unlockIt, isT, ↓setAll, ↓wipeE, ↓startE, ↓Tg.slots, ↓IEs.fine, ↓IEs.len, ↓noOwn, ↓isOwnE, ↓Sl.isO, ↓Ev.freeAll, List.replicate, if_true, if_false, reduceIte, Nat.reduceLeDiff, Nat.reduceSub, Nat.reduceAdd, eq_self, reduceCtorEq, Int.reduceLT, Nat.reduceLT, ↓wpl, wpu]); exact h) ?_
  have e1 : (ownW F L cs).map (fun w => PyData.int w.1) = (vec F.jobs.length (ownF cs)).map .int := by unfold ownW; rw [vec_map, vec_map]
  have e2 : (ownW F L cs).map (fun w => PyData.int w.2) = (vec F.jobs.length fun k => -(-(ownL' F L cs k))).map .int := by unfold ownW; rw [vec_map, vec_map]; simp
  rw [e1, e2]
  refine ⟨fun m r => ∃ (i : Nat) (c : Bool), i ≤ F.jobs.length + 1 ∧ m = F.jobs.length + 1 - i ∧ (c = true → i ≤ F.jobs.length) ∧ (c = false → Clo (arcsF F) (swp (arcsF F) i (ownF cs)) ∧ Clo (arcsL F) (swp (arcsL F) i fun k => -(ownL' F L cs k))) ∧ r = envW F L cs ((swp (arcsF F) i (ownF cs), swp (arcsL F) i fun k => -(ownL' F L cs k)), c), ⟨_, 0, true, by omega, rfl, fun _ => (by omega), (fun h => nomatch h), rfl⟩, ?_⟩
  rintro m _ ⟨i, c, hi, rfl, hc1, hc2, rfl⟩
  (try simp only [envW, ↓wpSs, ↓wpS, ↓wpE, ↓wpEs, ↓wpBop, ↓wpIfs, ↓wpIt, ↓pk, ↓bindT, ↓ownL, ↓lockIt, ↓unlockIt, isT, ↓setAll, ↓wipeE, ↓startE, ↓Tg.slots, ↓IEs.fine, ↓IEs.len, ↓noOwn, ↓isOwnE, ↓Sl.isO, ↓Ev.freeAll, List.replicate, if_true, if_false, reduceIte, Nat.reduceLeDiff, Nat.reduceSub, Nat.reduceAdd, eq_self, reduceCtorEq, Int.reduceLT, Nat.reduceLT, ↓wpl, wpu])
  cases c with
  | false =>
    (try simp only [ir_l_windows_t1, ↓wpSs, ↓wpS, ↓wpE, ↓wpEs, ↓wpBop, ↓wpIfs, ↓wpIt, ↓pk, ↓bindT, ↓ownL, ↓lockIt, ↓unlockIt, isT, ↓setAll, ↓wipeE, ↓startE, ↓Tg.slots, ↓IEs.fine, ↓IEs.len, ↓noOwn, ↓isOwnE, ↓Sl.isO, ↓Ev.freeAll, List.replicate, if_true, if_false, reduceIte, Nat.reduceLeDiff, Nat.reduceSub, Nat.reduceAdd, eq_self, reduceCtorEq, Int.reduceLT, Nat.reduceLT, ↓wpl, wpu])
    obtain ⟨hf, hl⟩ := hc2 rfl
    refine ⟨by omega, by omega, ?_⟩
    refine compL_map (fun k => eP (winF F cs k, winL F L cs k)) (fun k hk K h => ?_) ?_
    · have hk := List.mem_range.mp hk
      refine at_map (vec_get hk) ?_
      (try simp only [↓wpSs, ↓wpS, ↓wpE, ↓wpEs, ↓wpBop, ↓wpIfs, ↓wpIt, ↓pk, ↓bindT, ↓ownL, ↓lockIt, ↓unlockIt, isT, ↓setAll, ↓wipeE, ↓startE, ↓Tg.slots, ↓IEs.fine, ↓IEs.len, ↓noOwn, ↓isOwnE, ↓Sl.isO, ↓Ev.freeAll, List.replicate, if_true, if_false, reduceIte, Nat.reduceLeDiff, Nat.reduceSub, Nat.reduceAdd, eq_self, reduceCtorEq, Int.reduceLT, Nat.reduceLT, ↓wpl, wpu])
      refine at_map (vec_get hk) ?_
      (try simp only [↓wpSs, ↓wpS, ↓wpE, ↓wpEs, ↓wpBop, ↓wpIfs, ↓wpIt, ↓pk, ↓bindT, ↓ownL, ↓lockIt, ↓unlockIt, isT, ↓setAll, ↓wipeE, ↓startE, ↓Tg.slots, ↓IEs.fine, ↓IEs.len, ↓noOwn, ↓isOwnE, ↓Sl.isO, ↓Ev.freeAll, List.replicate, if_true, if_false, reduceIte, Nat.reduceLeDiff, Nat.reduceSub, Nat.reduceAdd, eq_self, reduceCtorEq, Int.reduceLT, Nat.reduceLT, ↓wpl, wpu])
      rw [swp_same (clo_F hF) hf, swp_same (clo_L hF) hl]
      exact h
    · unfold winW at q
      rw [vec_map] at q
      exact q
  | true =>
    have hi' := hc1 rfl
    (try simp only [ir_l_windows_b1, ↓wpSs, ↓wpS, ↓wpE, ↓wpEs, ↓wpBop, ↓wpIfs, ↓wpIt, ↓pk, ↓bindT, ↓ownL, ↓lockIt, ↓unlockIt, isT, ↓setAll, ↓wipeE, ↓startE, ↓Tg.slots, ↓IEs.fine, ↓IEs.len, ↓noOwn, ↓isOwnE, ↓Sl.isO, ↓Ev.freeAll, List.replicate, if_true, if_false, reduceIte, Nat.reduceLeDiff, Nat.reduceSub, Nat.reduceAdd, eq_self, reduceCtorEq, Int.reduceLT, Nat.reduceLT, ↓wpl, wpu])
    refine forL_fold (env := envW F L cs) (f := stpB F) (s := ((swp (arcsF F) i (ownF cs), swp (arcsL F) i fun k => -(ownL' F L cs k)), false)) (P := fun _ => True) rfl trivial (fun _ => ?_) ?_
    · generalize hs : F.orders.foldl (stpB F) ((swp (arcsF F) i (ownF cs), swp (arcsL F) i fun k => -(ownL' F L cs k)), false) = s
      have h1 : s.1 = (swp (arcsF F) (i + 1) (ownF cs), swp (arcsL F) (i + 1) fun k => -(ownL' F L cs k)) := by
        rw [← hs, stpB_1, fold_stp]
        rfl
      have h2 : s.2 = false → s.1 = (swp (arcsF F) i (ownF cs), swp (arcsL F) i fun k => -(ownL' F L cs k)) := fun h => by
        rw [← hs] at h ⊢
        exact (stpB_2 h).2
      obtain ⟨s1, c⟩ := s
      simp only at h1 h2
      subst h1
      refine ⟨F.jobs.length + 1 - (i + 1), by omega, i + 1, c, by omega, rfl, fun hc => ?_, fun hc => ?_, rfl⟩
      · rcases Nat.lt_or_ge i F.jobs.length with h | h
        · omega
        · exfalso
          have : i = F.jobs.length := by omega
          subst this
          have c1 := clo_F hF (f := ownF cs)
          have c2 := clo_L hF (f := fun k => -(ownL' F L cs k))
          have hh : ∀ (l : List (Nat × Nat)), (∀ o ∈ l, o ∈ F.orders) → (l.foldl (stpB F) ((swp (arcsF F) F.jobs.length (ownF cs), swp (arcsL F) F.jobs.length fun k => -(ownL' F L cs k)), false)).2 = false := by
            intro l
            induction l with
            | nil => intro _; rfl
            | cons o l ih =>
              intro hl
              have ho := hl o List.mem_cons_self
              have a1 := c1 _ (List.mem_map_of_mem (f := arcF F) ho)
              have a2 := c2 _ (List.mem_map_of_mem (f := arcL F) ho)
              simp only [arcF, arcL] at a1 a2
              rw [List.foldl_cons]
              have : stpB F ((swp (arcsF F) F.jobs.length (ownF cs), swp (arcsL F) F.jobs.length fun k => -(ownL' F L cs k)), false) o = ((swp (arcsF F) F.jobs.length (ownF cs), swp (arcsL F) F.jobs.length fun k => -(ownL' F L cs k)), false) := by
                unfold stpB
                rw [stpB_id (by simp only; omega) (by simp only; omega)]
                simp only [Bool.false_or, Prod.mk.injEq, true_and]
                rw [decide_eq_false (by omega), decide_eq_false (by omega)]
                rfl
              rw [this]
              exact ih fun o ho => hl o (List.mem_cons_of_mem _ ho)
          have := hh F.orders fun _ h => h
          rw [hs] at this
          simp only at this
          rw [hc] at this
          cases this
      · have h3 := h2 hc
        injection h3 with h4 h5
        have h4' : rlx (arcsF F) (swp (arcsF F) i (ownF cs)) = swp (arcsF F) i (ownF cs) := h4
        have h5' : rlx (arcsL F) (swp (arcsL F) i fun k => -(ownL' F L cs k)) = swp (arcsL F) i fun k => -(ownL' F L cs k) := h5
        rw [h4, h5]
        exact ⟨clo_of_id h4', clo_of_id h5'⟩
    · rintro o ⟨⟨f, g⟩, c⟩ K' ho _ hK'
      obtain ⟨ho1, ho2, hne⟩ := ord_ok hF ho
      have hK' := hK' trivial
      have gF : ∀ k : Nat, k < F.jobs.length → ∀ f : Nat → Int, (vec F.jobs.length f)[k]? = some (f k) := fun k hk f => vec_get hk
      have tail : ∀ (f' : Nat → Int) (c' : Bool), f' = rlx1 f (arcF F o) → c' = (c || decide (f o.2 < f o.1 + F.h o.1)) → wpSs (Gof [e_l_own]) ir_l_windows_t0 [.val (eFl F), .val (.int L), .val (.list (cs.map eCh)), .val (.int F.jobs.length), .un, .own (.list ((vec F.jobs.length f').map .int)), .own (.list ((vec F.jobs.length fun k => -(g k)).map .int)), .val (.bool c'), .val (.int o.1), .val (.int o.2), .un, .un] { nx := K', rt := R, bk := fun r' => ∃ m', m' < F.jobs.length + 1 - i ∧ ∃ (i : Nat) (c : Bool), i ≤ F.jobs.length + 1 ∧ m' = F.jobs.length + 1 - i ∧ (c = true → i ≤ F.jobs.length) ∧ (c = false → Clo (arcsF F) (swp (arcsF F) i (ownF cs)) ∧ Clo (arcsL F) (swp (arcsL F) i fun k => -(ownL' F L cs k))) ∧ r' = envW F L cs ((swp (arcsF F) i (ownF cs), swp (arcsL F) i fun k => -(ownL' F L cs k)), c), ct := K' } := by
        intro f' c' hf' hc'
        (try simp only [ir_l_windows_t0, ↓wpSs, ↓wpS, ↓wpE, ↓wpEs, ↓wpBop, ↓wpIfs, ↓wpIt, ↓pk, ↓bindT, ↓ownL, ↓lockIt, ↓unlockIt, isT, ↓setAll, ↓wipeE, ↓startE, ↓Tg.slots, ↓IEs.fine, ↓IEs.len, ↓noOwn, ↓isOwnE, ↓Sl.isO, ↓Ev.freeAll, List.replicate, if_true, if_false, reduceIte, Nat.reduceLeDiff, Nat.reduceSub, Nat.reduceAdd, eq_self, reduceCtorEq, Int.reduceLT, Nat.reduceLT, ↓wpl, wpu])
        refine at_map (gF _ ho2 _) ?_
        (try simp only [↓wpSs, ↓wpS, ↓wpE, ↓wpEs, ↓wpBop, ↓wpIfs, ↓wpIt, ↓pk, ↓bindT, ↓ownL, ↓lockIt, ↓unlockIt, isT, ↓setAll, ↓wipeE, ↓startE, ↓Tg.slots, ↓IEs.fine, ↓IEs.len, ↓noOwn, ↓isOwnE, ↓Sl.isO, ↓Ev.freeAll, List.replicate, if_true, if_false, reduceIte, Nat.reduceLeDiff, Nat.reduceSub, Nat.reduceAdd, eq_self, reduceCtorEq, Int.reduceLT, Nat.reduceLT, ↓wpl, wpu])
        refine at_map (get_job ho1) ?_
        (try simp only [↓wpSs, ↓wpS, ↓wpE, ↓wpEs, ↓wpBop, ↓wpIfs, ↓wpIt, ↓pk, ↓bindT, ↓ownL, ↓lockIt, ↓unlockIt, isT, ↓setAll, ↓wipeE, ↓startE, ↓Tg.slots, ↓IEs.fine, ↓IEs.len, ↓noOwn, ↓isOwnE, ↓Sl.isO, ↓Ev.freeAll, List.replicate, if_true, if_false, reduceIte, Nat.reduceLeDiff, Nat.reduceSub, Nat.reduceAdd, eq_self, reduceCtorEq, Int.reduceLT, Nat.reduceLT, ↓wpl, wpu])
        refine at_map (gF _ ho1 _) ?_
        (try simp only [↓wpSs, ↓wpS, ↓wpE, ↓wpEs, ↓wpBop, ↓wpIfs, ↓wpIt, ↓pk, ↓bindT, ↓ownL, ↓lockIt, ↓unlockIt, isT, ↓setAll, ↓wipeE, ↓startE, ↓Tg.slots, ↓IEs.fine, ↓IEs.len, ↓noOwn, ↓isOwnE, ↓Sl.isO, ↓Ev.freeAll, List.replicate, if_true, if_false, reduceIte, Nat.reduceLeDiff, Nat.reduceSub, Nat.reduceAdd, eq_self, reduceCtorEq, Int.reduceLT, Nat.reduceLT, ↓wpl, wpu])
        have hfin : ∀ (l' : Nat → Int) (c2 : Bool), l' = (fun k => -(rlx1 g (arcL F o) k)) → c2 = (c' || decide (g o.1 < g o.2 + F.h o.1)) → K' [.val (eFl F), .val (.int L), .val (.list (cs.map eCh)), .val (.int F.jobs.length), .un, .own (.list ((vec F.jobs.length f').map .int)), .own (.list ((vec F.jobs.length l').map .int)), .val (.bool c2), .un, .un, .un, .un] := by
          rintro _ _ rfl rfl
          subst hf'
          subst hc'
          exact hK'
        split
        · rename_i hlt
          refine at_map (gF _ ho2 _) ?_
          (try simp only [↓wpSs, ↓wpS, ↓wpE, ↓wpEs, ↓wpBop, ↓wpIfs, ↓wpIt, ↓pk, ↓bindT, ↓ownL, ↓lockIt, ↓unlockIt, isT, ↓setAll, ↓wipeE, ↓startE, ↓Tg.slots, ↓IEs.fine, ↓IEs.len, ↓noOwn, ↓isOwnE, ↓Sl.isO, ↓Ev.freeAll, List.replicate, if_true, if_false, reduceIte, Nat.reduceLeDiff, Nat.reduceSub, Nat.reduceAdd, eq_self, reduceCtorEq, Int.reduceLT, Nat.reduceLT, ↓wpl, wpu])
          refine at_map (get_job ho1) ?_
          (try simp only [↓wpSs, ↓wpS, ↓wpE, ↓wpEs, ↓wpBop, ↓wpIfs, ↓wpIt, ↓pk, ↓bindT, ↓ownL, ↓lockIt, ↓unlockIt, isT, ↓setAll, ↓wipeE, ↓startE, ↓Tg.slots, ↓IEs.fine, ↓IEs.len, ↓noOwn, ↓isOwnE, ↓Sl.isO, ↓Ev.freeAll, List.replicate, if_true, if_false, reduceIte, Nat.reduceLeDiff, Nat.reduceSub, Nat.reduceAdd, eq_self, reduceCtorEq, Int.reduceLT, Nat.reduceLT, ↓wpl, wpu])
          rw [vec_len]
          refine ex_set ho1 ?_
          rw [set_ints]
          refine hfin _ _ ?_ ?_
          · funext k
            unfold rlx1 fset arcL
            simp only
            by_cases hk : k = o.1
            · subst hk
              simp only [if_true]
              have : (F.jobs.getD o.1 (0, [])).1 = F.h o.1 := rfl
              rw [this] at hlt ⊢
              omega
            · simp only [if_neg hk]
          · have : (F.jobs.getD o.1 (0, [])).1 = F.h o.1 := rfl
            rw [this] at hlt
            rw [decide_eq_true (by omega), Bool.or_true]
        · rename_i hlt
          have : (F.jobs.getD o.1 (0, [])).1 = F.h o.1 := rfl
          rw [this] at hlt
          refine hfin _ _ ?_ ?_
          · rw [rlx1_id (by show g o.2 + F.h o.1 ≤ g o.1; omega)]
          · rw [decide_eq_false (by omega), Bool.or_false]
      (try simp only [ir_l_windows_b0, envW, ex_ord, ↓wpSs, ↓wpS, ↓wpE, ↓wpEs, ↓wpBop, ↓wpIfs, ↓wpIt, ↓pk, ↓bindT, ↓ownL, ↓lockIt, ↓unlockIt, isT, ↓setAll, ↓wipeE, ↓startE, ↓Tg.slots, ↓IEs.fine, ↓IEs.len, ↓noOwn, ↓isOwnE, ↓Sl.isO, ↓Ev.freeAll, List.replicate, if_true, if_false, reduceIte, Nat.reduceLeDiff, Nat.reduceSub, Nat.reduceAdd, eq_self, reduceCtorEq, Int.reduceLT, Nat.reduceLT, ↓wpl, wpu])
      refine at_map (gF _ ho1 _) ?_
      (try simp only [↓wpSs, ↓wpS, ↓wpE, ↓wpEs, ↓wpBop, ↓wpIfs, ↓wpIt, ↓pk, ↓bindT, ↓ownL, ↓lockIt, ↓unlockIt, isT, ↓setAll, ↓wipeE, ↓startE, ↓Tg.slots, ↓IEs.fine, ↓IEs.len, ↓noOwn, ↓isOwnE, ↓Sl.isO, ↓Ev.freeAll, List.replicate, if_true, if_false, reduceIte, Nat.reduceLeDiff, Nat.reduceSub, Nat.reduceAdd, eq_self, reduceCtorEq, Int.reduceLT, Nat.reduceLT, ↓wpl, wpu])
      refine at_map (get_job ho1) ?_
      (try simp only [↓wpSs, ↓wpS, ↓wpE, ↓wpEs, ↓wpBop, ↓wpIfs, ↓wpIt, ↓pk, ↓bindT, ↓ownL, ↓lockIt, ↓unlockIt, isT, ↓setAll, ↓wipeE, ↓startE, ↓Tg.slots, ↓IEs.fine, ↓IEs.len, ↓noOwn, ↓isOwnE, ↓Sl.isO, ↓Ev.freeAll, List.replicate, if_true, if_false, reduceIte, Nat.reduceLeDiff, Nat.reduceSub, Nat.reduceAdd, eq_self, reduceCtorEq, Int.reduceLT, Nat.reduceLT, ↓wpl, wpu])
      refine at_map (gF _ ho2 _) ?_
      (try simp only [↓wpSs, ↓wpS, ↓wpE, ↓wpEs, ↓wpBop, ↓wpIfs, ↓wpIt, ↓pk, ↓bindT, ↓ownL, ↓lockIt, ↓unlockIt, isT, ↓setAll, ↓wipeE, ↓startE, ↓Tg.slots, ↓IEs.fine, ↓IEs.len, ↓noOwn, ↓isOwnE, ↓Sl.isO, ↓Ev.freeAll, List.replicate, if_true, if_false, reduceIte, Nat.reduceLeDiff, Nat.reduceSub, Nat.reduceAdd, eq_self, reduceCtorEq, Int.reduceLT, Nat.reduceLT, ↓wpl, wpu])
      have eh : (F.jobs.getD o.1 (0, [])).1 = F.h o.1 := rfl
      rw [eh]
      split
      · rename_i hlt
        refine at_map (gF _ ho1 _) ?_
        (try simp only [↓wpSs, ↓wpS, ↓wpE, ↓wpEs, ↓wpBop, ↓wpIfs, ↓wpIt, ↓pk, ↓bindT, ↓ownL, ↓lockIt, ↓unlockIt, isT, ↓setAll, ↓wipeE, ↓startE, ↓Tg.slots, ↓IEs.fine, ↓IEs.len, ↓noOwn, ↓isOwnE, ↓Sl.isO, ↓Ev.freeAll, List.replicate, if_true, if_false, reduceIte, Nat.reduceLeDiff, Nat.reduceSub, Nat.reduceAdd, eq_self, reduceCtorEq, Int.reduceLT, Nat.reduceLT, ↓wpl, wpu])
        refine at_map (get_job ho1) ?_
        (try simp only [↓wpSs, ↓wpS, ↓wpE, ↓wpEs, ↓wpBop, ↓wpIfs, ↓wpIt, ↓pk, ↓bindT, ↓ownL, ↓lockIt, ↓unlockIt, isT, ↓setAll, ↓wipeE, ↓startE, ↓Tg.slots, ↓IEs.fine, ↓IEs.len, ↓noOwn, ↓isOwnE, ↓Sl.isO, ↓Ev.freeAll, List.replicate, if_true, if_false, reduceIte, Nat.reduceLeDiff, Nat.reduceSub, Nat.reduceAdd, eq_self, reduceCtorEq, Int.reduceLT, Nat.reduceLT, ↓wpl, wpu])
        rw [vec_len]
        refine ex_set ho2 ?_
        rw [set_ints, eh]
        refine tail _ _ ?_ ?_
        · funext k
          unfold rlx1 fset arcF
          simp only
          by_cases hk : k = o.2
          · subst hk
            simp only [if_true]
            omega
          · simp only [if_neg hk]
        · rw [decide_eq_true (by omega), Bool.or_true]
      · rename_i hlt
        refine tail _ _ ?_ ?_
        · rw [rlx1_id (by show f o.1 + F.h o.1 ≤ f o.2; omega)]
        · rw [decide_eq_false (by omega), Bool.or_false]
end CF
namespace CF
open PySem PySem.Spec PyProof.Rows L2
def g_l_choices : Pm := fun ds R => ∃ (c : Int) (n : Nat) (long : Int), ds = [.int c, .int n, .int long] ∧ 0 ≤ c ∧ 1 ≤ n ∧ n ≤ 12 ∧ 0 ≤ long ∧ ∀ cs : List Ch, cs.length ≤ 19 → (∀ c ∈ cs, c.job < n) → R (.list (cs.map eCh))
abbrev e_l_choices : FnE := ⟨"_law_choices", 3, false, g_l_choices⟩
theorem choices_ap {c long : Int} {n : Nat} {Q : PyData → Prop} (h0 : 0 ≤ c) (h1 : 1 ≤ n) (h2 : n ≤ 12) (h3 : 0 ≤ long) (q : ∀ cs : List Ch, cs.length ≤ 19 → (∀ c ∈ cs, c.job < n) → Q (.list (cs.map eCh))) : g_l_choices [.int c, .int n, .int long] Q := ⟨c, n, long, rfl, h0, h1, h2, h3, q⟩
theorem sem_l_choices : ∀ ds R, ds.length = 3 → g_l_choices ds R → wpSs (Gof [e_l_mix]) ir_l_choices (startE 7 ds) { nx := fun _ => false = false ∧ R .none, rt := R } := by
  rintro _ R _ ⟨c, n, long, rfl, h0, h1, h2, h3, q⟩
  (try simp only [ir_l_choices, ↓wpSs, ↓wpS, ↓wpE, ↓wpEs, ↓wpBop, ↓wpIfs, ↓wpIt, ↓pk, ↓bindT, ↓ownL, ↓lockIt, ↓unlockIt, isT, ↓setAll, ↓wipeE, ↓startE, ↓Tg.slots, ↓IEs.fine, ↓IEs.len, ↓noOwn, ↓isOwnE, ↓Sl.isO, ↓Ev.freeAll, List.replicate, if_true, if_false, reduceIte, Nat.reduceLeDiff, Nat.reduceSub, Nat.reduceAdd, eq_self, reduceCtorEq, Int.reduceLT, Nat.reduceLT, ↓wpl, wpu])
  refine at2i (by omega) (by omega) fun m hm => ?_
  (try simp only [↓wpSs, ↓wpS, ↓wpE, ↓wpEs, ↓wpBop, ↓wpIfs, ↓wpIt, ↓pk, ↓bindT, ↓ownL, ↓lockIt, ↓unlockIt, isT, ↓setAll, ↓wipeE, ↓startE, ↓Tg.slots, ↓IEs.fine, ↓IEs.len, ↓noOwn, ↓isOwnE, ↓Sl.isO, ↓Ev.freeAll, List.replicate, if_true, if_false, reduceIte, Nat.reduceLeDiff, Nat.reduceSub, Nat.reduceAdd, eq_self, reduceCtorEq, Int.reduceLT, Nat.reduceLT, ↓wpl, wpu])
  refine ⟨by omega, ?_⟩
  refine forL_rng (fun i r => ∃ cs : List Ch, cs.length = i ∧ (∀ c ∈ cs, c.job < n) ∧ r = [.val (.int c), .val (.int n), .val (.int long), .own (.list (cs.map eCh)), .un, .un, .un]) ⟨[], rfl, fun c hc => by simp at hc, rfl⟩ ?_ ?_
  · rintro _ ⟨cs, e1, e2, rfl⟩
    (try simp only [ir_l_choices_t0, ↓wpSs, ↓wpS, ↓wpE, ↓wpEs, ↓wpBop, ↓wpIfs, ↓wpIt, ↓pk, ↓bindT, ↓ownL, ↓lockIt, ↓unlockIt, isT, ↓setAll, ↓wipeE, ↓startE, ↓Tg.slots, ↓IEs.fine, ↓IEs.len, ↓noOwn, ↓isOwnE, ↓Sl.isO, ↓Ev.freeAll, List.replicate, if_true, if_false, reduceIte, Nat.reduceLeDiff, Nat.reduceSub, Nat.reduceAdd, eq_self, reduceCtorEq, Int.reduceLT, Nat.reduceLT, ↓wpl, wpu])
    exact q cs (by omega) e2
  · rintro i _ K hi ⟨cs, e1, e2, rfl⟩ hK
    (try simp only [ir_l_choices_b0, mix_ap, ↓wpSs, ↓wpS, ↓wpE, ↓wpEs, ↓wpBop, ↓wpIfs, ↓wpIt, ↓pk, ↓bindT, ↓ownL, ↓lockIt, ↓unlockIt, isT, ↓setAll, ↓wipeE, ↓startE, ↓Tg.slots, ↓IEs.fine, ↓IEs.len, ↓noOwn, ↓isOwnE, ↓Sl.isO, ↓Ev.freeAll, List.replicate, if_true, if_false, reduceIte, Nat.reduceLeDiff, Nat.reduceSub, Nat.reduceAdd, eq_self, reduceCtorEq, Int.reduceLT, Nat.reduceLT, ↓wpl, wpu])
    generalize mix c (i + 5) = m1
    refine ⟨by omega, ?_⟩
    have fin : ∀ b : Bool, K [.val (.int c), .val (.int n), .val (.int long), .own (.list (cs.map eCh ++ [.tuple [.str (wayS b), .int (m1 / 2 % n), .int (m1 / 32 % (long + 6) - 3)]])), .un, .un, .un] := fun b => by
      have hb := mod_lt_ (a := m1 / 2) (b := (n : Int)) (by omega)
      refine hK _ ⟨cs ++ [⟨b, (m1 / 2 % n).toNat, m1 / 32 % (long + 6) - 3⟩], by simp [e1], fun c hc => ?_, ?_⟩
      · rw [List.mem_append, List.mem_singleton] at hc
        rcases hc with hc | rfl
        · exact e2 c hc
        · show (m1 / 2 % n).toNat < n
          omega
      · rw [List.map_append, List.map_singleton, eCh]
        simp only
        rw [Int.toNat_of_nonneg hb.1]
    refine at2 (by omega) (by omega) (fun _ => ⟨by omega, by omega, fin false⟩) (fun _ => ⟨by omega, by omega, fin true⟩)
def g_l_pairs : Pm := fun ds R => ∃ W : List (Int × Int), ds = [.list (W.map eP), .list (W.map eP)] ∧ W.length ≤ 12 ∧ R (.bool true)
abbrev e_l_pairs : FnE := ⟨"_law_pairs", 2, false, g_l_pairs⟩
theorem pairs_ap {W : List (Int × Int)} {Q : PyData → Prop} (h : W.length ≤ 12) (q : Q (.bool true)) : g_l_pairs [.list (W.map eP), .list (W.map eP)] Q := ⟨W, rfl, h, q⟩
theorem isT_ep {w : Int × Int} {t : Ty} : isT (eP w) t = isT (.tuple []) t := by cases t <;> rfl
theorem len_ep {w : Int × Int} {Q : PyData → Prop} : bltP .len [eP w] Q = Q (.int 2) := rfl
theorem sem_l_pairs : ∀ ds R, ds.length = 2 → g_l_pairs ds R → wpSs (Gof [e_l_whole]) ir_l_pairs (startE 3 ds) { nx := fun _ => false = false ∧ R .none, rt := R } := by
  rintro _ R _ ⟨W, rfl, hl, q⟩
  (try simp only [ir_l_pairs, ir_l_pairs_t2, ↓wpSs, ↓wpS, ↓wpE, ↓wpEs, ↓wpBop, ↓wpIfs, ↓wpIt, ↓pk, ↓bindT, ↓ownL, ↓lockIt, ↓unlockIt, isT, ↓setAll, ↓wipeE, ↓startE, ↓Tg.slots, ↓IEs.fine, ↓IEs.len, ↓noOwn, ↓isOwnE, ↓Sl.isO, ↓Ev.freeAll, List.replicate, if_true, if_false, reduceIte, Nat.reduceLeDiff, Nat.reduceSub, Nat.reduceAdd, eq_self, reduceCtorEq, Int.reduceLT, Nat.reduceLT, ↓wpl, wpu])
  refine ⟨by omega, ?_⟩
  refine forL_rng (fun i r => r = [.val (.list (W.map eP)), .val (.list (W.map eP)), .un]) rfl ?_ ?_
  · rintro _ rfl
    (try simp only [ir_l_pairs_t1, ↓wpSs, ↓wpS, ↓wpE, ↓wpEs, ↓wpBop, ↓wpIfs, ↓wpIt, ↓pk, ↓bindT, ↓ownL, ↓lockIt, ↓unlockIt, isT, ↓setAll, ↓wipeE, ↓startE, ↓Tg.slots, ↓IEs.fine, ↓IEs.len, ↓noOwn, ↓isOwnE, ↓Sl.isO, ↓Ev.freeAll, List.replicate, if_true, if_false, reduceIte, Nat.reduceLeDiff, Nat.reduceSub, Nat.reduceAdd, eq_self, reduceCtorEq, Int.reduceLT, Nat.reduceLT, ↓wpl, wpu])
    exact q
  · rintro i _ K hi rfl hK
    (try simp only [ir_l_pairs_b0, ↓wpSs, ↓wpS, ↓wpE, ↓wpEs, ↓wpBop, ↓wpIfs, ↓wpIt, ↓pk, ↓bindT, ↓ownL, ↓lockIt, ↓unlockIt, isT, ↓setAll, ↓wipeE, ↓startE, ↓Tg.slots, ↓IEs.fine, ↓IEs.len, ↓noOwn, ↓isOwnE, ↓Sl.isO, ↓Ev.freeAll, List.replicate, if_true, if_false, reduceIte, Nat.reduceLeDiff, Nat.reduceSub, Nat.reduceAdd, eq_self, reduceCtorEq, Int.reduceLT, Nat.reduceLT, ↓wpl, wpu])
    refine at_map (mem_at hi) ?_
    (try simp only [isT_ep, len_ep, ↓wpSs, ↓wpS, ↓wpE, ↓wpEs, ↓wpBop, ↓wpIfs, ↓wpIt, ↓pk, ↓bindT, ↓ownL, ↓lockIt, ↓unlockIt, isT, ↓setAll, ↓wipeE, ↓startE, ↓Tg.slots, ↓IEs.fine, ↓IEs.len, ↓noOwn, ↓isOwnE, ↓Sl.isO, ↓Ev.freeAll, List.replicate, if_true, if_false, reduceIte, Nat.reduceLeDiff, Nat.reduceSub, Nat.reduceAdd, eq_self, reduceCtorEq, Int.reduceLT, Nat.reduceLT, ↓wpl, wpu])
    refine at_map (mem_at hi) ?_
    (try simp only [isT_ep, len_ep, ↓wpSs, ↓wpS, ↓wpE, ↓wpEs, ↓wpBop, ↓wpIfs, ↓wpIt, ↓pk, ↓bindT, ↓ownL, ↓lockIt, ↓unlockIt, isT, ↓setAll, ↓wipeE, ↓startE, ↓Tg.slots, ↓IEs.fine, ↓IEs.len, ↓noOwn, ↓isOwnE, ↓Sl.isO, ↓Ev.freeAll, List.replicate, if_true, if_false, reduceIte, Nat.reduceLeDiff, Nat.reduceSub, Nat.reduceAdd, eq_self, reduceCtorEq, Int.reduceLT, Nat.reduceLT, ↓wpl, wpu])
    refine at_map (mem_at hi) ?_
    (try simp only [isT_ep, len_ep, ↓wpSs, ↓wpS, ↓wpE, ↓wpEs, ↓wpBop, ↓wpIfs, ↓wpIt, ↓pk, ↓bindT, ↓ownL, ↓lockIt, ↓unlockIt, isT, ↓setAll, ↓wipeE, ↓startE, ↓Tg.slots, ↓IEs.fine, ↓IEs.len, ↓noOwn, ↓isOwnE, ↓Sl.isO, ↓Ev.freeAll, List.replicate, if_true, if_false, reduceIte, Nat.reduceLeDiff, Nat.reduceSub, Nat.reduceAdd, eq_self, reduceCtorEq, Int.reduceLT, Nat.reduceLT, ↓wpl, wpu])
    refine at_map (mem_at hi) ?_
    (try simp only [ir_l_pairs_t0, ↓wpSs, ↓wpS, ↓wpE, ↓wpEs, ↓wpBop, ↓wpIfs, ↓wpIt, ↓pk, ↓bindT, ↓ownL, ↓lockIt, ↓unlockIt, isT, ↓setAll, ↓wipeE, ↓startE, ↓Tg.slots, ↓IEs.fine, ↓IEs.len, ↓noOwn, ↓isOwnE, ↓Sl.isO, ↓Ev.freeAll, List.replicate, if_true, if_false, reduceIte, Nat.reduceLeDiff, Nat.reduceSub, Nat.reduceAdd, eq_self, reduceCtorEq, Int.reduceLT, Nat.reduceLT, ↓wpl, wpu])
    refine at_map (mem_at hi) ?_
    (try simp only [↓wpSs, ↓wpS, ↓wpE, ↓wpEs, ↓wpBop, ↓wpIfs, ↓wpIt, ↓pk, ↓bindT, ↓ownL, ↓lockIt, ↓unlockIt, isT, ↓setAll, ↓wipeE, ↓startE, ↓Tg.slots, ↓IEs.fine, ↓IEs.len, ↓noOwn, ↓isOwnE, ↓Sl.isO, ↓Ev.freeAll, List.replicate, if_true, if_false, reduceIte, Nat.reduceLeDiff, Nat.reduceSub, Nat.reduceAdd, eq_self, reduceCtorEq, Int.reduceLT, Nat.reduceLT, ↓wpl, wpu])
    refine whole_int ?_
    (try simp only [↓wpSs, ↓wpS, ↓wpE, ↓wpEs, ↓wpBop, ↓wpIfs, ↓wpIt, ↓pk, ↓bindT, ↓ownL, ↓lockIt, ↓unlockIt, isT, ↓setAll, ↓wipeE, ↓startE, ↓Tg.slots, ↓IEs.fine, ↓IEs.len, ↓noOwn, ↓isOwnE, ↓Sl.isO, ↓Ev.freeAll, List.replicate, if_true, if_false, reduceIte, Nat.reduceLeDiff, Nat.reduceSub, Nat.reduceAdd, eq_self, reduceCtorEq, Int.reduceLT, Nat.reduceLT, ↓wpl, wpu])
    refine at_map (mem_at hi) ?_
    (try simp only [↓wpSs, ↓wpS, ↓wpE, ↓wpEs, ↓wpBop, ↓wpIfs, ↓wpIt, ↓pk, ↓bindT, ↓ownL, ↓lockIt, ↓unlockIt, isT, ↓setAll, ↓wipeE, ↓startE, ↓Tg.slots, ↓IEs.fine, ↓IEs.len, ↓noOwn, ↓isOwnE, ↓Sl.isO, ↓Ev.freeAll, List.replicate, if_true, if_false, reduceIte, Nat.reduceLeDiff, Nat.reduceSub, Nat.reduceAdd, eq_self, reduceCtorEq, Int.reduceLT, Nat.reduceLT, ↓wpl, wpu])
    refine whole_int ?_
    (try simp only [↓wpSs, ↓wpS, ↓wpE, ↓wpEs, ↓wpBop, ↓wpIfs, ↓wpIt, ↓pk, ↓bindT, ↓ownL, ↓lockIt, ↓unlockIt, isT, ↓setAll, ↓wipeE, ↓startE, ↓Tg.slots, ↓IEs.fine, ↓IEs.len, ↓noOwn, ↓isOwnE, ↓Sl.isO, ↓Ev.freeAll, List.replicate, if_true, if_false, reduceIte, Nat.reduceLeDiff, Nat.reduceSub, Nat.reduceAdd, eq_self, reduceCtorEq, Int.reduceLT, Nat.reduceLT, ↓wpl, wpu])
    exact hK _ rfl
end CF
namespace CF
open PySem PySem.Spec PyProof.Rows L2
-- 0 thing
def ir_is_whole : ISs :=
  (.cons (.ret (.bop .And (.cons (.isi (.var 0) .int) (.cons (.no (.isi (.var 0) .bool)) .nil))))
  .nil)
-- calls: 
-- 0 thing, 1 many
def ir_is_number_of : ISs :=
  (.cons (.ret (.bop .And (.cons (.call 0 (.cons (.var 0) .nil)) (.cons (.chain .LtE .Lt (.kint 0) (.var 0) (.var 1)) .nil))))
  .nil)
-- calls: is_whole
-- 0 floor, 1 jobs, 2 job, 3 k
def ir_is_chain_b0 : ISs :=
  (.cons (.ife (.no (.call 0 (.cons (.var 2) (.cons (.blt .len (.cons (.ix (.var 0) (.kint 1)) .nil)) .nil))))
    (.cons (.ret (.kbool false))
    .nil)
    .nil)
  (.fgt [2] .nil))
def ir_is_chain_b1 : ISs :=
  (.cons (.ife (.cmp .NotIn (.tup (.cons (.ix (.var 1) (.var 3)) (.cons (.ix (.var 1) (.bin .Add (.var 3) (.kint 1))) .nil))) (.ix (.var 0) (.kint 2)))
    (.cons (.ret (.kbool false))
    .nil)
    .nil)
  (.fgt [3] .nil))
def ir_is_chain_t0 : ISs :=
  (.cons (.ret (.kbool true))
  .nil)
def ir_is_chain_t1 : ISs :=
  (.cons (.fors (.one 3) (.rng (.cons (.bin .Sub (.blt .len (.cons (.var 1) .nil)) (.kint 1)) .nil)) ir_is_chain_b1)
  ir_is_chain_t0)
def ir_is_chain_t2 : ISs :=
  (.cons (.fors (.one 2) (.seq (.var 1)) ir_is_chain_b0)
  ir_is_chain_t1)
def ir_is_chain : ISs :=
  (.cons (.ife (.bop .Or (.cons (.no (.isi (.var 1) .tuple)) (.cons (.cmp .Eq (.blt .len (.cons (.var 1) .nil)) (.kint 0)) .nil)))
    (.cons (.ret (.kbool false))
    .nil)
    .nil)
  ir_is_chain_t2)
-- calls: is_number_of
-- 0 floor, 1 limit, 2 choices, 3 jobs, 4 found, 5 end, 6 job
def ir_chain_shuts_t0 : ISs :=
  (.cons (.set 4 (.call 1 (.cons (.var 0) (.cons (.var 1) (.cons (.var 2) .nil)))))
  (.cons (.set 5 (.bin .Add (.ix (.ix (.var 4) (.ix (.var 3) (.kint 0))) (.kint 0)) (.blt .sum (.cons (.comp (.ix (.ix (.ix (.var 0) (.kint 1)) (.var 6)) (.kint 0)) (.one 6) (.seq (.sl (.var 3) .nil (.cons (.neg (.kint 1)) .nil))) .nil) .nil))))
  (.cons (.ret (.cmp .Gt (.var 5) (.ix (.ix (.var 4) (.ix (.var 3) (.neg (.kint 1)))) (.kint 1))))
  .nil)))
def ir_chain_shuts : ISs :=
  (.cons (.ife (.no (.call 0 (.cons (.var 0) (.cons (.var 3) .nil))))
    (.cons (.ret (.kbool false))
    .nil)
    .nil)
  ir_chain_shuts_t0)
-- calls: is_chain, own_windows
-- 0 floor, 1 limit, 2 choices, 3 tree, 4 crew, 5 begin, 6 end
def ir_stretch_shuts_t0 : ISs :=
  (.cons (.ret (.cmp .Gt (.call 2 (.cons (.var 0) (.cons (.call 3 (.cons (.var 0) (.cons (.var 1) (.cons (.var 2) .nil)))) (.cons (.var 4) (.cons (.var 5) (.cons (.var 6) .nil)))))) (.bin .Mult (.ix (.ix (.var 0) (.kint 0)) (.var 4)) (.bin .Sub (.var 6) (.var 5)))))
  .nil)
def ir_stretch_shuts_t1 : ISs :=
  (.cons (.ife (.bop .Or (.cons (.cmp .Lt (.var 5) (.kint 0)) (.cons (.cmp .GtE (.var 5) (.var 6)) .nil)))
    (.cons (.ret (.kbool false))
    .nil)
    .nil)
  ir_stretch_shuts_t0)
def ir_stretch_shuts : ISs :=
  (.cons (.setT [4, 5, 6] (.sl (.var 3) (.cons (.kint 1) .nil) .nil))
  (.cons (.ife (.bop .Or (.cons (.no (.call 1 (.cons (.var 4) (.cons (.blt .len (.cons (.ix (.var 0) (.kint 0)) .nil)) .nil)))) (.cons (.no (.call 0 (.cons (.var 5) .nil))) (.cons (.no (.call 0 (.cons (.var 6) .nil))) .nil))))
    (.cons (.ret (.kbool false))
    .nil)
    .nil)
  ir_stretch_shuts_t1))
-- calls: is_whole, is_number_of, asked, windows
-- 0 floor, 1 limit, 2 choices, 3 tree
def ir_walked_t0 : ISs :=
  (.cons (.ret (.call 4 (.cons (.var 0) (.cons (.var 1) (.cons (.bin .Add (.var 2) (.lst (.cons (.tup (.cons (.kstr "late") (.cons (.ix (.var 3) (.kint 1)) (.cons (.ix (.var 3) (.kint 2)) .nil)))) .nil))) (.cons (.ix (.var 3) (.kint 4)) .nil))))))
  .nil)
def ir_walked_t1 : ISs :=
  (.cons (.ife (.no (.call 4 (.cons (.var 0) (.cons (.var 1) (.cons (.bin .Add (.var 2) (.lst (.cons (.tup (.cons (.kstr "early") (.cons (.ix (.var 3) (.kint 1)) (.cons (.ix (.var 3) (.kint 2)) .nil)))) .nil))) (.cons (.ix (.var 3) (.kint 3)) .nil))))))
    (.cons (.ret (.kbool false))
    .nil)
    .nil)
  ir_walked_t0)
def ir_walked_t2 : ISs :=
  (.cons (.ife (.bop .Or (.cons (.no (.call 3 (.cons (.ix (.var 3) (.kint 1)) (.cons (.blt .len (.cons (.ix (.var 0) (.kint 1)) .nil)) .nil)))) (.cons (.no (.call 2 (.cons (.ix (.var 3) (.kint 2)) .nil))) .nil)))
    (.cons (.ret (.kbool false))
    .nil)
    .nil)
  ir_walked_t1)
def ir_walked_t3 : ISs :=
  (.cons (.ife (.bop .Or (.cons (.cmp .NotEq (.ix (.var 3) (.kint 0)) (.kstr "split")) (.cons (.cmp .NotEq (.blt .len (.cons (.var 3) .nil)) (.kint 5)) .nil)))
    (.cons (.ret (.kbool false))
    .nil)
    .nil)
  ir_walked_t2)
def ir_walked_t4 : ISs :=
  (.cons (.ife (.cmp .Eq (.ix (.var 3) (.kint 0)) (.kstr "stretch"))
    (.cons (.ret (.bop .And (.cons (.cmp .Eq (.blt .len (.cons (.var 3) .nil)) (.kint 4)) (.cons (.call 1 (.cons (.var 0) (.cons (.var 1) (.cons (.var 2) (.cons (.var 3) .nil))))) .nil))))
    .nil)
    .nil)
  ir_walked_t3)
def ir_walked_t5 : ISs :=
  (.cons (.ife (.cmp .Eq (.ix (.var 3) (.kint 0)) (.kstr "chain"))
    (.cons (.ret (.bop .And (.cons (.cmp .Eq (.blt .len (.cons (.var 3) .nil)) (.kint 2)) (.cons (.call 0 (.cons (.var 0) (.cons (.var 1) (.cons (.var 2) (.cons (.ix (.var 3) (.kint 1)) .nil))))) .nil))))
    .nil)
    .nil)
  ir_walked_t4)
def ir_walked : ISs :=
  (.cons (.ife (.bop .Or (.cons (.no (.isi (.var 3) .tuple)) (.cons (.cmp .Lt (.blt .len (.cons (.var 3) .nil)) (.kint 2)) (.cons (.no (.isi (.ix (.var 3) (.kint 0)) .str)) .nil))))
    (.cons (.ret (.kbool false))
    .nil)
    .nil)
  ir_walked_t5)
-- calls: chain_shuts, stretch_shuts, is_whole, is_number_of, walked
-- 0 floor, 1 limit, 2 tree
def ir_shut : ISs :=
  (.cons (.ret (.call 0 (.cons (.var 0) (.cons (.var 1) (.cons (.lst .nil) (.cons (.var 2) .nil))))))
  .nil)
-- calls: walked
end CF
namespace CF
open PySem PySem.Spec PyProof.Rows L2
/-! ### trees, gone through -/
theorem cut_front {xs : List PyData} : cutP xs none (some (-1)) = xs.dropLast := by
  unfold cutP
  rw [HT.sIx_none, List.drop_zero, Nat.sub_zero, List.dropLast_eq_take]
  congr 1
  unfold HT.sIx
  simp only
  rw [if_pos (by omega)]
  omega
theorem cut_tail {xs : List PyData} {k : Nat} (h : k ≤ xs.length) : cutP xs (some (k : Int)) none = xs.drop k := by
  unfold cutP
  rw [HT.sIx_nat, HT.sIx_none, Nat.min_eq_left h]
  exact List.take_of_length_le (by rw [List.length_drop]; omega)
theorem at_last {α : Type} {xs : List α} (h : xs ≠ []) : atI xs (-1) = some (xs.getLast h) := by
  have hl : 0 < xs.length := List.length_pos_iff.mpr h
  unfold atI ixN
  rw [if_neg (by omega), if_pos (by omega)]
  simp only [Option.bind_some]
  rw [List.getLast_eq_getElem, show (-1 + (xs.length : Int)).toNat = xs.length - 1 by omega]
  exact mem_at _
def whN (d : PyData) : Option Int := match d with | .int i => some i | _ => none
def numN (n : Nat) (d : PyData) : Option Nat := match d with | .int i => if 0 ≤ i ∧ i < n then some i.toNat else none | _ => none
theorem whN_some {d : PyData} {i : Int} (h : whN d = some i) : d = .int i := by
  cases d <;> simp [whN] at h
  subst h
  rfl
theorem numN_some {n : Nat} {d : PyData} {k : Nat} (h : numN n d = some k) : d = .int k ∧ k < n := by
  cases d <;> simp [numN] at h
  obtain ⟨⟨h1, h2⟩, rfl⟩ := h
  refine ⟨?_, by omega⟩
  rw [Int.toNat_of_nonneg h1]
theorem numN_int {n : Nat} {i : Int} : numN n (.int i) = if 0 ≤ i ∧ i < n then some i.toNat else none := rfl
theorem numN_nat {n k : Nat} (h : k < n) : numN n (.int k) = some k := by
  rw [numN_int, if_pos (by omega)]
  rfl
theorem wh_isT {d : PyData} : (isT d .int && !isT d .bool) = (whN d).isSome := by cases d <;> rfl
def g_is_whole : Pm := fun ds R => ∃ d, ds = [d] ∧ R (.bool (whN d).isSome)
abbrev e_is_whole : FnE := ⟨"is_whole", 1, false, g_is_whole⟩
theorem is_whole_ap {d : PyData} {Q : PyData → Prop} (q : Q (.bool (whN d).isSome)) : g_is_whole [d] Q := ⟨d, rfl, q⟩
theorem sem_is_whole : ∀ ds R, ds.length = 1 → g_is_whole ds R → wpSs (Gof []) ir_is_whole (startE 1 ds) { nx := fun _ => false = false ∧ R .none, rt := R } := by
  rintro _ R _ ⟨d, rfl, q⟩
  cases d <;> ((try simp only [ir_is_whole, ↓wpSs, ↓wpS, ↓wpE, ↓wpEs, ↓wpBop, ↓wpIfs, ↓wpIt, ↓pk, ↓bindT, ↓ownL, ↓lockIt, ↓unlockIt, isT, ↓setAll, ↓wipeE, ↓startE, ↓Tg.slots, ↓IEs.fine, ↓IEs.len, ↓noOwn, ↓isOwnE, ↓Sl.isO, ↓Ev.freeAll, List.replicate, if_true, if_false, reduceIte, Nat.reduceLeDiff, Nat.reduceSub, Nat.reduceAdd, eq_self, reduceCtorEq, Int.reduceLT, Nat.reduceLT, ↓wpl, wpu]); simpa [isT, whN] using q)
def g_is_number_of : Pm := fun ds R => ∃ (d : PyData) (n : Nat), ds = [d, .int n] ∧ R (.bool (numN n d).isSome)
abbrev e_is_number_of : FnE := ⟨"is_number_of", 2, false, g_is_number_of⟩
theorem is_number_ap {d : PyData} {n : Nat} {Q : PyData → Prop} (q : Q (.bool (numN n d).isSome)) : g_is_number_of [d, .int n] Q := ⟨d, n, rfl, q⟩
theorem sem_is_number_of : ∀ ds R, ds.length = 2 → g_is_number_of ds R → wpSs (Gof [e_is_whole]) ir_is_number_of (startE 2 ds) { nx := fun _ => false = false ∧ R .none, rt := R } := by
  rintro _ R _ ⟨d, n, rfl, q⟩
  (try simp only [ir_is_number_of, ↓wpSs, ↓wpS, ↓wpE, ↓wpEs, ↓wpBop, ↓wpIfs, ↓wpIt, ↓pk, ↓bindT, ↓ownL, ↓lockIt, ↓unlockIt, isT, ↓setAll, ↓wipeE, ↓startE, ↓Tg.slots, ↓IEs.fine, ↓IEs.len, ↓noOwn, ↓isOwnE, ↓Sl.isO, ↓Ev.freeAll, List.replicate, if_true, if_false, reduceIte, Nat.reduceLeDiff, Nat.reduceSub, Nat.reduceAdd, eq_self, reduceCtorEq, Int.reduceLT, Nat.reduceLT, ↓wpl, wpu])
  refine is_whole_ap ?_
  (try simp only [↓wpSs, ↓wpS, ↓wpE, ↓wpEs, ↓wpBop, ↓wpIfs, ↓wpIt, ↓pk, ↓bindT, ↓ownL, ↓lockIt, ↓unlockIt, isT, ↓setAll, ↓wipeE, ↓startE, ↓Tg.slots, ↓IEs.fine, ↓IEs.len, ↓noOwn, ↓isOwnE, ↓Sl.isO, ↓Ev.freeAll, List.replicate, if_true, if_false, reduceIte, Nat.reduceLeDiff, Nat.reduceSub, Nat.reduceAdd, eq_self, reduceCtorEq, Int.reduceLT, Nat.reduceLT, ↓wpl, wpu])
  cases d with
  | int i =>
    simp only [whN, Option.isSome_some, if_true]
    (try simp only [↓wpSs, ↓wpS, ↓wpE, ↓wpEs, ↓wpBop, ↓wpIfs, ↓wpIt, ↓pk, ↓bindT, ↓ownL, ↓lockIt, ↓unlockIt, isT, ↓setAll, ↓wipeE, ↓startE, ↓Tg.slots, ↓IEs.fine, ↓IEs.len, ↓noOwn, ↓isOwnE, ↓Sl.isO, ↓Ev.freeAll, List.replicate, if_true, if_false, reduceIte, Nat.reduceLeDiff, Nat.reduceSub, Nat.reduceAdd, eq_self, reduceCtorEq, Int.reduceLT, Nat.reduceLT, ↓wpl, wpu])
    rw [numN_int] at q
    by_cases h1 : 0 ≤ i
    · rw [if_pos h1]
      by_cases h2 : i < n
      · rw [if_pos ⟨h1, h2⟩] at q; rw [decide_eq_true h2]; exact q
      · rw [if_neg (fun e => h2 e.2)] at q; rw [decide_eq_false h2]; exact q
    · rw [if_neg h1]
      rw [if_neg (fun e => h1 e.1)] at q; exact q
  | _ => simpa [whN, numN] using q
def nums (n : Nat) : List PyData → Option (List Nat)
  | [] => some []
  | x :: xs => match numN n x, nums n xs with
    | some k, some ks => some (k :: ks)
    | _, _ => none
theorem nums_some {n : Nat} : ∀ {xs : List PyData} {ks : List Nat}, nums n xs = some ks → xs = ks.map (fun k => PyData.int (k : Nat)) ∧ ∀ k ∈ ks, k < n
  | [], ks, h => by cases h; exact ⟨rfl, fun k hk => by simp at hk⟩
  | x :: xs, ks, h => by
    unfold nums at h
    split at h
    · rename_i k ks' h1 h2
      cases h
      obtain ⟨e1, e2⟩ := numN_some h1
      obtain ⟨e3, e4⟩ := nums_some h2
      refine ⟨by rw [List.map_cons, ← e3, e1], fun j hj => ?_⟩
      rcases List.mem_cons.mp hj with rfl | hj
      · exact e2
      · exact e4 j hj
    · cases h
theorem nums_none {n : Nat} : ∀ {xs : List PyData}, nums n xs = none → ∃ (i : Nat) (x : PyData), xs[i]? = some x ∧ numN n x = none
  | [], h => by cases h
  | x :: xs, h => by
    unfold nums at h
    cases h1 : numN n x with
    | none => exact ⟨0, x, rfl, h1⟩
    | some k =>
      cases h2 : nums n xs with
      | none =>
        obtain ⟨i, y, e1, e2⟩ := nums_none h2
        exact ⟨i + 1, y, e1, e2⟩
      | some ks => rw [h1, h2] at h; cases h
theorem nums_all {n : Nat} : ∀ {xs : List PyData} {ks : List Nat}, nums n xs = some ks → ∀ x ∈ xs, (numN n x).isSome = true
  | [], ks, h, x, hx => by simp at hx
  | y :: xs, ks, h, x, hx => by
    unfold nums at h
    split at h
    · rename_i k ks' h1 h2
      rcases List.mem_cons.mp hx with rfl | hx
      · rw [h1]; rfl
      · exact nums_all h2 x hx
    · cases h
def linkd (F : Fl) (ks : List Nat) : Prop := ∀ i : Nat, ∀ a b, ks[i]? = some a → ks[i + 1]? = some b → (a, b) ∈ F.orders
instance (F : Fl) (ks : List Nat) : Decidable (linkd F ks) := decidable_of_iff (∀ i : Fin (ks.length - 1), (ks.getD i 0, ks.getD (i + 1) 0) ∈ F.orders) ⟨fun h i a b ha hb => by
    have h1 : i + 1 < ks.length := (List.getElem?_eq_some_iff.mp hb).1
    have := h ⟨i, by omega⟩
    simp only [List.getD_eq_getElem?_getD, ha, hb, Option.getD_some] at this
    exact this, fun h i => by
    obtain ⟨i, hi⟩ := i
    exact h i _ _ (by rw [getD_of (show i < ks.length by omega)]; exact mem_at _) (by rw [getD_of (show i + 1 < ks.length by omega)]; exact mem_at _)⟩
def chN (F : Fl) (d : PyData) : Option (List Nat) := match d with
  | .tuple xs => match nums F.jobs.length xs with
    | some ks => if ks ≠ [] ∧ linkd F ks then some ks else none
    | none => none
  | _ => none
theorem any_ord {F : Fl} {a b : Nat} : (F.orders.map eOrd).any (fun z => PyData.eqv z (.tuple [.int a, .int b])) = decide ((a, b) ∈ F.orders) := by
  rw [Bool.eq_iff_iff, List.any_eq_true]
  simp only [decide_eq_true_eq, List.mem_map]
  constructor
  · rintro ⟨x, ⟨o, ho, rfl⟩, h⟩
    unfold eOrd at h
    rw [eqv_pair, decide_eq_true_eq] at h
    have : o = (a, b) := Prod.ext (by omega) (by omega)
    rwa [← this]
  · exact fun h => ⟨_, ⟨_, h, rfl⟩, by unfold eOrd; rw [eqv_pair]; simp⟩
theorem shp_ords {F : Fl} : SeqAt.shaped (.tuple (F.orders.map eOrd)) = true := (Shp.tup (n := 1) fun x hx => by obtain ⟨w, _, rfl⟩ := List.mem_map.mp hx; exact Shp.pair).ok
def g_is_chain : Pm := fun ds R => ∃ (F : Fl) (d : PyData), ds = [eFl F, d] ∧ (∀ xs, d = .tuple xs → xs.length ≤ 1000) ∧ R (.bool (chN F d).isSome)
abbrev e_is_chain : FnE := ⟨"is_chain", 2, false, g_is_chain⟩
theorem is_chain_ap {F : Fl} {d : PyData} {Q : PyData → Prop} (h : ∀ xs, d = .tuple xs → xs.length ≤ 1000) (q : Q (.bool (chN F d).isSome)) : g_is_chain [eFl F, d] Q := ⟨F, d, rfl, h, q⟩
theorem sem_is_chain : ∀ ds R, ds.length = 2 → g_is_chain ds R → wpSs (Gof [e_is_number_of]) ir_is_chain (startE 4 ds) { nx := fun _ => false = false ∧ R .none, rt := R } := by
  rintro _ R _ ⟨F, d, rfl, hd, q⟩
  (try simp only [ir_is_chain, ↓wpSs, ↓wpS, ↓wpE, ↓wpEs, ↓wpBop, ↓wpIfs, ↓wpIt, ↓pk, ↓bindT, ↓ownL, ↓lockIt, ↓unlockIt, isT, ↓setAll, ↓wipeE, ↓startE, ↓Tg.slots, ↓IEs.fine, ↓IEs.len, ↓noOwn, ↓isOwnE, ↓Sl.isO, ↓Ev.freeAll, List.replicate, if_true, if_false, reduceIte, Nat.reduceLeDiff, Nat.reduceSub, Nat.reduceAdd, eq_self, reduceCtorEq, Int.reduceLT, Nat.reduceLT, ↓wpl, wpu])
  cases d with
  | tuple xs =>
    have hx := hd xs rfl
    (try simp only [isT, ↓wpSs, ↓wpS, ↓wpE, ↓wpEs, ↓wpBop, ↓wpIfs, ↓wpIt, ↓pk, ↓bindT, ↓ownL, ↓lockIt, ↓unlockIt, isT, ↓setAll, ↓wipeE, ↓startE, ↓Tg.slots, ↓IEs.fine, ↓IEs.len, ↓noOwn, ↓isOwnE, ↓Sl.isO, ↓Ev.freeAll, List.replicate, if_true, if_false, reduceIte, Nat.reduceLeDiff, Nat.reduceSub, Nat.reduceAdd, eq_self, reduceCtorEq, Int.reduceLT, Nat.reduceLT, ↓wpl, wpu])
    split
    · rename_i h0
      have h0 : xs = [] := by
        have : xs.length = 0 := by omega
        exact List.eq_nil_of_length_eq_zero this
      subst h0
      simpa [chN, nums] using q
    · rename_i h0
      have hne : xs ≠ [] := fun e => by subst e; simp at h0
      (try simp only [ir_is_chain_t2, ↓wpSs, ↓wpS, ↓wpE, ↓wpEs, ↓wpBop, ↓wpIfs, ↓wpIt, ↓pk, ↓bindT, ↓ownL, ↓lockIt, ↓unlockIt, isT, ↓setAll, ↓wipeE, ↓startE, ↓Tg.slots, ↓IEs.fine, ↓IEs.len, ↓noOwn, ↓isOwnE, ↓Sl.isO, ↓Ev.freeAll, List.replicate, if_true, if_false, reduceIte, Nat.reduceLeDiff, Nat.reduceSub, Nat.reduceAdd, eq_self, reduceCtorEq, Int.reduceLT, Nat.reduceLT, ↓wpl, wpu])
      have q' : R (.bool (match nums F.jobs.length xs with | some ks => if ks ≠ [] ∧ linkd F ks then some ks else none | none => none).isSome) := q
      clear q
      cases hn : nums F.jobs.length xs with
      | none =>
        rw [hn] at q'
        obtain ⟨i0, x0, e1, e2⟩ := nums_none hn
        refine forL_idx (fun i r => i ≤ i0 ∧ r = [.val (eFl F), .val (.tuple xs), .un, .un]) ⟨by omega, rfl⟩ ?_ ?_
        · rintro _ ⟨h, rfl⟩
          have := (List.getElem?_eq_some_iff.mp e1).1
          omega
        · rintro i x _ K hi ⟨h, rfl⟩ hK
          (try simp only [ir_is_chain_b0, ↓wpSs, ↓wpS, ↓wpE, ↓wpEs, ↓wpBop, ↓wpIfs, ↓wpIt, ↓pk, ↓bindT, ↓ownL, ↓lockIt, ↓unlockIt, isT, ↓setAll, ↓wipeE, ↓startE, ↓Tg.slots, ↓IEs.fine, ↓IEs.len, ↓noOwn, ↓isOwnE, ↓Sl.isO, ↓Ev.freeAll, List.replicate, if_true, if_false, reduceIte, Nat.reduceLeDiff, Nat.reduceSub, Nat.reduceAdd, eq_self, reduceCtorEq, Int.reduceLT, Nat.reduceLT, ↓wpl, wpu])
          refine is_number_ap ?_
          (try simp only [↓wpSs, ↓wpS, ↓wpE, ↓wpEs, ↓wpBop, ↓wpIfs, ↓wpIt, ↓pk, ↓bindT, ↓ownL, ↓lockIt, ↓unlockIt, isT, ↓setAll, ↓wipeE, ↓startE, ↓Tg.slots, ↓IEs.fine, ↓IEs.len, ↓noOwn, ↓isOwnE, ↓Sl.isO, ↓Ev.freeAll, List.replicate, if_true, if_false, reduceIte, Nat.reduceLeDiff, Nat.reduceSub, Nat.reduceAdd, eq_self, reduceCtorEq, Int.reduceLT, Nat.reduceLT, ↓wpl, wpu])
          by_cases hs : (numN F.jobs.length x).isSome = true
          · rw [hs]
            (try simp only [↓wpSs, ↓wpS, ↓wpE, ↓wpEs, ↓wpBop, ↓wpIfs, ↓wpIt, ↓pk, ↓bindT, ↓ownL, ↓lockIt, ↓unlockIt, isT, ↓setAll, ↓wipeE, ↓startE, ↓Tg.slots, ↓IEs.fine, ↓IEs.len, ↓noOwn, ↓isOwnE, ↓Sl.isO, ↓Ev.freeAll, List.replicate, if_true, if_false, reduceIte, Nat.reduceLeDiff, Nat.reduceSub, Nat.reduceAdd, eq_self, reduceCtorEq, Int.reduceLT, Nat.reduceLT, ↓wpl, wpu])
            refine hK _ ⟨?_, rfl⟩
            rcases Nat.lt_or_ge i i0 with h | h'
            · omega
            · exfalso
              have : i = i0 := by omega
              subst this
              rw [e1] at hi
              cases hi
              rw [e2] at hs
              cases hs
          · have hs : (numN F.jobs.length x).isSome = false := by simpa using hs
            rw [hs]
            (try simp only [↓wpSs, ↓wpS, ↓wpE, ↓wpEs, ↓wpBop, ↓wpIfs, ↓wpIt, ↓pk, ↓bindT, ↓ownL, ↓lockIt, ↓unlockIt, isT, ↓setAll, ↓wipeE, ↓startE, ↓Tg.slots, ↓IEs.fine, ↓IEs.len, ↓noOwn, ↓isOwnE, ↓Sl.isO, ↓Ev.freeAll, List.replicate, if_true, if_false, reduceIte, Nat.reduceLeDiff, Nat.reduceSub, Nat.reduceAdd, eq_self, reduceCtorEq, Int.reduceLT, Nat.reduceLT, ↓wpl, wpu])
            exact q'
      | some ks =>
        rw [hn] at q'
        dsimp only at q'
        obtain ⟨e1, e2⟩ := nums_some hn
        have hall := nums_all hn
        have hk0 : ks ≠ [] := fun e => by subst e; exact hne e1
        refine forL_idx (fun i r => r = [.val (eFl F), .val (.tuple xs), .un, .un]) rfl ?_ ?_
        · rintro _ rfl
          have hlen : xs.length = ks.length := by rw [e1, List.length_map]
          (try simp only [ir_is_chain_t1, ↓wpSs, ↓wpS, ↓wpE, ↓wpEs, ↓wpBop, ↓wpIfs, ↓wpIt, ↓pk, ↓bindT, ↓ownL, ↓lockIt, ↓unlockIt, isT, ↓setAll, ↓wipeE, ↓startE, ↓Tg.slots, ↓IEs.fine, ↓IEs.len, ↓noOwn, ↓isOwnE, ↓Sl.isO, ↓Ev.freeAll, List.replicate, if_true, if_false, reduceIte, Nat.reduceLeDiff, Nat.reduceSub, Nat.reduceAdd, eq_self, reduceCtorEq, Int.reduceLT, Nat.reduceLT, ↓wpl, wpu])
          refine ⟨by omega, ?_⟩
          have hr : ((xs.length : Int) - 1).toNat = ks.length - 1 := by omega
          rw [hr]
          subst e1
          by_cases hlk : linkd F ks
          · rw [if_pos ⟨hk0, hlk⟩] at q'
            refine forL_rng (fun i r => r = [.val (eFl F), .val (.tuple (ks.map fun k => PyData.int (k : Nat))), .un, .un]) rfl ?_ ?_
            · rintro _ rfl
              (try simp only [ir_is_chain_t0, ↓wpSs, ↓wpS, ↓wpE, ↓wpEs, ↓wpBop, ↓wpIfs, ↓wpIt, ↓pk, ↓bindT, ↓ownL, ↓lockIt, ↓unlockIt, isT, ↓setAll, ↓wipeE, ↓startE, ↓Tg.slots, ↓IEs.fine, ↓IEs.len, ↓noOwn, ↓isOwnE, ↓Sl.isO, ↓Ev.freeAll, List.replicate, if_true, if_false, reduceIte, Nat.reduceLeDiff, Nat.reduceSub, Nat.reduceAdd, eq_self, reduceCtorEq, Int.reduceLT, Nat.reduceLT, ↓wpl, wpu])
              exact q'
            · rintro i _ K hi rfl hK
              (try simp only [ir_is_chain_b1, ↓wpSs, ↓wpS, ↓wpE, ↓wpEs, ↓wpBop, ↓wpIfs, ↓wpIt, ↓pk, ↓bindT, ↓ownL, ↓lockIt, ↓unlockIt, isT, ↓setAll, ↓wipeE, ↓startE, ↓Tg.slots, ↓IEs.fine, ↓IEs.len, ↓noOwn, ↓isOwnE, ↓Sl.isO, ↓Ev.freeAll, List.replicate, if_true, if_false, reduceIte, Nat.reduceLeDiff, Nat.reduceSub, Nat.reduceAdd, eq_self, reduceCtorEq, Int.reduceLT, Nat.reduceLT, ↓wpl, wpu])
              have h1 : i < ks.length := by omega
              have h2 : i + 1 < ks.length := by omega
              refine at_map (mem_at h1) ?_
              (try simp only [↓wpSs, ↓wpS, ↓wpE, ↓wpEs, ↓wpBop, ↓wpIfs, ↓wpIt, ↓pk, ↓bindT, ↓ownL, ↓lockIt, ↓unlockIt, isT, ↓setAll, ↓wipeE, ↓startE, ↓Tg.slots, ↓IEs.fine, ↓IEs.len, ↓noOwn, ↓isOwnE, ↓Sl.isO, ↓Ev.freeAll, List.replicate, if_true, if_false, reduceIte, Nat.reduceLeDiff, Nat.reduceSub, Nat.reduceAdd, eq_self, reduceCtorEq, Int.reduceLT, Nat.reduceLT, ↓wpl, wpu])
              refine at_map (k := i + 1) (mem_at h2) ?_
              (try simp only [shp_ords, any_ord, ↓wpSs, ↓wpS, ↓wpE, ↓wpEs, ↓wpBop, ↓wpIfs, ↓wpIt, ↓pk, ↓bindT, ↓ownL, ↓lockIt, ↓unlockIt, isT, ↓setAll, ↓wipeE, ↓startE, ↓Tg.slots, ↓IEs.fine, ↓IEs.len, ↓noOwn, ↓isOwnE, ↓Sl.isO, ↓Ev.freeAll, List.replicate, if_true, if_false, reduceIte, Nat.reduceLeDiff, Nat.reduceSub, Nat.reduceAdd, eq_self, reduceCtorEq, Int.reduceLT, Nat.reduceLT, ↓wpl, wpu])
              rw [decide_eq_true (hlk i _ _ (mem_at h1) (mem_at h2))]
              (try simp only [↓wpSs, ↓wpS, ↓wpE, ↓wpEs, ↓wpBop, ↓wpIfs, ↓wpIt, ↓pk, ↓bindT, ↓ownL, ↓lockIt, ↓unlockIt, isT, ↓setAll, ↓wipeE, ↓startE, ↓Tg.slots, ↓IEs.fine, ↓IEs.len, ↓noOwn, ↓isOwnE, ↓Sl.isO, ↓Ev.freeAll, List.replicate, if_true, if_false, reduceIte, Nat.reduceLeDiff, Nat.reduceSub, Nat.reduceAdd, eq_self, reduceCtorEq, Int.reduceLT, Nat.reduceLT, ↓wpl, wpu])
              exact hK _ rfl
          · rw [if_neg (fun e => hlk e.2)] at q'
            refine forL_rng (fun i r => r = [.val (eFl F), .val (.tuple (ks.map fun k => PyData.int (k : Nat))), .un, .un] ∧ ∀ j a b, j < i → ks[j]? = some a → ks[j + 1]? = some b → (a, b) ∈ F.orders) ⟨rfl, fun j a b h => by omega⟩ ?_ ?_
            · rintro _ ⟨rfl, h⟩
              exfalso
              refine hlk fun i a b ha hb => h i a b ?_ ha hb
              have := (List.getElem?_eq_some_iff.mp hb).1
              omega
            · rintro i _ K hi ⟨rfl, h⟩ hK
              (try simp only [ir_is_chain_b1, ↓wpSs, ↓wpS, ↓wpE, ↓wpEs, ↓wpBop, ↓wpIfs, ↓wpIt, ↓pk, ↓bindT, ↓ownL, ↓lockIt, ↓unlockIt, isT, ↓setAll, ↓wipeE, ↓startE, ↓Tg.slots, ↓IEs.fine, ↓IEs.len, ↓noOwn, ↓isOwnE, ↓Sl.isO, ↓Ev.freeAll, List.replicate, if_true, if_false, reduceIte, Nat.reduceLeDiff, Nat.reduceSub, Nat.reduceAdd, eq_self, reduceCtorEq, Int.reduceLT, Nat.reduceLT, ↓wpl, wpu])
              have h1 : i < ks.length := by omega
              have h2 : i + 1 < ks.length := by omega
              refine at_map (mem_at h1) ?_
              (try simp only [↓wpSs, ↓wpS, ↓wpE, ↓wpEs, ↓wpBop, ↓wpIfs, ↓wpIt, ↓pk, ↓bindT, ↓ownL, ↓lockIt, ↓unlockIt, isT, ↓setAll, ↓wipeE, ↓startE, ↓Tg.slots, ↓IEs.fine, ↓IEs.len, ↓noOwn, ↓isOwnE, ↓Sl.isO, ↓Ev.freeAll, List.replicate, if_true, if_false, reduceIte, Nat.reduceLeDiff, Nat.reduceSub, Nat.reduceAdd, eq_self, reduceCtorEq, Int.reduceLT, Nat.reduceLT, ↓wpl, wpu])
              refine at_map (k := i + 1) (mem_at h2) ?_
              (try simp only [shp_ords, any_ord, ↓wpSs, ↓wpS, ↓wpE, ↓wpEs, ↓wpBop, ↓wpIfs, ↓wpIt, ↓pk, ↓bindT, ↓ownL, ↓lockIt, ↓unlockIt, isT, ↓setAll, ↓wipeE, ↓startE, ↓Tg.slots, ↓IEs.fine, ↓IEs.len, ↓noOwn, ↓isOwnE, ↓Sl.isO, ↓Ev.freeAll, List.replicate, if_true, if_false, reduceIte, Nat.reduceLeDiff, Nat.reduceSub, Nat.reduceAdd, eq_self, reduceCtorEq, Int.reduceLT, Nat.reduceLT, ↓wpl, wpu])
              by_cases hm : (ks[i], ks[i + 1]) ∈ F.orders
              · rw [decide_eq_true hm]
                (try simp only [↓wpSs, ↓wpS, ↓wpE, ↓wpEs, ↓wpBop, ↓wpIfs, ↓wpIt, ↓pk, ↓bindT, ↓ownL, ↓lockIt, ↓unlockIt, isT, ↓setAll, ↓wipeE, ↓startE, ↓Tg.slots, ↓IEs.fine, ↓IEs.len, ↓noOwn, ↓isOwnE, ↓Sl.isO, ↓Ev.freeAll, List.replicate, if_true, if_false, reduceIte, Nat.reduceLeDiff, Nat.reduceSub, Nat.reduceAdd, eq_self, reduceCtorEq, Int.reduceLT, Nat.reduceLT, ↓wpl, wpu])
                refine hK _ ⟨rfl, fun j a b hj ha hb => ?_⟩
                rcases Nat.lt_or_ge j i with h' | h'
                · exact h j a b h' ha hb
                · have : j = i := by omega
                  subst this
                  rw [mem_at h1] at ha
                  rw [mem_at h2] at hb
                  cases ha
                  cases hb
                  exact hm
              · rw [decide_eq_false hm]
                (try simp only [↓wpSs, ↓wpS, ↓wpE, ↓wpEs, ↓wpBop, ↓wpIfs, ↓wpIt, ↓pk, ↓bindT, ↓ownL, ↓lockIt, ↓unlockIt, isT, ↓setAll, ↓wipeE, ↓startE, ↓Tg.slots, ↓IEs.fine, ↓IEs.len, ↓noOwn, ↓isOwnE, ↓Sl.isO, ↓Ev.freeAll, List.replicate, if_true, if_false, reduceIte, Nat.reduceLeDiff, Nat.reduceSub, Nat.reduceAdd, eq_self, reduceCtorEq, Int.reduceLT, Nat.reduceLT, ↓wpl, wpu])
                exact q'
        · rintro i x _ K hi rfl hK
          (try simp only [ir_is_chain_b0, ↓wpSs, ↓wpS, ↓wpE, ↓wpEs, ↓wpBop, ↓wpIfs, ↓wpIt, ↓pk, ↓bindT, ↓ownL, ↓lockIt, ↓unlockIt, isT, ↓setAll, ↓wipeE, ↓startE, ↓Tg.slots, ↓IEs.fine, ↓IEs.len, ↓noOwn, ↓isOwnE, ↓Sl.isO, ↓Ev.freeAll, List.replicate, if_true, if_false, reduceIte, Nat.reduceLeDiff, Nat.reduceSub, Nat.reduceAdd, eq_self, reduceCtorEq, Int.reduceLT, Nat.reduceLT, ↓wpl, wpu])
          refine is_number_ap ?_
          rw [hall x (List.mem_of_getElem? hi)]
          (try simp only [↓wpSs, ↓wpS, ↓wpE, ↓wpEs, ↓wpBop, ↓wpIfs, ↓wpIt, ↓pk, ↓bindT, ↓ownL, ↓lockIt, ↓unlockIt, isT, ↓setAll, ↓wipeE, ↓startE, ↓Tg.slots, ↓IEs.fine, ↓IEs.len, ↓noOwn, ↓isOwnE, ↓Sl.isO, ↓Ev.freeAll, List.replicate, if_true, if_false, reduceIte, Nat.reduceLeDiff, Nat.reduceSub, Nat.reduceAdd, eq_self, reduceCtorEq, Int.reduceLT, Nat.reduceLT, ↓wpl, wpu])
          exact hK _ rfl
  | _ =>
    (try simp only [isT, ↓wpSs, ↓wpS, ↓wpE, ↓wpEs, ↓wpBop, ↓wpIfs, ↓wpIt, ↓pk, ↓bindT, ↓ownL, ↓lockIt, ↓unlockIt, isT, ↓setAll, ↓wipeE, ↓startE, ↓Tg.slots, ↓IEs.fine, ↓IEs.len, ↓noOwn, ↓isOwnE, ↓Sl.isO, ↓Ev.freeAll, List.replicate, if_true, if_false, reduceIte, Nat.reduceLeDiff, Nat.reduceSub, Nat.reduceAdd, eq_self, reduceCtorEq, Int.reduceLT, Nat.reduceLT, ↓wpl, wpu])
    simpa [chN] using q
end CF
namespace CF
open PySem PySem.Spec PyProof.Rows L2
def mChain (F : Fl) (L : Int) (cs : List Ch) (d : PyData) : Bool := match chN F d with
  | some ks => decide (ownL' F L cs (ks.getLastD 0) < ownF cs (ks.headD 0) + (ks.dropLast.map F.h).sum)
  | none => false
theorem chN_some {F : Fl} {d : PyData} {ks : List Nat} (h : chN F d = some ks) : d = .tuple (ks.map fun k => PyData.int (k : Nat)) ∧ ks ≠ [] ∧ linkd F ks ∧ ∀ k ∈ ks, k < F.jobs.length := by
  unfold chN at h
  split at h
  · split at h
    · rename_i xs _ ks' hn
      split at h
      · rename_i hc
        cases h
        obtain ⟨e1, e2⟩ := nums_some hn
        exact ⟨by rw [e1], hc.1, hc.2, e2⟩
      · cases h
    · cases h
  · cases h
def g_chain_shuts : Pm := fun ds R => ∃ (F : Fl) (L : Int) (cs : List Ch) (d : PyData), ds = [eFl F, .int L, .list (cs.map eCh), d] ∧ GoodFl 50 F ∧ OkCh F cs ∧ (∀ xs, d = .tuple xs → xs.length ≤ 1000) ∧ R (.bool (mChain F L cs d))
abbrev e_chain_shuts : FnE := ⟨"chain_shuts", 4, false, g_chain_shuts⟩
theorem chain_shuts_ap {F : Fl} {L : Int} {cs : List Ch} {d : PyData} {Q : PyData → Prop} (hF : GoodFl 50 F) (hc : OkCh F cs) (hd : ∀ xs, d = .tuple xs → xs.length ≤ 1000) (q : Q (.bool (mChain F L cs d))) : g_chain_shuts [eFl F, .int L, .list (cs.map eCh), d] Q := ⟨F, L, cs, d, rfl, hF, hc, hd, q⟩
theorem sem_chain_shuts : ∀ ds R, ds.length = 4 → g_chain_shuts ds R → wpSs (Gof [e_is_chain, e_own_windows]) ir_chain_shuts (startE 7 ds) { nx := fun _ => false = false ∧ R .none, rt := R } := by
  rintro _ R _ ⟨F, L, cs, d, rfl, hF, hcs, hd, q⟩
  (try simp only [ir_chain_shuts, ↓wpSs, ↓wpS, ↓wpE, ↓wpEs, ↓wpBop, ↓wpIfs, ↓wpIt, ↓pk, ↓bindT, ↓ownL, ↓lockIt, ↓unlockIt, isT, ↓setAll, ↓wipeE, ↓startE, ↓Tg.slots, ↓IEs.fine, ↓IEs.len, ↓noOwn, ↓isOwnE, ↓Sl.isO, ↓Ev.freeAll, List.replicate, if_true, if_false, reduceIte, Nat.reduceLeDiff, Nat.reduceSub, Nat.reduceAdd, eq_self, reduceCtorEq, Int.reduceLT, Nat.reduceLT, ↓wpl, wpu])
  refine is_chain_ap hd ?_
  unfold mChain at q
  cases hn : chN F d with
  | none =>
    rw [hn] at q
    (try simp only [Option.isSome_none, ↓wpSs, ↓wpS, ↓wpE, ↓wpEs, ↓wpBop, ↓wpIfs, ↓wpIt, ↓pk, ↓bindT, ↓ownL, ↓lockIt, ↓unlockIt, isT, ↓setAll, ↓wipeE, ↓startE, ↓Tg.slots, ↓IEs.fine, ↓IEs.len, ↓noOwn, ↓isOwnE, ↓Sl.isO, ↓Ev.freeAll, List.replicate, if_true, if_false, reduceIte, Nat.reduceLeDiff, Nat.reduceSub, Nat.reduceAdd, eq_self, reduceCtorEq, Int.reduceLT, Nat.reduceLT, ↓wpl, wpu])
    exact q
  | some ks =>
    rw [hn] at q
    obtain ⟨rfl, hne, hlk, hlt⟩ := chN_some hn
    (try simp only [Option.isSome_some, ir_chain_shuts_t0, ↓wpSs, ↓wpS, ↓wpE, ↓wpEs, ↓wpBop, ↓wpIfs, ↓wpIt, ↓pk, ↓bindT, ↓ownL, ↓lockIt, ↓unlockIt, isT, ↓setAll, ↓wipeE, ↓startE, ↓Tg.slots, ↓IEs.fine, ↓IEs.len, ↓noOwn, ↓isOwnE, ↓Sl.isO, ↓Ev.freeAll, List.replicate, if_true, if_false, reduceIte, Nat.reduceLeDiff, Nat.reduceSub, Nat.reduceAdd, eq_self, reduceCtorEq, Int.reduceLT, Nat.reduceLT, ↓wpl, wpu])
    refine own_windows_ap hF hcs ?_
    (try simp only [↓wpSs, ↓wpS, ↓wpE, ↓wpEs, ↓wpBop, ↓wpIfs, ↓wpIt, ↓pk, ↓bindT, ↓ownL, ↓lockIt, ↓unlockIt, isT, ↓setAll, ↓wipeE, ↓startE, ↓Tg.slots, ↓IEs.fine, ↓IEs.len, ↓noOwn, ↓isOwnE, ↓Sl.isO, ↓Ev.freeAll, List.replicate, if_true, if_false, reduceIte, Nat.reduceLeDiff, Nat.reduceSub, Nat.reduceAdd, eq_self, reduceCtorEq, Int.reduceLT, Nat.reduceLT, ↓wpl, wpu])
    obtain ⟨k0, ks', rfl⟩ : ∃ k0 ks', ks = k0 :: ks' := by
      cases ks with
      | nil => exact (hne rfl).elim
      | cons a b => exact ⟨a, b, rfl⟩
    (try simp only [↓wpSs, ↓wpS, ↓wpE, ↓wpEs, ↓wpBop, ↓wpIfs, ↓wpIt, ↓pk, ↓bindT, ↓ownL, ↓lockIt, ↓unlockIt, isT, ↓setAll, ↓wipeE, ↓startE, ↓Tg.slots, ↓IEs.fine, ↓IEs.len, ↓noOwn, ↓isOwnE, ↓Sl.isO, ↓Ev.freeAll, List.replicate, if_true, if_false, reduceIte, Nat.reduceLeDiff, Nat.reduceSub, Nat.reduceAdd, eq_self, reduceCtorEq, Int.reduceLT, Nat.reduceLT, ↓wpl, wpu])
    have hk0 := hlt k0 List.mem_cons_self
    refine at_map (vec_get hk0) ?_
    (try simp only [cut_front, ↓wpSs, ↓wpS, ↓wpE, ↓wpEs, ↓wpBop, ↓wpIfs, ↓wpIt, ↓pk, ↓bindT, ↓ownL, ↓lockIt, ↓unlockIt, isT, ↓setAll, ↓wipeE, ↓startE, ↓Tg.slots, ↓IEs.fine, ↓IEs.len, ↓noOwn, ↓isOwnE, ↓Sl.isO, ↓Ev.freeAll, List.replicate, if_true, if_false, reduceIte, Nat.reduceLeDiff, Nat.reduceSub, Nat.reduceAdd, eq_self, reduceCtorEq, Int.reduceLT, Nat.reduceLT, ↓wpl, wpu])
    have hlen : (k0 :: ks').length ≤ 1000 := by have := hd _ rfl; simpa using this
    have hdl : (PyData.int k0 :: ks'.map fun k => PyData.int (k : Nat)).dropLast = ((k0 :: ks').dropLast).map fun k => PyData.int (k : Nat) := by
      rw [List.map_dropLast]; rfl
    rw [hdl]
    (try simp only [↓wpSs, ↓wpS, ↓wpE, ↓wpEs, ↓wpBop, ↓wpIfs, ↓wpIt, ↓pk, ↓bindT, ↓ownL, ↓lockIt, ↓unlockIt, isT, ↓setAll, ↓wipeE, ↓startE, ↓Tg.slots, ↓IEs.fine, ↓IEs.len, ↓noOwn, ↓isOwnE, ↓Sl.isO, ↓Ev.freeAll, List.replicate, if_true, if_false, reduceIte, Nat.reduceLeDiff, Nat.reduceSub, Nat.reduceAdd, eq_self, reduceCtorEq, Int.reduceLT, Nat.reduceLT, ↓wpl, wpu])
    refine ⟨by simp at hlen ⊢; omega, ?_⟩
    refine compL_map (fun k => .int (F.h k)) (fun k hk K h => ?_) ?_
    · (try simp only [↓wpSs, ↓wpS, ↓wpE, ↓wpEs, ↓wpBop, ↓wpIfs, ↓wpIt, ↓pk, ↓bindT, ↓ownL, ↓lockIt, ↓unlockIt, isT, ↓setAll, ↓wipeE, ↓startE, ↓Tg.slots, ↓IEs.fine, ↓IEs.len, ↓noOwn, ↓isOwnE, ↓Sl.isO, ↓Ev.freeAll, List.replicate, if_true, if_false, reduceIte, Nat.reduceLeDiff, Nat.reduceSub, Nat.reduceAdd, eq_self, reduceCtorEq, Int.reduceLT, Nat.reduceLT, ↓wpl, wpu])
      refine at_map (get_job (hlt k ((List.dropLast_sublist _).mem hk))) ?_
      (try simp only [↓wpSs, ↓wpS, ↓wpE, ↓wpEs, ↓wpBop, ↓wpIfs, ↓wpIt, ↓pk, ↓bindT, ↓ownL, ↓lockIt, ↓unlockIt, isT, ↓setAll, ↓wipeE, ↓startE, ↓Tg.slots, ↓IEs.fine, ↓IEs.len, ↓noOwn, ↓isOwnE, ↓Sl.isO, ↓Ev.freeAll, List.replicate, if_true, if_false, reduceIte, Nat.reduceLeDiff, Nat.reduceSub, Nat.reduceAdd, eq_self, reduceCtorEq, Int.reduceLT, Nat.reduceLT, ↓wpl, wpu])
      exact h
    · refine ⟨(k0 :: ks').dropLast.map F.h, by rw [List.map_map]; rfl, ?_⟩
      have hl : (PyData.int k0 :: ks'.map fun k => PyData.int (k : Nat)) ≠ [] := by simp
      refine ⟨_, at_last hl, ?_⟩
      have e : (PyData.int k0 :: ks'.map fun k => PyData.int (k : Nat)).getLast hl = .int ((k0 :: ks').getLast (by simp)) := by
        have := List.getLast_map (f := fun k : Nat => PyData.int (k : Nat)) (l := k0 :: ks') (by simp)
        exact this
      rw [e]
      (try simp only [↓wpSs, ↓wpS, ↓wpE, ↓wpEs, ↓wpBop, ↓wpIfs, ↓wpIt, ↓pk, ↓bindT, ↓ownL, ↓lockIt, ↓unlockIt, isT, ↓setAll, ↓wipeE, ↓startE, ↓Tg.slots, ↓IEs.fine, ↓IEs.len, ↓noOwn, ↓isOwnE, ↓Sl.isO, ↓Ev.freeAll, List.replicate, if_true, if_false, reduceIte, Nat.reduceLeDiff, Nat.reduceSub, Nat.reduceAdd, eq_self, reduceCtorEq, Int.reduceLT, Nat.reduceLT, ↓wpl, wpu])
      have hkl := hlt _ (List.getLast_mem (l := k0 :: ks') (by simp))
      refine at_map (vec_get hkl) ?_
      (try simp only [↓wpSs, ↓wpS, ↓wpE, ↓wpEs, ↓wpBop, ↓wpIfs, ↓wpIt, ↓pk, ↓bindT, ↓ownL, ↓lockIt, ↓unlockIt, isT, ↓setAll, ↓wipeE, ↓startE, ↓Tg.slots, ↓IEs.fine, ↓IEs.len, ↓noOwn, ↓isOwnE, ↓Sl.isO, ↓Ev.freeAll, List.replicate, if_true, if_false, reduceIte, Nat.reduceLeDiff, Nat.reduceSub, Nat.reduceAdd, eq_self, reduceCtorEq, Int.reduceLT, Nat.reduceLT, ↓wpl, wpu])
      have e2 : (k0 :: ks').getLastD 0 = (k0 :: ks').getLast (by simp) := rfl
      dsimp only at q
      rw [e2] at q
      exact q
def mStretch (F : Fl) (L : Int) (cs : List Ch) (a b e : PyData) : Bool := match numN F.crews.length a, whN b, whN e with
  | some c, some b, some e => if b < 0 ∨ e ≤ b then false else decide (F.crews.getD c 0 * (e - b) < mAsked F (winW F L cs) c b e)
  | _, _, _ => false
def g_stretch_shuts : Pm := fun ds R => ∃ (F : Fl) (L : Int) (cs : List Ch) (t a b e : PyData), ds = [eFl F, .int L, .list (cs.map eCh), .tuple [t, a, b, e]] ∧ GoodFl 50 F ∧ OkCh F cs ∧ R (.bool (mStretch F L cs a b e))
abbrev e_stretch_shuts : FnE := ⟨"stretch_shuts", 4, false, g_stretch_shuts⟩
theorem stretch_shuts_ap {F : Fl} {L : Int} {cs : List Ch} {t a b e : PyData} {Q : PyData → Prop} (hF : GoodFl 50 F) (hc : OkCh F cs) (q : Q (.bool (mStretch F L cs a b e))) : g_stretch_shuts [eFl F, .int L, .list (cs.map eCh), .tuple [t, a, b, e]] Q := ⟨F, L, cs, t, a, b, e, rfl, hF, hc, q⟩
theorem winW_len {F : Fl} {L : Int} {cs : List Ch} : (winW F L cs).length = F.jobs.length := vec_len
theorem sem_stretch_shuts : ∀ ds R, ds.length = 4 → g_stretch_shuts ds R → wpSs (Gof [e_is_whole, e_is_number_of, e_asked, e_windows]) ir_stretch_shuts (startE 7 ds) { nx := fun _ => false = false ∧ R .none, rt := R } := by
  rintro _ R _ ⟨F, L, cs, t, a, b, e, rfl, hF, hcs, q⟩
  (try simp only [ir_stretch_shuts, ↓wpSs, ↓wpS, ↓wpE, ↓wpEs, ↓wpBop, ↓wpIfs, ↓wpIt, ↓pk, ↓bindT, ↓ownL, ↓lockIt, ↓unlockIt, isT, ↓setAll, ↓wipeE, ↓startE, ↓Tg.slots, ↓IEs.fine, ↓IEs.len, ↓noOwn, ↓isOwnE, ↓Sl.isO, ↓Ev.freeAll, List.replicate, if_true, if_false, reduceIte, Nat.reduceLeDiff, Nat.reduceSub, Nat.reduceAdd, eq_self, reduceCtorEq, Int.reduceLT, Nat.reduceLT, ↓wpl, wpu])
  have hcut : cutP [t, a, b, e] (some 1) none = [a, b, e] := cut_tail (k := 1) (by simp)
  rw [hcut]
  (try simp only [↓wpSs, ↓wpS, ↓wpE, ↓wpEs, ↓wpBop, ↓wpIfs, ↓wpIt, ↓pk, ↓bindT, ↓ownL, ↓lockIt, ↓unlockIt, isT, ↓setAll, ↓wipeE, ↓startE, ↓Tg.slots, ↓IEs.fine, ↓IEs.len, ↓noOwn, ↓isOwnE, ↓Sl.isO, ↓Ev.freeAll, List.replicate, if_true, if_false, reduceIte, Nat.reduceLeDiff, Nat.reduceSub, Nat.reduceAdd, eq_self, reduceCtorEq, Int.reduceLT, Nat.reduceLT, ↓wpl, wpu])
  refine is_number_ap ?_
  unfold mStretch at q
  cases ha : numN F.crews.length a with
  | none =>
    rw [ha] at q
    (try simp only [Option.isSome_none, ↓wpSs, ↓wpS, ↓wpE, ↓wpEs, ↓wpBop, ↓wpIfs, ↓wpIt, ↓pk, ↓bindT, ↓ownL, ↓lockIt, ↓unlockIt, isT, ↓setAll, ↓wipeE, ↓startE, ↓Tg.slots, ↓IEs.fine, ↓IEs.len, ↓noOwn, ↓isOwnE, ↓Sl.isO, ↓Ev.freeAll, List.replicate, if_true, if_false, reduceIte, Nat.reduceLeDiff, Nat.reduceSub, Nat.reduceAdd, eq_self, reduceCtorEq, Int.reduceLT, Nat.reduceLT, ↓wpl, wpu])
    exact q
  | some c =>
    obtain ⟨rfl, hc⟩ := numN_some ha
    (try simp only [Option.isSome_some, ↓wpSs, ↓wpS, ↓wpE, ↓wpEs, ↓wpBop, ↓wpIfs, ↓wpIt, ↓pk, ↓bindT, ↓ownL, ↓lockIt, ↓unlockIt, isT, ↓setAll, ↓wipeE, ↓startE, ↓Tg.slots, ↓IEs.fine, ↓IEs.len, ↓noOwn, ↓isOwnE, ↓Sl.isO, ↓Ev.freeAll, List.replicate, if_true, if_false, reduceIte, Nat.reduceLeDiff, Nat.reduceSub, Nat.reduceAdd, eq_self, reduceCtorEq, Int.reduceLT, Nat.reduceLT, ↓wpl, wpu])
    refine is_whole_ap ?_
    cases hb : whN b with
    | none =>
      rw [ha, hb] at q
      (try simp only [Option.isSome_none, ↓wpSs, ↓wpS, ↓wpE, ↓wpEs, ↓wpBop, ↓wpIfs, ↓wpIt, ↓pk, ↓bindT, ↓ownL, ↓lockIt, ↓unlockIt, isT, ↓setAll, ↓wipeE, ↓startE, ↓Tg.slots, ↓IEs.fine, ↓IEs.len, ↓noOwn, ↓isOwnE, ↓Sl.isO, ↓Ev.freeAll, List.replicate, if_true, if_false, reduceIte, Nat.reduceLeDiff, Nat.reduceSub, Nat.reduceAdd, eq_self, reduceCtorEq, Int.reduceLT, Nat.reduceLT, ↓wpl, wpu])
      exact q
    | some b' =>
      cases whN_some hb
      (try simp only [Option.isSome_some, ↓wpSs, ↓wpS, ↓wpE, ↓wpEs, ↓wpBop, ↓wpIfs, ↓wpIt, ↓pk, ↓bindT, ↓ownL, ↓lockIt, ↓unlockIt, isT, ↓setAll, ↓wipeE, ↓startE, ↓Tg.slots, ↓IEs.fine, ↓IEs.len, ↓noOwn, ↓isOwnE, ↓Sl.isO, ↓Ev.freeAll, List.replicate, if_true, if_false, reduceIte, Nat.reduceLeDiff, Nat.reduceSub, Nat.reduceAdd, eq_self, reduceCtorEq, Int.reduceLT, Nat.reduceLT, ↓wpl, wpu])
      refine is_whole_ap ?_
      cases he : whN e with
      | none =>
        rw [ha, hb, he] at q
        (try simp only [Option.isSome_none, ↓wpSs, ↓wpS, ↓wpE, ↓wpEs, ↓wpBop, ↓wpIfs, ↓wpIt, ↓pk, ↓bindT, ↓ownL, ↓lockIt, ↓unlockIt, isT, ↓setAll, ↓wipeE, ↓startE, ↓Tg.slots, ↓IEs.fine, ↓IEs.len, ↓noOwn, ↓isOwnE, ↓Sl.isO, ↓Ev.freeAll, List.replicate, if_true, if_false, reduceIte, Nat.reduceLeDiff, Nat.reduceSub, Nat.reduceAdd, eq_self, reduceCtorEq, Int.reduceLT, Nat.reduceLT, ↓wpl, wpu])
        exact q
      | some e' =>
        cases whN_some he
        rw [ha, hb, he] at q
        dsimp only at q
        (try simp only [Option.isSome_some, ir_stretch_shuts_t1, ↓wpSs, ↓wpS, ↓wpE, ↓wpEs, ↓wpBop, ↓wpIfs, ↓wpIt, ↓pk, ↓bindT, ↓ownL, ↓lockIt, ↓unlockIt, isT, ↓setAll, ↓wipeE, ↓startE, ↓Tg.slots, ↓IEs.fine, ↓IEs.len, ↓noOwn, ↓isOwnE, ↓Sl.isO, ↓Ev.freeAll, List.replicate, if_true, if_false, reduceIte, Nat.reduceLeDiff, Nat.reduceSub, Nat.reduceAdd, eq_self, reduceCtorEq, Int.reduceLT, Nat.reduceLT, ↓wpl, wpu])
        by_cases h1 : b' < 0
        · rw [if_pos (.inl h1)] at q
          (try simp only [h1, ↓wpSs, ↓wpS, ↓wpE, ↓wpEs, ↓wpBop, ↓wpIfs, ↓wpIt, ↓pk, ↓bindT, ↓ownL, ↓lockIt, ↓unlockIt, isT, ↓setAll, ↓wipeE, ↓startE, ↓Tg.slots, ↓IEs.fine, ↓IEs.len, ↓noOwn, ↓isOwnE, ↓Sl.isO, ↓Ev.freeAll, List.replicate, if_true, if_false, reduceIte, Nat.reduceLeDiff, Nat.reduceSub, Nat.reduceAdd, eq_self, reduceCtorEq, Int.reduceLT, Nat.reduceLT, ↓wpl, wpu])
          exact q
        · (try simp only [h1, ↓wpSs, ↓wpS, ↓wpE, ↓wpEs, ↓wpBop, ↓wpIfs, ↓wpIt, ↓pk, ↓bindT, ↓ownL, ↓lockIt, ↓unlockIt, isT, ↓setAll, ↓wipeE, ↓startE, ↓Tg.slots, ↓IEs.fine, ↓IEs.len, ↓noOwn, ↓isOwnE, ↓Sl.isO, ↓Ev.freeAll, List.replicate, if_true, if_false, reduceIte, Nat.reduceLeDiff, Nat.reduceSub, Nat.reduceAdd, eq_self, reduceCtorEq, Int.reduceLT, Nat.reduceLT, ↓wpl, wpu])
          by_cases h2 : e' ≤ b'
          · rw [if_pos (.inr h2)] at q
            (try simp only [h2, ↓wpSs, ↓wpS, ↓wpE, ↓wpEs, ↓wpBop, ↓wpIfs, ↓wpIt, ↓pk, ↓bindT, ↓ownL, ↓lockIt, ↓unlockIt, isT, ↓setAll, ↓wipeE, ↓startE, ↓Tg.slots, ↓IEs.fine, ↓IEs.len, ↓noOwn, ↓isOwnE, ↓Sl.isO, ↓Ev.freeAll, List.replicate, if_true, if_false, reduceIte, Nat.reduceLeDiff, Nat.reduceSub, Nat.reduceAdd, eq_self, reduceCtorEq, Int.reduceLT, Nat.reduceLT, ↓wpl, wpu])
            exact q
          · rw [if_neg (fun h => h.elim h1 h2)] at q
            (try simp only [h2, ir_stretch_shuts_t0, ↓wpSs, ↓wpS, ↓wpE, ↓wpEs, ↓wpBop, ↓wpIfs, ↓wpIt, ↓pk, ↓bindT, ↓ownL, ↓lockIt, ↓unlockIt, isT, ↓setAll, ↓wipeE, ↓startE, ↓Tg.slots, ↓IEs.fine, ↓IEs.len, ↓noOwn, ↓isOwnE, ↓Sl.isO, ↓Ev.freeAll, List.replicate, if_true, if_false, reduceIte, Nat.reduceLeDiff, Nat.reduceSub, Nat.reduceAdd, eq_self, reduceCtorEq, Int.reduceLT, Nat.reduceLT, ↓wpl, wpu])
            refine windows_ap hF hcs ?_
            (try simp only [↓wpSs, ↓wpS, ↓wpE, ↓wpEs, ↓wpBop, ↓wpIfs, ↓wpIt, ↓pk, ↓bindT, ↓ownL, ↓lockIt, ↓unlockIt, isT, ↓setAll, ↓wipeE, ↓startE, ↓Tg.slots, ↓IEs.fine, ↓IEs.len, ↓noOwn, ↓isOwnE, ↓Sl.isO, ↓Ev.freeAll, List.replicate, if_true, if_false, reduceIte, Nat.reduceLeDiff, Nat.reduceSub, Nat.reduceAdd, eq_self, reduceCtorEq, Int.reduceLT, Nat.reduceLT, ↓wpl, wpu])
            refine asked_ap hF winW_len hc ?_
            (try simp only [↓wpSs, ↓wpS, ↓wpE, ↓wpEs, ↓wpBop, ↓wpIfs, ↓wpIt, ↓pk, ↓bindT, ↓ownL, ↓lockIt, ↓unlockIt, isT, ↓setAll, ↓wipeE, ↓startE, ↓Tg.slots, ↓IEs.fine, ↓IEs.len, ↓noOwn, ↓isOwnE, ↓Sl.isO, ↓Ev.freeAll, List.replicate, if_true, if_false, reduceIte, Nat.reduceLeDiff, Nat.reduceSub, Nat.reduceAdd, eq_self, reduceCtorEq, Int.reduceLT, Nat.reduceLT, ↓wpl, wpu])
            refine at_map (mem_at hc) ?_
            (try simp only [↓wpSs, ↓wpS, ↓wpE, ↓wpEs, ↓wpBop, ↓wpIfs, ↓wpIt, ↓pk, ↓bindT, ↓ownL, ↓lockIt, ↓unlockIt, isT, ↓setAll, ↓wipeE, ↓startE, ↓Tg.slots, ↓IEs.fine, ↓IEs.len, ↓noOwn, ↓isOwnE, ↓Sl.isO, ↓Ev.freeAll, List.replicate, if_true, if_false, reduceIte, Nat.reduceLeDiff, Nat.reduceSub, Nat.reduceAdd, eq_self, reduceCtorEq, Int.reduceLT, Nat.reduceLT, ↓wpl, wpu])
            have hcb := hF.c.2.2 F.crews[c] (List.getElem_mem hc)
            refine ⟨cmul_l (by omega), ?_⟩
            rw [getD_of hc] at q
            exact q
end CF
namespace CF
open PySem PySem.Spec PyProof.Rows L2
inductive Tr where
  | chain (d : PyData)
  | stretch (a b e : PyData)
  | split (a b : PyData) (x y : Tr)
  | bad (d : PyData)
def Tr.enc : Tr → PyData
  | .chain d => .tuple [.str "chain", d]
  | .stretch a b e => .tuple [.str "stretch", a, b, e]
  | .split a b x y => .tuple [.str "split", a, b, x.enc, y.enc]
  | .bad d => d
def BadT (d : PyData) : Prop := ∀ xs, d = .tuple xs → ∀ s rest, xs = .str s :: rest → SeqAt.shaped (.str s) = true ∧ (s = "chain" → xs.length ≠ 2) ∧ (s = "stretch" → xs.length ≠ 4) ∧ (s = "split" → xs.length ≠ 5)
def Tr.ok : Tr → Prop
  | .chain d => ∀ xs, d = .tuple xs → xs.length ≤ 1000 ∧ ∀ x ∈ xs, Shp 0 x
  | .stretch _ _ _ => True
  | .split _ _ x y => x.ok ∧ y.ok
  | .bad d => BadT d
def Tr.ht : Tr → Nat
  | .split _ _ x y => max x.ht y.ht + 1
  | _ => 1
def mW (F : Fl) (L : Int) : List Ch → Tr → Bool
  | cs, .chain d => mChain F L cs d
  | cs, .stretch a b e => mStretch F L cs a b e
  | cs, .split a b x y => match numN F.jobs.length a, whN b with
    | some k, some h => mW F L (cs ++ [⟨false, k, h⟩]) x && mW F L (cs ++ [⟨true, k, h⟩]) y
    | _, _ => false
  | _, .bad _ => false
def g_walked : Nat → Pm
  | 0 => fun _ _ => False
  | n + 1 => fun ds R => ∃ (F : Fl) (L : Int) (cs : List Ch) (t : Tr), ds = [eFl F, .int L, .list (cs.map eCh), t.enc] ∧ GoodFl 50 F ∧ OkCh F cs ∧ t.ok ∧ t.ht ≤ n + 1 ∧ cs.length + t.ht ≤ 10000 ∧ R (.bool (mW F L cs t))
theorem v_walked {ds : List PyData} {R : PyData → Prop} (h : g_walked 0 ds R) : False := h
abbrev e_walked (n : Nat) : FnE := ⟨"walked", 4, false, g_walked n⟩
theorem walked_ap {n : Nat} {F : Fl} {L : Int} {cs : List Ch} {t : Tr} {Q : PyData → Prop} (hF : GoodFl 50 F) (hc : OkCh F cs) (ht : t.ok) (hh : t.ht ≤ n) (hl : cs.length + t.ht ≤ 10000) (q : Q (.bool (mW F L cs t))) : g_walked n [eFl F, .int L, .list (cs.map eCh), t.enc] Q := by
  cases n with
  | zero => cases t <;> simp [Tr.ht] at hh
  | succ n => exact ⟨F, L, cs, t, rfl, hF, hc, ht, hh, hl, q⟩
theorem shp_split : SeqAt.shaped (.str "split") = true := by decide +kernel
theorem shp_chain : SeqAt.shaped (.str "chain") = true := by decide +kernel
theorem shp_stretch : SeqAt.shaped (.str "stretch") = true := by decide +kernel
theorem eqv_str {a b : Str} : PyData.eqv (.str a) (.str b) = decide (a = b) := by
  rw [Bool.eq_iff_iff]
  simp [PyData.eqv]
theorem eqv_cc : PyData.eqv (.str "chain") (.str "chain") = true := by decide +kernel
theorem eqv_ss : PyData.eqv (.str "stretch") (.str "stretch") = true := by decide +kernel
theorem eqv_pp : PyData.eqv (.str "split") (.str "split") = true := by decide +kernel
theorem eqv_sc : PyData.eqv (.str "stretch") (.str "chain") = false := by decide +kernel
theorem eqv_pc : PyData.eqv (.str "split") (.str "chain") = false := by decide +kernel
theorem eqv_ps : PyData.eqv (.str "split") (.str "stretch") = false := by decide +kernel
theorem isT_str {s : Str} : isT (.str s) .str = true := rfl
theorem isT_tup {s : List PyData} : isT (.tuple s) .tuple = true := rfl
theorem eCh_early {k : Nat} {h : Int} : PyData.tuple [.str "early", .int k, .int h] = eCh ⟨false, k, h⟩ := rfl
theorem eCh_late {k : Nat} {h : Int} : PyData.tuple [.str "late", .int k, .int h] = eCh ⟨true, k, h⟩ := rfl
theorem okch_app {F : Fl} {cs : List Ch} (h : OkCh F cs) {c : Ch} (hc : c.job < F.jobs.length) : OkCh F (cs ++ [c]) := fun x hx => by
  rw [List.mem_append, List.mem_singleton] at hx
  rcases hx with hx | rfl
  · exact h x hx
  · exact hc
theorem sem_walked (n : Nat) : ∀ ds R, ds.length = 4 → g_walked (n + 1) ds R → wpSs (Gof [e_chain_shuts, e_stretch_shuts, e_is_whole, e_is_number_of, e_walked n]) ir_walked (startE 4 ds) { nx := fun _ => false = false ∧ R .none, rt := R } := by
  rintro _ R _ ⟨F, L, cs, t, rfl, hF, hcs, hok, hht, hcl, q⟩
  cases t with
  | chain d =>
    simp only [Tr.enc]
    (try simp only [ir_walked, isT_tup, isT_str, ir_walked_t5, shp_chain, eqv_cc, ↓wpSs, ↓wpS, ↓wpE, ↓wpEs, ↓wpBop, ↓wpIfs, ↓wpIt, ↓pk, ↓bindT, ↓ownL, ↓lockIt, ↓unlockIt, isT, ↓setAll, ↓wipeE, ↓startE, ↓Tg.slots, ↓IEs.fine, ↓IEs.len, ↓noOwn, ↓isOwnE, ↓Sl.isO, ↓Ev.freeAll, List.replicate, if_true, if_false, reduceIte, Nat.reduceLeDiff, Nat.reduceSub, Nat.reduceAdd, eq_self, reduceCtorEq, Int.reduceLT, Nat.reduceLT, ↓wpl, wpu])
    refine chain_shuts_ap hF hcs (fun xs e => (hok xs e).1) ?_
    (try simp only [↓wpSs, ↓wpS, ↓wpE, ↓wpEs, ↓wpBop, ↓wpIfs, ↓wpIt, ↓pk, ↓bindT, ↓ownL, ↓lockIt, ↓unlockIt, isT, ↓setAll, ↓wipeE, ↓startE, ↓Tg.slots, ↓IEs.fine, ↓IEs.len, ↓noOwn, ↓isOwnE, ↓Sl.isO, ↓Ev.freeAll, List.replicate, if_true, if_false, reduceIte, Nat.reduceLeDiff, Nat.reduceSub, Nat.reduceAdd, eq_self, reduceCtorEq, Int.reduceLT, Nat.reduceLT, ↓wpl, wpu])
    exact q
  | stretch a b e =>
    simp only [Tr.enc]
    (try simp only [ir_walked, isT_tup, isT_str, ir_walked_t5, shp_stretch, shp_chain, eqv_sc, ir_walked_t4, eqv_ss, ↓wpSs, ↓wpS, ↓wpE, ↓wpEs, ↓wpBop, ↓wpIfs, ↓wpIt, ↓pk, ↓bindT, ↓ownL, ↓lockIt, ↓unlockIt, isT, ↓setAll, ↓wipeE, ↓startE, ↓Tg.slots, ↓IEs.fine, ↓IEs.len, ↓noOwn, ↓isOwnE, ↓Sl.isO, ↓Ev.freeAll, List.replicate, if_true, if_false, reduceIte, Nat.reduceLeDiff, Nat.reduceSub, Nat.reduceAdd, eq_self, reduceCtorEq, Int.reduceLT, Nat.reduceLT, ↓wpl, wpu])
    refine stretch_shuts_ap hF hcs ?_
    (try simp only [↓wpSs, ↓wpS, ↓wpE, ↓wpEs, ↓wpBop, ↓wpIfs, ↓wpIt, ↓pk, ↓bindT, ↓ownL, ↓lockIt, ↓unlockIt, isT, ↓setAll, ↓wipeE, ↓startE, ↓Tg.slots, ↓IEs.fine, ↓IEs.len, ↓noOwn, ↓isOwnE, ↓Sl.isO, ↓Ev.freeAll, List.replicate, if_true, if_false, reduceIte, Nat.reduceLeDiff, Nat.reduceSub, Nat.reduceAdd, eq_self, reduceCtorEq, Int.reduceLT, Nat.reduceLT, ↓wpl, wpu])
    exact q
  | split a b x y =>
    simp only [Tr.enc]
    (try simp only [ir_walked, isT_tup, isT_str, ir_walked_t5, shp_split, shp_stretch, shp_chain, eqv_pc, ir_walked_t4, eqv_ps, ir_walked_t3, eqv_pp, ir_walked_t2, ↓wpSs, ↓wpS, ↓wpE, ↓wpEs, ↓wpBop, ↓wpIfs, ↓wpIt, ↓pk, ↓bindT, ↓ownL, ↓lockIt, ↓unlockIt, isT, ↓setAll, ↓wipeE, ↓startE, ↓Tg.slots, ↓IEs.fine, ↓IEs.len, ↓noOwn, ↓isOwnE, ↓Sl.isO, ↓Ev.freeAll, List.replicate, if_true, if_false, reduceIte, Nat.reduceLeDiff, Nat.reduceSub, Nat.reduceAdd, eq_self, reduceCtorEq, Int.reduceLT, Nat.reduceLT, ↓wpl, wpu])
    refine is_number_ap ?_
    have q' : R (.bool (match numN F.jobs.length a, whN b with | some k, some h => mW F L (cs ++ [⟨false, k, h⟩]) x && mW F L (cs ++ [⟨true, k, h⟩]) y | _, _ => false)) := q
    clear q
    cases ha : numN F.jobs.length a with
    | none =>
      rw [ha] at q'
      (try simp only [Option.isSome_none, ↓wpSs, ↓wpS, ↓wpE, ↓wpEs, ↓wpBop, ↓wpIfs, ↓wpIt, ↓pk, ↓bindT, ↓ownL, ↓lockIt, ↓unlockIt, isT, ↓setAll, ↓wipeE, ↓startE, ↓Tg.slots, ↓IEs.fine, ↓IEs.len, ↓noOwn, ↓isOwnE, ↓Sl.isO, ↓Ev.freeAll, List.replicate, if_true, if_false, reduceIte, Nat.reduceLeDiff, Nat.reduceSub, Nat.reduceAdd, eq_self, reduceCtorEq, Int.reduceLT, Nat.reduceLT, ↓wpl, wpu])
      exact q'
    | some k =>
      obtain ⟨rfl, hk⟩ := numN_some ha
      (try simp only [Option.isSome_some, ↓wpSs, ↓wpS, ↓wpE, ↓wpEs, ↓wpBop, ↓wpIfs, ↓wpIt, ↓pk, ↓bindT, ↓ownL, ↓lockIt, ↓unlockIt, isT, ↓setAll, ↓wipeE, ↓startE, ↓Tg.slots, ↓IEs.fine, ↓IEs.len, ↓noOwn, ↓isOwnE, ↓Sl.isO, ↓Ev.freeAll, List.replicate, if_true, if_false, reduceIte, Nat.reduceLeDiff, Nat.reduceSub, Nat.reduceAdd, eq_self, reduceCtorEq, Int.reduceLT, Nat.reduceLT, ↓wpl, wpu])
      refine is_whole_ap ?_
      cases hb : whN b with
      | none =>
        rw [ha, hb] at q'
        (try simp only [Option.isSome_none, ↓wpSs, ↓wpS, ↓wpE, ↓wpEs, ↓wpBop, ↓wpIfs, ↓wpIt, ↓pk, ↓bindT, ↓ownL, ↓lockIt, ↓unlockIt, isT, ↓setAll, ↓wipeE, ↓startE, ↓Tg.slots, ↓IEs.fine, ↓IEs.len, ↓noOwn, ↓isOwnE, ↓Sl.isO, ↓Ev.freeAll, List.replicate, if_true, if_false, reduceIte, Nat.reduceLeDiff, Nat.reduceSub, Nat.reduceAdd, eq_self, reduceCtorEq, Int.reduceLT, Nat.reduceLT, ↓wpl, wpu])
        exact q'
      | some h =>
        cases whN_some hb
        rw [ha, hb] at q'
        dsimp only at q'
        (try simp only [Option.isSome_some, ir_walked_t1, eCh_early, ↓wpSs, ↓wpS, ↓wpE, ↓wpEs, ↓wpBop, ↓wpIfs, ↓wpIt, ↓pk, ↓bindT, ↓ownL, ↓lockIt, ↓unlockIt, isT, ↓setAll, ↓wipeE, ↓startE, ↓Tg.slots, ↓IEs.fine, ↓IEs.len, ↓noOwn, ↓isOwnE, ↓Sl.isO, ↓Ev.freeAll, List.replicate, if_true, if_false, reduceIte, Nat.reduceLeDiff, Nat.reduceSub, Nat.reduceAdd, eq_self, reduceCtorEq, Int.reduceLT, Nat.reduceLT, ↓wpl, wpu])
        have hx : x.ht ≤ n ∧ y.ht ≤ n ∧ cs.length + x.ht + 1 ≤ 10000 ∧ cs.length + y.ht + 1 ≤ 10000 := by
          simp only [Tr.ht] at hht hcl
          omega
        refine ⟨by omega, ?_⟩
        rw [show cs.map eCh ++ [eCh (⟨false, k, h⟩ : Ch)] = (cs ++ [(⟨false, k, h⟩ : Ch)]).map eCh by rw [List.map_append]; rfl]
        refine walked_ap hF (okch_app hcs hk) hok.1 hx.1 (by rw [List.length_append]; show _ + 1 + _ ≤ _; omega) ?_
        cases hm : mW F L (cs ++ [⟨false, k, h⟩]) x with
        | false =>
          rw [hm] at q'
          (try simp only [↓wpSs, ↓wpS, ↓wpE, ↓wpEs, ↓wpBop, ↓wpIfs, ↓wpIt, ↓pk, ↓bindT, ↓ownL, ↓lockIt, ↓unlockIt, isT, ↓setAll, ↓wipeE, ↓startE, ↓Tg.slots, ↓IEs.fine, ↓IEs.len, ↓noOwn, ↓isOwnE, ↓Sl.isO, ↓Ev.freeAll, List.replicate, if_true, if_false, reduceIte, Nat.reduceLeDiff, Nat.reduceSub, Nat.reduceAdd, eq_self, reduceCtorEq, Int.reduceLT, Nat.reduceLT, ↓wpl, wpu])
          exact q'
        | true =>
          rw [hm, Bool.true_and] at q'
          (try simp only [ir_walked_t0, eCh_late, ↓wpSs, ↓wpS, ↓wpE, ↓wpEs, ↓wpBop, ↓wpIfs, ↓wpIt, ↓pk, ↓bindT, ↓ownL, ↓lockIt, ↓unlockIt, isT, ↓setAll, ↓wipeE, ↓startE, ↓Tg.slots, ↓IEs.fine, ↓IEs.len, ↓noOwn, ↓isOwnE, ↓Sl.isO, ↓Ev.freeAll, List.replicate, if_true, if_false, reduceIte, Nat.reduceLeDiff, Nat.reduceSub, Nat.reduceAdd, eq_self, reduceCtorEq, Int.reduceLT, Nat.reduceLT, ↓wpl, wpu])
          refine ⟨by omega, ?_⟩
          rw [show cs.map eCh ++ [eCh (⟨true, k, h⟩ : Ch)] = (cs ++ [(⟨true, k, h⟩ : Ch)]).map eCh by rw [List.map_append]; rfl]
          refine walked_ap hF (okch_app hcs hk) hok.2 hx.2.1 (by rw [List.length_append]; show _ + 1 + _ ≤ _; omega) ?_
          (try simp only [↓wpSs, ↓wpS, ↓wpE, ↓wpEs, ↓wpBop, ↓wpIfs, ↓wpIt, ↓pk, ↓bindT, ↓ownL, ↓lockIt, ↓unlockIt, isT, ↓setAll, ↓wipeE, ↓startE, ↓Tg.slots, ↓IEs.fine, ↓IEs.len, ↓noOwn, ↓isOwnE, ↓Sl.isO, ↓Ev.freeAll, List.replicate, if_true, if_false, reduceIte, Nat.reduceLeDiff, Nat.reduceSub, Nat.reduceAdd, eq_self, reduceCtorEq, Int.reduceLT, Nat.reduceLT, ↓wpl, wpu])
          exact q'
  | bad d =>
    have q0 : R (.bool false) := q
    clear q
    simp only [Tr.enc]
    have hb : BadT d := hok
    cases d with
    | tuple xs =>
      have hl2 : ∀ m : Nat, (((m + 1 + 1 : Nat) : Int) < 2) = False := fun m => by simp; omega
      cases xs with
      | nil => (try simp only [ir_walked, isT_tup, ↓wpSs, ↓wpS, ↓wpE, ↓wpEs, ↓wpBop, ↓wpIfs, ↓wpIt, ↓pk, ↓bindT, ↓ownL, ↓lockIt, ↓unlockIt, isT, ↓setAll, ↓wipeE, ↓startE, ↓Tg.slots, ↓IEs.fine, ↓IEs.len, ↓noOwn, ↓isOwnE, ↓Sl.isO, ↓Ev.freeAll, List.replicate, if_true, if_false, reduceIte, Nat.reduceLeDiff, Nat.reduceSub, Nat.reduceAdd, eq_self, reduceCtorEq, Int.reduceLT, Nat.reduceLT, ↓wpl, wpu]); simpa using q0
      | cons x xs =>
        cases xs with
        | nil => (try simp only [ir_walked, isT_tup, ↓wpSs, ↓wpS, ↓wpE, ↓wpEs, ↓wpBop, ↓wpIfs, ↓wpIt, ↓pk, ↓bindT, ↓ownL, ↓lockIt, ↓unlockIt, isT, ↓setAll, ↓wipeE, ↓startE, ↓Tg.slots, ↓IEs.fine, ↓IEs.len, ↓noOwn, ↓isOwnE, ↓Sl.isO, ↓Ev.freeAll, List.replicate, if_true, if_false, reduceIte, Nat.reduceLeDiff, Nat.reduceSub, Nat.reduceAdd, eq_self, reduceCtorEq, Int.reduceLT, Nat.reduceLT, ↓wpl, wpu]); simpa using q0
        | cons y xs =>
          cases x with
          | str s =>
            obtain ⟨h1, h2, h3, h4⟩ := hb _ rfl s (y :: xs) rfl
            simp only [List.length_cons] at h2 h3 h4
            by_cases hc : s = "chain"
            · have e : (((xs.length + 1 + 1 : Nat) : Int) = 2) = False := by have := h2 hc; simp; omega
              subst hc
              (try simp only [ir_walked, isT_tup, isT_str, hl2, ir_walked_t5, shp_chain, eqv_cc, e, ↓wpSs, ↓wpS, ↓wpE, ↓wpEs, ↓wpBop, ↓wpIfs, ↓wpIt, ↓pk, ↓bindT, ↓ownL, ↓lockIt, ↓unlockIt, isT, ↓setAll, ↓wipeE, ↓startE, ↓Tg.slots, ↓IEs.fine, ↓IEs.len, ↓noOwn, ↓isOwnE, ↓Sl.isO, ↓Ev.freeAll, List.replicate, if_true, if_false, reduceIte, Nat.reduceLeDiff, Nat.reduceSub, Nat.reduceAdd, eq_self, reduceCtorEq, Int.reduceLT, Nat.reduceLT, ↓wpl, wpu])
              exact q0
            · (try simp only [ir_walked, isT_tup, isT_str, hl2, ir_walked_t5, h1, shp_chain, eqv_str, hc, ↓wpSs, ↓wpS, ↓wpE, ↓wpEs, ↓wpBop, ↓wpIfs, ↓wpIt, ↓pk, ↓bindT, ↓ownL, ↓lockIt, ↓unlockIt, isT, ↓setAll, ↓wipeE, ↓startE, ↓Tg.slots, ↓IEs.fine, ↓IEs.len, ↓noOwn, ↓isOwnE, ↓Sl.isO, ↓Ev.freeAll, List.replicate, if_true, if_false, reduceIte, Nat.reduceLeDiff, Nat.reduceSub, Nat.reduceAdd, eq_self, reduceCtorEq, Int.reduceLT, Nat.reduceLT, ↓wpl, wpu])
              by_cases hd : s = "stretch"
              · have e : (((xs.length + 1 + 1 : Nat) : Int) = 4) = False := by have := h3 hd; simp; omega
                subst hd
                (try simp only [ir_walked_t4, shp_stretch, eqv_ss, e, ↓wpSs, ↓wpS, ↓wpE, ↓wpEs, ↓wpBop, ↓wpIfs, ↓wpIt, ↓pk, ↓bindT, ↓ownL, ↓lockIt, ↓unlockIt, isT, ↓setAll, ↓wipeE, ↓startE, ↓Tg.slots, ↓IEs.fine, ↓IEs.len, ↓noOwn, ↓isOwnE, ↓Sl.isO, ↓Ev.freeAll, List.replicate, if_true, if_false, reduceIte, Nat.reduceLeDiff, Nat.reduceSub, Nat.reduceAdd, eq_self, reduceCtorEq, Int.reduceLT, Nat.reduceLT, ↓wpl, wpu])
                exact q0
              · (try simp only [ir_walked_t4, h1, shp_stretch, eqv_str, hd, ↓wpSs, ↓wpS, ↓wpE, ↓wpEs, ↓wpBop, ↓wpIfs, ↓wpIt, ↓pk, ↓bindT, ↓ownL, ↓lockIt, ↓unlockIt, isT, ↓setAll, ↓wipeE, ↓startE, ↓Tg.slots, ↓IEs.fine, ↓IEs.len, ↓noOwn, ↓isOwnE, ↓Sl.isO, ↓Ev.freeAll, List.replicate, if_true, if_false, reduceIte, Nat.reduceLeDiff, Nat.reduceSub, Nat.reduceAdd, eq_self, reduceCtorEq, Int.reduceLT, Nat.reduceLT, ↓wpl, wpu])
                by_cases hp : s = "split"
                · have e : (((xs.length + 1 + 1 : Nat) : Int) = 5) = False := by have := h4 hp; simp; omega
                  subst hp
                  (try simp only [ir_walked_t3, shp_split, eqv_pp, e, decide_false, ↓wpSs, ↓wpS, ↓wpE, ↓wpEs, ↓wpBop, ↓wpIfs, ↓wpIt, ↓pk, ↓bindT, ↓ownL, ↓lockIt, ↓unlockIt, isT, ↓setAll, ↓wipeE, ↓startE, ↓Tg.slots, ↓IEs.fine, ↓IEs.len, ↓noOwn, ↓isOwnE, ↓Sl.isO, ↓Ev.freeAll, List.replicate, if_true, if_false, reduceIte, Nat.reduceLeDiff, Nat.reduceSub, Nat.reduceAdd, eq_self, reduceCtorEq, Int.reduceLT, Nat.reduceLT, ↓wpl, wpu])
                  exact q0
                · (try simp only [ir_walked_t3, h1, shp_split, eqv_str, hp, decide_false, ↓wpSs, ↓wpS, ↓wpE, ↓wpEs, ↓wpBop, ↓wpIfs, ↓wpIt, ↓pk, ↓bindT, ↓ownL, ↓lockIt, ↓unlockIt, isT, ↓setAll, ↓wipeE, ↓startE, ↓Tg.slots, ↓IEs.fine, ↓IEs.len, ↓noOwn, ↓isOwnE, ↓Sl.isO, ↓Ev.freeAll, List.replicate, if_true, if_false, reduceIte, Nat.reduceLeDiff, Nat.reduceSub, Nat.reduceAdd, eq_self, reduceCtorEq, Int.reduceLT, Nat.reduceLT, ↓wpl, wpu])
                  exact q0
          | _ => (try simp only [ir_walked, isT_tup, hl2, isT, ↓wpSs, ↓wpS, ↓wpE, ↓wpEs, ↓wpBop, ↓wpIfs, ↓wpIt, ↓pk, ↓bindT, ↓ownL, ↓lockIt, ↓unlockIt, isT, ↓setAll, ↓wipeE, ↓startE, ↓Tg.slots, ↓IEs.fine, ↓IEs.len, ↓noOwn, ↓isOwnE, ↓Sl.isO, ↓Ev.freeAll, List.replicate, if_true, if_false, reduceIte, Nat.reduceLeDiff, Nat.reduceSub, Nat.reduceAdd, eq_self, reduceCtorEq, Int.reduceLT, Nat.reduceLT, ↓wpl, wpu]); exact q0
    | _ => (try simp only [ir_walked, isT, ↓wpSs, ↓wpS, ↓wpE, ↓wpEs, ↓wpBop, ↓wpIfs, ↓wpIt, ↓pk, ↓bindT, ↓ownL, ↓lockIt, ↓unlockIt, isT, ↓setAll, ↓wipeE, ↓startE, ↓Tg.slots, ↓IEs.fine, ↓IEs.len, ↓noOwn, ↓isOwnE, ↓Sl.isO, ↓Ev.freeAll, List.replicate, if_true, if_false, reduceIte, Nat.reduceLeDiff, Nat.reduceSub, Nat.reduceAdd, eq_self, reduceCtorEq, Int.reduceLT, Nat.reduceLT, ↓wpl, wpu]); exact q0
def g_shut : Pm := fun ds R => ∃ (F : Fl) (L : Int) (t : Tr), ds = [eFl F, .int L, t.enc] ∧ GoodFl 50 F ∧ t.ok ∧ t.ht ≤ 520 ∧ R (.bool (mW F L [] t))
abbrev e_shut : FnE := ⟨"shut", 3, false, g_shut⟩
theorem shut_ap {F : Fl} {L : Int} {t : Tr} {Q : PyData → Prop} (hF : GoodFl 50 F) (ht : t.ok) (hh : t.ht ≤ 520) (q : Q (.bool (mW F L [] t))) : g_shut [eFl F, .int L, t.enc] Q := ⟨F, L, t, rfl, hF, ht, hh, q⟩
theorem sem_shut : ∀ ds R, ds.length = 3 → g_shut ds R → wpSs (Gof [e_walked 520]) ir_shut (startE 3 ds) { nx := fun _ => false = false ∧ R .none, rt := R } := by
  rintro _ R _ ⟨F, L, t, rfl, hF, ht, hh, q⟩
  (try simp only [ir_shut, ↓wpSs, ↓wpS, ↓wpE, ↓wpEs, ↓wpBop, ↓wpIfs, ↓wpIt, ↓pk, ↓bindT, ↓ownL, ↓lockIt, ↓unlockIt, isT, ↓setAll, ↓wipeE, ↓startE, ↓Tg.slots, ↓IEs.fine, ↓IEs.len, ↓noOwn, ↓isOwnE, ↓Sl.isO, ↓Ev.freeAll, List.replicate, if_true, if_false, reduceIte, Nat.reduceLeDiff, Nat.reduceSub, Nat.reduceAdd, eq_self, reduceCtorEq, Int.reduceLT, Nat.reduceLT, ↓wpl, wpu])
  refine walked_ap (cs := []) hF (fun c hc => by simp at hc) ht hh (by show 0 + _ ≤ _; omega) ?_
  (try simp only [↓wpSs, ↓wpS, ↓wpE, ↓wpEs, ↓wpBop, ↓wpIfs, ↓wpIt, ↓pk, ↓bindT, ↓ownL, ↓lockIt, ↓unlockIt, isT, ↓setAll, ↓wipeE, ↓startE, ↓Tg.slots, ↓IEs.fine, ↓IEs.len, ↓noOwn, ↓isOwnE, ↓Sl.isO, ↓Ev.freeAll, List.replicate, if_true, if_false, reduceIte, Nat.reduceLeDiff, Nat.reduceSub, Nat.reduceAdd, eq_self, reduceCtorEq, Int.reduceLT, Nat.reduceLT, ↓wpl, wpu])
  exact q
end CF
namespace CF
open PySem PySem.Spec PyProof.Rows L2
/-! ### plans, and that no tree shuts one out -/
theorem sumTo_congr {f g : Nat → Int} : ∀ {n : Nat}, (∀ k, k < n → f k = g k) → sumTo f n = sumTo g n
  | 0, h => rfl
  | n + 1, h => by
    rw [sumTo, sumTo, h n (by omega), sumTo_congr fun k hk => h k (by omega)]
theorem sumTo_le {f g : Nat → Int} : ∀ {n : Nat}, (∀ k, k < n → f k ≤ g k) → sumTo f n ≤ sumTo g n
  | 0, h => Int.le_refl _
  | n + 1, h => by
    rw [sumTo, sumTo]
    have := h n (by omega)
    have := sumTo_le (n := n) fun k hk => h k (by omega)
    omega
theorem sumTo_add {f g : Nat → Int} : ∀ {n : Nat}, sumTo (fun k => f k + g k) n = sumTo f n + sumTo g n
  | 0 => rfl
  | n + 1 => by
    rw [sumTo, sumTo, sumTo, sumTo_add (n := n)]
    omega
theorem sumTo_zero {f : Nat → Int} : ∀ {n : Nat}, (∀ k, k < n → f k = 0) → sumTo f n = 0
  | 0, h => rfl
  | n + 1, h => by rw [sumTo, h n (by omega), sumTo_zero fun k hk => h k (by omega)]; rfl
def bsy (F : Fl) (S : Nat → Int) (c : Nat) (t : Int) (k : Nat) : Int := if S k ≤ t ∧ t < S k + F.h k then F.need k c else 0
def wk (F : Fl) (S : Nat → Int) (c : Nat) (t : Int) : Int := sumTo (bsy F S c t) F.jobs.length
structure Plan (F : Fl) (S : Nat → Int) : Prop where
  p : ∀ k, k < F.jobs.length → 0 ≤ S k
  o : ∀ o ∈ F.orders, S o.1 + F.h o.1 ≤ S o.2
  c : ∀ c, c < F.crews.length → ∀ t, wk F S c t ≤ F.crews.getD c 0
def Holds1 (S : Nat → Int) (c : Ch) : Prop := if c.late = true then c.hour + 1 ≤ S c.job else S c.job ≤ c.hour
def HoldC (S : Nat → Int) (cs : List Ch) : Prop := ∀ c ∈ cs, Holds1 S c
theorem foldF_le {S : Nat → Int} {k : Nat} : ∀ {cs : List Ch} {a : Int}, HoldC S cs → a ≤ S k → cs.foldl (inF1 k) a ≤ S k
  | [], a, h, ha => ha
  | c :: cs, a, h, ha => by
    rw [List.foldl_cons]
    refine foldF_le (fun x hx => h x (List.mem_cons_of_mem _ hx)) ?_
    have := h c List.mem_cons_self
    unfold inF1
    unfold Holds1 at this
    split
    · rename_i hc
      rw [if_pos hc.1, hc.2] at this
      omega
    · exact ha
theorem foldL_ge {S : Nat → Int} {k : Nat} : ∀ {cs : List Ch} {a : Int}, HoldC S cs → S k ≤ a → S k ≤ cs.foldl (inL1 k) a
  | [], a, h, ha => ha
  | c :: cs, a, h, ha => by
    rw [List.foldl_cons]
    refine foldL_ge (fun x hx => h x (List.mem_cons_of_mem _ hx)) ?_
    have := h c List.mem_cons_self
    unfold inL1
    unfold Holds1 at this
    split
    · rename_i hc
      rw [if_neg (by rw [hc.1]; decide), hc.2] at this
      omega
    · exact ha
theorem ownF_le {F : Fl} {S : Nat → Int} (hP : Plan F S) {cs : List Ch} (hc : HoldC S cs) {k : Nat} (hk : k < F.jobs.length) : ownF cs k ≤ S k := foldF_le hc (hP.p k hk)
theorem ownL_ge {F : Fl} {S : Nat → Int} {L : Int} (hL : ∀ k, k < F.jobs.length → S k + F.h k ≤ L) {cs : List Ch} (hc : HoldC S cs) {k : Nat} (hk : k < F.jobs.length) : S k ≤ ownL' F L cs k := foldL_ge hc (by have := hL k hk; omega)
/-- values beyond the jobs don't matter -/
def ext (n : Nat) (S : Nat → Int) (T : Nat → Int) : Nat → Int := fun k => if k < n then S k else T k
theorem winF_le {F : Fl} {most : Int} (hF : GoodFl most F) {S : Nat → Int} (hP : Plan F S) {cs : List Ch} (hc : HoldC S cs) {k : Nat} (hk : k < F.jobs.length) : winF F cs k ≤ S k := by
  have := swp_le (E := arcsF F) (f := ownF cs) (g := ext F.jobs.length S (ownF cs)) (fun e he => ?_) (fun j => ?_) F.jobs.length k
  · unfold ext at this
    rw [if_pos hk] at this
    exact this
  · obtain ⟨o, ho, rfl⟩ := List.mem_map.mp he
    obtain ⟨h1, h2, _⟩ := ord_ok hF ho
    unfold ext arcF
    simp only
    rw [if_pos h1, if_pos h2]
    exact hP.o o ho
  · unfold ext
    split
    · exact ownF_le hP hc ‹_›
    · exact Int.le_refl _
theorem winL_ge {F : Fl} {most : Int} (hF : GoodFl most F) {S : Nat → Int} (hP : Plan F S) {L : Int} (hL : ∀ k, k < F.jobs.length → S k + F.h k ≤ L) {cs : List Ch} (hc : HoldC S cs) {k : Nat} (hk : k < F.jobs.length) : S k ≤ winL F L cs k := by
  have := swp_le (E := arcsL F) (f := fun k => -(ownL' F L cs k)) (g := ext F.jobs.length (fun k => -(S k)) fun k => -(ownL' F L cs k)) (fun e he => ?_) (fun j => ?_) F.jobs.length k
  · unfold ext at this
    rw [if_pos hk] at this
    dsimp only at this
    unfold winL winG
    omega
  · obtain ⟨o, ho, rfl⟩ := List.mem_map.mp he
    obtain ⟨h1, h2, _⟩ := ord_ok hF ho
    unfold ext arcL
    simp only
    rw [if_pos h1, if_pos h2]
    have := hP.o o ho
    omega
  · unfold ext
    split
    · have := ownL_ge (F := F) hL hc (k := j) ‹_›
      dsimp only
      omega
    · exact Int.le_refl _
theorem shared_mid {w : Int × Int} {m h b e : Int} (h1 : w.1 ≤ m) (h2 : m ≤ w.2) : mWithin w h b e ≤ mShared m h b e := by
  unfold mWithin mShared
  omega
theorem shared_nn {a h b e : Int} : 0 ≤ mShared a h b e := by unfold mShared; omega
theorem sum_shared {F : Fl} {S : Nat → Int} {c : Nat} {C b : Int} (hC : ∀ t, wk F S c t ≤ C) (hh : ∀ k, k < F.jobs.length → 0 ≤ F.h k) : ∀ m : Nat, sumTo (fun k => F.need k c * mShared (S k) (F.h k) b (b + m)) F.jobs.length ≤ C * m
  | 0 => by
    rw [sumTo_zero fun k hk => ?_]
    · simp
    · have : mShared (S k) (F.h k) b (b + (0 : Nat)) = 0 := by unfold mShared; omega
      rw [this, Int.mul_zero]
  | m + 1 => by
    have ih := sum_shared hC hh (b := b) m
    have hw := hC (b + m)
    have e : sumTo (fun k => F.need k c * mShared (S k) (F.h k) b (b + ((m + 1 : Nat) : Int))) F.jobs.length = sumTo (fun k => F.need k c * mShared (S k) (F.h k) b (b + m)) F.jobs.length + wk F S c (b + m) := by
      unfold wk
      rw [← sumTo_add]
      refine sumTo_congr fun k hk => ?_
      have := hh k hk
      unfold bsy
      split
      · rename_i hc
        have : mShared (S k) (F.h k) b (b + ((m + 1 : Nat) : Int)) = mShared (S k) (F.h k) b (b + m) + 1 := by unfold mShared; omega
        rw [this, Int.mul_add, Int.mul_one]
      · rename_i hc
        have : mShared (S k) (F.h k) b (b + ((m + 1 : Nat) : Int)) = mShared (S k) (F.h k) b (b + m) := by unfold mShared; omega
        rw [this, Int.add_zero]
    rw [e]
    have : C * ((m + 1 : Nat) : Int) = C * m + C := by rw [Int.natCast_add, Int.mul_add]; simp
    rw [this]
    omega
theorem chain_le {F : Fl} {S : Nat → Int} (hP : Plan F S) : ∀ {ks : List Nat} {k0 : Nat}, linkd F (k0 :: ks) → S k0 + ((k0 :: ks).dropLast.map F.h).sum ≤ S ((k0 :: ks).getLastD 0)
  | [], k0, _ => by simp
  | k1 :: ks, k0, h => by
    have h1 := hP.o (k0, k1) (h 0 k0 k1 rfl rfl)
    have h2 := chain_le hP (ks := ks) (k0 := k1) fun i a b ha hb => h (i + 1) a b ha hb
    have e1 : (k0 :: k1 :: ks).dropLast = k0 :: (k1 :: ks).dropLast := rfl
    have e2 : (k0 :: k1 :: ks).getLastD 0 = (k1 :: ks).getLastD 0 := rfl
    rw [e1, e2, List.map_cons, List.sum_cons]
    simp only at h1
    omega
theorem tree_sound {F : Fl} (hF : GoodFl 50 F) {S : Nat → Int} (hP : Plan F S) {L : Int} (hL : ∀ k, k < F.jobs.length → S k + F.h k ≤ L) : ∀ (t : Tr) (cs : List Ch), HoldC S cs → mW F L cs t = false
  | .chain d, cs, hc => by
    show mChain F L cs d = false
    unfold mChain
    split
    · rename_i ks hk
      obtain ⟨rfl, hne, hlk, hlt⟩ := chN_some hk
      cases ks with
      | nil => exact (hne rfl).elim
      | cons k0 ks =>
        have h1 := chain_le hP hlk
        have h2 := ownF_le hP hc (hlt k0 List.mem_cons_self)
        have hl : (k0 :: ks).getLastD 0 < F.jobs.length := hlt _ (List.getLast_mem (l := k0 :: ks) (by simp))
        have h3 := ownL_ge hL hc hl
        refine decide_eq_false ?_
        show ¬ ownL' F L cs ((k0 :: ks).getLastD 0) < ownF cs k0 + _
        omega
    · rfl
  | .stretch a b e, cs, hc => by
    show mStretch F L cs a b e = false
    unfold mStretch
    split
    · rename_i c b' e' ha hb he
      obtain ⟨_, hcl⟩ := numN_some ha
      split
      · rfl
      · rename_i hbe
        refine decide_eq_false ?_
        have hle : mAsked F (winW F L cs) c b' e' ≤ sumTo (fun k => F.need k c * mShared (S k) (F.h k) b' e') F.jobs.length := by
          unfold mAsked
          refine sumTo_le fun k hk => ?_
          obtain ⟨_, _, n0, _, _⟩ := need_bd hF hk hcl
          refine Int.mul_le_mul_of_nonneg_left ?_ n0
          unfold winW
          rw [vec_getD hk]
          exact shared_mid (winF_le hF hP hc hk) (winL_ge hF hP hL hc hk)
        obtain ⟨m, hm⟩ := Int.eq_ofNat_of_zero_le (show 0 ≤ e' - b' by omega)
        have := sum_shared (b := b') (hP.c c hcl) (fun k hk => by have := (hours_bd hF hk).2.1; omega) m
        rw [← hm, show b' + (e' - b') = e' by omega] at this
        omega
    · rfl
  | .split a b x y, cs, hc => by
    show (match numN F.jobs.length a, whN b with | some k, some h => mW F L (cs ++ [⟨false, k, h⟩]) x && mW F L (cs ++ [⟨true, k, h⟩]) y | _, _ => false) = false
    split
    · rename_i k h ha hb
      have app : ∀ c : Ch, Holds1 S c → HoldC S (cs ++ [c]) := fun c h x hx => by
        rw [List.mem_append, List.mem_singleton] at hx
        rcases hx with hx | rfl
        · exact hc x hx
        · exact h
      by_cases hs : S k ≤ h
      · rw [tree_sound hF hP hL x _ (app ⟨false, k, h⟩ (by unfold Holds1; simpa using hs))]
        rfl
      · rw [tree_sound hF hP hL y _ (app ⟨true, k, h⟩ (by unfold Holds1; simp; omega)), Bool.and_false]
    · rfl
  | .bad d, cs, hc => rfl
end CF
namespace CF
open PySem PySem.Spec PyProof.Rows L2
/-! ### jobs laid one by one -/
abbrev Bg := List (Nat × Int)
def busy1 (F : Fl) (c : Nat) (t : Int) (p : Nat × Int) : Int := if p.2 ≤ t ∧ t < p.2 + F.h p.1 then F.need p.1 c else 0
def use (F : Fl) (B : Bg) (c : Nat) (t : Int) : Int := (B.map (busy1 F c t)).sum
def fitB (F : Fl) (B : Bg) (j : Nat) (c : Nat) (t : Int) : Bool := decide (F.need j c + use F B c t ≤ F.crews.getD c 0)
def mRoom (F : Fl) (B : Bg) (j : Nat) (x : Int) : Bool := (List.range F.crews.length).all fun c => (List.range (F.h j).toNat).all fun i => fitB F B j c (x + (i : Nat))
def srch (p : Int → Bool) : Int → Nat → Int
  | x, 0 => x
  | x, n + 1 => if p x then x else srch p (x + 1) n
def readyB (F : Fl) (B : Bg) (j : Nat) : Int := B.foldl (fun x p => if (p.1, j) ∈ F.orders then max x (p.2 + F.h p.1) else x) 0
def endB (F : Fl) (B : Bg) : Int := B.foldl (fun x p => max x (p.2 + F.h p.1)) 0
def place (F : Fl) (B : Bg) (j : Nat) : Int := srch (mRoom F B j) (readyB F B j) (endB F B).toNat
def laidB (F : Fl) (row : List Nat) : Bg := row.foldl (fun B j => B ++ [(j, place F B j)]) []
def stB (B : Bg) (k : Nat) : Int := ((B.find? fun p => p.1 == k).map (·.2)).getD 0
theorem mRoom_iff {F : Fl} {B : Bg} {j : Nat} {x : Int} : mRoom F B j x = true ↔ ∀ c, c < F.crews.length → ∀ t, x ≤ t → t < x + F.h j → F.need j c + use F B c t ≤ F.crews.getD c 0 := by
  unfold mRoom
  simp only [List.all_eq_true, List.mem_range, fitB, decide_eq_true_eq]
  constructor
  · intro h c hc t h1 h2
    have := h c hc (t - x).toNat (by omega)
    rw [show x + ((t - x).toNat : Int) = t by omega] at this
    exact this
  · intro h c hc i hi
    exact h c hc _ (by omega) (by omega)
theorem foldl_max_ge {α : Type} {f : α → Int} : ∀ {l : List α} {a : Int}, a ≤ l.foldl (fun x p => max x (f p)) a ∧ ∀ p ∈ l, f p ≤ l.foldl (fun x p => max x (f p)) a
  | [], a => ⟨Int.le_refl _, fun p hp => by simp at hp⟩
  | q :: l, a => by
    rw [List.foldl_cons]
    obtain ⟨h1, h2⟩ := foldl_max_ge (f := f) (l := l) (a := max a (f q))
    refine ⟨by omega, fun p hp => ?_⟩
    rcases List.mem_cons.mp hp with rfl | hp
    · omega
    · exact h2 p hp
theorem foldl_max_le {α : Type} {f : α → Int} {u : Int} : ∀ {l : List α} {a : Int}, a ≤ u → (∀ p ∈ l, f p ≤ u) → l.foldl (fun x p => max x (f p)) a ≤ u
  | [], a, h, _ => h
  | q :: l, a, h, hl => by
    rw [List.foldl_cons]
    exact foldl_max_le (by have := hl q List.mem_cons_self; omega) fun p hp => hl p (List.mem_cons_of_mem _ hp)
theorem endB_nn {F : Fl} {B : Bg} : 0 ≤ endB F B := (foldl_max_ge (f := fun p : Nat × Int => p.2 + F.h p.1) (l := B) (a := 0)).1
theorem endB_ge {F : Fl} {B : Bg} {p : Nat × Int} (h : p ∈ B) : p.2 + F.h p.1 ≤ endB F B := (foldl_max_ge (f := fun p : Nat × Int => p.2 + F.h p.1) (l := B) (a := 0)).2 p h
theorem readyB_fold {F : Fl} {j : Nat} {u : Int} : ∀ {B : Bg} {a : Int}, a ≤ u → (∀ p ∈ B, p.2 + F.h p.1 ≤ u) → a ≤ B.foldl (fun x p => if (p.1, j) ∈ F.orders then max x (p.2 + F.h p.1) else x) a ∧ B.foldl (fun x p => if (p.1, j) ∈ F.orders then max x (p.2 + F.h p.1) else x) a ≤ u ∧ ∀ p ∈ B, (p.1, j) ∈ F.orders → p.2 + F.h p.1 ≤ B.foldl (fun x p => if (p.1, j) ∈ F.orders then max x (p.2 + F.h p.1) else x) a
  | [], a, h, _ => ⟨Int.le_refl _, h, fun p hp => by simp at hp⟩
  | q :: B, a, h, hB => by
    rw [List.foldl_cons]
    have hq := hB q List.mem_cons_self
    obtain ⟨h1, h2, h3⟩ := readyB_fold (F := F) (j := j) (u := u) (B := B) (a := if (q.1, j) ∈ F.orders then max a (q.2 + F.h q.1) else a) (by split <;> omega) fun p hp => hB p (List.mem_cons_of_mem _ hp)
    refine ⟨?_, h2, fun p hp ho => ?_⟩
    · refine Int.le_trans ?_ h1
      split <;> omega
    · rcases List.mem_cons.mp hp with rfl | hp
      · rw [if_pos ho] at h1 ⊢
        omega
      · exact h3 p hp ho
theorem readyB_nn {F : Fl} {B : Bg} {j : Nat} : 0 ≤ readyB F B j := (readyB_fold endB_nn fun p hp => endB_ge hp).1
theorem readyB_le {F : Fl} {B : Bg} {j : Nat} : readyB F B j ≤ endB F B := (readyB_fold endB_nn fun p hp => endB_ge hp).2.1
theorem readyB_ge {F : Fl} {B : Bg} {j : Nat} {p : Nat × Int} (h : p ∈ B) (ho : (p.1, j) ∈ F.orders) : p.2 + F.h p.1 ≤ readyB F B j := (readyB_fold endB_nn fun p hp => endB_ge hp).2.2 p h ho
theorem sum_zero {α : Type} {f : α → Int} : ∀ {l : List α}, (∀ x ∈ l, f x = 0) → (l.map f).sum = 0
  | [], _ => rfl
  | a :: l, h => by rw [List.map_cons, List.sum_cons, h a List.mem_cons_self, sum_zero fun x hx => h x (List.mem_cons_of_mem _ hx)]; rfl
theorem use_end {F : Fl} {B : Bg} {c : Nat} {t : Int} (h : endB F B ≤ t) : use F B c t = 0 := sum_zero fun p hp => by
  have := endB_ge (F := F) hp
  unfold busy1
  rw [if_neg (by omega)]
theorem room_end {F : Fl} {most : Int} (hF : GoodFl most F) {B : Bg} {j : Nat} (hj : j < F.jobs.length) {x : Int} (h : endB F B ≤ x) : mRoom F B j x = true := mRoom_iff.mpr fun c hc t h1 h2 => by
  rw [use_end (by omega)]
  obtain ⟨_, _, _, h4, _⟩ := need_bd hF hj hc
  rw [getD_of hc]
  omega
theorem srch_ok {p : Int → Bool} : ∀ {n : Nat} {x : Int}, p (x + n) = true → p (srch p x n) = true ∧ x ≤ srch p x n ∧ srch p x n ≤ x + n ∧ ∀ y, x ≤ y → y < srch p x n → p y = false
  | 0, x, h => ⟨by simpa [srch] using h, Int.le_refl _, by simp [srch], fun y h1 h2 => by simp only [srch] at h2; omega⟩
  | n + 1, x, h => by
    unfold srch
    by_cases hp : p x = true
    · rw [if_pos hp]
      exact ⟨hp, Int.le_refl _, by omega, fun y h1 h2 => by omega⟩
    · rw [if_neg hp]
      obtain ⟨h1, h2, h3, h4⟩ := srch_ok (p := p) (n := n) (x := x + 1) (by rw [show x + 1 + (n : Int) = x + ((n + 1 : Nat) : Int) by omega]; exact h)
      refine ⟨h1, by omega, by omega, fun y hy1 hy2 => ?_⟩
      by_cases hy : y = x
      · subst hy
        simpa using hp
      · exact h4 y (by omega) hy2
theorem place_ok {F : Fl} {most : Int} (hF : GoodFl most F) {B : Bg} {j : Nat} (hj : j < F.jobs.length) : mRoom F B j (place F B j) = true ∧ readyB F B j ≤ place F B j ∧ place F B j ≤ endB F B + endB F B ∧ ∀ y, readyB F B j ≤ y → y < place F B j → mRoom F B j y = false := by
  have h0 := readyB_nn (F := F) (B := B) (j := j)
  have h1 := readyB_le (F := F) (B := B) (j := j)
  have h2 := endB_nn (F := F) (B := B)
  obtain ⟨a, b, c, d⟩ := srch_ok (p := mRoom F B j) (n := (endB F B).toNat) (x := readyB F B j) (room_end hF hj (by omega))
  refine ⟨a, b, ?_, d⟩
  unfold place
  omega
/-- the place is not beyond the end of all -/
theorem place_le {F : Fl} {most : Int} (hF : GoodFl most F) {B : Bg} {j : Nat} (hj : j < F.jobs.length) : place F B j ≤ endB F B := by
  obtain ⟨_, _, _, d⟩ := place_ok hF hj (B := B)
  rcases (by omega : endB F B < place F B j ∨ place F B j ≤ endB F B) with h | h
  · have := d (endB F B) readyB_le h
    rw [room_end hF hj (Int.le_refl _)] at this
    cases this
  · exact h
/-- a row that has each job once, none ahead of what it follows -/
def GoodRow (F : Fl) (row : List Nat) : Prop := row.Perm (List.range F.jobs.length) ∧ ∀ (i j : Nat) a b, row[i]? = some a → row[j]? = some b → (a, b) ∈ F.orders → i < j
structure BOk (F : Fl) (B : Bg) : Prop where
  nn : ∀ p ∈ B, 0 ≤ p.2
  cap : ∀ c, c < F.crews.length → ∀ t, use F B c t ≤ F.crews.getD c 0
  ord : ∀ a b, (a, b) ∈ F.orders → ∀ y, (b, y) ∈ B → ∃ x, (a, x) ∈ B ∧ x + F.h a ≤ y
theorem use_app {F : Fl} {B : Bg} {p : Nat × Int} {c : Nat} {t : Int} : use F (B ++ [p]) c t = use F B c t + busy1 F c t p := by
  unfold use
  rw [List.map_append, List.sum_append]
  simp
theorem bok_app {F : Fl} {most : Int} (hF : GoodFl most F) {B : Bg} (h : BOk F B) {j : Nat} (hj : j < F.jobs.length) {x : Int} (hr : mRoom F B j x = true) (hx : readyB F B j ≤ x) (hn : j ∉ B.map (·.1)) (hp : ∀ a, (a, j) ∈ F.orders → a ∈ B.map (·.1)) : BOk F (B ++ [(j, x)]) := by
  refine ⟨fun p hp' => ?_, fun c hc t => ?_, fun a b ho y hy => ?_⟩
  · rw [List.mem_append, List.mem_singleton] at hp'
    rcases hp' with hp' | rfl
    · exact h.nn p hp'
    · have := readyB_nn (F := F) (B := B) (j := j)
      show 0 ≤ x
      omega
  · rw [use_app]
    unfold busy1
    dsimp only
    split
    · rename_i ht
      have := mRoom_iff.mp hr c hc t ht.1 ht.2
      omega
    · have := h.cap c hc t
      omega
  · rw [List.mem_append, List.mem_singleton] at hy
    rcases hy with hy | hy
    · obtain ⟨z, h1, h2⟩ := h.ord a b ho y hy
      exact ⟨z, List.mem_append_left _ h1, h2⟩
    · cases hy
      obtain ⟨p, h1, h2⟩ := List.mem_map.mp (hp a ho)
      subst h2
      exact ⟨p.2, List.mem_append_left _ h1, Int.le_trans (readyB_ge h1 ho) hx⟩
theorem laidB_fst {F : Fl} : ∀ {row : List Nat} {B : Bg}, (row.foldl (fun B j => B ++ [(j, place F B j)]) B).map (·.1) = B.map (·.1) ++ row
  | [], B => by simp
  | j :: row, B => by
    rw [List.foldl_cons, laidB_fst]
    simp
theorem laid_bok {F : Fl} {most : Int} (hF : GoodFl most F) : ∀ {row : List Nat} {B : Bg}, BOk F B → (∀ j ∈ row, j < F.jobs.length) → (B.map (·.1) ++ row).Nodup →
    (∀ (i : Nat) a b, row[i]? = some b → (a, b) ∈ F.orders → a ∈ B.map (·.1) ∨ ∃ k, k < i ∧ row[k]? = some a) → BOk F (row.foldl (fun B j => B ++ [(j, place F B j)]) B)
  | [], B, h, _, _, _ => h
  | j :: row, B, h, hj, hnd, hp => by
    rw [List.foldl_cons]
    have hj0 := hj j List.mem_cons_self
    obtain ⟨p1, p2, _⟩ := place_ok hF hj0 (B := B)
    have hnj : j ∉ B.map (·.1) := fun hm => (List.nodup_append.mp hnd).2.2 j hm j List.mem_cons_self rfl
    refine laid_bok hF (bok_app hF h hj0 p1 p2 hnj fun a ho => ?_) (fun k hk => hj k (List.mem_cons_of_mem _ hk)) ?_ fun i a b hb ho => ?_
    · rcases hp 0 a j rfl ho with h1 | ⟨k, hk, _⟩
      · exact h1
      · omega
    · rw [List.map_append, List.append_assoc]
      exact hnd
    · rcases hp (i + 1) a b hb ho with h1 | ⟨k, hk, hk2⟩
      · exact .inl (by rw [List.map_append]; exact List.mem_append_left _ h1)
      · cases k with
        | zero =>
          simp at hk2
          subst hk2
          exact .inl (by simp)
        | succ k => exact .inr ⟨k, by omega, hk2⟩
theorem good_bok {F : Fl} {most : Int} (hF : GoodFl most F) {row : List Nat} (hr : GoodRow F row) : BOk F (laidB F row) := by
  refine laid_bok hF ⟨fun p hp => (by simp at hp), fun c hc t => ?_, fun a b _ y hy => (by simp at hy)⟩ (fun j hj => List.mem_range.mp (hr.1.mem_iff.mp hj)) ?_ fun i a b hb ho => .inr ?_
  · unfold use
    have := (hF.c.2.2 F.crews[c] (List.getElem_mem hc)).1
    rw [getD_of hc]
    simp
    omega
  · exact hr.1.nodup_iff.mpr List.nodup_range
  · obtain ⟨h1, h2, _⟩ := ord_ok hF ho
    obtain ⟨k, hk, e⟩ := List.mem_iff_getElem.mp (hr.1.mem_iff.mpr (List.mem_range.mpr h1))
    have e : row[k] = a := e
    exact ⟨k, hr.2 k i a b (by rw [← e]; exact mem_at hk) hb ho, by rw [← e]; exact mem_at hk⟩
theorem find_of : ∀ {B : Bg}, (B.map (·.1)).Nodup → ∀ p ∈ B, stB B p.1 = p.2
  | [], _, p, hp => by simp at hp
  | q :: B, hn, p, hp => by
    unfold stB
    rw [List.find?_cons]
    rw [List.map_cons, List.nodup_cons] at hn
    rcases List.mem_cons.mp hp with rfl | hp
    · simp
    · have hne : (q.1 == p.1) = false := by
        rw [beq_eq_false_iff_ne]
        intro e
        exact hn.1 (by rw [e]; exact List.mem_map_of_mem hp)
      rw [hne]
      exact find_of hn.2 p hp
/-- the begun jobs in the order of their numbers -/
def inOrd (n : Nat) (S : Nat → Int) : Bg := vec n fun k => (k, S k)
theorem begun_perm {n : Nat} {B : Bg} (h : (B.map (·.1)).Perm (List.range n)) : B.Perm (inOrd n (stB B)) := by
  have hn : (B.map (·.1)).Nodup := h.nodup_iff.mpr List.nodup_range
  have e : B = (B.map (·.1)).map fun k => (k, stB B k) := by
    rw [List.map_map]
    refine (List.map_id B).symm.trans (List.map_congr_left fun p hp => ?_)
    exact Prod.ext rfl (find_of hn p hp).symm
  have := h.map fun k => (k, stB B k)
  rw [← e] at this
  exact this
theorem sum_perm {l m : List Int} (h : l.Perm m) : l.sum = m.sum := by
  induction h with
  | nil => rfl
  | cons x _ ih => rw [List.sum_cons, List.sum_cons, ih]
  | swap x y l => rw [List.sum_cons, List.sum_cons, List.sum_cons, List.sum_cons]; omega
  | trans _ _ h1 h2 => exact h1.trans h2
theorem sum_vec {f : Nat → Int} : ∀ {n : Nat}, (vec n f).sum = sumTo f n
  | 0 => rfl
  | n + 1 => by
    unfold vec
    rw [List.range_succ, List.map_append, List.sum_append]
    show (vec n f).sum + _ = _
    rw [sum_vec, sumTo]
    simp
theorem use_wk {F : Fl} {B : Bg} (h : (B.map (·.1)).Perm (List.range F.jobs.length)) {c : Nat} {t : Int} : use F B c t = wk F (stB B) c t := by
  unfold use wk
  rw [sum_perm ((begun_perm h).map (busy1 F c t)), inOrd, vec_map, sum_vec]
  rfl
theorem mem_st {n : Nat} {B : Bg} (h : (B.map (·.1)).Perm (List.range n)) {k : Nat} (hk : k < n) : (k, stB B k) ∈ B := (begun_perm h).mem_iff.mpr (vec_mem.mpr ⟨k, hk, rfl⟩)
theorem bok_plan {F : Fl} {most : Int} (hF : GoodFl most F) {B : Bg} (h : BOk F B) (hp : (B.map (·.1)).Perm (List.range F.jobs.length)) : Plan F (stB B) := by
  refine ⟨fun k hk => h.nn _ (mem_st hp hk), fun o ho => ?_, fun c hc t => ?_⟩
  · obtain ⟨h1, h2, _⟩ := ord_ok hF ho
    obtain ⟨x, hx, hle⟩ := h.ord o.1 o.2 ho _ (mem_st hp h2)
    have := find_of (hp.nodup_iff.mpr List.nodup_range) _ hx
    simp only at this
    rw [this]
    exact hle
  · rw [← use_wk hp]
    exact h.cap c hc t
def mLaid (F : Fl) (row : List Nat) : Nat → Int := stB (laidB F row)
theorem laid_perm {F : Fl} {row : List Nat} (hr : row.Perm (List.range F.jobs.length)) : ((laidB F row).map (·.1)).Perm (List.range F.jobs.length) := by
  unfold laidB
  rw [laidB_fst]
  exact hr
theorem laid_plan {F : Fl} {most : Int} (hF : GoodFl most F) {row : List Nat} (hr : GoodRow F row) : Plan F (mLaid F row) := bok_plan hF (good_bok hF hr) (laid_perm hr.1)
end CF
namespace CF
open PySem PySem.Spec PyProof.Rows L2
-- 0 _law_floor_here, 1 _law_cell, 2 _law_left, 3 _law_row_here, 4 _law_pair, 5 _law_k, 6 _law_one, 7 _law_other
def ir_l_row_b0 : ISs :=
  (.cons (.ife (.cmp .Eq (.comp (.var 6) (.many [6, 7]) (.seq (.ix (.var 0) (.kint 2))) (.cons (.bop .And (.cons (.cmp .Eq (.var 7) (.ix (.var 4) (.kint 1))) (.cons (.cmp .NotIn (.var 6) (.var 3)) .nil))) .nil)) (.lst .nil))
    (.cons (.app 3 (.ix (.var 4) (.kint 1)))
    (.fgt [4] (.cons .brk
    .nil)))
    .nil)
  (.fgt [4] .nil))
def ir_l_row_t0 : ISs :=
  (.cons (.set 2 (.comp (.var 4) (.one 4) (.seq (.var 2)) (.cons (.cmp .NotEq (.ix (.var 4) (.kint 1)) (.ix (.var 3) (.neg (.kint 1)))) .nil)))
  .nil)
def ir_l_row_b1 : ISs :=
  (.cons (.fors (.one 4) (.seq (.var 2)) ir_l_row_b0)
  ir_l_row_t0)
def ir_l_row_t1 : ISs :=
  (.cons (.retO (.var 3))
  .nil)
def ir_l_row : ISs :=
  (.cons (.set 2 (.blt .sortP (.cons (.comp (.tup (.cons (.bin .Mod (.call 0 (.cons (.var 1) (.cons (.var 5) .nil))) (.kint 997)) (.cons (.var 5) .nil))) (.one 5) (.rng (.cons (.blt .len (.cons (.ix (.var 0) (.kint 1)) .nil)) .nil)) .nil) .nil)))
  (.cons (.setO 3 (.lst .nil))
  (.cons (.whl (.cmp .Gt (.blt .len (.cons (.var 2) .nil)) (.kint 0)) ir_l_row_b1)
  ir_l_row_t1)))
-- calls: _law_mix
-- 0 _law_floor_here, 1 _law_begun, 2 _law_job_here, 3 _law_hour, 4 _law_crew, 5 _law_late, 6 _law_total, 7 _law_other, 8 _law_start
def ir_l_room_b0 : ISs :=
  (.cons (.ife (.bop .And (.cons (.cmp .LtE (.var 8) (.var 5)) (.cons (.cmp .Lt (.var 5) (.bin .Add (.var 8) (.ix (.ix (.ix (.var 0) (.kint 1)) (.var 7)) (.kint 0)))) .nil)))
    (.cons (.set 6 (.bin .Add (.var 6) (.ix (.ix (.ix (.ix (.var 0) (.kint 1)) (.var 7)) (.kint 1)) (.var 4))))
    .nil)
    .nil)
  (.fgt [7, 8] .nil))
def ir_l_room_t0 : ISs :=
  (.cons (.ife (.cmp .Gt (.var 6) (.ix (.ix (.var 0) (.kint 0)) (.var 4)))
    (.cons (.ret (.kbool false))
    .nil)
    .nil)
  (.fgt [5, 6] .nil))
def ir_l_room_b1 : ISs :=
  (.cons (.set 6 (.ix (.ix (.ix (.ix (.var 0) (.kint 1)) (.var 2)) (.kint 1)) (.var 4)))
  (.cons (.fors (.many [7, 8]) (.seq (.var 1)) ir_l_room_b0)
  ir_l_room_t0))
def ir_l_room_b2 : ISs :=
  (.cons (.fors (.one 5) (.rng (.cons (.var 3) (.cons (.bin .Add (.var 3) (.ix (.ix (.ix (.var 0) (.kint 1)) (.var 2)) (.kint 0))) .nil))) ir_l_room_b1)
  (.fgt [4] .nil))
def ir_l_room_t1 : ISs :=
  (.cons (.ret (.kbool true))
  .nil)
def ir_l_room : ISs :=
  (.cons (.fors (.one 4) (.rng (.cons (.blt .len (.cons (.ix (.var 0) (.kint 0)) .nil)) .nil)) ir_l_room_b2)
  ir_l_room_t1)
-- calls: 
-- 0 _law_floor_here, 1 _law_row_here, 2 _law_begun, 3 _law_job_here, 4 _law_hour, 5 _law_other, 6 _law_start, 7 _law_pair
def ir_l_laid_b0 : ISs :=
  (.cons (.ife (.cmp .In (.tup (.cons (.var 5) (.cons (.var 3) .nil))) (.ix (.var 0) (.kint 2)))
    (.cons (.set 4 (.blt .max2 (.cons (.var 4) (.cons (.bin .Add (.var 6) (.ix (.ix (.ix (.var 0) (.kint 1)) (.var 5)) (.kint 0))) .nil))))
    .nil)
    .nil)
  (.fgt [5, 6] .nil))
def ir_l_laid_b1 : ISs :=
  (.cons (.set 4 (.bin .Add (.var 4) (.kint 1)))
  .nil)
def ir_l_laid_t0 : ISs :=
  (.cons (.app 2 (.tup (.cons (.var 3) (.cons (.var 4) .nil))))
  (.fgt [3, 4] .nil))
def ir_l_laid_t1 : ISs :=
  (.cons (.whl (.no (.call 0 (.cons (.var 0) (.cons (.var 2) (.cons (.var 3) (.cons (.var 4) .nil)))))) ir_l_laid_b1)
  ir_l_laid_t0)
def ir_l_laid_b2 : ISs :=
  (.cons (.set 4 (.kint 0))
  (.cons (.fors (.many [5, 6]) (.seq (.var 2)) ir_l_laid_b0)
  ir_l_laid_t1))
def ir_l_laid_t2 : ISs :=
  (.cons (.ret (.comp (.ix (.var 7) (.kint 1)) (.one 7) (.seq (.blt .sortP (.cons (.var 2) .nil))) .nil))
  .nil)
def ir_l_laid : ISs :=
  (.cons (.setO 2 (.lst .nil))
  (.cons (.fors (.one 3) (.seq (.var 1)) ir_l_laid_b2)
  ir_l_laid_t2))
-- calls: _law_room
-- 0 _law_floor_here, 1 _law_cell, 2 _law_depth, 3 _law_long, 4 _law_way, 5 _law_more, 6 _law_many, 7 _law_early, 8 _law_late, 9 _law_begin, 10 _law_row_here, 11 _law_next_ones, 12 _law_one, 13 _law_other
def ir_l_tree_t0 : ISs :=
  (.cons (.app 10 (.ix (.var 11) (.bin .Mod (.call 1 (.cons (.var 5) (.cons (.blt .len (.cons (.var 10) .nil)) .nil))) (.blt .len (.cons (.var 11) .nil)))))
  (.fgt [11] .nil))
def ir_l_tree_b0 : ISs :=
  (.cons (.set 11 (.comp (.var 13) (.many [12, 13]) (.seq (.ix (.var 0) (.kint 2))) (.cons (.cmp .Eq (.var 12) (.ix (.var 10) (.neg (.kint 1)))) .nil)))
  (.cons (.ife (.cmp .Eq (.var 11) (.lst .nil))
    (.cons (.ret (.tup (.cons (.kstr "chain") (.cons (.blt .tuple1 (.cons (.var 10) .nil)) .nil))))
    .nil)
    .nil)
  ir_l_tree_t0))
def ir_l_tree_t1 : ISs :=
  (.cons (.ret (.tup (.cons (.kstr "chain") (.cons (.blt .tuple1 (.cons (.var 10) .nil)) .nil))))
  .nil)
def ir_l_tree_t2 : ISs :=
  (.cons (.setO 10 (.lst (.cons (.bin .Mod (.var 5) (.var 6)) .nil)))
  (.fgt [4, 6, 7, 8, 9] (.cons (.whl (.cmp .Lt (.blt .len (.cons (.var 10) .nil)) (.bin .Add (.kint 1) (.bin .Mod (.bin .FloorDiv (.var 5) (.kint 16)) (.kint 6)))) ir_l_tree_b0)
  ir_l_tree_t1)))
def ir_l_tree_t3 : ISs :=
  (.cons (.ife (.cmp .Eq (.bin .Mod (.var 4) (.kint 2)) (.kint 0))
    (.cons (.set 9 (.bin .Sub (.bin .Mult (.bin .Mod (.bin .FloorDiv (.var 5) (.kint 16)) (.bin .Add (.var 3) (.kint 1))) (.bin .Mod (.bin .FloorDiv (.var 5) (.kint 8192)) (.kint 2))) (.bin .Mod (.bin .FloorDiv (.var 5) (.kint 16384)) (.kint 2))))
    (.cons (.ret (.tup (.cons (.kstr "stretch") (.cons (.bin .Mod (.var 5) (.blt .len (.cons (.ix (.var 0) (.kint 0)) .nil))) (.cons (.var 9) (.cons (.bin .Add (.bin .Add (.var 9) (.kint 1)) (.bin .Mod (.bin .FloorDiv (.var 5) (.kint 1024)) (.kint 8))) .nil))))))
    .nil))
    .nil)
  ir_l_tree_t2)
def ir_l_tree : ISs :=
  (.cons (.set 4 (.bin .Mod (.var 1) (.kint 8)))
  (.cons (.set 5 (.bin .FloorDiv (.var 1) (.kint 8)))
  (.cons (.set 6 (.blt .len (.cons (.ix (.var 0) (.kint 1)) .nil)))
  (.cons (.ife (.bop .And (.cons (.cmp .Gt (.var 2) (.kint 0)) (.cons (.cmp .Lt (.var 4) (.kint 4)) .nil)))
    (.cons (.set 7 (.call 0 (.cons (.var 0) (.cons (.call 1 (.cons (.var 1) (.cons (.kint 1) .nil))) (.cons (.bin .Sub (.var 2) (.kint 1)) (.cons (.var 3) .nil))))))
    (.cons (.set 8 (.call 0 (.cons (.var 0) (.cons (.call 1 (.cons (.var 1) (.cons (.kint 2) .nil))) (.cons (.bin .Sub (.var 2) (.kint 1)) (.cons (.var 3) .nil))))))
    (.cons (.ret (.tup (.cons (.kstr "split") (.cons (.bin .Mod (.var 5) (.var 6)) (.cons (.bin .Sub (.bin .Mod (.bin .FloorDiv (.var 5) (.kint 16)) (.bin .Add (.var 3) (.kint 2))) (.kint 1)) (.cons (.var 7) (.cons (.var 8) .nil)))))))
    .nil)))
    .nil)
  ir_l_tree_t3))))
-- calls: _law_tree, _law_mix
end CF
namespace CF
open PySem PySem.Spec PyProof.Rows L2
theorem forL_all {step : PyData → Ev → Kt → Prop} {n : Nat} {g : Nat → PyData} {D : Kt} {r : Ev} (p : Nat → Bool) (h1 : (∀ i, i < n → p i = true) → D.nx r)
    (hs : ∀ (i : Nat) (K : Ev → Prop), i < n → (p i = true → K r) → step (g i) r { nx := K, ct := K, bk := D.nx, rt := D.rt }) : forL step ((List.range n).map g) D r := by
  refine forL_rng (fun i r' => r' = r ∧ ∀ k, k < i → p k = true) ⟨rfl, fun k hk => by omega⟩ ?_ ?_
  · rintro _ ⟨rfl, h⟩
    exact h1 h
  · rintro i _ K hi ⟨rfl, h⟩ hK
    refine hs i K hi fun hp => hK _ ⟨rfl, fun k hk => ?_⟩
    rcases Nat.lt_or_ge k i with h' | h'
    · exact h k h'
    · rw [show k = i by omega]; exact hp
def eB (p : Nat × Int) : PyData := .tuple [.int p.1, .int p.2]
theorem ex_eb {w : Nat × Int} {p : List PyData → Prop} : (∃ ds, eB w = .tuple ds ∧ p ds) ↔ p [.int w.1, .int w.2] := by unfold eB; exact ex_tup
theorem eb1 {w : Nat × Int} {Q : PyData → Prop} : ixP (eB w) (.int 1) Q = Q (.int w.2) := propext (by unfold eB; rw [ip_t, at_lit1, ex_some])
theorem need_at {F : Fl} {most : Int} (hF : GoodFl most F) {k c : Nat} (hk : k < F.jobs.length) (hc : c < F.crews.length) : (F.jobs.getD k (0, [])).2[c]? = some (F.need k c) := by
  obtain ⟨hl, e, _⟩ := need_bd hF hk hc
  rw [getD_of hk, ← e]
  exact mem_at hl
def g_l_room : Pm := fun ds R => ∃ (F : Fl) (B : Bg) (j : Nat) (x : Int), ds = [eFl F, .list (B.map eB), .int j, .int x] ∧ GoodFl 50 F ∧ (∀ p ∈ B, p.1 < F.jobs.length) ∧ j < F.jobs.length ∧ 0 ≤ x ∧ x ≤ 1000000 ∧ R (.bool (mRoom F B j x))
abbrev e_l_room : FnE := ⟨"_law_room", 4, false, g_l_room⟩
theorem room_ap {F : Fl} {B : Bg} {j : Nat} {x : Int} {Q : PyData → Prop} (hF : GoodFl 50 F) (hB : ∀ p ∈ B, p.1 < F.jobs.length) (hj : j < F.jobs.length) (h0 : 0 ≤ x) (h1 : x ≤ 1000000) (q : Q (.bool (mRoom F B j x))) : g_l_room [eFl F, .list (B.map eB), .int j, .int x] Q := ⟨F, B, j, x, rfl, hF, hB, hj, h0, h1, q⟩
theorem use_take {F : Fl} {B : Bg} {c : Nat} {t : Int} : B.foldl (fun s p => s + busy1 F c t p) (F.need 0 0) = F.need 0 0 + use F B c t → True := fun _ => trivial
theorem foldl_sum {α : Type} {f : α → Int} : ∀ {l : List α} {a : Int}, l.foldl (fun s p => s + f p) a = a + (l.map f).sum
  | [], a => by simp
  | x :: l, a => by rw [List.foldl_cons, foldl_sum, List.map_cons, List.sum_cons]; omega
theorem sem_l_room : ∀ ds R, ds.length = 4 → g_l_room ds R → wpSs (Gof []) ir_l_room (startE 9 ds) { nx := fun _ => false = false ∧ R .none, rt := R } := by
  rintro _ R _ ⟨F, B, j, x, rfl, hF, hB, hj, h0, h1, q⟩
  have hc4 := hF.c.2.1
  obtain ⟨_, hh1, hh2⟩ := hours_bd hF hj
  (try simp only [ir_l_room, ↓wpSs, ↓wpS, ↓wpE, ↓wpEs, ↓wpBop, ↓wpIfs, ↓wpIt, ↓pk, ↓bindT, ↓ownL, ↓lockIt, ↓unlockIt, isT, ↓setAll, ↓wipeE, ↓startE, ↓Tg.slots, ↓IEs.fine, ↓IEs.len, ↓noOwn, ↓isOwnE, ↓Sl.isO, ↓Ev.freeAll, List.replicate, if_true, if_false, reduceIte, Nat.reduceLeDiff, Nat.reduceSub, Nat.reduceAdd, eq_self, reduceCtorEq, Int.reduceLT, Nat.reduceLT, ↓wpl, wpu])
  refine ⟨by omega, ?_⟩
  refine forL_all (fun c => (List.range (F.h j).toNat).all fun i => fitB F B j c (x + (i : Nat))) (fun h => ?_) fun c K hc hK => ?_
  · (try simp only [ir_l_room_t1, ↓wpSs, ↓wpS, ↓wpE, ↓wpEs, ↓wpBop, ↓wpIfs, ↓wpIt, ↓pk, ↓bindT, ↓ownL, ↓lockIt, ↓unlockIt, isT, ↓setAll, ↓wipeE, ↓startE, ↓Tg.slots, ↓IEs.fine, ↓IEs.len, ↓noOwn, ↓isOwnE, ↓Sl.isO, ↓Ev.freeAll, List.replicate, if_true, if_false, reduceIte, Nat.reduceLeDiff, Nat.reduceSub, Nat.reduceAdd, eq_self, reduceCtorEq, Int.reduceLT, Nat.reduceLT, ↓wpl, wpu])
    have : mRoom F B j x = true := by
      unfold mRoom
      rw [List.all_eq_true]
      exact fun c hc => h c (List.mem_range.mp hc)
    rw [this] at q
    exact q
  · (try simp only [ir_l_room_b2, ↓wpSs, ↓wpS, ↓wpE, ↓wpEs, ↓wpBop, ↓wpIfs, ↓wpIt, ↓pk, ↓bindT, ↓ownL, ↓lockIt, ↓unlockIt, isT, ↓setAll, ↓wipeE, ↓startE, ↓Tg.slots, ↓IEs.fine, ↓IEs.len, ↓noOwn, ↓isOwnE, ↓Sl.isO, ↓Ev.freeAll, List.replicate, if_true, if_false, reduceIte, Nat.reduceLeDiff, Nat.reduceSub, Nat.reduceAdd, eq_self, reduceCtorEq, Int.reduceLT, Nat.reduceLT, ↓wpl, wpu])
    refine at_map (get_job hj) ?_
    (try simp only [↓wpSs, ↓wpS, ↓wpE, ↓wpEs, ↓wpBop, ↓wpIfs, ↓wpIt, ↓pk, ↓bindT, ↓ownL, ↓lockIt, ↓unlockIt, isT, ↓setAll, ↓wipeE, ↓startE, ↓Tg.slots, ↓IEs.fine, ↓IEs.len, ↓noOwn, ↓isOwnE, ↓Sl.isO, ↓Ev.freeAll, List.replicate, if_true, if_false, reduceIte, Nat.reduceLeDiff, Nat.reduceSub, Nat.reduceAdd, eq_self, reduceCtorEq, Int.reduceLT, Nat.reduceLT, ↓wpl, wpu])
    have eh : (F.jobs.getD j (0, [])).1 = F.h j := rfl
    rw [eh]
    refine ⟨by omega, ?_⟩
    rw [show (x + F.h j - x).toNat = (F.h j).toNat by omega]
    refine forL_all (fun i => fitB F B j c (x + (i : Nat))) (fun hall => by (try simp only [↓wpSs, ↓wpS, ↓wpE, ↓wpEs, ↓wpBop, ↓wpIfs, ↓wpIt, ↓pk, ↓bindT, ↓ownL, ↓lockIt, ↓unlockIt, isT, ↓setAll, ↓wipeE, ↓startE, ↓Tg.slots, ↓IEs.fine, ↓IEs.len, ↓noOwn, ↓isOwnE, ↓Sl.isO, ↓Ev.freeAll, List.replicate, if_true, if_false, reduceIte, Nat.reduceLeDiff, Nat.reduceSub, Nat.reduceAdd, eq_self, reduceCtorEq, Int.reduceLT, Nat.reduceLT, ↓wpl, wpu]); exact hK (List.all_eq_true.mpr fun i hi => hall i (List.mem_range.mp hi))) fun i K2 hi hK2 => ?_
    · have hbad : fitB F B j c (x + (i : Nat)) = false → R (.bool false) := fun hf => by
        have : mRoom F B j x = false := by
          unfold mRoom
          rw [List.all_eq_false]
          refine ⟨c, List.mem_range.mpr hc, ?_⟩
          rw [Bool.not_eq_true, List.all_eq_false]
          exact ⟨i, List.mem_range.mpr hi, by rw [hf]; decide⟩
        rw [this] at q
        exact q
      (try simp only [ir_l_room_b1, ↓wpSs, ↓wpS, ↓wpE, ↓wpEs, ↓wpBop, ↓wpIfs, ↓wpIt, ↓pk, ↓bindT, ↓ownL, ↓lockIt, ↓unlockIt, isT, ↓setAll, ↓wipeE, ↓startE, ↓Tg.slots, ↓IEs.fine, ↓IEs.len, ↓noOwn, ↓isOwnE, ↓Sl.isO, ↓Ev.freeAll, List.replicate, if_true, if_false, reduceIte, Nat.reduceLeDiff, Nat.reduceSub, Nat.reduceAdd, eq_self, reduceCtorEq, Int.reduceLT, Nat.reduceLT, ↓wpl, wpu])
      refine at_map (get_job hj) ?_
      (try simp only [↓wpSs, ↓wpS, ↓wpE, ↓wpEs, ↓wpBop, ↓wpIfs, ↓wpIt, ↓pk, ↓bindT, ↓ownL, ↓lockIt, ↓unlockIt, isT, ↓setAll, ↓wipeE, ↓startE, ↓Tg.slots, ↓IEs.fine, ↓IEs.len, ↓noOwn, ↓isOwnE, ↓Sl.isO, ↓Ev.freeAll, List.replicate, if_true, if_false, reduceIte, Nat.reduceLeDiff, Nat.reduceSub, Nat.reduceAdd, eq_self, reduceCtorEq, Int.reduceLT, Nat.reduceLT, ↓wpl, wpu])
      refine at_map (need_at hF hj hc) ?_
      (try simp only [↓wpSs, ↓wpS, ↓wpE, ↓wpEs, ↓wpBop, ↓wpIfs, ↓wpIt, ↓pk, ↓bindT, ↓ownL, ↓lockIt, ↓unlockIt, isT, ↓setAll, ↓wipeE, ↓startE, ↓Tg.slots, ↓IEs.fine, ↓IEs.len, ↓noOwn, ↓isOwnE, ↓Sl.isO, ↓Ev.freeAll, List.replicate, if_true, if_false, reduceIte, Nat.reduceLeDiff, Nat.reduceSub, Nat.reduceAdd, eq_self, reduceCtorEq, Int.reduceLT, Nat.reduceLT, ↓wpl, wpu])
      refine forL_fold (env := fun s : Int => [.val (eFl F), .val (.list (B.map eB)), .val (.int j), .val (.int x), .val (.int c), .val (.int (x + (i : Nat))), .val (.int s), .un, .un]) (f := fun s p => s + busy1 F c (x + (i : Nat)) p) (P := fun _ => True) rfl trivial (fun _ => ?_) ?_
      · rw [foldl_sum]
        (try simp only [ir_l_room_t0, ↓wpSs, ↓wpS, ↓wpE, ↓wpEs, ↓wpBop, ↓wpIfs, ↓wpIt, ↓pk, ↓bindT, ↓ownL, ↓lockIt, ↓unlockIt, isT, ↓setAll, ↓wipeE, ↓startE, ↓Tg.slots, ↓IEs.fine, ↓IEs.len, ↓noOwn, ↓isOwnE, ↓Sl.isO, ↓Ev.freeAll, List.replicate, if_true, if_false, reduceIte, Nat.reduceLeDiff, Nat.reduceSub, Nat.reduceAdd, eq_self, reduceCtorEq, Int.reduceLT, Nat.reduceLT, ↓wpl, wpu])
        refine at_map (mem_at hc) ?_
        unfold fitB at hbad hK2
        rw [getD_of hc] at hbad hK2
        unfold use at hbad hK2
        (try simp only [↓wpSs, ↓wpS, ↓wpE, ↓wpEs, ↓wpBop, ↓wpIfs, ↓wpIt, ↓pk, ↓bindT, ↓ownL, ↓lockIt, ↓unlockIt, isT, ↓setAll, ↓wipeE, ↓startE, ↓Tg.slots, ↓IEs.fine, ↓IEs.len, ↓noOwn, ↓isOwnE, ↓Sl.isO, ↓Ev.freeAll, List.replicate, if_true, if_false, reduceIte, Nat.reduceLeDiff, Nat.reduceSub, Nat.reduceAdd, eq_self, reduceCtorEq, Int.reduceLT, Nat.reduceLT, ↓wpl, wpu])
        split
        · exact hbad (decide_eq_false (by omega))
        · exact hK2 (decide_eq_true (by omega))
      · rintro p s K3 hp _ hK3
        have hK3 := hK3 trivial
        have hp1 := hB p hp
        (try simp only [ir_l_room_b0, ex_eb, ↓wpSs, ↓wpS, ↓wpE, ↓wpEs, ↓wpBop, ↓wpIfs, ↓wpIt, ↓pk, ↓bindT, ↓ownL, ↓lockIt, ↓unlockIt, isT, ↓setAll, ↓wipeE, ↓startE, ↓Tg.slots, ↓IEs.fine, ↓IEs.len, ↓noOwn, ↓isOwnE, ↓Sl.isO, ↓Ev.freeAll, List.replicate, if_true, if_false, reduceIte, Nat.reduceLeDiff, Nat.reduceSub, Nat.reduceAdd, eq_self, reduceCtorEq, Int.reduceLT, Nat.reduceLT, ↓wpl, wpu])
        have hK3' : K3 [.val (eFl F), .val (.list (B.map eB)), .val (.int j), .val (.int x), .val (.int c), .val (.int (x + (i : Nat))), .val (.int (s + if p.2 ≤ x + (i : Nat) ∧ x + (i : Nat) < p.2 + F.h p.1 then F.need p.1 c else 0)), .un, .un] := hK3
        by_cases ha : p.2 ≤ x + (i : Nat)
        · rw [if_pos ha]
          refine at_map (get_job hp1) ?_
          (try simp only [↓wpSs, ↓wpS, ↓wpE, ↓wpEs, ↓wpBop, ↓wpIfs, ↓wpIt, ↓pk, ↓bindT, ↓ownL, ↓lockIt, ↓unlockIt, isT, ↓setAll, ↓wipeE, ↓startE, ↓Tg.slots, ↓IEs.fine, ↓IEs.len, ↓noOwn, ↓isOwnE, ↓Sl.isO, ↓Ev.freeAll, List.replicate, if_true, if_false, reduceIte, Nat.reduceLeDiff, Nat.reduceSub, Nat.reduceAdd, eq_self, reduceCtorEq, Int.reduceLT, Nat.reduceLT, ↓wpl, wpu])
          have eh2 : (F.jobs.getD p.1 (0, [])).1 = F.h p.1 := rfl
          rw [eh2]
          by_cases hb : x + (i : Nat) < p.2 + F.h p.1
          · rw [if_pos hb]
            rw [if_pos ⟨ha, hb⟩] at hK3'
            refine at_map (get_job hp1) ?_
            (try simp only [↓wpSs, ↓wpS, ↓wpE, ↓wpEs, ↓wpBop, ↓wpIfs, ↓wpIt, ↓pk, ↓bindT, ↓ownL, ↓lockIt, ↓unlockIt, isT, ↓setAll, ↓wipeE, ↓startE, ↓Tg.slots, ↓IEs.fine, ↓IEs.len, ↓noOwn, ↓isOwnE, ↓Sl.isO, ↓Ev.freeAll, List.replicate, if_true, if_false, reduceIte, Nat.reduceLeDiff, Nat.reduceSub, Nat.reduceAdd, eq_self, reduceCtorEq, Int.reduceLT, Nat.reduceLT, ↓wpl, wpu])
            refine at_map (need_at hF hp1 hc) ?_
            (try simp only [↓wpSs, ↓wpS, ↓wpE, ↓wpEs, ↓wpBop, ↓wpIfs, ↓wpIt, ↓pk, ↓bindT, ↓ownL, ↓lockIt, ↓unlockIt, isT, ↓setAll, ↓wipeE, ↓startE, ↓Tg.slots, ↓IEs.fine, ↓IEs.len, ↓noOwn, ↓isOwnE, ↓Sl.isO, ↓Ev.freeAll, List.replicate, if_true, if_false, reduceIte, Nat.reduceLeDiff, Nat.reduceSub, Nat.reduceAdd, eq_self, reduceCtorEq, Int.reduceLT, Nat.reduceLT, ↓wpl, wpu])
            exact hK3'
          · rw [if_neg hb]
            rw [if_neg (fun e => hb e.2), Int.add_zero] at hK3'
            exact hK3'
        · (try simp only [ha, ↓wpSs, ↓wpS, ↓wpE, ↓wpEs, ↓wpBop, ↓wpIfs, ↓wpIt, ↓pk, ↓bindT, ↓ownL, ↓lockIt, ↓unlockIt, isT, ↓setAll, ↓wipeE, ↓startE, ↓Tg.slots, ↓IEs.fine, ↓IEs.len, ↓noOwn, ↓isOwnE, ↓Sl.isO, ↓Ev.freeAll, List.replicate, if_true, if_false, reduceIte, Nat.reduceLeDiff, Nat.reduceSub, Nat.reduceAdd, eq_self, reduceCtorEq, Int.reduceLT, Nat.reduceLT, ↓wpl, wpu])
          rw [if_neg (fun e => ha e.1), Int.add_zero] at hK3'
          exact hK3'
end CF
namespace CF
open PySem PySem.Spec PyProof.Rows L2
theorem compL_if {α : Type} {step : PyData → (Option PyData → Prop) → Prop} {g : α → PyData} (c : α → Bool) (f : α → PyData) {l : List α} {Q : List PyData → Prop} (h : ∀ a ∈ l, ∀ k : Option PyData → Prop, (c a = true → k (some (f a))) → (c a = false → k none) → step (g a) k) (q : Q ((l.filter c).map f)) : compL step (l.map g) Q := by
  refine compL_filt (fun a => if c a = true then some (f a) else none) (fun a ha k hk => h a ha k (fun e => by rw [if_pos e] at hk; exact hk) (fun e => by rw [if_neg (by rw [e]; decide)] at hk; exact hk)) ?_
  have : l.filterMap (fun a => if c a = true then some (f a) else none) = (l.filter c).map f := by
    clear h q
    induction l with
    | nil => rfl
    | cons a l ih =>
      rw [List.filterMap_cons, List.filter_cons]
      split
      · rename_i e
        split at e
        · cases e
        · rename_i hc
          rw [if_neg hc, ih]
      · rename_i b e
        split at e
        · rename_i hc
          cases e
          rw [if_pos hc, List.map_cons, ih]
        · cases e
  rw [this]
  exact q
def eN (k : Nat) : PyData := .int (k : Nat)
theorem eN_def {k : Nat} : eN k = .int (k : Nat) := rfl
theorem endB_app {F : Fl} {B : Bg} {p : Nat × Int} : endB F (B ++ [p]) = max (endB F B) (p.2 + F.h p.1) := by
  unfold endB
  rw [List.foldl_append]
  rfl
theorem laidB_take {F : Fl} {row : List Nat} {i j : Nat} (h : row[i]? = some j) : laidB F (row.take (i + 1)) = laidB F (row.take i) ++ [(j, place F (laidB F (row.take i)) j)] := foldl_take (f := fun (B : Bg) (j : Nat) => B ++ [(j, place F B j)]) h
theorem endB_laid {F : Fl} {most : Int} (hF : GoodFl most F) (hm : most ≤ 50) {row : List Nat} (hr : ∀ j ∈ row, j < F.jobs.length) : ∀ i : Nat, i ≤ row.length → endB F (laidB F (row.take i)) ≤ 50 * i
  | 0, _ => by simp [laidB, endB]
  | i + 1, h => by
    have ih := endB_laid hF hm hr i (by omega)
    have hi := mem_at (show i < row.length by omega)
    rw [laidB_take hi, endB_app]
    have hj := hr _ (List.mem_of_getElem? hi)
    have := place_le hF hj (B := laidB F (row.take i))
    have := (hours_bd hF hj).2.2
    dsimp only
    omega
theorem ltD_eb {a b : Nat × Int} : ltD (eB a) (eB b) ↔ ((a.1 : Int) < b.1 ∨ ((a.1 : Int) = b.1 ∧ a.2 ≤ b.2)) := Iff.rfl
theorem sorted_eq {n : Nat} {S : Nat → Int} {ys : List PyData} (hp : ys.Perm ((inOrd n S).map eB)) (hs : ys.Pairwise ltD) : ys = (inOrd n S).map eB := by
  refine List.Perm.eq_of_pairwise (le := ltD) (fun a b ha hb h1 h2 => ?_) hs ?_ hp
  · obtain ⟨p, _, rfl⟩ := List.mem_map.mp (hp.mem_iff.mp ha)
    obtain ⟨q, _, rfl⟩ := List.mem_map.mp hb
    rw [ltD_eb] at h1 h2
    have e1 : p.1 = q.1 := by omega
    have e2 : p.2 = q.2 := by omega
    rw [Prod.ext e1 e2]
  · unfold inOrd vec
    rw [List.map_map, List.pairwise_map]
    refine List.pairwise_lt_range.imp fun {a b} h => ?_
    show ltD (eB (a, S a)) (eB (b, S b))
    rw [ltD_eb]
    exact .inl (by dsimp only; omega)
def g_l_laid : Pm := fun ds R => ∃ (F : Fl) (row : List Nat), ds = [eFl F, .list (row.map eN)] ∧ GoodFl 50 F ∧ row.Perm (List.range F.jobs.length) ∧ R (.list ((vec F.jobs.length (mLaid F row)).map .int))
abbrev e_l_laid : FnE := ⟨"_law_laid", 2, false, g_l_laid⟩
theorem l_laid_ap {F : Fl} {row : List Nat} {Q : PyData → Prop} (hF : GoodFl 50 F) (hr : row.Perm (List.range F.jobs.length)) (q : Q (.list ((vec F.jobs.length (mLaid F row)).map .int))) : g_l_laid [eFl F, .list (row.map eN)] Q := ⟨F, row, rfl, hF, hr, q⟩
theorem sem_l_laid : ∀ ds R, ds.length = 2 → g_l_laid ds R → wpSs (Gof [e_l_room]) ir_l_laid (startE 8 ds) { nx := fun _ => false = false ∧ R .none, rt := R } := by
  rintro _ R _ ⟨F, row, rfl, hF, hr, q⟩
  have j2 := hF.j2
  have hrl : row.length = F.jobs.length := by simpa using hr.length_eq
  have hrm : ∀ j ∈ row, j < F.jobs.length := fun j hj => List.mem_range.mp (hr.mem_iff.mp hj)
  (try simp only [ir_l_laid, ↓wpSs, ↓wpS, ↓wpE, ↓wpEs, ↓wpBop, ↓wpIfs, ↓wpIt, ↓pk, ↓bindT, ↓ownL, ↓lockIt, ↓unlockIt, isT, ↓setAll, ↓wipeE, ↓startE, ↓Tg.slots, ↓IEs.fine, ↓IEs.len, ↓noOwn, ↓isOwnE, ↓Sl.isO, ↓Ev.freeAll, List.replicate, if_true, if_false, reduceIte, Nat.reduceLeDiff, Nat.reduceSub, Nat.reduceAdd, eq_self, reduceCtorEq, Int.reduceLT, Nat.reduceLT, ↓wpl, wpu])
  refine forL_map (fun i r => r = [.val (eFl F), .val (.list (row.map eN)), .own (.list ((laidB F (row.take i)).map eB)), .un, .un, .un, .un, .un]) rfl ?_ ?_
  · rintro _ rfl
    rw [take_all]
    have hp := laid_perm hr
    (try simp only [ir_l_laid_t2, ↓wpSs, ↓wpS, ↓wpE, ↓wpEs, ↓wpBop, ↓wpIfs, ↓wpIt, ↓pk, ↓bindT, ↓ownL, ↓lockIt, ↓unlockIt, isT, ↓setAll, ↓wipeE, ↓startE, ↓Tg.slots, ↓IEs.fine, ↓IEs.len, ↓noOwn, ↓isOwnE, ↓Sl.isO, ↓Ev.freeAll, List.replicate, if_true, if_false, reduceIte, Nat.reduceLeDiff, Nat.reduceSub, Nat.reduceAdd, eq_self, reduceCtorEq, Int.reduceLT, Nat.reduceLT, ↓wpl, wpu])
    refine ⟨fun x hx => ?_, fun ys hpy hsy => ?_⟩
    · obtain ⟨p, _, rfl⟩ := List.mem_map.mp hx
      exact ⟨_, _, rfl⟩
    · have := sorted_eq (hpy.trans ((begun_perm hp).map eB)) hsy
      subst this
      refine ⟨by unfold inOrd; rw [List.length_map, vec_len]; omega, ?_⟩
      refine compL_map (fun p => .int p.2) (fun p _ K h => by (try simp only [eb1, ↓wpSs, ↓wpS, ↓wpE, ↓wpEs, ↓wpBop, ↓wpIfs, ↓wpIt, ↓pk, ↓bindT, ↓ownL, ↓lockIt, ↓unlockIt, isT, ↓setAll, ↓wipeE, ↓startE, ↓Tg.slots, ↓IEs.fine, ↓IEs.len, ↓noOwn, ↓isOwnE, ↓Sl.isO, ↓Ev.freeAll, List.replicate, if_true, if_false, reduceIte, Nat.reduceLeDiff, Nat.reduceSub, Nat.reduceAdd, eq_self, reduceCtorEq, Int.reduceLT, Nat.reduceLT, ↓wpl, wpu]); exact h) ?_
      unfold inOrd
      rw [vec_map]
      rw [vec_map] at q
      exact q
  · rintro i j _ K hi rfl hK
    have hj := hrm j (List.mem_of_getElem? hi)
    have hil : i < row.length := (List.getElem?_eq_some_iff.mp hi).1
    have hend := endB_laid hF (Int.le_refl _) hrm i (by omega)
    have hBm : ∀ p ∈ laidB F (row.take i), p.1 < F.jobs.length := fun p hp => by
      have : p.1 ∈ (laidB F (row.take i)).map (·.1) := List.mem_map_of_mem hp
      unfold laidB at this
      rw [laidB_fst] at this
      exact hrm _ (List.mem_of_mem_take (by simpa using this))
    have hBl : (laidB F (row.take i)).length ≤ 12 := by
      have := congrArg List.length (laidB_fst (F := F) (row := row.take i) (B := []))
      simp at this
      unfold laidB
      omega
    have hK' := hK _ rfl
    rw [laidB_take hi] at hK'
    generalize laidB F (row.take i) = B at hend hBm hBl hK' ⊢
    (try simp only [ir_l_laid_b2, eN_def, ↓wpSs, ↓wpS, ↓wpE, ↓wpEs, ↓wpBop, ↓wpIfs, ↓wpIt, ↓pk, ↓bindT, ↓ownL, ↓lockIt, ↓unlockIt, isT, ↓setAll, ↓wipeE, ↓startE, ↓Tg.slots, ↓IEs.fine, ↓IEs.len, ↓noOwn, ↓isOwnE, ↓Sl.isO, ↓Ev.freeAll, List.replicate, if_true, if_false, reduceIte, Nat.reduceLeDiff, Nat.reduceSub, Nat.reduceAdd, eq_self, reduceCtorEq, Int.reduceLT, Nat.reduceLT, ↓wpl, wpu])
    refine forL_fold (env := fun s : Int => [.val (eFl F), .val (.list (row.map eN)), .lck (.list (B.map eB)), .val (.int j), .val (.int s), .un, .un, .un]) (f := fun x p => if (p.1, j) ∈ F.orders then max x (p.2 + F.h p.1) else x) (P := fun _ => True) rfl trivial (fun _ => ?_) ?_
    · have hready : B.foldl (fun x p => if (p.1, j) ∈ F.orders then max x (p.2 + F.h p.1) else x) 0 = readyB F B j := rfl
      rw [hready]
      obtain ⟨p1, p2, _, p4⟩ := place_ok hF hj (B := B)
      have p3 := place_le hF hj (B := B)
      have p5 := readyB_nn (F := F) (B := B) (j := j)
      (try simp only [ir_l_laid_t1, ↓wpSs, ↓wpS, ↓wpE, ↓wpEs, ↓wpBop, ↓wpIfs, ↓wpIt, ↓pk, ↓bindT, ↓ownL, ↓lockIt, ↓unlockIt, isT, ↓setAll, ↓wipeE, ↓startE, ↓Tg.slots, ↓IEs.fine, ↓IEs.len, ↓noOwn, ↓isOwnE, ↓Sl.isO, ↓Ev.freeAll, List.replicate, if_true, if_false, reduceIte, Nat.reduceLeDiff, Nat.reduceSub, Nat.reduceAdd, eq_self, reduceCtorEq, Int.reduceLT, Nat.reduceLT, ↓wpl, wpu])
      refine ⟨fun m r => ∃ x, readyB F B j ≤ x ∧ x ≤ place F B j ∧ m = (place F B j - x).toNat ∧ r = [.val (eFl F), .val (.list (row.map eN)), .own (.list (B.map eB)), .val (.int j), .val (.int x), .un, .un, .un], ⟨_, readyB F B j, by omega, by omega, rfl, rfl⟩, ?_⟩
      rintro m _ ⟨x, hx1, hx2, rfl, rfl⟩
      (try simp only [↓wpSs, ↓wpS, ↓wpE, ↓wpEs, ↓wpBop, ↓wpIfs, ↓wpIt, ↓pk, ↓bindT, ↓ownL, ↓lockIt, ↓unlockIt, isT, ↓setAll, ↓wipeE, ↓startE, ↓Tg.slots, ↓IEs.fine, ↓IEs.len, ↓noOwn, ↓isOwnE, ↓Sl.isO, ↓Ev.freeAll, List.replicate, if_true, if_false, reduceIte, Nat.reduceLeDiff, Nat.reduceSub, Nat.reduceAdd, eq_self, reduceCtorEq, Int.reduceLT, Nat.reduceLT, ↓wpl, wpu])
      refine room_ap hF hBm hj (by omega) (by omega) ?_
      cases hm : mRoom F B j x with
      | false =>
        (try simp only [ir_l_laid_b1, ↓wpSs, ↓wpS, ↓wpE, ↓wpEs, ↓wpBop, ↓wpIfs, ↓wpIt, ↓pk, ↓bindT, ↓ownL, ↓lockIt, ↓unlockIt, isT, ↓setAll, ↓wipeE, ↓startE, ↓Tg.slots, ↓IEs.fine, ↓IEs.len, ↓noOwn, ↓isOwnE, ↓Sl.isO, ↓Ev.freeAll, List.replicate, if_true, if_false, reduceIte, Nat.reduceLeDiff, Nat.reduceSub, Nat.reduceAdd, eq_self, reduceCtorEq, Int.reduceLT, Nat.reduceLT, ↓wpl, wpu])
        have hne : x ≠ place F B j := fun e => by rw [← e, hm] at p1; cases p1
        exact ⟨_, by omega, x + 1, by omega, by omega, rfl, rfl⟩
      | true =>
        (try simp only [ir_l_laid_t0, ↓wpSs, ↓wpS, ↓wpE, ↓wpEs, ↓wpBop, ↓wpIfs, ↓wpIt, ↓pk, ↓bindT, ↓ownL, ↓lockIt, ↓unlockIt, isT, ↓setAll, ↓wipeE, ↓startE, ↓Tg.slots, ↓IEs.fine, ↓IEs.len, ↓noOwn, ↓isOwnE, ↓Sl.isO, ↓Ev.freeAll, List.replicate, if_true, if_false, reduceIte, Nat.reduceLeDiff, Nat.reduceSub, Nat.reduceAdd, eq_self, reduceCtorEq, Int.reduceLT, Nat.reduceLT, ↓wpl, wpu])
        have hxe : x = place F B j := by
          rcases (by omega : x < place F B j ∨ x = place F B j) with h | h
          · have := p4 x hx1 h
            rw [hm] at this
            cases this
          · exact h
        subst hxe
        refine ⟨by omega, ?_⟩
        rw [List.map_append] at hK'
        exact hK'
    · rintro p s K3 hp _ hK3
      have hK3 := hK3 trivial
      have hp1 := hBm p hp
      (try simp only [ir_l_laid_b0, ex_eb, shp_ords, any_ord, ↓wpSs, ↓wpS, ↓wpE, ↓wpEs, ↓wpBop, ↓wpIfs, ↓wpIt, ↓pk, ↓bindT, ↓ownL, ↓lockIt, ↓unlockIt, isT, ↓setAll, ↓wipeE, ↓startE, ↓Tg.slots, ↓IEs.fine, ↓IEs.len, ↓noOwn, ↓isOwnE, ↓Sl.isO, ↓Ev.freeAll, List.replicate, if_true, if_false, reduceIte, Nat.reduceLeDiff, Nat.reduceSub, Nat.reduceAdd, eq_self, reduceCtorEq, Int.reduceLT, Nat.reduceLT, ↓wpl, wpu])
      split
      · rename_i hin
        rw [if_pos hin] at hK3
        refine at_map (get_job hp1) ?_
        (try simp only [↓wpSs, ↓wpS, ↓wpE, ↓wpEs, ↓wpBop, ↓wpIfs, ↓wpIt, ↓pk, ↓bindT, ↓ownL, ↓lockIt, ↓unlockIt, isT, ↓setAll, ↓wipeE, ↓startE, ↓Tg.slots, ↓IEs.fine, ↓IEs.len, ↓noOwn, ↓isOwnE, ↓Sl.isO, ↓Ev.freeAll, List.replicate, if_true, if_false, reduceIte, Nat.reduceLeDiff, Nat.reduceSub, Nat.reduceAdd, eq_self, reduceCtorEq, Int.reduceLT, Nat.reduceLT, ↓wpl, wpu])
        exact hK3
      · rename_i hin
        rw [if_neg hin] at hK3
        exact hK3
end CF
namespace CF
open PySem PySem.Spec PyProof.Rows L2
theorem any_row {row : List Nat} {a : Nat} : (row.map eN).any (fun z => PyData.eqv z (.int (a : Nat))) = decide (a ∈ row) := by
  rw [Bool.eq_iff_iff, List.any_eq_true]
  simp only [decide_eq_true_eq, List.mem_map]
  constructor
  · rintro ⟨x, ⟨o, ho, rfl⟩, h⟩
    rw [eN_def, eqv_int, decide_eq_true_eq] at h
    have : o = a := by omega
    rwa [← this]
  · exact fun h => ⟨_, ⟨_, h, rfl⟩, by rw [eN_def, eqv_int]; simp⟩
theorem shp_row {row : List Nat} : SeqAt.shaped (.list (row.map eN)) = true := (Shp.list (n := 0) fun x hx => by obtain ⟨w, _, rfl⟩ := List.mem_map.mp hx; exact Shp.int).ok
theorem eqv_nilr {α : Type} {f : α → PyData} {l : List α} : PyData.eqv (.list (l.map f)) (.list []) = l.isEmpty := by
  rw [eqv_list]
  cases l <;> simp [PyData.eqvAll]
abbrev Lf := List (Int × Nat)
def eL (p : Int × Nat) : PyData := .tuple [.int p.1, .int p.2]
theorem el1 {w : Int × Nat} {Q : PyData → Prop} : ixP (eL w) (.int 1) Q = Q (.int w.2) := propext (by unfold eL; rw [ip_t, at_lit1, ex_some])
def TopoP (F : Fl) (row : List Nat) : Prop := ∀ (i : Nat) a b, row[i]? = some b → (a, b) ∈ F.orders → ∃ k, k < i ∧ row[k]? = some a
theorem topo_app {F : Fl} {row : List Nat} (h : TopoP F row) {b : Nat} (hb : ∀ a, (a, b) ∈ F.orders → a ∈ row) : TopoP F (row ++ [b]) := fun i a c hc ho => by
  rcases Nat.lt_or_ge i row.length with hi | hi
  · rw [List.getElem?_append_left hi] at hc
    obtain ⟨k, hk, e⟩ := h i a c hc ho
    exact ⟨k, hk, by rw [List.getElem?_append_left (by omega)]; exact e⟩
  · rw [List.getElem?_append_right hi] at hc
    have hi' : i = row.length := by
      have := (List.getElem?_eq_some_iff.mp hc).1
      simp at this
      omega
    subst hi'
    simp at hc
    subst hc
    obtain ⟨k, hk, e⟩ := List.mem_iff_getElem.mp (hb a ho)
    exact ⟨k, hk, by rw [List.getElem?_append_left hk, ← e]; exact mem_at hk⟩
theorem topo_good {F : Fl} {row : List Nat} (hp : row.Perm (List.range F.jobs.length)) (h : TopoP F row) : GoodRow F row := ⟨hp, fun i j a b ha hb ho => by
  obtain ⟨k, hk, e⟩ := h j a b hb ho
  have hn : row.Nodup := hp.nodup_iff.mpr List.nodup_range
  have hi := (List.getElem?_eq_some_iff.mp ha).1
  have : i = k := (List.getElem?_inj hi hn).mp (ha.trans e.symm)
  omega⟩
/-- of what is left, one has all that it follows behind it -/
theorem some_ready {F : Fl} {most : Int} (hF : GoodFl most F) {row : List Nat} {left : List Nat} (hp : (row ++ left).Perm (List.range F.jobs.length)) (hl : left ≠ []) : ∃ b ∈ left, ∀ a, (a, b) ∈ F.orders → a ∈ row := by
  obtain ⟨rank, hb, hr⟩ := hF.r
  have key : ∀ (m : Nat) (b : Nat), rank b < m → b ∈ left → ∃ b ∈ left, ∀ a, (a, b) ∈ F.orders → a ∈ row := by
    intro m
    induction m with
    | zero => intro b h; omega
    | succ m ih =>
      intro b h hb
      by_cases hc : ∀ a, (a, b) ∈ F.orders → a ∈ row
      · exact ⟨b, hb, hc⟩
      · simp only [Classical.not_forall] at hc
        obtain ⟨a, ho, hn⟩ := hc
        obtain ⟨h1, _, h3⟩ := hr _ ho
        have : a ∈ row ++ left := hp.mem_iff.mpr (List.mem_range.mpr h1)
        rcases List.mem_append.mp this with h4 | h4
        · exact (hn h4).elim
        · exact ih a (by simp only at h3; omega) h4
  obtain ⟨b, hb⟩ := List.exists_mem_of_ne_nil left hl
  exact key (rank b + 1) b (by omega) hb
def g_l_row : Pm := fun ds R => ∃ (F : Fl) (c : Int), ds = [eFl F, .int c] ∧ GoodFl 50 F ∧ ∀ row, GoodRow F row → R (.list (row.map eN))
abbrev e_l_row : FnE := ⟨"_law_row", 2, true, g_l_row⟩
theorem l_row_ap {F : Fl} {c : Int} {Q : PyData → Prop} (hF : GoodFl 50 F) (q : ∀ row, GoodRow F row → Q (.list (row.map eN))) : g_l_row [eFl F, .int c] Q := ⟨F, c, rfl, hF, q⟩
def readyR (F : Fl) (row : List Nat) (b : Nat) : Bool := (F.orders.filter fun o => decide (o.2 = b) && !decide (o.1 ∈ row)).isEmpty
theorem readyR_iff {F : Fl} {row : List Nat} {b : Nat} : readyR F row b = true ↔ ∀ a, (a, b) ∈ F.orders → a ∈ row := by
  unfold readyR
  rw [List.isEmpty_iff, List.filter_eq_nil_iff]
  constructor
  · intro h a ho
    have := h _ ho
    simpa using this
  · rintro h ⟨a, b'⟩ ho
    simp only [Bool.and_eq_true, decide_eq_true_eq, Bool.not_eq_true', decide_eq_false_iff_not, not_and, Classical.not_not]
    rintro rfl
    exact h a ho
theorem sem_l_row : ∀ ds R, ds.length = 2 → g_l_row ds R → wpSs (Gof [e_l_mix]) ir_l_row (startE 8 ds) { nx := fun _ => true = false ∧ R .none, rt := R } := by
  rintro _ R _ ⟨F, c, rfl, hF, q⟩
  have j2 := hF.j2
  (try simp only [ir_l_row, ↓wpSs, ↓wpS, ↓wpE, ↓wpEs, ↓wpBop, ↓wpIfs, ↓wpIt, ↓pk, ↓bindT, ↓ownL, ↓lockIt, ↓unlockIt, isT, ↓setAll, ↓wipeE, ↓startE, ↓Tg.slots, ↓IEs.fine, ↓IEs.len, ↓noOwn, ↓isOwnE, ↓Sl.isO, ↓Ev.freeAll, List.replicate, if_true, if_false, reduceIte, Nat.reduceLeDiff, Nat.reduceSub, Nat.reduceAdd, eq_self, reduceCtorEq, Int.reduceLT, Nat.reduceLT, ↓wpl, wpu])
  refine ⟨by omega, by omega, ?_⟩
  refine compL_map (fun k : Nat => eL (mix c k % 997, k)) (fun k _ K h => ?_) ?_
  · (try simp only [mix_ap, ↓wpSs, ↓wpS, ↓wpE, ↓wpEs, ↓wpBop, ↓wpIfs, ↓wpIt, ↓pk, ↓bindT, ↓ownL, ↓lockIt, ↓unlockIt, isT, ↓setAll, ↓wipeE, ↓startE, ↓Tg.slots, ↓IEs.fine, ↓IEs.len, ↓noOwn, ↓isOwnE, ↓Sl.isO, ↓Ev.freeAll, List.replicate, if_true, if_false, reduceIte, Nat.reduceLeDiff, Nat.reduceSub, Nat.reduceAdd, eq_self, reduceCtorEq, Int.reduceLT, Nat.reduceLT, ↓wpl, wpu])
    exact h
  · refine ⟨fun x hx => ?_, fun ys hpy _ => ?_⟩
    · obtain ⟨k, _, rfl⟩ := List.mem_map.mp hx
      exact ⟨_, _, rfl⟩
    · obtain ⟨left0, hys, hl0⟩ : ∃ left : Lf, ys = left.map eL ∧ (left.map (·.2)).Perm (List.range F.jobs.length) := by
        let g : Nat → PyData := fun k => eL (mix c k % 997, k)
        let pr : PyData → Nat := fun x => match x with | .tuple [_, .int j] => j.toNat | _ => 0
        have hpg : ∀ k, pr (g k) = k := fun k => by simp [pr, g, eL]
        have hys : ys = (ys.map pr).map g := by
          rw [List.map_map]
          refine (List.map_id ys).symm.trans (List.map_congr_left fun y hy => ?_)
          obtain ⟨k, _, rfl⟩ := List.mem_map.mp (hpy.mem_iff.mp hy)
          exact (congrArg g (hpg k)).symm
        have hl : (ys.map pr).Perm (List.range F.jobs.length) := by
          have := hpy.map pr
          rw [List.map_map] at this
          have e : List.map (pr ∘ fun k : Nat => eL (mix c k % 997, k)) (List.range F.jobs.length) = List.range F.jobs.length := by
            refine (List.map_congr_left fun k _ => ?_).trans (List.map_id _)
            exact hpg k
          rw [e] at this
          exact this
        refine ⟨(ys.map pr).map fun k : Nat => ((mix c k % 997 : Int), k), ?_, ?_⟩
        · rw [List.map_map]; exact hys
        · rw [List.map_map]
          have : List.map ((·.2) ∘ fun k : Nat => ((mix c k % 997 : Int), k)) (ys.map pr) = ys.map pr := (List.map_congr_left fun k _ => rfl).trans (List.map_id _)
          rw [this]
          exact hl
      subst hys
      clear hpy
      refine ⟨fun m r => ∃ (row : List Nat) (left : Lf), m = left.length ∧ (row ++ left.map (·.2)).Perm (List.range F.jobs.length) ∧ TopoP F row ∧ r = [.val (eFl F), .val (.int c), .val (.list (left.map eL)), .own (.list (row.map eN)), .un, .un, .un, .un], ⟨_, [], left0, rfl, by simpa using hl0, fun i a b h => (by simp at h), rfl⟩, ?_⟩
      rintro m _ ⟨row, left, rfl, hp, ht, rfl⟩
      have hlen : row.length + left.length = F.jobs.length := by simpa using hp.length_eq
      (try simp only [↓wpSs, ↓wpS, ↓wpE, ↓wpEs, ↓wpBop, ↓wpIfs, ↓wpIt, ↓pk, ↓bindT, ↓ownL, ↓lockIt, ↓unlockIt, isT, ↓setAll, ↓wipeE, ↓startE, ↓Tg.slots, ↓IEs.fine, ↓IEs.len, ↓noOwn, ↓isOwnE, ↓Sl.isO, ↓Ev.freeAll, List.replicate, if_true, if_false, reduceIte, Nat.reduceLeDiff, Nat.reduceSub, Nat.reduceAdd, eq_self, reduceCtorEq, Int.reduceLT, Nat.reduceLT, ↓wpl, wpu])
      by_cases hle : left = []
      · subst hle
        simp only [List.length_nil]
        (try simp only [ir_l_row_t1, ↓wpSs, ↓wpS, ↓wpE, ↓wpEs, ↓wpBop, ↓wpIfs, ↓wpIt, ↓pk, ↓bindT, ↓ownL, ↓lockIt, ↓unlockIt, isT, ↓setAll, ↓wipeE, ↓startE, ↓Tg.slots, ↓IEs.fine, ↓IEs.len, ↓noOwn, ↓isOwnE, ↓Sl.isO, ↓Ev.freeAll, List.replicate, if_true, if_false, reduceIte, Nat.reduceLeDiff, Nat.reduceSub, Nat.reduceAdd, eq_self, reduceCtorEq, Int.reduceLT, Nat.reduceLT, ↓wpl, wpu])
        rw [if_neg (by decide)]
        rw [List.map_nil, List.append_nil] at hp
        exact q row (topo_good hp ht)
      · have hpos : 0 < left.length := List.length_pos_iff.mpr hle
        rw [if_pos (by omega)]
        (try simp only [ir_l_row_b1, ↓wpSs, ↓wpS, ↓wpE, ↓wpEs, ↓wpBop, ↓wpIfs, ↓wpIt, ↓pk, ↓bindT, ↓ownL, ↓lockIt, ↓unlockIt, isT, ↓setAll, ↓wipeE, ↓startE, ↓Tg.slots, ↓IEs.fine, ↓IEs.len, ↓noOwn, ↓isOwnE, ↓Sl.isO, ↓Ev.freeAll, List.replicate, if_true, if_false, reduceIte, Nat.reduceLeDiff, Nat.reduceSub, Nat.reduceAdd, eq_self, reduceCtorEq, Int.reduceLT, Nat.reduceLT, ↓wpl, wpu])
        obtain ⟨b0, hb0, hr0⟩ := some_ready hF hp (by simpa using hle)
        obtain ⟨p0, hp0, rfl⟩ := List.mem_map.mp hb0
        obtain ⟨i0, hi0, e0⟩ := List.mem_iff_getElem.mp hp0
        refine forL_map (fun i r => r = [.val (eFl F), .val (.int c), .val (.list (left.map eL)), .own (.list (row.map eN)), .un, .un, .un, .un] ∧ ∀ k p, k < i → left[k]? = some p → readyR F row p.2 = false) ⟨rfl, fun k p h => by omega⟩ ?_ ?_
        · rintro _ ⟨rfl, h⟩
          have := h i0 p0 hi0 (by rw [← e0]; exact mem_at hi0)
          rw [readyR_iff.mpr hr0] at this
          cases this
        · rintro i p _ K hi ⟨rfl, h⟩ hK
          have hpm := List.mem_of_getElem? hi
          (try simp only [ir_l_row_b0, ↓wpSs, ↓wpS, ↓wpE, ↓wpEs, ↓wpBop, ↓wpIfs, ↓wpIt, ↓pk, ↓bindT, ↓ownL, ↓lockIt, ↓unlockIt, isT, ↓setAll, ↓wipeE, ↓startE, ↓Tg.slots, ↓IEs.fine, ↓IEs.len, ↓noOwn, ↓isOwnE, ↓Sl.isO, ↓Ev.freeAll, List.replicate, if_true, if_false, reduceIte, Nat.reduceLeDiff, Nat.reduceSub, Nat.reduceAdd, eq_self, reduceCtorEq, Int.reduceLT, Nat.reduceLT, ↓wpl, wpu])
          have := hF.o
          refine ⟨by omega, ?_⟩
          refine compL_if (fun o => decide (o.2 = p.2) && !decide (o.1 ∈ row)) (fun o => eN o.1) (fun o _ k h1 h2 => ?_) ?_
          · (try simp only [el1, shp_row, any_row, ↓wpSs, ↓wpS, ↓wpE, ↓wpEs, ↓wpBop, ↓wpIfs, ↓wpIt, ↓pk, ↓bindT, ↓ownL, ↓lockIt, ↓unlockIt, isT, ↓setAll, ↓wipeE, ↓startE, ↓Tg.slots, ↓IEs.fine, ↓IEs.len, ↓noOwn, ↓isOwnE, ↓Sl.isO, ↓Ev.freeAll, List.replicate, if_true, if_false, reduceIte, Nat.reduceLeDiff, Nat.reduceSub, Nat.reduceAdd, eq_self, reduceCtorEq, Int.reduceLT, Nat.reduceLT, ↓wpl, wpu])
            have e : (decide ((o.2 : Int) = p.2)) = decide (o.2 = p.2) := by
              by_cases h : o.2 = p.2
              · rw [decide_eq_true h, decide_eq_true (by omega)]
              · rw [decide_eq_false h, decide_eq_false (by omega)]
            by_cases ha : o.2 = p.2
            · rw [if_pos (by omega)]
              rw [decide_eq_true ha, Bool.true_and] at h1 h2
              by_cases hb : o.1 ∈ row
              · rw [decide_eq_true hb] at h1 h2 ⊢
                exact h2 rfl
              · rw [decide_eq_false hb] at h1 h2 ⊢
                exact h1 rfl
            · have hne : ¬ ((o.2 : Int) = p.2) := by omega
              rw [decide_eq_false ha, Bool.false_and] at h2
              simp only [hne, if_false]
              exact h2 rfl
          · have hsh : SeqAt.shaped (.list (((F.orders.filter fun o => decide (o.2 = p.2) && !decide (o.1 ∈ row)).map fun o => eN o.1))) = true := (Shp.list (n := 0) fun x hx => by obtain ⟨w, _, rfl⟩ := List.mem_map.mp hx; exact Shp.int).ok
            have hr : (F.orders.filter fun o => decide (o.2 = p.2) && !decide (o.1 ∈ row)).isEmpty = readyR F row p.2 := rfl
            (try simp only [hsh, eqv_nilr, hr, ↓wpSs, ↓wpS, ↓wpE, ↓wpEs, ↓wpBop, ↓wpIfs, ↓wpIt, ↓pk, ↓bindT, ↓ownL, ↓lockIt, ↓unlockIt, isT, ↓setAll, ↓wipeE, ↓startE, ↓Tg.slots, ↓IEs.fine, ↓IEs.len, ↓noOwn, ↓isOwnE, ↓Sl.isO, ↓Ev.freeAll, List.replicate, if_true, if_false, reduceIte, Nat.reduceLeDiff, Nat.reduceSub, Nat.reduceAdd, eq_self, reduceCtorEq, Int.reduceLT, Nat.reduceLT, ↓wpl, wpu])
            cases hrd : readyR F row p.2 with
            | false =>
              (try simp only [↓wpSs, ↓wpS, ↓wpE, ↓wpEs, ↓wpBop, ↓wpIfs, ↓wpIt, ↓pk, ↓bindT, ↓ownL, ↓lockIt, ↓unlockIt, isT, ↓setAll, ↓wipeE, ↓startE, ↓Tg.slots, ↓IEs.fine, ↓IEs.len, ↓noOwn, ↓isOwnE, ↓Sl.isO, ↓Ev.freeAll, List.replicate, if_true, if_false, reduceIte, Nat.reduceLeDiff, Nat.reduceSub, Nat.reduceAdd, eq_self, reduceCtorEq, Int.reduceLT, Nat.reduceLT, ↓wpl, wpu])
              refine hK _ ⟨rfl, fun k p' hk hp' => ?_⟩
              rcases Nat.lt_or_ge k i with h' | h'
              · exact h k p' h' hp'
              · have : k = i := by omega
                subst this
                rw [hi] at hp'
                cases hp'
                exact hrd
            | true =>
              (try simp only [el1, ↓wpSs, ↓wpS, ↓wpE, ↓wpEs, ↓wpBop, ↓wpIfs, ↓wpIt, ↓pk, ↓bindT, ↓ownL, ↓lockIt, ↓unlockIt, isT, ↓setAll, ↓wipeE, ↓startE, ↓Tg.slots, ↓IEs.fine, ↓IEs.len, ↓noOwn, ↓isOwnE, ↓Sl.isO, ↓Ev.freeAll, List.replicate, if_true, if_false, reduceIte, Nat.reduceLeDiff, Nat.reduceSub, Nat.reduceAdd, eq_self, reduceCtorEq, Int.reduceLT, Nat.reduceLT, ↓wpl, wpu])
              refine ⟨by omega, ?_⟩
              (try simp only [ir_l_row_t0, ↓wpSs, ↓wpS, ↓wpE, ↓wpEs, ↓wpBop, ↓wpIfs, ↓wpIt, ↓pk, ↓bindT, ↓ownL, ↓lockIt, ↓unlockIt, isT, ↓setAll, ↓wipeE, ↓startE, ↓Tg.slots, ↓IEs.fine, ↓IEs.len, ↓noOwn, ↓isOwnE, ↓Sl.isO, ↓Ev.freeAll, List.replicate, if_true, if_false, reduceIte, Nat.reduceLeDiff, Nat.reduceSub, Nat.reduceAdd, eq_self, reduceCtorEq, Int.reduceLT, Nat.reduceLT, ↓wpl, wpu])
              refine ⟨by omega, ?_⟩
              refine compL_if (fun q : Int × Nat => decide (q.2 ≠ p.2)) eL (fun q' _ k h1 h2 => ?_) ?_
              · (try simp only [el1, ↓wpSs, ↓wpS, ↓wpE, ↓wpEs, ↓wpBop, ↓wpIfs, ↓wpIt, ↓pk, ↓bindT, ↓ownL, ↓lockIt, ↓unlockIt, isT, ↓setAll, ↓wipeE, ↓startE, ↓Tg.slots, ↓IEs.fine, ↓IEs.len, ↓noOwn, ↓isOwnE, ↓Sl.isO, ↓Ev.freeAll, List.replicate, if_true, if_false, reduceIte, Nat.reduceLeDiff, Nat.reduceSub, Nat.reduceAdd, eq_self, reduceCtorEq, Int.reduceLT, Nat.reduceLT, ↓wpl, wpu])
                refine ⟨_, at_last (by simp), ?_⟩
                rw [List.getLast_concat]
                (try simp only [↓wpSs, ↓wpS, ↓wpE, ↓wpEs, ↓wpBop, ↓wpIfs, ↓wpIt, ↓pk, ↓bindT, ↓ownL, ↓lockIt, ↓unlockIt, isT, ↓setAll, ↓wipeE, ↓startE, ↓Tg.slots, ↓IEs.fine, ↓IEs.len, ↓noOwn, ↓isOwnE, ↓Sl.isO, ↓Ev.freeAll, List.replicate, if_true, if_false, reduceIte, Nat.reduceLeDiff, Nat.reduceSub, Nat.reduceAdd, eq_self, reduceCtorEq, Int.reduceLT, Nat.reduceLT, ↓wpl, wpu])
                by_cases hq : q'.2 = p.2
                · rw [decide_eq_true (by omega)]
                  exact h2 (by simp [hq])
                · rw [decide_eq_false (by omega)]
                  exact h1 (by simp [hq])
              · have hsub : (left.filter fun q : Int × Nat => decide (q.2 ≠ p.2)).map (·.2) = (left.map (·.2)).filter fun k => decide (k ≠ p.2) := by rw [List.filter_map]; rfl
                have hnd : (row ++ left.map (·.2)).Nodup := hp.nodup_iff.mpr List.nodup_range
                have hmem : p.2 ∈ left.map (·.2) := List.mem_map_of_mem hpm
                have hper : (left.map (·.2)).Perm (p.2 :: (left.map (·.2)).filter fun k => decide (k ≠ p.2)) := by
                  have hl := (List.nodup_append.mp hnd).2.1
                  have e1 := List.perm_cons_erase hmem
                  rw [List.Nodup.erase_eq_filter hl] at e1
                  refine e1.trans (List.Perm.of_eq ?_)
                  congr 1
                  refine List.filter_congr fun k _ => ?_
                  by_cases hk : k = p.2
                  · simp [hk]
                  · simp [hk]
                refine ⟨_, ?_, row ++ [p.2], left.filter fun q : Int × Nat => decide (q.2 ≠ p.2), rfl, ?_, topo_app ht (readyR_iff.mp hrd), ?_⟩
                · have h1 := hper.length_eq
                  rw [← hsub] at h1
                  simp only [List.length_map, List.length_cons] at h1
                  omega
                · rw [hsub, List.append_assoc]
                  exact (List.Perm.append_left row hper).symm.trans hp
                · rw [List.map_append]
                  rfl
end CF
namespace CF
open PySem PySem.Spec PyProof.Rows L2
-- 0 floor, 1 starts, 2 crew, 3 hour, 4 jobs, 5 found, 6 job
def ir_at_work_b0 : ISs :=
  (.cons (.ife (.chain .LtE .Lt (.ix (.var 1) (.var 6)) (.var 3) (.bin .Add (.ix (.var 1) (.var 6)) (.ix (.ix (.var 4) (.var 6)) (.kint 0))))
    (.cons (.set 5 (.bin .Add (.var 5) (.ix (.ix (.ix (.var 4) (.var 6)) (.kint 1)) (.var 2))))
    .nil)
    .nil)
  (.fgt [6] .nil))
def ir_at_work_t0 : ISs :=
  (.cons (.ret (.var 5))
  .nil)
def ir_at_work : ISs :=
  (.cons (.set 4 (.ix (.var 0) (.kint 1)))
  (.cons (.set 5 (.kint 0))
  (.cons (.fors (.one 6) (.rng (.cons (.blt .len (.cons (.var 4) .nil)) .nil)) ir_at_work_b0)
  ir_at_work_t0)))
-- calls: 
-- 0 floor, 1 starts, 2 job
def ir_length : ISs :=
  (.cons (.ret (.blt .maxL (.cons (.comp (.bin .Add (.ix (.var 1) (.var 2)) (.ix (.ix (.ix (.var 0) (.kint 1)) (.var 2)) (.kint 0))) (.one 2) (.rng (.cons (.blt .len (.cons (.ix (.var 0) (.kint 1)) .nil)) .nil)) .nil) .nil)))
  .nil)
-- calls: 
-- 0 floor, 1 starts, 2 one, 3 other
def ir_keeps_orders_b0 : ISs :=
  (.cons (.ife (.cmp .Gt (.bin .Add (.ix (.var 1) (.var 2)) (.ix (.ix (.ix (.var 0) (.kint 1)) (.var 2)) (.kint 0))) (.ix (.var 1) (.var 3)))
    (.cons (.ret (.kbool false))
    .nil)
    .nil)
  (.fgt [2, 3] .nil))
def ir_keeps_orders_t0 : ISs :=
  (.cons (.ret (.kbool true))
  .nil)
def ir_keeps_orders : ISs :=
  (.cons (.fors (.many [2, 3]) (.seq (.ix (.var 0) (.kint 2))) ir_keeps_orders_b0)
  ir_keeps_orders_t0)
-- calls: 
-- 0 floor, 1 starts, 2 hour, 3 crew
def ir_too_many_b0 : ISs :=
  (.cons (.ife (.cmp .Gt (.call 0 (.cons (.var 0) (.cons (.var 1) (.cons (.var 3) (.cons (.var 2) .nil))))) (.ix (.ix (.var 0) (.kint 0)) (.var 3)))
    (.cons (.ret (.tup (.cons (.var 2) (.cons (.var 3) .nil))))
    .nil)
    .nil)
  (.fgt [3] .nil))
def ir_too_many_b1 : ISs :=
  (.cons (.fors (.one 3) (.rng (.cons (.blt .len (.cons (.ix (.var 0) (.kint 0)) .nil)) .nil)) ir_too_many_b0)
  (.fgt [2] .nil))
def ir_too_many_t0 : ISs :=
  (.cons (.ret .knone)
  .nil)
def ir_too_many : ISs :=
  (.cons (.fors (.one 2) (.seq (.sset (.var 1))) ir_too_many_b1)
  ir_too_many_t0)
-- calls: at_work
-- 0 floor, 1 starts
def ir_is_plan_t0 : ISs :=
  (.cons (.ret (.bop .And (.cons (.call 1 (.cons (.var 0) (.cons (.var 1) .nil))) (.cons (.cmp .Is (.call 0 (.cons (.var 0) (.cons (.var 1) .nil))) .knone) .nil))))
  .nil)
def ir_is_plan : ISs :=
  (.cons (.ife (.bop .Or (.cons (.cmp .NotEq (.blt .len (.cons (.var 1) .nil)) (.blt .len (.cons (.ix (.var 0) (.kint 1)) .nil))) (.cons (.cmp .Lt (.blt .minL (.cons (.var 1) .nil)) (.kint 0)) .nil)))
    (.cons (.ret (.kbool false))
    .nil)
    .nil)
  ir_is_plan_t0)
-- calls: too_many, keeps_orders
-- 0 _law_floor_here, 1 _law_starts, 2 _law_crew, 3 _law_hour, 4 _law_total, 5 _law_job_here
def ir_l_at_work_b0 : ISs :=
  (.cons (.ife (.bop .And (.cons (.cmp .LtE (.ix (.var 1) (.var 5)) (.var 3)) (.cons (.cmp .Lt (.var 3) (.bin .Add (.ix (.var 1) (.var 5)) (.ix (.ix (.ix (.var 0) (.kint 1)) (.var 5)) (.kint 0)))) .nil)))
    (.cons (.set 4 (.bin .Add (.var 4) (.ix (.ix (.ix (.ix (.var 0) (.kint 1)) (.var 5)) (.kint 1)) (.var 2))))
    .nil)
    .nil)
  (.fgt [5] .nil))
def ir_l_at_work_t0 : ISs :=
  (.cons (.ret (.var 4))
  .nil)
def ir_l_at_work : ISs :=
  (.cons (.set 4 (.kint 0))
  (.cons (.fors (.one 5) (.rng (.cons (.blt .len (.cons (.var 1) .nil)) .nil)) ir_l_at_work_b0)
  ir_l_at_work_t0))
-- calls: 
-- 0 _law_floor_here, 1 _law_starts, 2 _law_job_here
def ir_l_length : ISs :=
  (.cons (.ret (.blt .maxL (.cons (.comp (.bin .Add (.ix (.var 1) (.var 2)) (.ix (.ix (.ix (.var 0) (.kint 1)) (.var 2)) (.kint 0))) (.one 2) (.rng (.cons (.blt .len (.cons (.var 1) .nil)) .nil)) .nil) .nil)))
  .nil)
-- calls: 
-- 0 _law_floor_here, 1 _law_starts, 2 _law_one, 3 _law_other, 4 _law_crew, 5 _law_start
def ir_l_is_plan_b0 : ISs :=
  (.cons (.ife (.cmp .Lt (.ix (.var 1) (.var 3)) (.bin .Add (.ix (.var 1) (.var 2)) (.ix (.ix (.ix (.var 0) (.kint 1)) (.var 2)) (.kint 0))))
    (.cons (.ret (.kbool false))
    .nil)
    .nil)
  (.fgt [2, 3] .nil))
def ir_l_is_plan_b1 : ISs :=
  (.cons (.ife (.cmp .Gt (.call 0 (.cons (.var 0) (.cons (.var 1) (.cons (.var 4) (.cons (.var 5) .nil))))) (.ix (.ix (.var 0) (.kint 0)) (.var 4)))
    (.cons (.ret (.kbool false))
    .nil)
    .nil)
  (.fgt [5] .nil))
def ir_l_is_plan_b2 : ISs :=
  (.cons (.fors (.one 5) (.seq (.var 1)) ir_l_is_plan_b1)
  (.fgt [4] .nil))
def ir_l_is_plan_t0 : ISs :=
  (.cons (.ret (.kbool true))
  .nil)
def ir_l_is_plan_t1 : ISs :=
  (.cons (.fors (.one 4) (.rng (.cons (.blt .len (.cons (.ix (.var 0) (.kint 0)) .nil)) .nil)) ir_l_is_plan_b2)
  ir_l_is_plan_t0)
def ir_l_is_plan_t2 : ISs :=
  (.cons (.fors (.many [2, 3]) (.seq (.ix (.var 0) (.kint 2))) ir_l_is_plan_b0)
  ir_l_is_plan_t1)
def ir_l_is_plan : ISs :=
  (.cons (.ife (.bop .Or (.cons (.cmp .NotEq (.blt .len (.cons (.var 1) .nil)) (.blt .len (.cons (.ix (.var 0) (.kint 1)) .nil))) (.cons (.cmp .NotEq (.comp (.var 5) (.one 5) (.seq (.var 1)) (.cons (.cmp .Lt (.var 5) (.kint 0)) .nil)) (.lst .nil)) .nil)))
    (.cons (.ret (.kbool false))
    .nil)
    .nil)
  ir_l_is_plan_t2)
-- calls: _law_at_work
end CF
namespace CF
open PySem PySem.Spec PyProof.Rows L2
/-! ### plans, known -/
def st (ns : List Int) (k : Nat) : Int := ns.getD k 0
theorem st_get {ns : List Int} {k : Nat} (h : k < ns.length) : ns[k]? = some (st ns k) := by
  unfold st
  rw [getD_of h]
  exact mem_at h
theorem st_vec {n : Nat} {S : Nat → Int} {k : Nat} (h : k < n) : st (vec n S) k = S k := vec_getD h
theorem wk_congr {F : Fl} {S T : Nat → Int} {c : Nat} {t : Int} (h : ∀ k, k < F.jobs.length → S k = T k) : wk F S c t = wk F T c t := sumTo_congr fun k hk => by unfold bsy; rw [h k hk]
def g_at_work : Pm := fun ds R => ∃ (F : Fl) (ns : List Int) (c : Nat) (t : Int), ds = [eFl F, .list (ns.map .int), .int c, .int t] ∧ GoodFl 50 F ∧ ns.length = F.jobs.length ∧ c < F.crews.length ∧ R (.int (wk F (st ns) c t))
abbrev e_at_work : FnE := ⟨"at_work", 4, false, g_at_work⟩
theorem at_work_ap {F : Fl} {ns : List Int} {c : Nat} {t : Int} {Q : PyData → Prop} (hF : GoodFl 50 F) (hl : ns.length = F.jobs.length) (hc : c < F.crews.length) (q : Q (.int (wk F (st ns) c t))) : g_at_work [eFl F, .list (ns.map .int), .int c, .int t] Q := ⟨F, ns, c, t, rfl, hF, hl, hc, q⟩
theorem sem_at_work : ∀ ds R, ds.length = 4 → g_at_work ds R → wpSs (Gof []) ir_at_work (startE 7 ds) { nx := fun _ => false = false ∧ R .none, rt := R } := by
  rintro _ R _ ⟨F, ns, c, t, rfl, hF, hl, hc, q⟩
  have j2 := hF.j2
  (try simp only [ir_at_work, ↓wpSs, ↓wpS, ↓wpE, ↓wpEs, ↓wpBop, ↓wpIfs, ↓wpIt, ↓pk, ↓bindT, ↓ownL, ↓lockIt, ↓unlockIt, isT, ↓setAll, ↓wipeE, ↓startE, ↓Tg.slots, ↓IEs.fine, ↓IEs.len, ↓noOwn, ↓isOwnE, ↓Sl.isO, ↓Ev.freeAll, List.replicate, if_true, if_false, reduceIte, Nat.reduceLeDiff, Nat.reduceSub, Nat.reduceAdd, eq_self, reduceCtorEq, Int.reduceLT, Nat.reduceLT, ↓wpl, wpu])
  refine ⟨by omega, ?_⟩
  refine forL_rng (fun i r => r = [.val (eFl F), .val (.list (ns.map .int)), .val (.int c), .val (.int t), .val (.tuple (F.jobs.map eJob)), .val (.int (sumTo (bsy F (st ns) c t) i)), .un]) rfl ?_ ?_
  · rintro _ rfl
    (try simp only [ir_at_work_t0, ↓wpSs, ↓wpS, ↓wpE, ↓wpEs, ↓wpBop, ↓wpIfs, ↓wpIt, ↓pk, ↓bindT, ↓ownL, ↓lockIt, ↓unlockIt, isT, ↓setAll, ↓wipeE, ↓startE, ↓Tg.slots, ↓IEs.fine, ↓IEs.len, ↓noOwn, ↓isOwnE, ↓Sl.isO, ↓Ev.freeAll, List.replicate, if_true, if_false, reduceIte, Nat.reduceLeDiff, Nat.reduceSub, Nat.reduceAdd, eq_self, reduceCtorEq, Int.reduceLT, Nat.reduceLT, ↓wpl, wpu])
    exact q
  · rintro i _ K hi rfl hK
    have hi' : i < ns.length := by omega
    have eh : (F.jobs.getD i (0, [])).1 = F.h i := rfl
    have hK' : K [.val (eFl F), .val (.list (ns.map .int)), .val (.int c), .val (.int t), .val (.tuple (F.jobs.map eJob)), .val (.int (sumTo (bsy F (st ns) c t) i + if st ns i ≤ t ∧ t < st ns i + F.h i then F.need i c else 0)), .un] := hK _ rfl
    (try simp only [ir_at_work_b0, ↓wpSs, ↓wpS, ↓wpE, ↓wpEs, ↓wpBop, ↓wpIfs, ↓wpIt, ↓pk, ↓bindT, ↓ownL, ↓lockIt, ↓unlockIt, isT, ↓setAll, ↓wipeE, ↓startE, ↓Tg.slots, ↓IEs.fine, ↓IEs.len, ↓noOwn, ↓isOwnE, ↓Sl.isO, ↓Ev.freeAll, List.replicate, if_true, if_false, reduceIte, Nat.reduceLeDiff, Nat.reduceSub, Nat.reduceAdd, eq_self, reduceCtorEq, Int.reduceLT, Nat.reduceLT, ↓wpl, wpu])
    refine at_map (st_get hi') ?_
    (try simp only [↓wpSs, ↓wpS, ↓wpE, ↓wpEs, ↓wpBop, ↓wpIfs, ↓wpIt, ↓pk, ↓bindT, ↓ownL, ↓lockIt, ↓unlockIt, isT, ↓setAll, ↓wipeE, ↓startE, ↓Tg.slots, ↓IEs.fine, ↓IEs.len, ↓noOwn, ↓isOwnE, ↓Sl.isO, ↓Ev.freeAll, List.replicate, if_true, if_false, reduceIte, Nat.reduceLeDiff, Nat.reduceSub, Nat.reduceAdd, eq_self, reduceCtorEq, Int.reduceLT, Nat.reduceLT, ↓wpl, wpu])
    by_cases ha : st ns i ≤ t
    · rw [if_pos ha]
      refine at_map (st_get hi') ?_
      (try simp only [↓wpSs, ↓wpS, ↓wpE, ↓wpEs, ↓wpBop, ↓wpIfs, ↓wpIt, ↓pk, ↓bindT, ↓ownL, ↓lockIt, ↓unlockIt, isT, ↓setAll, ↓wipeE, ↓startE, ↓Tg.slots, ↓IEs.fine, ↓IEs.len, ↓noOwn, ↓isOwnE, ↓Sl.isO, ↓Ev.freeAll, List.replicate, if_true, if_false, reduceIte, Nat.reduceLeDiff, Nat.reduceSub, Nat.reduceAdd, eq_self, reduceCtorEq, Int.reduceLT, Nat.reduceLT, ↓wpl, wpu])
      refine at_map (get_job hi) ?_
      (try simp only [↓wpSs, ↓wpS, ↓wpE, ↓wpEs, ↓wpBop, ↓wpIfs, ↓wpIt, ↓pk, ↓bindT, ↓ownL, ↓lockIt, ↓unlockIt, isT, ↓setAll, ↓wipeE, ↓startE, ↓Tg.slots, ↓IEs.fine, ↓IEs.len, ↓noOwn, ↓isOwnE, ↓Sl.isO, ↓Ev.freeAll, List.replicate, if_true, if_false, reduceIte, Nat.reduceLeDiff, Nat.reduceSub, Nat.reduceAdd, eq_self, reduceCtorEq, Int.reduceLT, Nat.reduceLT, ↓wpl, wpu])
      rw [eh]
      by_cases hb : t < st ns i + F.h i
      · rw [if_pos ⟨ha, hb⟩] at hK'
        (try simp only [hb, ↓wpSs, ↓wpS, ↓wpE, ↓wpEs, ↓wpBop, ↓wpIfs, ↓wpIt, ↓pk, ↓bindT, ↓ownL, ↓lockIt, ↓unlockIt, isT, ↓setAll, ↓wipeE, ↓startE, ↓Tg.slots, ↓IEs.fine, ↓IEs.len, ↓noOwn, ↓isOwnE, ↓Sl.isO, ↓Ev.freeAll, List.replicate, if_true, if_false, reduceIte, Nat.reduceLeDiff, Nat.reduceSub, Nat.reduceAdd, eq_self, reduceCtorEq, Int.reduceLT, Nat.reduceLT, ↓wpl, wpu])
        refine at_map (get_job hi) ?_
        (try simp only [↓wpSs, ↓wpS, ↓wpE, ↓wpEs, ↓wpBop, ↓wpIfs, ↓wpIt, ↓pk, ↓bindT, ↓ownL, ↓lockIt, ↓unlockIt, isT, ↓setAll, ↓wipeE, ↓startE, ↓Tg.slots, ↓IEs.fine, ↓IEs.len, ↓noOwn, ↓isOwnE, ↓Sl.isO, ↓Ev.freeAll, List.replicate, if_true, if_false, reduceIte, Nat.reduceLeDiff, Nat.reduceSub, Nat.reduceAdd, eq_self, reduceCtorEq, Int.reduceLT, Nat.reduceLT, ↓wpl, wpu])
        refine at_map (need_at hF hi hc) ?_
        (try simp only [↓wpSs, ↓wpS, ↓wpE, ↓wpEs, ↓wpBop, ↓wpIfs, ↓wpIt, ↓pk, ↓bindT, ↓ownL, ↓lockIt, ↓unlockIt, isT, ↓setAll, ↓wipeE, ↓startE, ↓Tg.slots, ↓IEs.fine, ↓IEs.len, ↓noOwn, ↓isOwnE, ↓Sl.isO, ↓Ev.freeAll, List.replicate, if_true, if_false, reduceIte, Nat.reduceLeDiff, Nat.reduceSub, Nat.reduceAdd, eq_self, reduceCtorEq, Int.reduceLT, Nat.reduceLT, ↓wpl, wpu])
        exact hK'
      · rw [if_neg (fun e => hb e.2), Int.add_zero] at hK'
        (try simp only [hb, ↓wpSs, ↓wpS, ↓wpE, ↓wpEs, ↓wpBop, ↓wpIfs, ↓wpIt, ↓pk, ↓bindT, ↓ownL, ↓lockIt, ↓unlockIt, isT, ↓setAll, ↓wipeE, ↓startE, ↓Tg.slots, ↓IEs.fine, ↓IEs.len, ↓noOwn, ↓isOwnE, ↓Sl.isO, ↓Ev.freeAll, List.replicate, if_true, if_false, reduceIte, Nat.reduceLeDiff, Nat.reduceSub, Nat.reduceAdd, eq_self, reduceCtorEq, Int.reduceLT, Nat.reduceLT, ↓wpl, wpu])
        exact hK'
    · (try simp only [ha, ↓wpSs, ↓wpS, ↓wpE, ↓wpEs, ↓wpBop, ↓wpIfs, ↓wpIt, ↓pk, ↓bindT, ↓ownL, ↓lockIt, ↓unlockIt, isT, ↓setAll, ↓wipeE, ↓startE, ↓Tg.slots, ↓IEs.fine, ↓IEs.len, ↓noOwn, ↓isOwnE, ↓Sl.isO, ↓Ev.freeAll, List.replicate, if_true, if_false, reduceIte, Nat.reduceLeDiff, Nat.reduceSub, Nat.reduceAdd, eq_self, reduceCtorEq, Int.reduceLT, Nat.reduceLT, ↓wpl, wpu])
      rw [if_neg (fun e => ha e.1), Int.add_zero] at hK'
      exact hK'
abbrev g_l_at_work : Pm := g_at_work
abbrev e_l_at_work : FnE := ⟨"_law_at_work", 4, false, g_l_at_work⟩
theorem sem_l_at_work : ∀ ds R, ds.length = 4 → g_l_at_work ds R → wpSs (Gof []) ir_l_at_work (startE 6 ds) { nx := fun _ => false = false ∧ R .none, rt := R } := by
  rintro _ R _ ⟨F, ns, c, t, rfl, hF, hl, hc, q⟩
  have j2 := hF.j2
  (try simp only [ir_l_at_work, ↓wpSs, ↓wpS, ↓wpE, ↓wpEs, ↓wpBop, ↓wpIfs, ↓wpIt, ↓pk, ↓bindT, ↓ownL, ↓lockIt, ↓unlockIt, isT, ↓setAll, ↓wipeE, ↓startE, ↓Tg.slots, ↓IEs.fine, ↓IEs.len, ↓noOwn, ↓isOwnE, ↓Sl.isO, ↓Ev.freeAll, List.replicate, if_true, if_false, reduceIte, Nat.reduceLeDiff, Nat.reduceSub, Nat.reduceAdd, eq_self, reduceCtorEq, Int.reduceLT, Nat.reduceLT, ↓wpl, wpu])
  refine ⟨by omega, ?_⟩
  rw [hl]
  refine forL_rng (fun i r => r = [.val (eFl F), .val (.list (ns.map .int)), .val (.int c), .val (.int t), .val (.int (sumTo (bsy F (st ns) c t) i)), .un]) rfl ?_ ?_
  · rintro _ rfl
    (try simp only [ir_l_at_work_t0, ↓wpSs, ↓wpS, ↓wpE, ↓wpEs, ↓wpBop, ↓wpIfs, ↓wpIt, ↓pk, ↓bindT, ↓ownL, ↓lockIt, ↓unlockIt, isT, ↓setAll, ↓wipeE, ↓startE, ↓Tg.slots, ↓IEs.fine, ↓IEs.len, ↓noOwn, ↓isOwnE, ↓Sl.isO, ↓Ev.freeAll, List.replicate, if_true, if_false, reduceIte, Nat.reduceLeDiff, Nat.reduceSub, Nat.reduceAdd, eq_self, reduceCtorEq, Int.reduceLT, Nat.reduceLT, ↓wpl, wpu])
    exact q
  · rintro i _ K hi rfl hK
    have hi' : i < ns.length := by omega
    have eh : (F.jobs.getD i (0, [])).1 = F.h i := rfl
    have hK' : K [.val (eFl F), .val (.list (ns.map .int)), .val (.int c), .val (.int t), .val (.int (sumTo (bsy F (st ns) c t) i + if st ns i ≤ t ∧ t < st ns i + F.h i then F.need i c else 0)), .un] := hK _ rfl
    (try simp only [ir_l_at_work_b0, ↓wpSs, ↓wpS, ↓wpE, ↓wpEs, ↓wpBop, ↓wpIfs, ↓wpIt, ↓pk, ↓bindT, ↓ownL, ↓lockIt, ↓unlockIt, isT, ↓setAll, ↓wipeE, ↓startE, ↓Tg.slots, ↓IEs.fine, ↓IEs.len, ↓noOwn, ↓isOwnE, ↓Sl.isO, ↓Ev.freeAll, List.replicate, if_true, if_false, reduceIte, Nat.reduceLeDiff, Nat.reduceSub, Nat.reduceAdd, eq_self, reduceCtorEq, Int.reduceLT, Nat.reduceLT, ↓wpl, wpu])
    refine at_map (st_get hi') ?_
    (try simp only [↓wpSs, ↓wpS, ↓wpE, ↓wpEs, ↓wpBop, ↓wpIfs, ↓wpIt, ↓pk, ↓bindT, ↓ownL, ↓lockIt, ↓unlockIt, isT, ↓setAll, ↓wipeE, ↓startE, ↓Tg.slots, ↓IEs.fine, ↓IEs.len, ↓noOwn, ↓isOwnE, ↓Sl.isO, ↓Ev.freeAll, List.replicate, if_true, if_false, reduceIte, Nat.reduceLeDiff, Nat.reduceSub, Nat.reduceAdd, eq_self, reduceCtorEq, Int.reduceLT, Nat.reduceLT, ↓wpl, wpu])
    by_cases ha : st ns i ≤ t
    · rw [if_pos ha]
      refine at_map (st_get hi') ?_
      (try simp only [↓wpSs, ↓wpS, ↓wpE, ↓wpEs, ↓wpBop, ↓wpIfs, ↓wpIt, ↓pk, ↓bindT, ↓ownL, ↓lockIt, ↓unlockIt, isT, ↓setAll, ↓wipeE, ↓startE, ↓Tg.slots, ↓IEs.fine, ↓IEs.len, ↓noOwn, ↓isOwnE, ↓Sl.isO, ↓Ev.freeAll, List.replicate, if_true, if_false, reduceIte, Nat.reduceLeDiff, Nat.reduceSub, Nat.reduceAdd, eq_self, reduceCtorEq, Int.reduceLT, Nat.reduceLT, ↓wpl, wpu])
      refine at_map (get_job hi) ?_
      (try simp only [↓wpSs, ↓wpS, ↓wpE, ↓wpEs, ↓wpBop, ↓wpIfs, ↓wpIt, ↓pk, ↓bindT, ↓ownL, ↓lockIt, ↓unlockIt, isT, ↓setAll, ↓wipeE, ↓startE, ↓Tg.slots, ↓IEs.fine, ↓IEs.len, ↓noOwn, ↓isOwnE, ↓Sl.isO, ↓Ev.freeAll, List.replicate, if_true, if_false, reduceIte, Nat.reduceLeDiff, Nat.reduceSub, Nat.reduceAdd, eq_self, reduceCtorEq, Int.reduceLT, Nat.reduceLT, ↓wpl, wpu])
      rw [eh]
      by_cases hb : t < st ns i + F.h i
      · rw [if_pos ⟨ha, hb⟩] at hK'
        (try simp only [hb, ↓wpSs, ↓wpS, ↓wpE, ↓wpEs, ↓wpBop, ↓wpIfs, ↓wpIt, ↓pk, ↓bindT, ↓ownL, ↓lockIt, ↓unlockIt, isT, ↓setAll, ↓wipeE, ↓startE, ↓Tg.slots, ↓IEs.fine, ↓IEs.len, ↓noOwn, ↓isOwnE, ↓Sl.isO, ↓Ev.freeAll, List.replicate, if_true, if_false, reduceIte, Nat.reduceLeDiff, Nat.reduceSub, Nat.reduceAdd, eq_self, reduceCtorEq, Int.reduceLT, Nat.reduceLT, ↓wpl, wpu])
        refine at_map (get_job hi) ?_
        (try simp only [↓wpSs, ↓wpS, ↓wpE, ↓wpEs, ↓wpBop, ↓wpIfs, ↓wpIt, ↓pk, ↓bindT, ↓ownL, ↓lockIt, ↓unlockIt, isT, ↓setAll, ↓wipeE, ↓startE, ↓Tg.slots, ↓IEs.fine, ↓IEs.len, ↓noOwn, ↓isOwnE, ↓Sl.isO, ↓Ev.freeAll, List.replicate, if_true, if_false, reduceIte, Nat.reduceLeDiff, Nat.reduceSub, Nat.reduceAdd, eq_self, reduceCtorEq, Int.reduceLT, Nat.reduceLT, ↓wpl, wpu])
        refine at_map (need_at hF hi hc) ?_
        (try simp only [↓wpSs, ↓wpS, ↓wpE, ↓wpEs, ↓wpBop, ↓wpIfs, ↓wpIt, ↓pk, ↓bindT, ↓ownL, ↓lockIt, ↓unlockIt, isT, ↓setAll, ↓wipeE, ↓startE, ↓Tg.slots, ↓IEs.fine, ↓IEs.len, ↓noOwn, ↓isOwnE, ↓Sl.isO, ↓Ev.freeAll, List.replicate, if_true, if_false, reduceIte, Nat.reduceLeDiff, Nat.reduceSub, Nat.reduceAdd, eq_self, reduceCtorEq, Int.reduceLT, Nat.reduceLT, ↓wpl, wpu])
        exact hK'
      · rw [if_neg (fun e => hb e.2), Int.add_zero] at hK'
        (try simp only [hb, ↓wpSs, ↓wpS, ↓wpE, ↓wpEs, ↓wpBop, ↓wpIfs, ↓wpIt, ↓pk, ↓bindT, ↓ownL, ↓lockIt, ↓unlockIt, isT, ↓setAll, ↓wipeE, ↓startE, ↓Tg.slots, ↓IEs.fine, ↓IEs.len, ↓noOwn, ↓isOwnE, ↓Sl.isO, ↓Ev.freeAll, List.replicate, if_true, if_false, reduceIte, Nat.reduceLeDiff, Nat.reduceSub, Nat.reduceAdd, eq_self, reduceCtorEq, Int.reduceLT, Nat.reduceLT, ↓wpl, wpu])
        exact hK'
    · (try simp only [ha, ↓wpSs, ↓wpS, ↓wpE, ↓wpEs, ↓wpBop, ↓wpIfs, ↓wpIt, ↓pk, ↓bindT, ↓ownL, ↓lockIt, ↓unlockIt, isT, ↓setAll, ↓wipeE, ↓startE, ↓Tg.slots, ↓IEs.fine, ↓IEs.len, ↓noOwn, ↓isOwnE, ↓Sl.isO, ↓Ev.freeAll, List.replicate, if_true, if_false, reduceIte, Nat.reduceLeDiff, Nat.reduceSub, Nat.reduceAdd, eq_self, reduceCtorEq, Int.reduceLT, Nat.reduceLT, ↓wpl, wpu])
      rw [if_neg (fun e => ha e.1), Int.add_zero] at hK'
      exact hK'
/-! the length -/
def IsLen (F : Fl) (S : Nat → Int) (m : Int) : Prop := (∃ k, k < F.jobs.length ∧ m = S k + F.h k) ∧ ∀ k, k < F.jobs.length → S k + F.h k ≤ m
theorem IsLen.uniq {F : Fl} {S : Nat → Int} {m m' : Int} (h : IsLen F S m) (h' : IsLen F S m') : m = m' := by
  obtain ⟨⟨k, hk, e⟩, h1⟩ := h
  obtain ⟨⟨k', hk', e'⟩, h2⟩ := h'
  have := h1 k' hk'
  have := h2 k hk
  omega
theorem IsLen.congr {F : Fl} {S T : Nat → Int} {m : Int} (h : IsLen F S m) (e : ∀ k, k < F.jobs.length → S k = T k) : IsLen F T m := by
  obtain ⟨⟨k, hk, e1⟩, h1⟩ := h
  exact ⟨⟨k, hk, by rw [← e k hk]; exact e1⟩, fun j hj => by rw [← e j hj]; exact h1 j hj⟩
def g_length : Pm := fun ds R => ∃ (F : Fl) (ns : List Int), ds = [eFl F, .list (ns.map .int)] ∧ GoodFl 50 F ∧ ns.length = F.jobs.length ∧ ∀ m, IsLen F (st ns) m → R (.int m)
abbrev e_length : FnE := ⟨"length", 2, false, g_length⟩
theorem length_ap {F : Fl} {ns : List Int} {Q : PyData → Prop} (hF : GoodFl 50 F) (hl : ns.length = F.jobs.length) (q : ∀ m, IsLen F (st ns) m → Q (.int m)) : g_length [eFl F, .list (ns.map .int)] Q := ⟨F, ns, rfl, hF, hl, q⟩
theorem len_gen {F : Fl} {ns : List Int} {R : PyData → Prop} (hF : GoodFl 50 F) (q : ∀ m, IsLen F (st ns) m → R (.int m)) : ∃ ms : List Int, (List.range F.jobs.length).map (fun k => PyData.int (st ns k + F.h k)) = ms.map .int ∧ 0 < ms.length ∧ ∀ m, m ∈ ms → (∀ y, y ∈ ms → y ≤ m) → R (.int m) := by
  have j1 := hF.j1
  refine ⟨(List.range F.jobs.length).map fun k => st ns k + F.h k, by rw [List.map_map]; rfl, by simp; omega, fun m hm hy => q m ⟨?_, fun k hk => hy _ (List.mem_map_of_mem (List.mem_range.mpr hk))⟩⟩
  obtain ⟨k, hk, e⟩ := List.mem_map.mp hm
  exact ⟨k, List.mem_range.mp hk, e.symm⟩
theorem sem_length : ∀ ds R, ds.length = 2 → g_length ds R → wpSs (Gof []) ir_length (startE 3 ds) { nx := fun _ => false = false ∧ R .none, rt := R } := by
  rintro _ R _ ⟨F, ns, rfl, hF, hl, q⟩
  have j2 := hF.j2
  (try simp only [ir_length, ↓wpSs, ↓wpS, ↓wpE, ↓wpEs, ↓wpBop, ↓wpIfs, ↓wpIt, ↓pk, ↓bindT, ↓ownL, ↓lockIt, ↓unlockIt, isT, ↓setAll, ↓wipeE, ↓startE, ↓Tg.slots, ↓IEs.fine, ↓IEs.len, ↓noOwn, ↓isOwnE, ↓Sl.isO, ↓Ev.freeAll, List.replicate, if_true, if_false, reduceIte, Nat.reduceLeDiff, Nat.reduceSub, Nat.reduceAdd, eq_self, reduceCtorEq, Int.reduceLT, Nat.reduceLT, ↓wpl, wpu])
  refine ⟨by omega, by omega, ?_⟩
  refine compL_map (fun k : Nat => .int (st ns k + F.h k)) (fun k hk K h => ?_) (len_gen hF q)
  have hk := List.mem_range.mp hk
  (try simp only [↓wpSs, ↓wpS, ↓wpE, ↓wpEs, ↓wpBop, ↓wpIfs, ↓wpIt, ↓pk, ↓bindT, ↓ownL, ↓lockIt, ↓unlockIt, isT, ↓setAll, ↓wipeE, ↓startE, ↓Tg.slots, ↓IEs.fine, ↓IEs.len, ↓noOwn, ↓isOwnE, ↓Sl.isO, ↓Ev.freeAll, List.replicate, if_true, if_false, reduceIte, Nat.reduceLeDiff, Nat.reduceSub, Nat.reduceAdd, eq_self, reduceCtorEq, Int.reduceLT, Nat.reduceLT, ↓wpl, wpu])
  refine at_map (st_get (by omega)) ?_
  (try simp only [↓wpSs, ↓wpS, ↓wpE, ↓wpEs, ↓wpBop, ↓wpIfs, ↓wpIt, ↓pk, ↓bindT, ↓ownL, ↓lockIt, ↓unlockIt, isT, ↓setAll, ↓wipeE, ↓startE, ↓Tg.slots, ↓IEs.fine, ↓IEs.len, ↓noOwn, ↓isOwnE, ↓Sl.isO, ↓Ev.freeAll, List.replicate, if_true, if_false, reduceIte, Nat.reduceLeDiff, Nat.reduceSub, Nat.reduceAdd, eq_self, reduceCtorEq, Int.reduceLT, Nat.reduceLT, ↓wpl, wpu])
  refine at_map (get_job hk) ?_
  (try simp only [↓wpSs, ↓wpS, ↓wpE, ↓wpEs, ↓wpBop, ↓wpIfs, ↓wpIt, ↓pk, ↓bindT, ↓ownL, ↓lockIt, ↓unlockIt, isT, ↓setAll, ↓wipeE, ↓startE, ↓Tg.slots, ↓IEs.fine, ↓IEs.len, ↓noOwn, ↓isOwnE, ↓Sl.isO, ↓Ev.freeAll, List.replicate, if_true, if_false, reduceIte, Nat.reduceLeDiff, Nat.reduceSub, Nat.reduceAdd, eq_self, reduceCtorEq, Int.reduceLT, Nat.reduceLT, ↓wpl, wpu])
  exact h
abbrev g_l_length : Pm := g_length
abbrev e_l_length : FnE := ⟨"_law_length", 2, false, g_l_length⟩
theorem sem_l_length : ∀ ds R, ds.length = 2 → g_l_length ds R → wpSs (Gof []) ir_l_length (startE 3 ds) { nx := fun _ => false = false ∧ R .none, rt := R } := by
  rintro _ R _ ⟨F, ns, rfl, hF, hl, q⟩
  have j2 := hF.j2
  (try simp only [ir_l_length, ↓wpSs, ↓wpS, ↓wpE, ↓wpEs, ↓wpBop, ↓wpIfs, ↓wpIt, ↓pk, ↓bindT, ↓ownL, ↓lockIt, ↓unlockIt, isT, ↓setAll, ↓wipeE, ↓startE, ↓Tg.slots, ↓IEs.fine, ↓IEs.len, ↓noOwn, ↓isOwnE, ↓Sl.isO, ↓Ev.freeAll, List.replicate, if_true, if_false, reduceIte, Nat.reduceLeDiff, Nat.reduceSub, Nat.reduceAdd, eq_self, reduceCtorEq, Int.reduceLT, Nat.reduceLT, ↓wpl, wpu])
  rw [hl]
  refine ⟨by omega, by omega, ?_⟩
  refine compL_map (fun k : Nat => .int (st ns k + F.h k)) (fun k hk K h => ?_) (len_gen hF q)
  have hk := List.mem_range.mp hk
  (try simp only [↓wpSs, ↓wpS, ↓wpE, ↓wpEs, ↓wpBop, ↓wpIfs, ↓wpIt, ↓pk, ↓bindT, ↓ownL, ↓lockIt, ↓unlockIt, isT, ↓setAll, ↓wipeE, ↓startE, ↓Tg.slots, ↓IEs.fine, ↓IEs.len, ↓noOwn, ↓isOwnE, ↓Sl.isO, ↓Ev.freeAll, List.replicate, if_true, if_false, reduceIte, Nat.reduceLeDiff, Nat.reduceSub, Nat.reduceAdd, eq_self, reduceCtorEq, Int.reduceLT, Nat.reduceLT, ↓wpl, wpu])
  refine at_map (st_get (by omega)) ?_
  (try simp only [↓wpSs, ↓wpS, ↓wpE, ↓wpEs, ↓wpBop, ↓wpIfs, ↓wpIt, ↓pk, ↓bindT, ↓ownL, ↓lockIt, ↓unlockIt, isT, ↓setAll, ↓wipeE, ↓startE, ↓Tg.slots, ↓IEs.fine, ↓IEs.len, ↓noOwn, ↓isOwnE, ↓Sl.isO, ↓Ev.freeAll, List.replicate, if_true, if_false, reduceIte, Nat.reduceLeDiff, Nat.reduceSub, Nat.reduceAdd, eq_self, reduceCtorEq, Int.reduceLT, Nat.reduceLT, ↓wpl, wpu])
  refine at_map (get_job hk) ?_
  (try simp only [↓wpSs, ↓wpS, ↓wpE, ↓wpEs, ↓wpBop, ↓wpIfs, ↓wpIt, ↓pk, ↓bindT, ↓ownL, ↓lockIt, ↓unlockIt, isT, ↓setAll, ↓wipeE, ↓startE, ↓Tg.slots, ↓IEs.fine, ↓IEs.len, ↓noOwn, ↓isOwnE, ↓Sl.isO, ↓Ev.freeAll, List.replicate, if_true, if_false, reduceIte, Nat.reduceLeDiff, Nat.reduceSub, Nat.reduceAdd, eq_self, reduceCtorEq, Int.reduceLT, Nat.reduceLT, ↓wpl, wpu])
  exact h
/-! orders, crews -/
def KeepO (F : Fl) (S : Nat → Int) : Prop := ∀ o ∈ F.orders, S o.1 + F.h o.1 ≤ S o.2
def CapOk (F : Fl) (S : Nat → Int) : Prop := ∀ k, k < F.jobs.length → ∀ c, c < F.crews.length → wk F S c (S k) ≤ F.crews.getD c 0
def g_keeps_orders : Pm := fun ds R => ∃ (F : Fl) (ns : List Int), ds = [eFl F, .list (ns.map .int)] ∧ GoodFl 50 F ∧ ns.length = F.jobs.length ∧ (KeepO F (st ns) → R (.bool true)) ∧ (¬ KeepO F (st ns) → R (.bool false))
abbrev e_keeps_orders : FnE := ⟨"keeps_orders", 2, false, g_keeps_orders⟩
theorem forL_pred {α : Type} {step : PyData → Ev → Kt → Prop} {g : α → PyData} {D : Kt} {r : Ev} {l : List α} (p : α → Prop) (ht : (∀ a ∈ l, p a) → D.nx r)
    (hs : ∀ (a : α) (K : Ev → Prop), a ∈ l → (p a → K r) → step (g a) r { nx := K, ct := K, bk := D.nx, rt := D.rt }) : forL step (l.map g) D r := by
  refine forL_map (fun i r' => r' = r ∧ ∀ k a, k < i → l[k]? = some a → p a) ⟨rfl, fun k a h => by omega⟩ ?_ ?_
  · rintro _ ⟨rfl, h⟩
    refine ht fun a ha => ?_
    obtain ⟨i, hi, e⟩ := List.mem_iff_getElem.mp ha
    exact h i a hi (by rw [← e]; exact mem_at hi)
  · rintro i a _ K hi ⟨rfl, h⟩ hK
    refine hs a K (List.mem_of_getElem? hi) fun hp => hK _ ⟨rfl, fun k b hk hb => ?_⟩
    rcases Nat.lt_or_ge k i with h' | h'
    · exact h k b h' hb
    · have e : k = i := by omega
      subst e
      rw [hi] at hb
      cases hb
      exact hp
theorem sem_keeps_orders : ∀ ds R, ds.length = 2 → g_keeps_orders ds R → wpSs (Gof []) ir_keeps_orders (startE 4 ds) { nx := fun _ => false = false ∧ R .none, rt := R } := by
  rintro _ R _ ⟨F, ns, rfl, hF, hl, qt, qf⟩
  (try simp only [ir_keeps_orders, ↓wpSs, ↓wpS, ↓wpE, ↓wpEs, ↓wpBop, ↓wpIfs, ↓wpIt, ↓pk, ↓bindT, ↓ownL, ↓lockIt, ↓unlockIt, isT, ↓setAll, ↓wipeE, ↓startE, ↓Tg.slots, ↓IEs.fine, ↓IEs.len, ↓noOwn, ↓isOwnE, ↓Sl.isO, ↓Ev.freeAll, List.replicate, if_true, if_false, reduceIte, Nat.reduceLeDiff, Nat.reduceSub, Nat.reduceAdd, eq_self, reduceCtorEq, Int.reduceLT, Nat.reduceLT, ↓wpl, wpu])
  refine forL_pred (fun o => st ns o.1 + F.h o.1 ≤ st ns o.2) (fun h => by (try simp only [ir_keeps_orders_t0, ↓wpSs, ↓wpS, ↓wpE, ↓wpEs, ↓wpBop, ↓wpIfs, ↓wpIt, ↓pk, ↓bindT, ↓ownL, ↓lockIt, ↓unlockIt, isT, ↓setAll, ↓wipeE, ↓startE, ↓Tg.slots, ↓IEs.fine, ↓IEs.len, ↓noOwn, ↓isOwnE, ↓Sl.isO, ↓Ev.freeAll, List.replicate, if_true, if_false, reduceIte, Nat.reduceLeDiff, Nat.reduceSub, Nat.reduceAdd, eq_self, reduceCtorEq, Int.reduceLT, Nat.reduceLT, ↓wpl, wpu]); exact qt h) fun o K ho hK => ?_
  obtain ⟨h1, h2, _⟩ := ord_ok hF ho
  have eh : (F.jobs.getD o.1 (0, [])).1 = F.h o.1 := rfl
  (try simp only [ir_keeps_orders_b0, ex_ord, ↓wpSs, ↓wpS, ↓wpE, ↓wpEs, ↓wpBop, ↓wpIfs, ↓wpIt, ↓pk, ↓bindT, ↓ownL, ↓lockIt, ↓unlockIt, isT, ↓setAll, ↓wipeE, ↓startE, ↓Tg.slots, ↓IEs.fine, ↓IEs.len, ↓noOwn, ↓isOwnE, ↓Sl.isO, ↓Ev.freeAll, List.replicate, if_true, if_false, reduceIte, Nat.reduceLeDiff, Nat.reduceSub, Nat.reduceAdd, eq_self, reduceCtorEq, Int.reduceLT, Nat.reduceLT, ↓wpl, wpu])
  refine at_map (st_get (by omega)) ?_
  (try simp only [↓wpSs, ↓wpS, ↓wpE, ↓wpEs, ↓wpBop, ↓wpIfs, ↓wpIt, ↓pk, ↓bindT, ↓ownL, ↓lockIt, ↓unlockIt, isT, ↓setAll, ↓wipeE, ↓startE, ↓Tg.slots, ↓IEs.fine, ↓IEs.len, ↓noOwn, ↓isOwnE, ↓Sl.isO, ↓Ev.freeAll, List.replicate, if_true, if_false, reduceIte, Nat.reduceLeDiff, Nat.reduceSub, Nat.reduceAdd, eq_self, reduceCtorEq, Int.reduceLT, Nat.reduceLT, ↓wpl, wpu])
  refine at_map (get_job h1) ?_
  (try simp only [↓wpSs, ↓wpS, ↓wpE, ↓wpEs, ↓wpBop, ↓wpIfs, ↓wpIt, ↓pk, ↓bindT, ↓ownL, ↓lockIt, ↓unlockIt, isT, ↓setAll, ↓wipeE, ↓startE, ↓Tg.slots, ↓IEs.fine, ↓IEs.len, ↓noOwn, ↓isOwnE, ↓Sl.isO, ↓Ev.freeAll, List.replicate, if_true, if_false, reduceIte, Nat.reduceLeDiff, Nat.reduceSub, Nat.reduceAdd, eq_self, reduceCtorEq, Int.reduceLT, Nat.reduceLT, ↓wpl, wpu])
  refine at_map (st_get (by omega)) ?_
  (try simp only [↓wpSs, ↓wpS, ↓wpE, ↓wpEs, ↓wpBop, ↓wpIfs, ↓wpIt, ↓pk, ↓bindT, ↓ownL, ↓lockIt, ↓unlockIt, isT, ↓setAll, ↓wipeE, ↓startE, ↓Tg.slots, ↓IEs.fine, ↓IEs.len, ↓noOwn, ↓isOwnE, ↓Sl.isO, ↓Ev.freeAll, List.replicate, if_true, if_false, reduceIte, Nat.reduceLeDiff, Nat.reduceSub, Nat.reduceAdd, eq_self, reduceCtorEq, Int.reduceLT, Nat.reduceLT, ↓wpl, wpu])
  rw [eh]
  split
  · rename_i h
    exact qf fun hk => by have := hk o ho; omega
  · rename_i h
    exact hK (by omega)
def g_too_many : Pm := fun ds R => ∃ (F : Fl) (ns : List Int), ds = [eFl F, .list (ns.map .int)] ∧ GoodFl 50 F ∧ ns.length = F.jobs.length ∧ (CapOk F (st ns) → R .none) ∧
  ∀ k c, k < F.jobs.length → c < F.crews.length → F.crews.getD c 0 < wk F (st ns) c (st ns k) → (∀ j, j < F.jobs.length → st ns j < st ns k → ∀ c', c' < F.crews.length → wk F (st ns) c' (st ns j) ≤ F.crews.getD c' 0) → R (.tuple [.int (st ns k), .int c])
abbrev e_too_many : FnE := ⟨"too_many", 2, false, g_too_many⟩
theorem mem_st_iff {ns : List Int} {x : Int} : x ∈ ns ↔ ∃ k, k < ns.length ∧ x = st ns k := by
  constructor
  · intro h
    obtain ⟨i, hi, e⟩ := List.mem_iff_getElem.mp h
    exact ⟨i, hi, by unfold st; rw [getD_of hi]; exact e.symm⟩
  · rintro ⟨k, hk, e⟩
    unfold st at e
    rw [getD_of hk] at e
    rw [e]
    exact List.getElem_mem hk
theorem sem_too_many : ∀ ds R, ds.length = 2 → g_too_many ds R → wpSs (Gof [e_at_work]) ir_too_many (startE 4 ds) { nx := fun _ => false = false ∧ R .none, rt := R } := by
  rintro _ R _ ⟨F, ns, rfl, hF, hl, qn, qt⟩
  have j2 := hF.j2
  have c4 := hF.c.2.1
  (try simp only [ir_too_many, ↓wpSs, ↓wpS, ↓wpE, ↓wpEs, ↓wpBop, ↓wpIfs, ↓wpIt, ↓pk, ↓bindT, ↓ownL, ↓lockIt, ↓unlockIt, isT, ↓setAll, ↓wipeE, ↓startE, ↓Tg.slots, ↓IEs.fine, ↓IEs.len, ↓noOwn, ↓isOwnE, ↓Sl.isO, ↓Ev.freeAll, List.replicate, if_true, if_false, reduceIte, Nat.reduceLeDiff, Nat.reduceSub, Nat.reduceAdd, eq_self, reduceCtorEq, Int.reduceLT, Nat.reduceLT, ↓wpl, wpu])
  refine ⟨ns, rfl, by omega, fun hs hnd hmem hsort => ?_⟩
  (try simp only [↓wpSs, ↓wpS, ↓wpE, ↓wpEs, ↓wpBop, ↓wpIfs, ↓wpIt, ↓pk, ↓bindT, ↓ownL, ↓lockIt, ↓unlockIt, isT, ↓setAll, ↓wipeE, ↓startE, ↓Tg.slots, ↓IEs.fine, ↓IEs.len, ↓noOwn, ↓isOwnE, ↓Sl.isO, ↓Ev.freeAll, List.replicate, if_true, if_false, reduceIte, Nat.reduceLeDiff, Nat.reduceSub, Nat.reduceAdd, eq_self, reduceCtorEq, Int.reduceLT, Nat.reduceLT, ↓wpl, wpu])
  refine forL_map (fun i r => r = [.val (eFl F), .val (.list (ns.map .int)), .un, .un] ∧ ∀ j x, j < i → hs[j]? = some x → ∀ c, c < F.crews.length → wk F (st ns) c x ≤ F.crews.getD c 0) ⟨rfl, fun j x h => by omega⟩ ?_ ?_
  · rintro _ ⟨rfl, h⟩
    (try simp only [ir_too_many_t0, ↓wpSs, ↓wpS, ↓wpE, ↓wpEs, ↓wpBop, ↓wpIfs, ↓wpIt, ↓pk, ↓bindT, ↓ownL, ↓lockIt, ↓unlockIt, isT, ↓setAll, ↓wipeE, ↓startE, ↓Tg.slots, ↓IEs.fine, ↓IEs.len, ↓noOwn, ↓isOwnE, ↓Sl.isO, ↓Ev.freeAll, List.replicate, if_true, if_false, reduceIte, Nat.reduceLeDiff, Nat.reduceSub, Nat.reduceAdd, eq_self, reduceCtorEq, Int.reduceLT, Nat.reduceLT, ↓wpl, wpu])
    refine qn fun k hk c hc => ?_
    obtain ⟨i, hi, e⟩ := List.mem_iff_getElem.mp ((hmem (st ns k)).mpr (mem_st_iff.mpr ⟨k, by omega, rfl⟩))
    have := h i (st ns k) hi (by rw [← e]; exact mem_at hi) c hc
    exact this
  · rintro i x _ K hi ⟨rfl, h⟩ hK
    have hx := (hmem x).mp (List.mem_of_getElem? hi)
    obtain ⟨k, hk, rfl⟩ := mem_st_iff.mp hx
    (try simp only [ir_too_many_b1, ↓wpSs, ↓wpS, ↓wpE, ↓wpEs, ↓wpBop, ↓wpIfs, ↓wpIt, ↓pk, ↓bindT, ↓ownL, ↓lockIt, ↓unlockIt, isT, ↓setAll, ↓wipeE, ↓startE, ↓Tg.slots, ↓IEs.fine, ↓IEs.len, ↓noOwn, ↓isOwnE, ↓Sl.isO, ↓Ev.freeAll, List.replicate, if_true, if_false, reduceIte, Nat.reduceLeDiff, Nat.reduceSub, Nat.reduceAdd, eq_self, reduceCtorEq, Int.reduceLT, Nat.reduceLT, ↓wpl, wpu])
    refine ⟨by omega, ?_⟩
    refine forL_pred (fun c : Nat => wk F (st ns) c (st ns k) ≤ F.crews.getD c 0) (fun hall => ?_) fun c K' hc hK' => ?_
    · (try simp only [↓wpSs, ↓wpS, ↓wpE, ↓wpEs, ↓wpBop, ↓wpIfs, ↓wpIt, ↓pk, ↓bindT, ↓ownL, ↓lockIt, ↓unlockIt, isT, ↓setAll, ↓wipeE, ↓startE, ↓Tg.slots, ↓IEs.fine, ↓IEs.len, ↓noOwn, ↓isOwnE, ↓Sl.isO, ↓Ev.freeAll, List.replicate, if_true, if_false, reduceIte, Nat.reduceLeDiff, Nat.reduceSub, Nat.reduceAdd, eq_self, reduceCtorEq, Int.reduceLT, Nat.reduceLT, ↓wpl, wpu])
      refine hK _ ⟨rfl, fun j y hj hy c hc => ?_⟩
      rcases Nat.lt_or_ge j i with h' | h'
      · exact h j y h' hy c hc
      · have e : j = i := by omega
        subst e
        rw [hi] at hy
        cases hy
        exact hall c (List.mem_range.mpr hc)
    · have hc := List.mem_range.mp hc
      (try simp only [ir_too_many_b0, ↓wpSs, ↓wpS, ↓wpE, ↓wpEs, ↓wpBop, ↓wpIfs, ↓wpIt, ↓pk, ↓bindT, ↓ownL, ↓lockIt, ↓unlockIt, isT, ↓setAll, ↓wipeE, ↓startE, ↓Tg.slots, ↓IEs.fine, ↓IEs.len, ↓noOwn, ↓isOwnE, ↓Sl.isO, ↓Ev.freeAll, List.replicate, if_true, if_false, reduceIte, Nat.reduceLeDiff, Nat.reduceSub, Nat.reduceAdd, eq_self, reduceCtorEq, Int.reduceLT, Nat.reduceLT, ↓wpl, wpu])
      refine at_work_ap hF hl hc ?_
      (try simp only [↓wpSs, ↓wpS, ↓wpE, ↓wpEs, ↓wpBop, ↓wpIfs, ↓wpIt, ↓pk, ↓bindT, ↓ownL, ↓lockIt, ↓unlockIt, isT, ↓setAll, ↓wipeE, ↓startE, ↓Tg.slots, ↓IEs.fine, ↓IEs.len, ↓noOwn, ↓isOwnE, ↓Sl.isO, ↓Ev.freeAll, List.replicate, if_true, if_false, reduceIte, Nat.reduceLeDiff, Nat.reduceSub, Nat.reduceAdd, eq_self, reduceCtorEq, Int.reduceLT, Nat.reduceLT, ↓wpl, wpu])
      refine at_map (mem_at hc) ?_
      rw [getD_of hc] at hK'
      (try simp only [↓wpSs, ↓wpS, ↓wpE, ↓wpEs, ↓wpBop, ↓wpIfs, ↓wpIt, ↓pk, ↓bindT, ↓ownL, ↓lockIt, ↓unlockIt, isT, ↓setAll, ↓wipeE, ↓startE, ↓Tg.slots, ↓IEs.fine, ↓IEs.len, ↓noOwn, ↓isOwnE, ↓Sl.isO, ↓Ev.freeAll, List.replicate, if_true, if_false, reduceIte, Nat.reduceLeDiff, Nat.reduceSub, Nat.reduceAdd, eq_self, reduceCtorEq, Int.reduceLT, Nat.reduceLT, ↓wpl, wpu])
      split
      · rename_i hlt
        refine qt k c (by omega) hc (by rw [getD_of hc]; exact hlt) fun j hj hlt' c' hc' => ?_
        obtain ⟨m, hm, e⟩ := List.mem_iff_getElem.mp ((hmem (st ns j)).mpr (mem_st_iff.mpr ⟨j, by omega, rfl⟩))
        have hil := (List.getElem?_eq_some_iff.mp hi).1
        have hie := (List.getElem?_eq_some_iff.mp hi).2
        have hmi : m < i := by
          rcases Nat.lt_or_ge m i with h' | h'
          · exact h'
          · exfalso
            rcases Nat.eq_or_lt_of_le h' with h2 | h2
            · subst h2
              omega
            · have := List.pairwise_iff_getElem.mp hsort i m hil hm h2
              omega
        have := h m (st ns j) hmi (by rw [← e]; exact mem_at hm) c' hc'
        exact this
      · rename_i hlt
        exact hK' (by omega)
/-! whether starts make a plan -/
def PlanL (F : Fl) (ns : List Int) : Prop := ns.length = F.jobs.length ∧ (∀ x ∈ ns, 0 ≤ x) ∧ KeepO F (st ns) ∧ CapOk F (st ns)
def g_is_plan : Pm := fun ds R => ∃ (F : Fl) (ns : List Int), ds = [eFl F, .list (ns.map .int)] ∧ GoodFl 50 F ∧ ns.length ≤ 60 ∧ (PlanL F ns → R (.bool true)) ∧ (¬ PlanL F ns → R (.bool false))
abbrev e_is_plan : FnE := ⟨"is_plan", 2, false, g_is_plan⟩
theorem is_plan_ap {F : Fl} {ns : List Int} {Q : PyData → Prop} (hF : GoodFl 50 F) (hl : ns.length ≤ 60) (qt : PlanL F ns → Q (.bool true)) (qf : ¬ PlanL F ns → Q (.bool false)) : g_is_plan [eFl F, .list (ns.map .int)] Q := ⟨F, ns, rfl, hF, hl, qt, qf⟩
theorem sem_is_plan : ∀ ds R, ds.length = 2 → g_is_plan ds R → wpSs (Gof [e_too_many, e_keeps_orders]) ir_is_plan (startE 2 ds) { nx := fun _ => false = false ∧ R .none, rt := R } := by
  rintro _ R _ ⟨F, ns, rfl, hF, hl, qt, qf⟩
  have j1 := hF.j1
  have c4 := hF.c.2.1
  (try simp only [ir_is_plan, ↓wpSs, ↓wpS, ↓wpE, ↓wpEs, ↓wpBop, ↓wpIfs, ↓wpIt, ↓pk, ↓bindT, ↓ownL, ↓lockIt, ↓unlockIt, isT, ↓setAll, ↓wipeE, ↓startE, ↓Tg.slots, ↓IEs.fine, ↓IEs.len, ↓noOwn, ↓isOwnE, ↓Sl.isO, ↓Ev.freeAll, List.replicate, if_true, if_false, reduceIte, Nat.reduceLeDiff, Nat.reduceSub, Nat.reduceAdd, eq_self, reduceCtorEq, Int.reduceLT, Nat.reduceLT, ↓wpl, wpu])
  by_cases hlen : ns.length = F.jobs.length
  · have e : (ns.length : Int) = (F.jobs.length : Int) := by omega
    (try simp only [e, ↓wpSs, ↓wpS, ↓wpE, ↓wpEs, ↓wpBop, ↓wpIfs, ↓wpIt, ↓pk, ↓bindT, ↓ownL, ↓lockIt, ↓unlockIt, isT, ↓setAll, ↓wipeE, ↓startE, ↓Tg.slots, ↓IEs.fine, ↓IEs.len, ↓noOwn, ↓isOwnE, ↓Sl.isO, ↓Ev.freeAll, List.replicate, if_true, if_false, reduceIte, Nat.reduceLeDiff, Nat.reduceSub, Nat.reduceAdd, eq_self, reduceCtorEq, Int.reduceLT, Nat.reduceLT, ↓wpl, wpu])
    refine ⟨ns, rfl, by omega, fun m hm hmin => ?_⟩
    (try simp only [↓wpSs, ↓wpS, ↓wpE, ↓wpEs, ↓wpBop, ↓wpIfs, ↓wpIt, ↓pk, ↓bindT, ↓ownL, ↓lockIt, ↓unlockIt, isT, ↓setAll, ↓wipeE, ↓startE, ↓Tg.slots, ↓IEs.fine, ↓IEs.len, ↓noOwn, ↓isOwnE, ↓Sl.isO, ↓Ev.freeAll, List.replicate, if_true, if_false, reduceIte, Nat.reduceLeDiff, Nat.reduceSub, Nat.reduceAdd, eq_self, reduceCtorEq, Int.reduceLT, Nat.reduceLT, ↓wpl, wpu])
    split
    · rename_i h0
      exact qf fun hp => by have := hp.2.1 m hm; omega
    · rename_i h0
      have hnn : ∀ x ∈ ns, 0 ≤ x := fun x hx => by have := hmin x hx; omega
      (try simp only [ir_is_plan_t0, ↓wpSs, ↓wpS, ↓wpE, ↓wpEs, ↓wpBop, ↓wpIfs, ↓wpIt, ↓pk, ↓bindT, ↓ownL, ↓lockIt, ↓unlockIt, isT, ↓setAll, ↓wipeE, ↓startE, ↓Tg.slots, ↓IEs.fine, ↓IEs.len, ↓noOwn, ↓isOwnE, ↓Sl.isO, ↓Ev.freeAll, List.replicate, if_true, if_false, reduceIte, Nat.reduceLeDiff, Nat.reduceSub, Nat.reduceAdd, eq_self, reduceCtorEq, Int.reduceLT, Nat.reduceLT, ↓wpl, wpu])
      refine ⟨F, ns, rfl, hF, hlen, fun hk => ?_, fun hk => ?_⟩
      · (try simp only [↓wpSs, ↓wpS, ↓wpE, ↓wpEs, ↓wpBop, ↓wpIfs, ↓wpIt, ↓pk, ↓bindT, ↓ownL, ↓lockIt, ↓unlockIt, isT, ↓setAll, ↓wipeE, ↓startE, ↓Tg.slots, ↓IEs.fine, ↓IEs.len, ↓noOwn, ↓isOwnE, ↓Sl.isO, ↓Ev.freeAll, List.replicate, if_true, if_false, reduceIte, Nat.reduceLeDiff, Nat.reduceSub, Nat.reduceAdd, eq_self, reduceCtorEq, Int.reduceLT, Nat.reduceLT, ↓wpl, wpu])
        refine ⟨F, ns, rfl, hF, hlen, fun hc => ?_, fun k c hk' hc hov _ => ?_⟩
        · (try simp only [↓wpSs, ↓wpS, ↓wpE, ↓wpEs, ↓wpBop, ↓wpIfs, ↓wpIt, ↓pk, ↓bindT, ↓ownL, ↓lockIt, ↓unlockIt, isT, ↓setAll, ↓wipeE, ↓startE, ↓Tg.slots, ↓IEs.fine, ↓IEs.len, ↓noOwn, ↓isOwnE, ↓Sl.isO, ↓Ev.freeAll, List.replicate, if_true, if_false, reduceIte, Nat.reduceLeDiff, Nat.reduceSub, Nat.reduceAdd, eq_self, reduceCtorEq, Int.reduceLT, Nat.reduceLT, ↓wpl, wpu])
          exact qt ⟨hlen, hnn, hk, hc⟩
        · (try simp only [↓wpSs, ↓wpS, ↓wpE, ↓wpEs, ↓wpBop, ↓wpIfs, ↓wpIt, ↓pk, ↓bindT, ↓ownL, ↓lockIt, ↓unlockIt, isT, ↓setAll, ↓wipeE, ↓startE, ↓Tg.slots, ↓IEs.fine, ↓IEs.len, ↓noOwn, ↓isOwnE, ↓Sl.isO, ↓Ev.freeAll, List.replicate, if_true, if_false, reduceIte, Nat.reduceLeDiff, Nat.reduceSub, Nat.reduceAdd, eq_self, reduceCtorEq, Int.reduceLT, Nat.reduceLT, ↓wpl, wpu])
          exact qf fun hp => by have := hp.2.2.2 k hk' c hc; omega
      · (try simp only [↓wpSs, ↓wpS, ↓wpE, ↓wpEs, ↓wpBop, ↓wpIfs, ↓wpIt, ↓pk, ↓bindT, ↓ownL, ↓lockIt, ↓unlockIt, isT, ↓setAll, ↓wipeE, ↓startE, ↓Tg.slots, ↓IEs.fine, ↓IEs.len, ↓noOwn, ↓isOwnE, ↓Sl.isO, ↓Ev.freeAll, List.replicate, if_true, if_false, reduceIte, Nat.reduceLeDiff, Nat.reduceSub, Nat.reduceAdd, eq_self, reduceCtorEq, Int.reduceLT, Nat.reduceLT, ↓wpl, wpu])
        exact qf fun hp => hk hp.2.2.1
  · have e : ¬ (ns.length : Int) = (F.jobs.length : Int) := by omega
    (try simp only [e, ↓wpSs, ↓wpS, ↓wpE, ↓wpEs, ↓wpBop, ↓wpIfs, ↓wpIt, ↓pk, ↓bindT, ↓ownL, ↓lockIt, ↓unlockIt, isT, ↓setAll, ↓wipeE, ↓startE, ↓Tg.slots, ↓IEs.fine, ↓IEs.len, ↓noOwn, ↓isOwnE, ↓Sl.isO, ↓Ev.freeAll, List.replicate, if_true, if_false, reduceIte, Nat.reduceLeDiff, Nat.reduceSub, Nat.reduceAdd, eq_self, reduceCtorEq, Int.reduceLT, Nat.reduceLT, ↓wpl, wpu])
    exact qf fun hp => hlen hp.1
abbrev g_l_is_plan : Pm := g_is_plan
abbrev e_l_is_plan : FnE := ⟨"_law_is_plan", 2, false, g_l_is_plan⟩
theorem sem_l_is_plan : ∀ ds R, ds.length = 2 → g_l_is_plan ds R → wpSs (Gof [e_l_at_work]) ir_l_is_plan (startE 6 ds) { nx := fun _ => false = false ∧ R .none, rt := R } := by
  rintro _ R _ ⟨F, ns, rfl, hF, hl, qt, qf⟩
  have j1 := hF.j1
  have c4 := hF.c.2.1
  (try simp only [ir_l_is_plan, ↓wpSs, ↓wpS, ↓wpE, ↓wpEs, ↓wpBop, ↓wpIfs, ↓wpIt, ↓pk, ↓bindT, ↓ownL, ↓lockIt, ↓unlockIt, isT, ↓setAll, ↓wipeE, ↓startE, ↓Tg.slots, ↓IEs.fine, ↓IEs.len, ↓noOwn, ↓isOwnE, ↓Sl.isO, ↓Ev.freeAll, List.replicate, if_true, if_false, reduceIte, Nat.reduceLeDiff, Nat.reduceSub, Nat.reduceAdd, eq_self, reduceCtorEq, Int.reduceLT, Nat.reduceLT, ↓wpl, wpu])
  by_cases hlen : ns.length = F.jobs.length
  · have e : (ns.length : Int) = (F.jobs.length : Int) := by omega
    (try simp only [e, ↓wpSs, ↓wpS, ↓wpE, ↓wpEs, ↓wpBop, ↓wpIfs, ↓wpIt, ↓pk, ↓bindT, ↓ownL, ↓lockIt, ↓unlockIt, isT, ↓setAll, ↓wipeE, ↓startE, ↓Tg.slots, ↓IEs.fine, ↓IEs.len, ↓noOwn, ↓isOwnE, ↓Sl.isO, ↓Ev.freeAll, List.replicate, if_true, if_false, reduceIte, Nat.reduceLeDiff, Nat.reduceSub, Nat.reduceAdd, eq_self, reduceCtorEq, Int.reduceLT, Nat.reduceLT, ↓wpl, wpu])
    refine ⟨by omega, ?_⟩
    refine compL_if (fun x : Int => decide (x < 0)) .int (fun x _ k h1 h2 => ?_) ?_
    · (try simp only [↓wpSs, ↓wpS, ↓wpE, ↓wpEs, ↓wpBop, ↓wpIfs, ↓wpIt, ↓pk, ↓bindT, ↓ownL, ↓lockIt, ↓unlockIt, isT, ↓setAll, ↓wipeE, ↓startE, ↓Tg.slots, ↓IEs.fine, ↓IEs.len, ↓noOwn, ↓isOwnE, ↓Sl.isO, ↓Ev.freeAll, List.replicate, if_true, if_false, reduceIte, Nat.reduceLeDiff, Nat.reduceSub, Nat.reduceAdd, eq_self, reduceCtorEq, Int.reduceLT, Nat.reduceLT, ↓wpl, wpu])
      by_cases hx : x < 0
      · rw [if_pos hx]
        exact h1 (decide_eq_true hx)
      · rw [if_neg hx]
        exact h2 (decide_eq_false hx)
    · (try simp only [shp_ints, shp_nil, eqv_nilr, ↓wpSs, ↓wpS, ↓wpE, ↓wpEs, ↓wpBop, ↓wpIfs, ↓wpIt, ↓pk, ↓bindT, ↓ownL, ↓lockIt, ↓unlockIt, isT, ↓setAll, ↓wipeE, ↓startE, ↓Tg.slots, ↓IEs.fine, ↓IEs.len, ↓noOwn, ↓isOwnE, ↓Sl.isO, ↓Ev.freeAll, List.replicate, if_true, if_false, reduceIte, Nat.reduceLeDiff, Nat.reduceSub, Nat.reduceAdd, eq_self, reduceCtorEq, Int.reduceLT, Nat.reduceLT, ↓wpl, wpu])
      by_cases hn : ns.filter (fun x => decide (x < 0)) = []
      · have hnn : ∀ x ∈ ns, 0 ≤ x := fun x hx => by
          have := List.filter_eq_nil_iff.mp hn x hx
          simp at this
          exact this
        rw [hn]
        (try simp only [List.isEmpty_nil, ir_l_is_plan_t2, ↓wpSs, ↓wpS, ↓wpE, ↓wpEs, ↓wpBop, ↓wpIfs, ↓wpIt, ↓pk, ↓bindT, ↓ownL, ↓lockIt, ↓unlockIt, isT, ↓setAll, ↓wipeE, ↓startE, ↓Tg.slots, ↓IEs.fine, ↓IEs.len, ↓noOwn, ↓isOwnE, ↓Sl.isO, ↓Ev.freeAll, List.replicate, if_true, if_false, reduceIte, Nat.reduceLeDiff, Nat.reduceSub, Nat.reduceAdd, eq_self, reduceCtorEq, Int.reduceLT, Nat.reduceLT, ↓wpl, wpu])
        refine forL_pred (fun o => st ns o.1 + F.h o.1 ≤ st ns o.2) (fun hk => ?_) fun o K ho hK => ?_
        · (try simp only [ir_l_is_plan_t1, ↓wpSs, ↓wpS, ↓wpE, ↓wpEs, ↓wpBop, ↓wpIfs, ↓wpIt, ↓pk, ↓bindT, ↓ownL, ↓lockIt, ↓unlockIt, isT, ↓setAll, ↓wipeE, ↓startE, ↓Tg.slots, ↓IEs.fine, ↓IEs.len, ↓noOwn, ↓isOwnE, ↓Sl.isO, ↓Ev.freeAll, List.replicate, if_true, if_false, reduceIte, Nat.reduceLeDiff, Nat.reduceSub, Nat.reduceAdd, eq_self, reduceCtorEq, Int.reduceLT, Nat.reduceLT, ↓wpl, wpu])
          refine ⟨by omega, ?_⟩
          refine forL_pred (fun c : Nat => ∀ k, k < F.jobs.length → wk F (st ns) c (st ns k) ≤ F.crews.getD c 0) (fun hc => ?_) fun c K hc hK => ?_
          · (try simp only [ir_l_is_plan_t0, ↓wpSs, ↓wpS, ↓wpE, ↓wpEs, ↓wpBop, ↓wpIfs, ↓wpIt, ↓pk, ↓bindT, ↓ownL, ↓lockIt, ↓unlockIt, isT, ↓setAll, ↓wipeE, ↓startE, ↓Tg.slots, ↓IEs.fine, ↓IEs.len, ↓noOwn, ↓isOwnE, ↓Sl.isO, ↓Ev.freeAll, List.replicate, if_true, if_false, reduceIte, Nat.reduceLeDiff, Nat.reduceSub, Nat.reduceAdd, eq_self, reduceCtorEq, Int.reduceLT, Nat.reduceLT, ↓wpl, wpu])
            exact qt ⟨hlen, hnn, hk, fun k hk' c hc' => hc c (List.mem_range.mpr hc') k hk'⟩
          · have hc := List.mem_range.mp hc
            (try simp only [ir_l_is_plan_b2, ↓wpSs, ↓wpS, ↓wpE, ↓wpEs, ↓wpBop, ↓wpIfs, ↓wpIt, ↓pk, ↓bindT, ↓ownL, ↓lockIt, ↓unlockIt, isT, ↓setAll, ↓wipeE, ↓startE, ↓Tg.slots, ↓IEs.fine, ↓IEs.len, ↓noOwn, ↓isOwnE, ↓Sl.isO, ↓Ev.freeAll, List.replicate, if_true, if_false, reduceIte, Nat.reduceLeDiff, Nat.reduceSub, Nat.reduceAdd, eq_self, reduceCtorEq, Int.reduceLT, Nat.reduceLT, ↓wpl, wpu])
            refine forL_pred (fun x => wk F (st ns) c x ≤ F.crews.getD c 0) (fun hall => ?_) fun x K' hx hK' => ?_
            · (try simp only [↓wpSs, ↓wpS, ↓wpE, ↓wpEs, ↓wpBop, ↓wpIfs, ↓wpIt, ↓pk, ↓bindT, ↓ownL, ↓lockIt, ↓unlockIt, isT, ↓setAll, ↓wipeE, ↓startE, ↓Tg.slots, ↓IEs.fine, ↓IEs.len, ↓noOwn, ↓isOwnE, ↓Sl.isO, ↓Ev.freeAll, List.replicate, if_true, if_false, reduceIte, Nat.reduceLeDiff, Nat.reduceSub, Nat.reduceAdd, eq_self, reduceCtorEq, Int.reduceLT, Nat.reduceLT, ↓wpl, wpu])
              exact hK fun k hk' => hall _ (mem_st_iff.mpr ⟨k, by omega, rfl⟩)
            · (try simp only [ir_l_is_plan_b1, ↓wpSs, ↓wpS, ↓wpE, ↓wpEs, ↓wpBop, ↓wpIfs, ↓wpIt, ↓pk, ↓bindT, ↓ownL, ↓lockIt, ↓unlockIt, isT, ↓setAll, ↓wipeE, ↓startE, ↓Tg.slots, ↓IEs.fine, ↓IEs.len, ↓noOwn, ↓isOwnE, ↓Sl.isO, ↓Ev.freeAll, List.replicate, if_true, if_false, reduceIte, Nat.reduceLeDiff, Nat.reduceSub, Nat.reduceAdd, eq_self, reduceCtorEq, Int.reduceLT, Nat.reduceLT, ↓wpl, wpu])
              refine at_work_ap hF hlen hc ?_
              (try simp only [↓wpSs, ↓wpS, ↓wpE, ↓wpEs, ↓wpBop, ↓wpIfs, ↓wpIt, ↓pk, ↓bindT, ↓ownL, ↓lockIt, ↓unlockIt, isT, ↓setAll, ↓wipeE, ↓startE, ↓Tg.slots, ↓IEs.fine, ↓IEs.len, ↓noOwn, ↓isOwnE, ↓Sl.isO, ↓Ev.freeAll, List.replicate, if_true, if_false, reduceIte, Nat.reduceLeDiff, Nat.reduceSub, Nat.reduceAdd, eq_self, reduceCtorEq, Int.reduceLT, Nat.reduceLT, ↓wpl, wpu])
              refine at_map (mem_at hc) ?_
              rw [getD_of hc] at hK'
              (try simp only [↓wpSs, ↓wpS, ↓wpE, ↓wpEs, ↓wpBop, ↓wpIfs, ↓wpIt, ↓pk, ↓bindT, ↓ownL, ↓lockIt, ↓unlockIt, isT, ↓setAll, ↓wipeE, ↓startE, ↓Tg.slots, ↓IEs.fine, ↓IEs.len, ↓noOwn, ↓isOwnE, ↓Sl.isO, ↓Ev.freeAll, List.replicate, if_true, if_false, reduceIte, Nat.reduceLeDiff, Nat.reduceSub, Nat.reduceAdd, eq_self, reduceCtorEq, Int.reduceLT, Nat.reduceLT, ↓wpl, wpu])
              split
              · rename_i hlt
                obtain ⟨k, hk', rfl⟩ := mem_st_iff.mp hx
                exact qf fun hp => by have := hp.2.2.2 k (by omega) c hc; rw [getD_of hc] at this; omega
              · rename_i hlt
                exact hK' (by omega)
        · obtain ⟨h1, h2, _⟩ := ord_ok hF ho
          have eh : (F.jobs.getD o.1 (0, [])).1 = F.h o.1 := rfl
          (try simp only [ir_l_is_plan_b0, ex_ord, ↓wpSs, ↓wpS, ↓wpE, ↓wpEs, ↓wpBop, ↓wpIfs, ↓wpIt, ↓pk, ↓bindT, ↓ownL, ↓lockIt, ↓unlockIt, isT, ↓setAll, ↓wipeE, ↓startE, ↓Tg.slots, ↓IEs.fine, ↓IEs.len, ↓noOwn, ↓isOwnE, ↓Sl.isO, ↓Ev.freeAll, List.replicate, if_true, if_false, reduceIte, Nat.reduceLeDiff, Nat.reduceSub, Nat.reduceAdd, eq_self, reduceCtorEq, Int.reduceLT, Nat.reduceLT, ↓wpl, wpu])
          refine at_map (st_get (by omega)) ?_
          (try simp only [↓wpSs, ↓wpS, ↓wpE, ↓wpEs, ↓wpBop, ↓wpIfs, ↓wpIt, ↓pk, ↓bindT, ↓ownL, ↓lockIt, ↓unlockIt, isT, ↓setAll, ↓wipeE, ↓startE, ↓Tg.slots, ↓IEs.fine, ↓IEs.len, ↓noOwn, ↓isOwnE, ↓Sl.isO, ↓Ev.freeAll, List.replicate, if_true, if_false, reduceIte, Nat.reduceLeDiff, Nat.reduceSub, Nat.reduceAdd, eq_self, reduceCtorEq, Int.reduceLT, Nat.reduceLT, ↓wpl, wpu])
          refine at_map (st_get (by omega)) ?_
          (try simp only [↓wpSs, ↓wpS, ↓wpE, ↓wpEs, ↓wpBop, ↓wpIfs, ↓wpIt, ↓pk, ↓bindT, ↓ownL, ↓lockIt, ↓unlockIt, isT, ↓setAll, ↓wipeE, ↓startE, ↓Tg.slots, ↓IEs.fine, ↓IEs.len, ↓noOwn, ↓isOwnE, ↓Sl.isO, ↓Ev.freeAll, List.replicate, if_true, if_false, reduceIte, Nat.reduceLeDiff, Nat.reduceSub, Nat.reduceAdd, eq_self, reduceCtorEq, Int.reduceLT, Nat.reduceLT, ↓wpl, wpu])
          refine at_map (get_job h1) ?_
          (try simp only [↓wpSs, ↓wpS, ↓wpE, ↓wpEs, ↓wpBop, ↓wpIfs, ↓wpIt, ↓pk, ↓bindT, ↓ownL, ↓lockIt, ↓unlockIt, isT, ↓setAll, ↓wipeE, ↓startE, ↓Tg.slots, ↓IEs.fine, ↓IEs.len, ↓noOwn, ↓isOwnE, ↓Sl.isO, ↓Ev.freeAll, List.replicate, if_true, if_false, reduceIte, Nat.reduceLeDiff, Nat.reduceSub, Nat.reduceAdd, eq_self, reduceCtorEq, Int.reduceLT, Nat.reduceLT, ↓wpl, wpu])
          rw [eh]
          split
          · rename_i h
            exact qf fun hp => by have := hp.2.2.1 o ho; omega
          · rename_i h
            exact hK (by omega)
      · have hb : (ns.filter fun x => decide (x < 0)).isEmpty = false := by
          cases e2 : ns.filter fun x => decide (x < 0) with
          | nil => exact absurd e2 hn
          | cons => rfl
        rw [hb]
        (try simp only [↓wpSs, ↓wpS, ↓wpE, ↓wpEs, ↓wpBop, ↓wpIfs, ↓wpIt, ↓pk, ↓bindT, ↓ownL, ↓lockIt, ↓unlockIt, isT, ↓setAll, ↓wipeE, ↓startE, ↓Tg.slots, ↓IEs.fine, ↓IEs.len, ↓noOwn, ↓isOwnE, ↓Sl.isO, ↓Ev.freeAll, List.replicate, if_true, if_false, reduceIte, Nat.reduceLeDiff, Nat.reduceSub, Nat.reduceAdd, eq_self, reduceCtorEq, Int.reduceLT, Nat.reduceLT, ↓wpl, wpu])
        refine qf fun hp => hn (List.filter_eq_nil_iff.mpr fun x hx => ?_)
        have := hp.2.1 x hx
        simp
        omega
  · have e : ¬ (ns.length : Int) = (F.jobs.length : Int) := by omega
    (try simp only [e, ↓wpSs, ↓wpS, ↓wpE, ↓wpEs, ↓wpBop, ↓wpIfs, ↓wpIt, ↓pk, ↓bindT, ↓ownL, ↓lockIt, ↓unlockIt, isT, ↓setAll, ↓wipeE, ↓startE, ↓Tg.slots, ↓IEs.fine, ↓IEs.len, ↓noOwn, ↓isOwnE, ↓Sl.isO, ↓Ev.freeAll, List.replicate, if_true, if_false, reduceIte, Nat.reduceLeDiff, Nat.reduceSub, Nat.reduceAdd, eq_self, reduceCtorEq, Int.reduceLT, Nat.reduceLT, ↓wpl, wpu])
    exact qf fun hp => hlen hp.1
end CF
namespace CF
open PySem PySem.Spec PyProof.Rows L2
-- 0 floor, 1 begun, 2 job, 3 hour, 4 hours, 5 needs, 6 late, 7 crew, 8 many, 9 other
def ir_fits_b0 : ISs :=
  (.cons (.ife (.chain .LtE .Lt (.kix 1 (.var 9)) (.var 6) (.bin .Add (.kix 1 (.var 9)) (.ix (.ix (.ix (.var 0) (.kint 1)) (.var 9)) (.kint 0))))
    (.cons (.set 8 (.bin .Add (.var 8) (.ix (.ix (.ix (.ix (.var 0) (.kint 1)) (.var 9)) (.kint 1)) (.var 7))))
    .nil)
    .nil)
  (.fgt [9] .nil))
def ir_fits_t0 : ISs :=
  (.cons (.ife (.cmp .Gt (.var 8) (.ix (.ix (.var 0) (.kint 0)) (.var 7)))
    (.cons (.ret (.kbool false))
    .nil)
    .nil)
  (.fgt [7, 8] .nil))
def ir_fits_b1 : ISs :=
  (.cons (.set 8 (.ix (.var 5) (.var 7)))
  (.cons (.fors (.one 9) (.keys 1) ir_fits_b0)
  ir_fits_t0))
def ir_fits_b2 : ISs :=
  (.cons (.fors (.one 7) (.rng (.cons (.blt .len (.cons (.ix (.var 0) (.kint 0)) .nil)) .nil)) ir_fits_b1)
  (.fgt [6] .nil))
def ir_fits_t1 : ISs :=
  (.cons (.ret (.kbool true))
  .nil)
def ir_fits : ISs :=
  (.cons (.setT [4, 5] (.ix (.ix (.var 0) (.kint 1)) (.var 2)))
  (.cons (.fors (.one 6) (.rng (.cons (.var 3) (.cons (.bin .Add (.var 3) (.var 4)) .nil))) ir_fits_b2)
  ir_fits_t1))
-- calls: 
-- 0 floor, 1 row, 2 one, 3 other
def ir_look_at_row_b0 : ISs :=
  (.cons (.ife (.cmp .Gt (.index (.var 1) (.var 2)) (.index (.var 1) (.var 3)))
    (.cons .rse
    .nil)
    .nil)
  (.fgt [2, 3] .nil))
def ir_look_at_row_t0 : ISs :=
  (.cons (.fors (.many [2, 3]) (.seq (.ix (.var 0) (.kint 2))) ir_look_at_row_b0)
  .nil)
def ir_look_at_row : ISs :=
  (.cons (.ife (.cmp .NotEq (.blt .sortI (.cons (.var 1) .nil)) (.lrng (.cons (.blt .len (.cons (.ix (.var 0) (.kint 1)) .nil)) .nil)))
    (.cons .rse
    .nil)
    .nil)
  ir_look_at_row_t0)
-- calls: 
-- 0 floor, 1 row, 2 begun, 3 job, 4 hour, 5 one, 6 other
def ir_laid_b0 : ISs :=
  (.cons (.ife (.cmp .Eq (.var 6) (.var 3))
    (.cons (.set 4 (.blt .max2 (.cons (.var 4) (.cons (.bin .Add (.kix 2 (.var 5)) (.ix (.ix (.ix (.var 0) (.kint 1)) (.var 5)) (.kint 0))) .nil))))
    .nil)
    .nil)
  (.fgt [5, 6] .nil))
def ir_laid_b1 : ISs :=
  (.cons (.set 4 (.bin .Add (.var 4) (.kint 1)))
  .nil)
def ir_laid_t0 : ISs :=
  (.cons (.dput 2 (.var 3) (.var 4))
  (.fgt [3, 4] .nil))
def ir_laid_t1 : ISs :=
  (.cons (.whl (.no (.call 1 (.cons (.var 0) (.cons (.var 2) (.cons (.var 3) (.cons (.var 4) .nil)))))) ir_laid_b1)
  ir_laid_t0)
def ir_laid_b2 : ISs :=
  (.cons (.set 4 (.kint 0))
  (.cons (.fors (.many [5, 6]) (.seq (.ix (.var 0) (.kint 2))) ir_laid_b0)
  ir_laid_t1))
def ir_laid_t2 : ISs :=
  (.cons (.ret (.comp (.kix 2 (.var 3)) (.one 3) (.rng (.cons (.blt .len (.cons (.var 1) .nil)) .nil)) .nil))
  .nil)
def ir_laid : ISs :=
  (.cons (.drop (.call 0 (.cons (.var 0) (.cons (.var 1) .nil))))
  (.cons (.setO 2 .dic0)
  (.cons (.fors (.one 3) (.seq (.var 1)) ir_laid_b2)
  ir_laid_t2)))
-- calls: look_at_row, fits
-- 0 floor, 1 row, 2 job, 3 one, 4 other
def ir_some_row_b0 : ISs :=
  (.cons (.ife (.bop .And (.cons (.cmp .NotIn (.var 2) (.var 1)) (.cons (.cmp .Eq (.comp (.var 3) (.many [3, 4]) (.seq (.ix (.var 0) (.kint 2))) (.cons (.bop .And (.cons (.cmp .Eq (.var 4) (.var 2)) (.cons (.cmp .NotIn (.var 3) (.var 1)) .nil))) .nil)) (.lst .nil)) .nil)))
    (.cons (.app 1 (.var 2))
    .nil)
    .nil)
  (.fgt [2] .nil))
def ir_some_row_b1 : ISs :=
  (.cons (.fors (.one 2) (.rng (.cons (.blt .len (.cons (.ix (.var 0) (.kint 1)) .nil)) .nil)) ir_some_row_b0)
  .nil)
def ir_some_row_t0 : ISs :=
  (.cons (.ret (.var 1))
  .nil)
def ir_some_row : ISs :=
  (.cons (.setO 1 (.lst .nil))
  (.cons (.whl (.cmp .Lt (.blt .len (.cons (.var 1) .nil)) (.blt .len (.cons (.ix (.var 0) (.kint 1)) .nil))) ir_some_row_b1)
  ir_some_row_t0))
-- calls: 
end CF
namespace CF
open PySem PySem.Spec PyProof.Rows L2
/-! ### laid, by a dict -/
theorem dicS_k {l : List (Int × Int)} {Q : List (Int × Int) → Prop} : dictS (.kyd l) Q = Q l := by
  refine propext ⟨?_, fun q => ⟨l, .inl rfl, q⟩⟩
  rintro ⟨l', h, q⟩
  rcases h with h | h
  · injection h with h
    rw [h]
    exact q
  · cases h
theorem dicS_o {l : List (Int × Int)} {Q : List (Int × Int) → Prop} : dictS (.own (.dict (dL l))) Q = Q l := by
  refine propext ⟨?_, fun q => ⟨l, .inr rfl, q⟩⟩
  rintro ⟨l', h, q⟩
  rcases h with h | h
  · cases h
  · injection h with h
    injection h with h
    rw [dL_inj h]
    exact q
theorem ex_kyd {l : List (Int × Int)} {p : List (Int × Int) → Prop} : (∃ l', Sl.kyd l = .kyd l' ∧ p l') ↔ p l := ⟨fun ⟨_, e, h⟩ => by cases e; exact h, fun h => ⟨l, rfl, h⟩⟩
theorem ownD_o {l : List (Int × Int)} {Q : List (Int × Int) → Prop} : ownD (.own (.dict (dL l))) Q = Q l := by
  refine propext ⟨?_, fun q => ⟨l, rfl, q⟩⟩
  rintro ⟨l', h, q⟩
  injection h with h
  injection h with h
  rw [dL_inj h]
  exact q
theorem flat_dic {l : List (PyData × PyData)} : flat (.dict l) = false := rfl
def dB (B : Bg) : List (Int × Int) := B.map fun p => ((p.1 : Int), p.2)
theorem dB_get : ∀ {B : Bg}, (B.map (·.1)).Nodup → ∀ p ∈ B, dgetL (dB B) p.1 = some p.2
  | [], _, p, hp => by simp at hp
  | q :: B, hn, p, hp => by
    unfold dgetL dB
    rw [List.map_cons, List.find?_cons]
    rw [List.map_cons, List.nodup_cons] at hn
    rcases List.mem_cons.mp hp with rfl | hp
    · simp
    · have hne : ¬ ((q.1 : Int) = p.1) := fun e => hn.1 (by rw [show q.1 = p.1 by omega]; exact List.mem_map_of_mem hp)
      simp only [decide_eq_false hne]
      exact dB_get hn.2 p hp
theorem dB_put {B : Bg} {j : Nat} {x : Int} (h : j ∉ B.map (·.1)) : dputL (dB B) j x = dB (B ++ [(j, x)]) := by
  unfold dputL
  have : ((dB B).any fun p => decide (p.1 = (j : Int))) = false := by
    rw [List.any_eq_false]
    intro p hp
    obtain ⟨q, hq, rfl⟩ := List.mem_map.mp hp
    simp only [decide_eq_true_eq]
    intro e
    exact h (by rw [show j = q.1 by omega]; exact List.mem_map_of_mem hq)
  rw [this, if_neg Bool.false_ne_true]
  unfold dB
  rw [List.map_append]
  rfl
structure BgOk (F : Fl) (B : Bg) : Prop where
  lt : ∀ p ∈ B, p.1 < F.jobs.length
  nd : (B.map (·.1)).Nodup
def g_fits : Pm := fun ds R => ∃ (F : Fl) (B : Bg) (j : Nat) (x : Int), ds = [eFl F, .dict (dL (dB B)), .int j, .int x] ∧ GoodFl 50 F ∧ BgOk F B ∧ j < F.jobs.length ∧ 0 ≤ x ∧ x ≤ 1000000 ∧ R (.bool (mRoom F B j x))
abbrev e_fits : FnE := ⟨"fits", 4, false, g_fits⟩
theorem fits_ap {F : Fl} {B : Bg} {j : Nat} {x : Int} {Q : PyData → Prop} (hF : GoodFl 50 F) (hB : BgOk F B) (hj : j < F.jobs.length) (h0 : 0 ≤ x) (h1 : x ≤ 1000000) (q : Q (.bool (mRoom F B j x))) : g_fits [eFl F, .dict (dL (dB B)), .int j, .int x] Q := ⟨F, B, j, x, rfl, hF, hB, hj, h0, h1, q⟩
theorem dk_fits : ∀ ds R, g_fits ds R → ∃ l, ds[1]? = some (.dict (dL l)) := by
  rintro _ R ⟨F, B, j, x, rfl, _⟩
  exact ⟨_, rfl⟩
theorem sem_fits : ∀ ds R l, ds.length = 4 → g_fits ds R → ds[1]? = some (.dict (dL l)) → wpSs (Gof []) ir_fits ((startE 10 ds).set 1 (.kyd l)) { nx := fun _ => R .none, rt := fun d => flat d = true ∧ R d } := by
  rintro _ R l _ ⟨F, B, j, x, rfl, hF, hB, hj, h0, h1, q⟩ hl
  have e : l = dB B := by
    have h : PyData.dict (dL (dB B)) = .dict (dL l) := Option.some.inj hl
    injection h with h
    exact (dL_inj h).symm
  subst e
  have hc4 := hF.c.2.1
  obtain ⟨_, hh1, hh2⟩ := hours_bd hF hj
  have eh : (F.jobs.getD j (0, [])).1 = F.h j := rfl
  (try simp only [ir_fits, ↓wpSs, ↓wpS, ↓wpE, ↓wpEs, ↓wpBop, ↓wpIfs, ↓wpIt, ↓pk, ↓bindT, ↓ownL, ↓lockIt, ↓unlockIt, isT, ↓setAll, ↓wipeE, ↓startE, ↓Tg.slots, ↓IEs.fine, ↓IEs.len, ↓noOwn, ↓isOwnE, ↓Sl.isO, ↓Ev.freeAll, List.replicate, if_true, if_false, reduceIte, Nat.reduceLeDiff, Nat.reduceSub, Nat.reduceAdd, eq_self, reduceCtorEq, Int.reduceLT, Nat.reduceLT, ↓wpl, wpu])
  refine at_map (get_job hj) ?_
  (try simp only [↓wpSs, ↓wpS, ↓wpE, ↓wpEs, ↓wpBop, ↓wpIfs, ↓wpIt, ↓pk, ↓bindT, ↓ownL, ↓lockIt, ↓unlockIt, isT, ↓setAll, ↓wipeE, ↓startE, ↓Tg.slots, ↓IEs.fine, ↓IEs.len, ↓noOwn, ↓isOwnE, ↓Sl.isO, ↓Ev.freeAll, List.replicate, if_true, if_false, reduceIte, Nat.reduceLeDiff, Nat.reduceSub, Nat.reduceAdd, eq_self, reduceCtorEq, Int.reduceLT, Nat.reduceLT, ↓wpl, wpu])
  rw [eh]
  refine ⟨by omega, ?_⟩
  rw [show (x + F.h j - x).toNat = (F.h j).toNat by omega]
  refine forL_all (fun i => (List.range F.crews.length).all fun c => fitB F B j c (x + (i : Nat))) (fun h => ?_) fun i K hi hK => ?_
  · (try simp only [ir_fits_t1, ↓wpSs, ↓wpS, ↓wpE, ↓wpEs, ↓wpBop, ↓wpIfs, ↓wpIt, ↓pk, ↓bindT, ↓ownL, ↓lockIt, ↓unlockIt, isT, ↓setAll, ↓wipeE, ↓startE, ↓Tg.slots, ↓IEs.fine, ↓IEs.len, ↓noOwn, ↓isOwnE, ↓Sl.isO, ↓Ev.freeAll, List.replicate, if_true, if_false, reduceIte, Nat.reduceLeDiff, Nat.reduceSub, Nat.reduceAdd, eq_self, reduceCtorEq, Int.reduceLT, Nat.reduceLT, ↓wpl, wpu])
    have : mRoom F B j x = true := by
      unfold mRoom
      simp only [List.all_eq_true, List.mem_range] at h ⊢
      exact fun c hc i hi => h i hi c hc
    rw [this] at q
    exact q
  · have hbad : ∀ c, c < F.crews.length → fitB F B j c (x + (i : Nat)) = false → R (.bool false) := fun c hc hf => by
      have : mRoom F B j x = false := by
        unfold mRoom
        rw [List.all_eq_false]
        refine ⟨c, List.mem_range.mpr hc, ?_⟩
        rw [Bool.not_eq_true, List.all_eq_false]
        exact ⟨i, List.mem_range.mpr hi, by rw [hf]; decide⟩
      rw [this] at q
      exact q
    (try simp only [ir_fits_b2, ↓wpSs, ↓wpS, ↓wpE, ↓wpEs, ↓wpBop, ↓wpIfs, ↓wpIt, ↓pk, ↓bindT, ↓ownL, ↓lockIt, ↓unlockIt, isT, ↓setAll, ↓wipeE, ↓startE, ↓Tg.slots, ↓IEs.fine, ↓IEs.len, ↓noOwn, ↓isOwnE, ↓Sl.isO, ↓Ev.freeAll, List.replicate, if_true, if_false, reduceIte, Nat.reduceLeDiff, Nat.reduceSub, Nat.reduceAdd, eq_self, reduceCtorEq, Int.reduceLT, Nat.reduceLT, ↓wpl, wpu])
    refine ⟨by omega, ?_⟩
    refine forL_all (fun c => fitB F B j c (x + (i : Nat))) (fun hall => by (try simp only [↓wpSs, ↓wpS, ↓wpE, ↓wpEs, ↓wpBop, ↓wpIfs, ↓wpIt, ↓pk, ↓bindT, ↓ownL, ↓lockIt, ↓unlockIt, isT, ↓setAll, ↓wipeE, ↓startE, ↓Tg.slots, ↓IEs.fine, ↓IEs.len, ↓noOwn, ↓isOwnE, ↓Sl.isO, ↓Ev.freeAll, List.replicate, if_true, if_false, reduceIte, Nat.reduceLeDiff, Nat.reduceSub, Nat.reduceAdd, eq_self, reduceCtorEq, Int.reduceLT, Nat.reduceLT, ↓wpl, wpu]); exact hK (List.all_eq_true.mpr fun c hc => hall c (List.mem_range.mp hc))) fun c K2 hc hK2 => ?_
    (try simp only [ir_fits_b1, ↓wpSs, ↓wpS, ↓wpE, ↓wpEs, ↓wpBop, ↓wpIfs, ↓wpIt, ↓pk, ↓bindT, ↓ownL, ↓lockIt, ↓unlockIt, isT, ↓setAll, ↓wipeE, ↓startE, ↓Tg.slots, ↓IEs.fine, ↓IEs.len, ↓noOwn, ↓isOwnE, ↓Sl.isO, ↓Ev.freeAll, List.replicate, if_true, if_false, reduceIte, Nat.reduceLeDiff, Nat.reduceSub, Nat.reduceAdd, eq_self, reduceCtorEq, Int.reduceLT, Nat.reduceLT, ↓wpl, wpu])
    refine at_map (need_at hF hj hc) ?_
    (try simp only [ex_kyd, ↓wpSs, ↓wpS, ↓wpE, ↓wpEs, ↓wpBop, ↓wpIfs, ↓wpIt, ↓pk, ↓bindT, ↓ownL, ↓lockIt, ↓unlockIt, isT, ↓setAll, ↓wipeE, ↓startE, ↓Tg.slots, ↓IEs.fine, ↓IEs.len, ↓noOwn, ↓isOwnE, ↓Sl.isO, ↓Ev.freeAll, List.replicate, if_true, if_false, reduceIte, Nat.reduceLeDiff, Nat.reduceSub, Nat.reduceAdd, eq_self, reduceCtorEq, Int.reduceLT, Nat.reduceLT, ↓wpl, wpu])
    rw [show (dB B).map (fun p => PyData.int p.1) = B.map fun p => .int (p.1 : Nat) by unfold dB; rw [List.map_map]; rfl]
    refine forL_fold (env := fun s : Int => [.val (eFl F), .kyd (dB B), .val (.int j), .val (.int x), .val (.int (F.h j)), .val (.tuple ((F.jobs.getD j (0, [])).2.map .int)), .val (.int (x + (i : Nat))), .val (.int c), .val (.int s), .un]) (f := fun s p => s + busy1 F c (x + (i : Nat)) p) (P := fun _ => True) rfl trivial (fun _ => ?_) ?_
    · rw [foldl_sum]
      (try simp only [ir_fits_t0, ↓wpSs, ↓wpS, ↓wpE, ↓wpEs, ↓wpBop, ↓wpIfs, ↓wpIt, ↓pk, ↓bindT, ↓ownL, ↓lockIt, ↓unlockIt, isT, ↓setAll, ↓wipeE, ↓startE, ↓Tg.slots, ↓IEs.fine, ↓IEs.len, ↓noOwn, ↓isOwnE, ↓Sl.isO, ↓Ev.freeAll, List.replicate, if_true, if_false, reduceIte, Nat.reduceLeDiff, Nat.reduceSub, Nat.reduceAdd, eq_self, reduceCtorEq, Int.reduceLT, Nat.reduceLT, ↓wpl, wpu])
      refine at_map (mem_at hc) ?_
      have hbad' := hbad c hc
      unfold fitB at hbad' hK2
      rw [getD_of hc] at hbad' hK2
      unfold use at hbad' hK2
      (try simp only [↓wpSs, ↓wpS, ↓wpE, ↓wpEs, ↓wpBop, ↓wpIfs, ↓wpIt, ↓pk, ↓bindT, ↓ownL, ↓lockIt, ↓unlockIt, isT, ↓setAll, ↓wipeE, ↓startE, ↓Tg.slots, ↓IEs.fine, ↓IEs.len, ↓noOwn, ↓isOwnE, ↓Sl.isO, ↓Ev.freeAll, List.replicate, if_true, if_false, reduceIte, Nat.reduceLeDiff, Nat.reduceSub, Nat.reduceAdd, eq_self, reduceCtorEq, Int.reduceLT, Nat.reduceLT, ↓wpl, wpu])
      split
      · exact hbad' (decide_eq_false (by omega))
      · exact hK2 (decide_eq_true (by omega))
    · rintro p s K3 hp _ hK3
      have hK3 := hK3 trivial
      have hp1 := hB.lt p hp
      have hget := dB_get hB.nd p hp
      have hK3' : K3 [.val (eFl F), .kyd (dB B), .val (.int j), .val (.int x), .val (.int (F.h j)), .val (.tuple ((F.jobs.getD j (0, [])).2.map .int)), .val (.int (x + (i : Nat))), .val (.int c), .val (.int (s + if p.2 ≤ x + (i : Nat) ∧ x + (i : Nat) < p.2 + F.h p.1 then F.need p.1 c else 0)), .un] := hK3
      have eh2 : (F.jobs.getD p.1 (0, [])).1 = F.h p.1 := rfl
      (try simp only [ir_fits_b0, dicS_k, hget, ↓wpSs, ↓wpS, ↓wpE, ↓wpEs, ↓wpBop, ↓wpIfs, ↓wpIt, ↓pk, ↓bindT, ↓ownL, ↓lockIt, ↓unlockIt, isT, ↓setAll, ↓wipeE, ↓startE, ↓Tg.slots, ↓IEs.fine, ↓IEs.len, ↓noOwn, ↓isOwnE, ↓Sl.isO, ↓Ev.freeAll, List.replicate, if_true, if_false, reduceIte, Nat.reduceLeDiff, Nat.reduceSub, Nat.reduceAdd, eq_self, reduceCtorEq, Int.reduceLT, Nat.reduceLT, ↓wpl, wpu])
      by_cases ha : p.2 ≤ x + (i : Nat)
      · rw [if_pos ha]
        refine at_map (get_job hp1) ?_
        (try simp only [↓wpSs, ↓wpS, ↓wpE, ↓wpEs, ↓wpBop, ↓wpIfs, ↓wpIt, ↓pk, ↓bindT, ↓ownL, ↓lockIt, ↓unlockIt, isT, ↓setAll, ↓wipeE, ↓startE, ↓Tg.slots, ↓IEs.fine, ↓IEs.len, ↓noOwn, ↓isOwnE, ↓Sl.isO, ↓Ev.freeAll, List.replicate, if_true, if_false, reduceIte, Nat.reduceLeDiff, Nat.reduceSub, Nat.reduceAdd, eq_self, reduceCtorEq, Int.reduceLT, Nat.reduceLT, ↓wpl, wpu])
        rw [eh2]
        by_cases hb : x + (i : Nat) < p.2 + F.h p.1
        · rw [if_pos hb]
          rw [if_pos ⟨ha, hb⟩] at hK3'
          refine at_map (get_job hp1) ?_
          (try simp only [↓wpSs, ↓wpS, ↓wpE, ↓wpEs, ↓wpBop, ↓wpIfs, ↓wpIt, ↓pk, ↓bindT, ↓ownL, ↓lockIt, ↓unlockIt, isT, ↓setAll, ↓wipeE, ↓startE, ↓Tg.slots, ↓IEs.fine, ↓IEs.len, ↓noOwn, ↓isOwnE, ↓Sl.isO, ↓Ev.freeAll, List.replicate, if_true, if_false, reduceIte, Nat.reduceLeDiff, Nat.reduceSub, Nat.reduceAdd, eq_self, reduceCtorEq, Int.reduceLT, Nat.reduceLT, ↓wpl, wpu])
          refine at_map (need_at hF hp1 hc) ?_
          (try simp only [↓wpSs, ↓wpS, ↓wpE, ↓wpEs, ↓wpBop, ↓wpIfs, ↓wpIt, ↓pk, ↓bindT, ↓ownL, ↓lockIt, ↓unlockIt, isT, ↓setAll, ↓wipeE, ↓startE, ↓Tg.slots, ↓IEs.fine, ↓IEs.len, ↓noOwn, ↓isOwnE, ↓Sl.isO, ↓Ev.freeAll, List.replicate, if_true, if_false, reduceIte, Nat.reduceLeDiff, Nat.reduceSub, Nat.reduceAdd, eq_self, reduceCtorEq, Int.reduceLT, Nat.reduceLT, ↓wpl, wpu])
          exact hK3'
        · rw [if_neg hb]
          rw [if_neg (fun e => hb e.2), Int.add_zero] at hK3'
          exact hK3'
      · (try simp only [ha, ↓wpSs, ↓wpS, ↓wpE, ↓wpEs, ↓wpBop, ↓wpIfs, ↓wpIt, ↓pk, ↓bindT, ↓ownL, ↓lockIt, ↓unlockIt, isT, ↓setAll, ↓wipeE, ↓startE, ↓Tg.slots, ↓IEs.fine, ↓IEs.len, ↓noOwn, ↓isOwnE, ↓Sl.isO, ↓Ev.freeAll, List.replicate, if_true, if_false, reduceIte, Nat.reduceLeDiff, Nat.reduceSub, Nat.reduceAdd, eq_self, reduceCtorEq, Int.reduceLT, Nat.reduceLT, ↓wpl, wpu])
        rw [if_neg (fun e => ha e.1), Int.add_zero] at hK3'
        exact hK3'
/-! the row is looked at -/
def g_look_at_row : Pm := fun ds R => ∃ (F : Fl) (row : List Nat), ds = [eFl F, .list (row.map eN)] ∧ GoodFl 50 F ∧ GoodRow F row ∧ R .none
abbrev e_look_at_row : FnE := ⟨"look_at_row", 2, false, g_look_at_row⟩
theorem sort_uniq {a b : List Int} (h : a.Perm b) (ha : a.Pairwise (· ≤ ·)) (hb : b.Pairwise (· ≤ ·)) : a = b :=
  List.Perm.eq_of_pairwise (le := (· ≤ ·)) (fun x y _ _ h1 h2 => Int.le_antisymm h1 h2) ha hb h
theorem row_idx {F : Fl} {row : List Nat} (hr : row.Perm (List.range F.jobs.length)) {a : Nat} (ha : a < F.jobs.length) : row.idxOf a < row.length ∧ row[row.idxOf a]? = some a := by
  have hm : a ∈ row := hr.mem_iff.mpr (List.mem_range.mpr ha)
  have hlt := List.idxOf_lt_length_of_mem hm
  refine ⟨hlt, ?_⟩
  rw [List.getElem?_eq_getElem hlt, List.getElem_idxOf]
theorem idx_ap {row : List Nat} {a : Nat} {Q : Nat → Prop} (ha : a ∈ row) (q : Q (row.idxOf a)) : ∃ (j : Nat) (z : PyData), SeqAt.shaped (.list (row.map eN)) = true ∧ (row.map eN)[j]? = some z ∧ PyData.eqv z (.int (a : Nat)) = true ∧ (∀ (m : Nat) z', m < j → (row.map eN)[m]? = some z' → PyData.eqv z' (.int (a : Nat)) = false) ∧ Q j := by
  have hlt := List.idxOf_lt_length_of_mem ha
  refine ⟨row.idxOf a, eN a, shp_row, by rw [List.getElem?_map, List.getElem?_eq_getElem hlt, List.getElem_idxOf]; rfl, by rw [eN_def, eqv_int]; simp, fun m z' hm hz => ?_, q⟩
  rw [List.getElem?_map] at hz
  cases e : row[m]? with
  | none => rw [e] at hz; cases hz
  | some b =>
    rw [e] at hz
    cases hz
    rw [eN_def, eqv_int, decide_eq_false_iff_not]
    intro hb
    have hb' : b = a := by omega
    subst hb'
    obtain ⟨h1, h2⟩ := List.getElem?_eq_some_iff.mp e
    have := List.not_of_lt_findIdx (p := fun x => x == b) (xs := row) (i := m) hm
    rw [h2] at this
    simp at this
theorem sem_look_at_row : ∀ ds R, ds.length = 2 → g_look_at_row ds R → wpSs (Gof []) ir_look_at_row (startE 4 ds) { nx := fun _ => false = false ∧ R .none, rt := R } := by
  rintro _ R _ ⟨F, row, rfl, hF, hr, q⟩
  have j2 := hF.j2
  have hrl : row.length = F.jobs.length := by simpa using hr.1.length_eq
  (try simp only [ir_look_at_row, ↓wpSs, ↓wpS, ↓wpE, ↓wpEs, ↓wpBop, ↓wpIfs, ↓wpIt, ↓pk, ↓bindT, ↓ownL, ↓lockIt, ↓unlockIt, isT, ↓setAll, ↓wipeE, ↓startE, ↓Tg.slots, ↓IEs.fine, ↓IEs.len, ↓noOwn, ↓isOwnE, ↓Sl.isO, ↓Ev.freeAll, List.replicate, if_true, if_false, reduceIte, Nat.reduceLeDiff, Nat.reduceSub, Nat.reduceAdd, eq_self, reduceCtorEq, Int.reduceLT, Nat.reduceLT, ↓wpl, wpu])
  refine ⟨row.map fun k : Nat => ((k : Nat) : Int), by rw [List.map_map]; rfl, by simp; omega, fun ns' hp hs => ?_⟩
  have e : ns' = (List.range F.jobs.length).map fun k => ((k : Nat) : Int) := by
    refine sort_uniq (hp.trans (hr.1.map _)) hs ?_
    rw [List.pairwise_map]
    exact List.pairwise_lt_range.imp fun {a b} h => by omega
  subst e
  (try simp only [↓wpSs, ↓wpS, ↓wpE, ↓wpEs, ↓wpBop, ↓wpIfs, ↓wpIt, ↓pk, ↓bindT, ↓ownL, ↓lockIt, ↓unlockIt, isT, ↓setAll, ↓wipeE, ↓startE, ↓Tg.slots, ↓IEs.fine, ↓IEs.len, ↓noOwn, ↓isOwnE, ↓Sl.isO, ↓Ev.freeAll, List.replicate, if_true, if_false, reduceIte, Nat.reduceLeDiff, Nat.reduceSub, Nat.reduceAdd, eq_self, reduceCtorEq, Int.reduceLT, Nat.reduceLT, ↓wpl, wpu])
  refine ⟨by omega, ?_⟩
  rw [show (List.range F.jobs.length).map (fun i => PyData.int (i : Nat)) = ((List.range F.jobs.length).map fun k => ((k : Nat) : Int)).map .int by rw [List.map_map]; rfl]
  (try simp only [ir_look_at_row_t0, ↓wpSs, ↓wpS, ↓wpE, ↓wpEs, ↓wpBop, ↓wpIfs, ↓wpIt, ↓pk, ↓bindT, ↓ownL, ↓lockIt, ↓unlockIt, isT, ↓setAll, ↓wipeE, ↓startE, ↓Tg.slots, ↓IEs.fine, ↓IEs.len, ↓noOwn, ↓isOwnE, ↓Sl.isO, ↓Ev.freeAll, List.replicate, if_true, if_false, reduceIte, Nat.reduceLeDiff, Nat.reduceSub, Nat.reduceAdd, eq_self, reduceCtorEq, Int.reduceLT, Nat.reduceLT, ↓wpl, wpu])
  refine forL_map (fun i r => r = [.val (eFl F), .val (.list (row.map eN)), .un, .un]) rfl (fun r hr => by subst hr; (try simp only [↓wpSs, ↓wpS, ↓wpE, ↓wpEs, ↓wpBop, ↓wpIfs, ↓wpIt, ↓pk, ↓bindT, ↓ownL, ↓lockIt, ↓unlockIt, isT, ↓setAll, ↓wipeE, ↓startE, ↓Tg.slots, ↓IEs.fine, ↓IEs.len, ↓noOwn, ↓isOwnE, ↓Sl.isO, ↓Ev.freeAll, List.replicate, if_true, if_false, reduceIte, Nat.reduceLeDiff, Nat.reduceSub, Nat.reduceAdd, eq_self, reduceCtorEq, Int.reduceLT, Nat.reduceLT, ↓wpl, wpu]); exact q) ?_
  rintro i o _ K hi rfl hK
  have ho := List.mem_of_getElem? hi
  obtain ⟨h1, h2, _⟩ := ord_ok hF ho
  obtain ⟨i1, i2⟩ := row_idx hr.1 h1
  obtain ⟨i3, i4⟩ := row_idx hr.1 h2
  have hlt := hr.2 _ _ _ _ i2 i4 ho
  (try simp only [ir_look_at_row_b0, ex_ord, ↓wpSs, ↓wpS, ↓wpE, ↓wpEs, ↓wpBop, ↓wpIfs, ↓wpIt, ↓pk, ↓bindT, ↓ownL, ↓lockIt, ↓unlockIt, isT, ↓setAll, ↓wipeE, ↓startE, ↓Tg.slots, ↓IEs.fine, ↓IEs.len, ↓noOwn, ↓isOwnE, ↓Sl.isO, ↓Ev.freeAll, List.replicate, if_true, if_false, reduceIte, Nat.reduceLeDiff, Nat.reduceSub, Nat.reduceAdd, eq_self, reduceCtorEq, Int.reduceLT, Nat.reduceLT, ↓wpl, wpu])
  refine ⟨_, rfl, idx_ap (hr.1.mem_iff.mpr (List.mem_range.mpr h1)) ?_⟩
  refine ⟨_, rfl, idx_ap (hr.1.mem_iff.mpr (List.mem_range.mpr h2)) ?_⟩
  have hn : ¬ ((row.idxOf o.2 : Nat) : Int) < (row.idxOf o.1 : Nat) := by omega
  (try simp only [hn, ↓wpSs, ↓wpS, ↓wpE, ↓wpEs, ↓wpBop, ↓wpIfs, ↓wpIt, ↓pk, ↓bindT, ↓ownL, ↓lockIt, ↓unlockIt, isT, ↓setAll, ↓wipeE, ↓startE, ↓Tg.slots, ↓IEs.fine, ↓IEs.len, ↓noOwn, ↓isOwnE, ↓Sl.isO, ↓Ev.freeAll, List.replicate, if_true, if_false, reduceIte, Nat.reduceLeDiff, Nat.reduceSub, Nat.reduceAdd, eq_self, reduceCtorEq, Int.reduceLT, Nat.reduceLT, ↓wpl, wpu])
  exact hK _ rfl
end CF
namespace CF
open PySem PySem.Spec PyProof.Rows L2
/-! ### jobs laid by the program -/
def cmax {α : Type} (c : α → Prop) [DecidablePred c] (f : α → Int) (l : List α) (a : Int) : Int := l.foldl (fun x p => if c p then max x (f p) else x) a
theorem cmax_ge {α : Type} {c : α → Prop} [DecidablePred c] {f : α → Int} : ∀ {l : List α} {a : Int}, a ≤ cmax c f l a ∧ ∀ p ∈ l, c p → f p ≤ cmax c f l a
  | [], a => ⟨Int.le_refl _, fun p hp => by simp at hp⟩
  | q :: l, a => by
    obtain ⟨h1, h2⟩ := cmax_ge (c := c) (f := f) (l := l) (a := if c q then max a (f q) else a)
    have e : cmax c f (q :: l) a = cmax c f l (if c q then max a (f q) else a) := rfl
    rw [e]
    refine ⟨?_, fun p hp hc => ?_⟩
    · refine Int.le_trans ?_ h1
      split <;> omega
    · rcases List.mem_cons.mp hp with rfl | hp
      · rw [if_pos hc] at h1 ⊢
        omega
      · exact h2 p hp hc
theorem cmax_le {α : Type} {c : α → Prop} [DecidablePred c] {f : α → Int} {u : Int} : ∀ {l : List α} {a : Int}, a ≤ u → (∀ p ∈ l, c p → f p ≤ u) → cmax c f l a ≤ u
  | [], a, h, _ => h
  | q :: l, a, h, hl => by
    have e : cmax c f (q :: l) a = cmax c f l (if c q then max a (f q) else a) := rfl
    rw [e]
    refine cmax_le ?_ fun p hp => hl p (List.mem_cons_of_mem _ hp)
    split
    · rename_i hc
      have := hl q List.mem_cons_self hc
      omega
    · exact h
theorem readyB_c {F : Fl} {B : Bg} {j : Nat} : readyB F B j = cmax (fun p : Nat × Int => (p.1, j) ∈ F.orders) (fun p => p.2 + F.h p.1) B 0 := rfl
/-- by the orders, as the program seeks it -/
def readyO (F : Fl) (B : Bg) (j : Nat) : Int := cmax (fun o : Nat × Nat => o.2 = j) (fun o => stB B o.1 + F.h o.1) F.orders 0
theorem readyO_eq {F : Fl} {B : Bg} {j : Nat} (hn : (B.map (·.1)).Nodup) (hp : ∀ a, (a, j) ∈ F.orders → a ∈ B.map (·.1)) : readyO F B j = readyB F B j := by
  refine Int.le_antisymm ?_ ?_
  · refine cmax_le readyB_nn fun o ho hc => ?_
    obtain ⟨o1, o2⟩ := o
    have hc : o2 = j := hc
    subst hc
    obtain ⟨p, hp1, hp2⟩ := List.mem_map.mp (hp o1 ho)
    subst hp2
    rw [find_of hn p hp1]
    exact readyB_ge hp1 ho
  · rw [readyB_c]
    refine cmax_le (cmax_ge (c := fun o : Nat × Nat => o.2 = j) (l := F.orders)).1 fun p hp1 ho => ?_
    have := (cmax_ge (c := fun o : Nat × Nat => o.2 = j) (f := fun o => stB B o.1 + F.h o.1) (l := F.orders) (a := 0)).2 _ ho rfl
    dsimp only at this
    rw [find_of hn p hp1] at this
    exact this
theorem laidB_map {F : Fl} {row : List Nat} : (laidB F row).map (·.1) = row := by
  unfold laidB
  rw [laidB_fst]
  rfl
def g_laid : Pm := fun ds R => ∃ (F : Fl) (row : List Nat), ds = [eFl F, .list (row.map eN)] ∧ GoodFl 50 F ∧ GoodRow F row ∧ R (.list ((vec F.jobs.length (mLaid F row)).map .int))
abbrev e_laid : FnE := ⟨"laid", 2, false, g_laid⟩
theorem laid_ap {F : Fl} {row : List Nat} {Q : PyData → Prop} (hF : GoodFl 50 F) (hr : GoodRow F row) (q : Q (.list ((vec F.jobs.length (mLaid F row)).map .int))) : g_laid [eFl F, .list (row.map eN)] Q := ⟨F, row, rfl, hF, hr, q⟩
theorem sem_laid : ∀ ds R, ds.length = 2 → g_laid ds R → wpSs (Gof [e_look_at_row, e_fits]) ir_laid (startE 7 ds) { nx := fun _ => false = false ∧ R .none, rt := R } := by
  rintro _ R _ ⟨F, row, rfl, hF, hr, q⟩
  have j2 := hF.j2
  have hrl : row.length = F.jobs.length := by simpa using hr.1.length_eq
  have hrn : row.Nodup := hr.1.nodup_iff.mpr List.nodup_range
  have hrm : ∀ j ∈ row, j < F.jobs.length := fun j hj => List.mem_range.mp (hr.1.mem_iff.mp hj)
  (try simp only [ir_laid, ↓wpSs, ↓wpS, ↓wpE, ↓wpEs, ↓wpBop, ↓wpIfs, ↓wpIt, ↓pk, ↓bindT, ↓ownL, ↓lockIt, ↓unlockIt, isT, ↓setAll, ↓wipeE, ↓startE, ↓Tg.slots, ↓IEs.fine, ↓IEs.len, ↓noOwn, ↓isOwnE, ↓Sl.isO, ↓Ev.freeAll, List.replicate, if_true, if_false, reduceIte, Nat.reduceLeDiff, Nat.reduceSub, Nat.reduceAdd, eq_self, reduceCtorEq, Int.reduceLT, Nat.reduceLT, ↓wpl, wpu])
  refine ⟨F, row, rfl, hF, hr, ?_⟩
  (try simp only [flat_dic, ↓wpSs, ↓wpS, ↓wpE, ↓wpEs, ↓wpBop, ↓wpIfs, ↓wpIt, ↓pk, ↓bindT, ↓ownL, ↓lockIt, ↓unlockIt, isT, ↓setAll, ↓wipeE, ↓startE, ↓Tg.slots, ↓IEs.fine, ↓IEs.len, ↓noOwn, ↓isOwnE, ↓Sl.isO, ↓Ev.freeAll, List.replicate, if_true, if_false, reduceIte, Nat.reduceLeDiff, Nat.reduceSub, Nat.reduceAdd, eq_self, reduceCtorEq, Int.reduceLT, Nat.reduceLT, ↓wpl, wpu])
  refine forL_map (fun i r => r = [.val (eFl F), .val (.list (row.map eN)), .own (.dict (dL (dB (laidB F (row.take i))))), .un, .un, .un, .un]) rfl ?_ ?_
  · rintro _ rfl
    rw [take_all]
    have hp := laid_perm hr.1
    have hnd : ((laidB F row).map (·.1)).Nodup := by rw [laidB_map]; exact hrn
    (try simp only [ir_laid_t2, ↓wpSs, ↓wpS, ↓wpE, ↓wpEs, ↓wpBop, ↓wpIfs, ↓wpIt, ↓pk, ↓bindT, ↓ownL, ↓lockIt, ↓unlockIt, isT, ↓setAll, ↓wipeE, ↓startE, ↓Tg.slots, ↓IEs.fine, ↓IEs.len, ↓noOwn, ↓isOwnE, ↓Sl.isO, ↓Ev.freeAll, List.replicate, if_true, if_false, reduceIte, Nat.reduceLeDiff, Nat.reduceSub, Nat.reduceAdd, eq_self, reduceCtorEq, Int.reduceLT, Nat.reduceLT, ↓wpl, wpu])
    rw [hrl]
    refine ⟨by omega, by omega, ?_⟩
    refine compL_map (fun k : Nat => .int (mLaid F row k)) (fun k hk K h => ?_) ?_
    · have hk := List.mem_range.mp hk
      have := dB_get hnd _ (mem_st hp hk)
      (try simp only [dicS_o, this, ↓wpSs, ↓wpS, ↓wpE, ↓wpEs, ↓wpBop, ↓wpIfs, ↓wpIt, ↓pk, ↓bindT, ↓ownL, ↓lockIt, ↓unlockIt, isT, ↓setAll, ↓wipeE, ↓startE, ↓Tg.slots, ↓IEs.fine, ↓IEs.len, ↓noOwn, ↓isOwnE, ↓Sl.isO, ↓Ev.freeAll, List.replicate, if_true, if_false, reduceIte, Nat.reduceLeDiff, Nat.reduceSub, Nat.reduceAdd, eq_self, reduceCtorEq, Int.reduceLT, Nat.reduceLT, ↓wpl, wpu])
      exact h
    · unfold vec at q
      rw [List.map_map] at q
      exact q
  · rintro i j _ K hi rfl hK
    have hj := hrm j (List.mem_of_getElem? hi)
    have hil : i < row.length := (List.getElem?_eq_some_iff.mp hi).1
    have hend := endB_laid hF (Int.le_refl _) hrm i (by omega)
    have hBmap : (laidB F (row.take i)).map (·.1) = row.take i := laidB_map
    have hBg : BgOk F (laidB F (row.take i)) := ⟨fun p hp => by
      have : p.1 ∈ (laidB F (row.take i)).map (·.1) := List.mem_map_of_mem hp
      rw [hBmap] at this
      exact hrm _ (List.mem_of_mem_take this), by rw [hBmap]; exact (List.take_sublist i row).nodup hrn⟩
    have hBl : (laidB F (row.take i)).length ≤ 12 := by
      have := congrArg List.length hBmap
      simp at this
      omega
    have hjB : j ∉ (laidB F (row.take i)).map (·.1) := by
      rw [hBmap]
      intro hm
      obtain ⟨k, hk, e⟩ := List.mem_iff_getElem.mp hm
      rw [List.length_take] at hk
      rw [List.getElem_take] at e
      have h1 : row[k]? = some j := by rw [← e]; exact mem_at _
      have := (List.getElem?_inj (by omega) hrn).mp (h1.trans hi.symm)
      omega
    have hpre : ∀ a, (a, j) ∈ F.orders → a ∈ (laidB F (row.take i)).map (·.1) := fun a ho => by
      rw [hBmap]
      obtain ⟨h1, _, _⟩ := ord_ok hF ho
      obtain ⟨i1, i2⟩ := row_idx hr.1 h1
      have hlt : row.idxOf a < i := hr.2 _ _ _ _ i2 hi ho
      refine List.mem_iff_getElem.mpr ⟨row.idxOf a, by rw [List.length_take]; omega, ?_⟩
      rw [List.getElem_take]
      exact Option.some.inj ((List.getElem?_eq_getElem i1).symm.trans i2)
    have hK' := hK _ rfl
    rw [laidB_take hi] at hK'
    generalize laidB F (row.take i) = B at hend hBg hBl hjB hpre hK' ⊢
    clear hBmap
    (try simp only [ir_laid_b2, eN_def, ↓wpSs, ↓wpS, ↓wpE, ↓wpEs, ↓wpBop, ↓wpIfs, ↓wpIt, ↓pk, ↓bindT, ↓ownL, ↓lockIt, ↓unlockIt, isT, ↓setAll, ↓wipeE, ↓startE, ↓Tg.slots, ↓IEs.fine, ↓IEs.len, ↓noOwn, ↓isOwnE, ↓Sl.isO, ↓Ev.freeAll, List.replicate, if_true, if_false, reduceIte, Nat.reduceLeDiff, Nat.reduceSub, Nat.reduceAdd, eq_self, reduceCtorEq, Int.reduceLT, Nat.reduceLT, ↓wpl, wpu])
    refine forL_fold (env := fun s : Int => [.val (eFl F), .val (.list (row.map eN)), .own (.dict (dL (dB B))), .val (.int j), .val (.int s), .un, .un]) (f := fun x o => if o.2 = j then max x (stB B o.1 + F.h o.1) else x) (P := fun _ => True) rfl trivial (fun _ => ?_) ?_
    · have hready : F.orders.foldl (fun x o => if o.2 = j then max x (stB B o.1 + F.h o.1) else x) 0 = readyB F B j := readyO_eq hBg.nd hpre
      rw [hready]
      obtain ⟨p1, p2, _, p4⟩ := place_ok hF hj (B := B)
      have p3 := place_le hF hj (B := B)
      have p5 := readyB_nn (F := F) (B := B) (j := j)
      (try simp only [ir_laid_t1, ↓wpSs, ↓wpS, ↓wpE, ↓wpEs, ↓wpBop, ↓wpIfs, ↓wpIt, ↓pk, ↓bindT, ↓ownL, ↓lockIt, ↓unlockIt, isT, ↓setAll, ↓wipeE, ↓startE, ↓Tg.slots, ↓IEs.fine, ↓IEs.len, ↓noOwn, ↓isOwnE, ↓Sl.isO, ↓Ev.freeAll, List.replicate, if_true, if_false, reduceIte, Nat.reduceLeDiff, Nat.reduceSub, Nat.reduceAdd, eq_self, reduceCtorEq, Int.reduceLT, Nat.reduceLT, ↓wpl, wpu])
      refine ⟨fun m r => ∃ x, readyB F B j ≤ x ∧ x ≤ place F B j ∧ m = (place F B j - x).toNat ∧ r = [.val (eFl F), .val (.list (row.map eN)), .own (.dict (dL (dB B))), .val (.int j), .val (.int x), .un, .un], ⟨_, readyB F B j, by omega, by omega, rfl, rfl⟩, ?_⟩
      rintro m _ ⟨x, hx1, hx2, rfl, rfl⟩
      (try simp only [↓wpSs, ↓wpS, ↓wpE, ↓wpEs, ↓wpBop, ↓wpIfs, ↓wpIt, ↓pk, ↓bindT, ↓ownL, ↓lockIt, ↓unlockIt, isT, ↓setAll, ↓wipeE, ↓startE, ↓Tg.slots, ↓IEs.fine, ↓IEs.len, ↓noOwn, ↓isOwnE, ↓Sl.isO, ↓Ev.freeAll, List.replicate, if_true, if_false, reduceIte, Nat.reduceLeDiff, Nat.reduceSub, Nat.reduceAdd, eq_self, reduceCtorEq, Int.reduceLT, Nat.reduceLT, ↓wpl, wpu])
      refine fits_ap hF hBg hj (by omega) (by omega) ?_
      cases hm : mRoom F B j x with
      | false =>
        (try simp only [ir_laid_b1, ↓wpSs, ↓wpS, ↓wpE, ↓wpEs, ↓wpBop, ↓wpIfs, ↓wpIt, ↓pk, ↓bindT, ↓ownL, ↓lockIt, ↓unlockIt, isT, ↓setAll, ↓wipeE, ↓startE, ↓Tg.slots, ↓IEs.fine, ↓IEs.len, ↓noOwn, ↓isOwnE, ↓Sl.isO, ↓Ev.freeAll, List.replicate, if_true, if_false, reduceIte, Nat.reduceLeDiff, Nat.reduceSub, Nat.reduceAdd, eq_self, reduceCtorEq, Int.reduceLT, Nat.reduceLT, ↓wpl, wpu])
        have hne : x ≠ place F B j := fun e => by rw [← e, hm] at p1; cases p1
        exact ⟨_, by omega, x + 1, by omega, by omega, rfl, rfl⟩
      | true =>
        (try simp only [ir_laid_t0, ↓wpSs, ↓wpS, ↓wpE, ↓wpEs, ↓wpBop, ↓wpIfs, ↓wpIt, ↓pk, ↓bindT, ↓ownL, ↓lockIt, ↓unlockIt, isT, ↓setAll, ↓wipeE, ↓startE, ↓Tg.slots, ↓IEs.fine, ↓IEs.len, ↓noOwn, ↓isOwnE, ↓Sl.isO, ↓Ev.freeAll, List.replicate, if_true, if_false, reduceIte, Nat.reduceLeDiff, Nat.reduceSub, Nat.reduceAdd, eq_self, reduceCtorEq, Int.reduceLT, Nat.reduceLT, ↓wpl, wpu])
        have hxe : x = place F B j := by
          rcases (by omega : x < place F B j ∨ x = place F B j) with h | h
          · have := p4 x hx1 h
            rw [hm] at this
            cases this
          · exact h
        subst hxe
        (try simp only [ownD_o, dB_put hjB, ↓wpSs, ↓wpS, ↓wpE, ↓wpEs, ↓wpBop, ↓wpIfs, ↓wpIt, ↓pk, ↓bindT, ↓ownL, ↓lockIt, ↓unlockIt, isT, ↓setAll, ↓wipeE, ↓startE, ↓Tg.slots, ↓IEs.fine, ↓IEs.len, ↓noOwn, ↓isOwnE, ↓Sl.isO, ↓Ev.freeAll, List.replicate, if_true, if_false, reduceIte, Nat.reduceLeDiff, Nat.reduceSub, Nat.reduceAdd, eq_self, reduceCtorEq, Int.reduceLT, Nat.reduceLT, ↓wpl, wpu])
        refine ⟨by unfold dB; rw [List.length_map]; omega, ?_⟩
        exact hK'
    · rintro o s K3 ho _ hK3
      have hK3 := hK3 trivial
      obtain ⟨h1, h2, _⟩ := ord_ok hF ho
      have eh : (F.jobs.getD o.1 (0, [])).1 = F.h o.1 := rfl
      (try simp only [ir_laid_b0, ex_ord, ↓wpSs, ↓wpS, ↓wpE, ↓wpEs, ↓wpBop, ↓wpIfs, ↓wpIt, ↓pk, ↓bindT, ↓ownL, ↓lockIt, ↓unlockIt, isT, ↓setAll, ↓wipeE, ↓startE, ↓Tg.slots, ↓IEs.fine, ↓IEs.len, ↓noOwn, ↓isOwnE, ↓Sl.isO, ↓Ev.freeAll, List.replicate, if_true, if_false, reduceIte, Nat.reduceLeDiff, Nat.reduceSub, Nat.reduceAdd, eq_self, reduceCtorEq, Int.reduceLT, Nat.reduceLT, ↓wpl, wpu])
      by_cases hc : o.2 = j
      · rw [if_pos hc] at hK3
        rw [if_pos (by omega)]
        have hm := hpre o.1 (by rw [← hc]; exact ho)
        obtain ⟨p, hp1, hp2⟩ := List.mem_map.mp hm
        have hget := dB_get hBg.nd p hp1
        rw [hp2] at hget
        have hst := find_of hBg.nd p hp1
        rw [hp2] at hst
        (try simp only [dicS_o, hget, ↓wpSs, ↓wpS, ↓wpE, ↓wpEs, ↓wpBop, ↓wpIfs, ↓wpIt, ↓pk, ↓bindT, ↓ownL, ↓lockIt, ↓unlockIt, isT, ↓setAll, ↓wipeE, ↓startE, ↓Tg.slots, ↓IEs.fine, ↓IEs.len, ↓noOwn, ↓isOwnE, ↓Sl.isO, ↓Ev.freeAll, List.replicate, if_true, if_false, reduceIte, Nat.reduceLeDiff, Nat.reduceSub, Nat.reduceAdd, eq_self, reduceCtorEq, Int.reduceLT, Nat.reduceLT, ↓wpl, wpu])
        refine at_map (get_job h1) ?_
        (try simp only [↓wpSs, ↓wpS, ↓wpE, ↓wpEs, ↓wpBop, ↓wpIfs, ↓wpIt, ↓pk, ↓bindT, ↓ownL, ↓lockIt, ↓unlockIt, isT, ↓setAll, ↓wipeE, ↓startE, ↓Tg.slots, ↓IEs.fine, ↓IEs.len, ↓noOwn, ↓isOwnE, ↓Sl.isO, ↓Ev.freeAll, List.replicate, if_true, if_false, reduceIte, Nat.reduceLeDiff, Nat.reduceSub, Nat.reduceAdd, eq_self, reduceCtorEq, Int.reduceLT, Nat.reduceLT, ↓wpl, wpu])
        rw [eh, ← hst]
        exact hK3
      · rw [if_neg hc] at hK3
        have hc' : ¬ ((o.2 : Int) = j) := by omega
        rw [if_neg hc']
        exact hK3
/-! a row to begin with -/
def g_some_row : Pm := fun ds R => ∃ (F : Fl), ds = [eFl F] ∧ GoodFl 50 F ∧ ∀ row, GoodRow F row → R (.list (row.map eN))
abbrev e_some_row : FnE := ⟨"some_row", 1, false, g_some_row⟩
theorem some_row_ap {F : Fl} {Q : PyData → Prop} (hF : GoodFl 50 F) (q : ∀ row, GoodRow F row → Q (.list (row.map eN))) : g_some_row [eFl F] Q := ⟨F, rfl, hF, q⟩
theorem sem_some_row : ∀ ds R, ds.length = 1 → g_some_row ds R → wpSs (Gof []) ir_some_row (startE 5 ds) { nx := fun _ => false = false ∧ R .none, rt := R } := by
  rintro _ R _ ⟨F, rfl, hF, q⟩
  have j2 := hF.j2
  (try simp only [ir_some_row, ↓wpSs, ↓wpS, ↓wpE, ↓wpEs, ↓wpBop, ↓wpIfs, ↓wpIt, ↓pk, ↓bindT, ↓ownL, ↓lockIt, ↓unlockIt, isT, ↓setAll, ↓wipeE, ↓startE, ↓Tg.slots, ↓IEs.fine, ↓IEs.len, ↓noOwn, ↓isOwnE, ↓Sl.isO, ↓Ev.freeAll, List.replicate, if_true, if_false, reduceIte, Nat.reduceLeDiff, Nat.reduceSub, Nat.reduceAdd, eq_self, reduceCtorEq, Int.reduceLT, Nat.reduceLT, ↓wpl, wpu])
  refine ⟨fun m r => ∃ (row left : List Nat), m = left.length ∧ (row ++ left).Perm (List.range F.jobs.length) ∧ TopoP F row ∧ r = [.val (eFl F), .own (.list (row.map eN)), .un, .un, .un], ⟨_, [], List.range F.jobs.length, rfl, by simp, fun i a b h => (by simp at h), rfl⟩, ?_⟩
  rintro m _ ⟨row0, left0, rfl, hp0, ht0, rfl⟩
  have hlen0 : row0.length + left0.length = F.jobs.length := by simpa using hp0.length_eq
  (try simp only [↓wpSs, ↓wpS, ↓wpE, ↓wpEs, ↓wpBop, ↓wpIfs, ↓wpIt, ↓pk, ↓bindT, ↓ownL, ↓lockIt, ↓unlockIt, isT, ↓setAll, ↓wipeE, ↓startE, ↓Tg.slots, ↓IEs.fine, ↓IEs.len, ↓noOwn, ↓isOwnE, ↓Sl.isO, ↓Ev.freeAll, List.replicate, if_true, if_false, reduceIte, Nat.reduceLeDiff, Nat.reduceSub, Nat.reduceAdd, eq_self, reduceCtorEq, Int.reduceLT, Nat.reduceLT, ↓wpl, wpu])
  by_cases hle : left0 = []
  · subst hle
    simp only [List.length_nil] at hlen0
    rw [if_neg (by omega)]
    (try simp only [ir_some_row_t0, ↓wpSs, ↓wpS, ↓wpE, ↓wpEs, ↓wpBop, ↓wpIfs, ↓wpIt, ↓pk, ↓bindT, ↓ownL, ↓lockIt, ↓unlockIt, isT, ↓setAll, ↓wipeE, ↓startE, ↓Tg.slots, ↓IEs.fine, ↓IEs.len, ↓noOwn, ↓isOwnE, ↓Sl.isO, ↓Ev.freeAll, List.replicate, if_true, if_false, reduceIte, Nat.reduceLeDiff, Nat.reduceSub, Nat.reduceAdd, eq_self, reduceCtorEq, Int.reduceLT, Nat.reduceLT, ↓wpl, wpu])
    rw [List.append_nil] at hp0
    exact q row0 (topo_good hp0 ht0)
  · have hpos : 0 < left0.length := List.length_pos_iff.mpr hle
    rw [if_pos (by omega)]
    (try simp only [ir_some_row_b1, ↓wpSs, ↓wpS, ↓wpE, ↓wpEs, ↓wpBop, ↓wpIfs, ↓wpIt, ↓pk, ↓bindT, ↓ownL, ↓lockIt, ↓unlockIt, isT, ↓setAll, ↓wipeE, ↓startE, ↓Tg.slots, ↓IEs.fine, ↓IEs.len, ↓noOwn, ↓isOwnE, ↓Sl.isO, ↓Ev.freeAll, List.replicate, if_true, if_false, reduceIte, Nat.reduceLeDiff, Nat.reduceSub, Nat.reduceAdd, eq_self, reduceCtorEq, Int.reduceLT, Nat.reduceLT, ↓wpl, wpu])
    refine ⟨by omega, ?_⟩
    obtain ⟨b0, hb0, hr0⟩ := some_ready hF hp0 hle
    have hb0n : b0 < F.jobs.length := List.mem_range.mp (hp0.mem_iff.mp (List.mem_append_right _ hb0))
    have hb0r : b0 ∉ row0 := fun h => (List.nodup_append.mp (hp0.nodup_iff.mpr List.nodup_range)).2.2 b0 h b0 hb0 rfl
    refine forL_rng (fun i r => ∃ (row left : List Nat), (row ++ left).Perm (List.range F.jobs.length) ∧ TopoP F row ∧ (∀ a ∈ row0, a ∈ row) ∧ row0.length ≤ row.length ∧ (row0.length = row.length → row = row0) ∧ (b0 < i → b0 ∈ row) ∧ r = [.val (eFl F), .own (.list (row.map eN)), .un, .un, .un]) ⟨row0, left0, hp0, ht0, fun a h => h, Nat.le_refl _, fun _ => rfl, fun h => by omega, rfl⟩ ?_ ?_
    · rintro _ ⟨row, left, hp, ht, hsub, hle2, heq, hb, rfl⟩
      have hlen : row.length + left.length = F.jobs.length := by simpa using hp.length_eq
      have hne : row0.length ≠ row.length := fun e => hb0r (by rw [← heq e]; exact hb hb0n)
      exact ⟨_, by omega, row, left, rfl, hp, ht, rfl⟩
    · rintro i _ K hi ⟨row, left, hp, ht, hsub, hle2, heq, hb, rfl⟩ hK
      have hlen : row.length + left.length = F.jobs.length := by simpa using hp.length_eq
      have hnd : (row ++ left).Nodup := hp.nodup_iff.mpr List.nodup_range
      have ho := hF.o
      have keep : (i = b0 → b0 ∈ row) → K [.val (eFl F), .own (.list (row.map eN)), .un, .un, .un] := fun h => hK _ ⟨row, left, hp, ht, hsub, hle2, heq, fun h2 => by
        rcases Nat.lt_or_ge b0 i with h3 | h3
        · exact hb h3
        · exact h (by omega), rfl⟩
      (try simp only [ir_some_row_b0, shp_row, any_row, ↓wpSs, ↓wpS, ↓wpE, ↓wpEs, ↓wpBop, ↓wpIfs, ↓wpIt, ↓pk, ↓bindT, ↓ownL, ↓lockIt, ↓unlockIt, isT, ↓setAll, ↓wipeE, ↓startE, ↓Tg.slots, ↓IEs.fine, ↓IEs.len, ↓noOwn, ↓isOwnE, ↓Sl.isO, ↓Ev.freeAll, List.replicate, if_true, if_false, reduceIte, Nat.reduceLeDiff, Nat.reduceSub, Nat.reduceAdd, eq_self, reduceCtorEq, Int.reduceLT, Nat.reduceLT, ↓wpl, wpu])
      by_cases hin : i ∈ row
      · rw [decide_eq_true hin]
        (try simp only [↓wpSs, ↓wpS, ↓wpE, ↓wpEs, ↓wpBop, ↓wpIfs, ↓wpIt, ↓pk, ↓bindT, ↓ownL, ↓lockIt, ↓unlockIt, isT, ↓setAll, ↓wipeE, ↓startE, ↓Tg.slots, ↓IEs.fine, ↓IEs.len, ↓noOwn, ↓isOwnE, ↓Sl.isO, ↓Ev.freeAll, List.replicate, if_true, if_false, reduceIte, Nat.reduceLeDiff, Nat.reduceSub, Nat.reduceAdd, eq_self, reduceCtorEq, Int.reduceLT, Nat.reduceLT, ↓wpl, wpu])
        exact keep fun e => by rw [← e]; exact hin
      · rw [decide_eq_false hin]
        (try simp only [↓wpSs, ↓wpS, ↓wpE, ↓wpEs, ↓wpBop, ↓wpIfs, ↓wpIt, ↓pk, ↓bindT, ↓ownL, ↓lockIt, ↓unlockIt, isT, ↓setAll, ↓wipeE, ↓startE, ↓Tg.slots, ↓IEs.fine, ↓IEs.len, ↓noOwn, ↓isOwnE, ↓Sl.isO, ↓Ev.freeAll, List.replicate, if_true, if_false, reduceIte, Nat.reduceLeDiff, Nat.reduceSub, Nat.reduceAdd, eq_self, reduceCtorEq, Int.reduceLT, Nat.reduceLT, ↓wpl, wpu])
        refine ⟨by omega, ?_⟩
        refine compL_if (fun o => decide (o.2 = i) && !decide (o.1 ∈ row)) (fun o => eN o.1) (fun o _ k h1 h2 => ?_) ?_
        · (try simp only [ex_ord, shp_row, any_row, ↓wpSs, ↓wpS, ↓wpE, ↓wpEs, ↓wpBop, ↓wpIfs, ↓wpIt, ↓pk, ↓bindT, ↓ownL, ↓lockIt, ↓unlockIt, isT, ↓setAll, ↓wipeE, ↓startE, ↓Tg.slots, ↓IEs.fine, ↓IEs.len, ↓noOwn, ↓isOwnE, ↓Sl.isO, ↓Ev.freeAll, List.replicate, if_true, if_false, reduceIte, Nat.reduceLeDiff, Nat.reduceSub, Nat.reduceAdd, eq_self, reduceCtorEq, Int.reduceLT, Nat.reduceLT, ↓wpl, wpu])
          by_cases ha : o.2 = i
          · rw [if_pos (by omega)]
            rw [decide_eq_true ha, Bool.true_and] at h1 h2
            by_cases hbb : o.1 ∈ row
            · rw [decide_eq_true hbb] at h1 h2 ⊢
              exact h2 rfl
            · rw [decide_eq_false hbb] at h1 h2 ⊢
              exact h1 rfl
          · have hne : ¬ ((o.2 : Int) = i) := by omega
            rw [decide_eq_false ha, Bool.false_and] at h2
            simp only [hne, if_false]
            exact h2 rfl
        · have hsh : SeqAt.shaped (.list (((F.orders.filter fun o => decide (o.2 = i) && !decide (o.1 ∈ row)).map fun o => eN o.1))) = true := (Shp.list (n := 0) fun x hx => by obtain ⟨w, _, rfl⟩ := List.mem_map.mp hx; exact Shp.int).ok
          have hr : (F.orders.filter fun o => decide (o.2 = i) && !decide (o.1 ∈ row)).isEmpty = readyR F row i := rfl
          (try simp only [hsh, eqv_nilr, hr, ↓wpSs, ↓wpS, ↓wpE, ↓wpEs, ↓wpBop, ↓wpIfs, ↓wpIt, ↓pk, ↓bindT, ↓ownL, ↓lockIt, ↓unlockIt, isT, ↓setAll, ↓wipeE, ↓startE, ↓Tg.slots, ↓IEs.fine, ↓IEs.len, ↓noOwn, ↓isOwnE, ↓Sl.isO, ↓Ev.freeAll, List.replicate, if_true, if_false, reduceIte, Nat.reduceLeDiff, Nat.reduceSub, Nat.reduceAdd, eq_self, reduceCtorEq, Int.reduceLT, Nat.reduceLT, ↓wpl, wpu])
          cases hrd : readyR F row i with
          | false =>
            (try simp only [↓wpSs, ↓wpS, ↓wpE, ↓wpEs, ↓wpBop, ↓wpIfs, ↓wpIt, ↓pk, ↓bindT, ↓ownL, ↓lockIt, ↓unlockIt, isT, ↓setAll, ↓wipeE, ↓startE, ↓Tg.slots, ↓IEs.fine, ↓IEs.len, ↓noOwn, ↓isOwnE, ↓Sl.isO, ↓Ev.freeAll, List.replicate, if_true, if_false, reduceIte, Nat.reduceLeDiff, Nat.reduceSub, Nat.reduceAdd, eq_self, reduceCtorEq, Int.reduceLT, Nat.reduceLT, ↓wpl, wpu])
            refine keep fun e => ?_
            exfalso
            have : readyR F row i = true := readyR_iff.mpr fun a ha => hsub a (hr0 a (by rw [← e]; exact ha))
            rw [this] at hrd
            cases hrd
          | true =>
            (try simp only [↓wpSs, ↓wpS, ↓wpE, ↓wpEs, ↓wpBop, ↓wpIfs, ↓wpIt, ↓pk, ↓bindT, ↓ownL, ↓lockIt, ↓unlockIt, isT, ↓setAll, ↓wipeE, ↓startE, ↓Tg.slots, ↓IEs.fine, ↓IEs.len, ↓noOwn, ↓isOwnE, ↓Sl.isO, ↓Ev.freeAll, List.replicate, if_true, if_false, reduceIte, Nat.reduceLeDiff, Nat.reduceSub, Nat.reduceAdd, eq_self, reduceCtorEq, Int.reduceLT, Nat.reduceLT, ↓wpl, wpu])
            refine ⟨by omega, ?_⟩
            have hil : i ∈ left := by
              rcases List.mem_append.mp (hp.mem_iff.mpr (List.mem_range.mpr hi)) with h | h
              · exact (hin h).elim
              · exact h
            refine hK _ ⟨row ++ [i], left.erase i, ?_, topo_app ht (readyR_iff.mp hrd), fun a h => List.mem_append_left _ (hsub a h), by simp; omega, fun h => ?_, fun h => ?_, by rw [List.map_append]; rfl⟩
            · rw [List.append_assoc]
              exact (List.Perm.append_left row (List.perm_cons_erase hil)).symm.trans hp
            · simp at h
              omega
            · rcases Nat.lt_or_ge b0 i with h3 | h3
              · exact List.mem_append_left _ (hb h3)
              · have : b0 = i := by omega
                rw [this]
                simp
end CF
namespace CF
open PySem PySem.Spec PyProof.Rows L2
-- 0 floor, 1 own, 2 found, 3 job, 4 row, 5 one, 6 other
def ir_chain_of_b0 : ISs :=
  (.cons (.ife (.bop .And (.cons (.cmp .Eq (.var 6) (.ix (.var 4) (.kint 0))) (.cons (.cmp .Eq (.bin .Add (.ix (.ix (.var 2) (.var 5)) (.kint 0)) (.ix (.ix (.ix (.var 0) (.kint 1)) (.var 5)) (.kint 0))) (.ix (.ix (.var 2) (.var 6)) (.kint 0))) .nil)))
    (.cons (.ins 4 (.kint 0) (.var 5))
    (.fgt [5, 6] (.cons .brk
    .nil)))
    .nil)
  (.fgt [5, 6] .nil))
def ir_chain_of_b1 : ISs :=
  (.cons (.fors (.many [5, 6]) (.seq (.ix (.var 0) (.kint 2))) ir_chain_of_b0)
  .nil)
def ir_chain_of_b2 : ISs :=
  (.cons (.ife (.bop .And (.cons (.cmp .Eq (.var 5) (.ix (.var 4) (.neg (.kint 1)))) (.cons (.cmp .Eq (.bin .Sub (.ix (.ix (.var 2) (.var 6)) (.kint 1)) (.ix (.ix (.ix (.var 0) (.kint 1)) (.var 5)) (.kint 0))) (.ix (.ix (.var 2) (.var 5)) (.kint 1))) .nil)))
    (.cons (.app 4 (.var 6))
    (.fgt [5, 6] (.cons .brk
    .nil)))
    .nil)
  (.fgt [5, 6] .nil))
def ir_chain_of_b3 : ISs :=
  (.cons (.fors (.many [5, 6]) (.seq (.ix (.var 0) (.kint 2))) ir_chain_of_b2)
  .nil)
def ir_chain_of_t0 : ISs :=
  (.cons (.ret (.blt .tuple1 (.cons (.var 4) .nil)))
  .nil)
def ir_chain_of_t1 : ISs :=
  (.cons (.whl (.cmp .NotEq (.ix (.ix (.var 1) (.ix (.var 4) (.neg (.kint 1)))) (.kint 1)) (.ix (.ix (.var 2) (.ix (.var 4) (.neg (.kint 1)))) (.kint 1))) ir_chain_of_b3)
  ir_chain_of_t0)
def ir_chain_of : ISs :=
  (.cons (.setO 4 (.lst (.cons (.var 3) .nil)))
  (.cons (.whl (.cmp .NotEq (.ix (.ix (.var 1) (.ix (.var 4) (.kint 0))) (.kint 0)) (.ix (.ix (.var 2) (.ix (.var 4) (.kint 0))) (.kint 0))) ir_chain_of_b1)
  ir_chain_of_t1))
-- calls: 
-- 0 floor, 1 limit, 2 choices, 3 found, 4 job, 5 crew, 6 there, 7 ends, 8 begin, 9 end
def ir_end_of_b0 : ISs :=
  (.cons (.ife (.cmp .Gt (.ix (.ix (.var 3) (.var 4)) (.kint 0)) (.ix (.ix (.var 3) (.var 4)) (.kint 1)))
    (.cons (.ret (.tup (.cons (.kstr "chain") (.cons (.call 0 (.cons (.var 0) (.cons (.call 1 (.cons (.var 0) (.cons (.var 1) (.cons (.var 2) .nil)))) (.cons (.var 3) (.cons (.var 4) .nil))))) .nil))))
    .nil)
    .nil)
  (.fgt [4] .nil))
def ir_end_of_b1 : ISs :=
  (.cons (.ife (.bop .And (.cons (.cmp .Lt (.var 8) (.var 9)) (.cons (.cmp .Gt (.call 2 (.cons (.var 0) (.cons (.var 3) (.cons (.var 5) (.cons (.var 8) (.cons (.var 9) .nil)))))) (.bin .Mult (.ix (.ix (.var 0) (.kint 0)) (.var 5)) (.bin .Sub (.var 9) (.var 8)))) .nil)))
    (.cons (.ret (.tup (.cons (.kstr "stretch") (.cons (.var 5) (.cons (.var 8) (.cons (.var 9) .nil))))))
    .nil)
    .nil)
  (.fgt [9] .nil))
def ir_end_of_b2 : ISs :=
  (.cons (.fors (.one 9) (.seq (.var 7)) ir_end_of_b1)
  (.fgt [8] .nil))
def ir_end_of_b3 : ISs :=
  (.cons (.set 6 (.comp (.var 4) (.one 4) (.rng (.cons (.blt .len (.cons (.var 3) .nil)) .nil)) (.cons (.cmp .Gt (.ix (.ix (.ix (.ix (.var 0) (.kint 1)) (.var 4)) (.kint 1)) (.var 5)) (.kint 0)) .nil)))
  (.cons (.set 7 (.sset (.comp (.bin .Add (.ix (.ix (.var 3) (.var 4)) (.kint 1)) (.ix (.ix (.ix (.var 0) (.kint 1)) (.var 4)) (.kint 0))) (.one 4) (.seq (.var 6)) .nil)))
  (.cons (.fors (.one 8) (.seq (.sset (.comp (.ix (.ix (.var 3) (.var 4)) (.kint 0)) (.one 4) (.seq (.var 6)) .nil))) ir_end_of_b2)
  (.fgt [5, 6, 7] .nil))))
def ir_end_of_t0 : ISs :=
  (.cons (.ret .knone)
  .nil)
def ir_end_of_t1 : ISs :=
  (.cons (.fors (.one 5) (.rng (.cons (.blt .len (.cons (.ix (.var 0) (.kint 0)) .nil)) .nil)) ir_end_of_b3)
  ir_end_of_t0)
def ir_end_of : ISs :=
  (.cons (.fors (.one 4) (.rng (.cons (.blt .len (.cons (.var 3) .nil)) .nil)) ir_end_of_b0)
  ir_end_of_t1)
-- calls: chain_of, own_windows, asked
-- 0 floor, 1 found, 2 hour, 3 crew, 4 there, 5 job, 6 first, 7 until, 8 best, 9 last
def ir_to_split_b0 : ISs :=
  (.cons (.set 6 (.ix (.ix (.var 1) (.var 5)) (.kint 0)))
  (.cons (.ife (.bop .And (.cons (.chain .LtE .Lt (.var 6) (.var 2) (.bin .Add (.var 6) (.ix (.ix (.ix (.var 0) (.kint 1)) (.var 5)) (.kint 0)))) (.cons (.cmp .Gt (.ix (.ix (.ix (.ix (.var 0) (.kint 1)) (.var 5)) (.kint 1)) (.var 3)) (.kint 0)) .nil)))
    (.cons (.app 4 (.var 5))
    .nil)
    .nil)
  (.fgt [5, 6] .nil)))
def ir_to_split_b1 : ISs :=
  (.cons (.setT [6, 9] (.ix (.var 1) (.var 5)))
  (.cons (.ife (.bop .And (.cons (.cmp .Lt (.var 6) (.var 9)) (.cons (.bop .Or (.cons (.cmp .Is (.var 8) .knone) (.cons (.cmp .Gt (.bin .Sub (.var 9) (.var 6)) (.bin .Sub (.ix (.ix (.var 1) (.var 8)) (.kint 1)) (.ix (.ix (.var 1) (.var 8)) (.kint 0)))) .nil))) .nil)))
    (.cons (.set 8 (.var 5))
    .nil)
    .nil)
  (.fgt [5, 6, 9] .nil)))
def ir_to_split_t0 : ISs :=
  (.cons (.ret (.tup (.cons (.var 8) (.cons (.bin .FloorDiv (.bin .Add (.ix (.ix (.var 1) (.var 8)) (.kint 0)) (.ix (.ix (.var 1) (.var 8)) (.kint 1))) (.kint 2)) .nil))))
  .nil)
def ir_to_split_t1 : ISs :=
  (.cons (.ife (.cmp .Lt (.var 7) (.ix (.ix (.var 1) (.var 8)) (.kint 1)))
    (.cons (.ret (.tup (.cons (.var 8) (.cons (.var 7) .nil))))
    .nil)
    .nil)
  ir_to_split_t0)
def ir_to_split_t2 : ISs :=
  (.cons (.set 7 (.bin .Sub (.blt .minL (.cons (.comp (.bin .Add (.ix (.ix (.var 1) (.var 5)) (.kint 0)) (.ix (.ix (.ix (.var 0) (.kint 1)) (.var 5)) (.kint 0))) (.one 5) (.seq (.var 4)) .nil) .nil)) (.kint 1)))
  (.cons (.set 8 .knone)
  (.cons (.fors (.one 5) (.seq (.var 4)) ir_to_split_b1)
  ir_to_split_t1)))
def ir_to_split : ISs :=
  (.cons (.setO 4 (.lst .nil))
  (.cons (.fors (.one 5) (.rng (.cons (.blt .len (.cons (.var 1) .nil)) .nil)) ir_to_split_b0)
  ir_to_split_t2))
-- calls: 
-- 0 floor, 1 limit, 2 choices, 3 found, 4 end, 5 starts, 6 much, 7 job, 8 hour, 9 plan, 10 early, 11 late, 12 first, 13 last
def ir_sought_t0 : ISs :=
  (.cons (.ret (.tup (.cons .knone (.cons (.tup (.cons (.kstr "split") (.cons (.var 7) (.cons (.var 8) (.cons (.var 10) (.cons (.var 11) .nil)))))) .nil))))
  .nil)
def ir_sought_t1 : ISs :=
  (.cons (.setT [9, 11] (.call 4 (.cons (.var 0) (.cons (.var 1) (.cons (.bin .Add (.var 2) (.lst (.cons (.tup (.cons (.kstr "late") (.cons (.var 7) (.cons (.var 8) .nil)))) .nil))) .nil)))))
  (.cons (.ife (.cmp .IsNot (.var 9) .knone)
    (.cons (.ret (.tup (.cons (.var 9) (.cons .knone .nil))))
    .nil)
    .nil)
  ir_sought_t0))
def ir_sought_t2 : ISs :=
  (.cons (.setT [7, 8] (.call 3 (.cons (.var 0) (.cons (.var 3) (.cons (.ix (.var 6) (.kint 0)) (.cons (.ix (.var 6) (.kint 1)) .nil))))))
  (.cons (.setT [9, 10] (.call 4 (.cons (.var 0) (.cons (.var 1) (.cons (.bin .Add (.var 2) (.lst (.cons (.tup (.cons (.kstr "early") (.cons (.var 7) (.cons (.var 8) .nil)))) .nil))) .nil)))))
  (.cons (.ife (.cmp .IsNot (.var 9) .knone)
    (.cons (.ret (.tup (.cons (.var 9) (.cons .knone .nil))))
    .nil)
    .nil)
  ir_sought_t1)))
def ir_sought_t3 : ISs :=
  (.cons (.set 5 (.comp (.var 12) (.many [12, 13]) (.seq (.var 3)) .nil))
  (.cons (.set 6 (.call 2 (.cons (.var 0) (.cons (.var 5) .nil))))
  (.cons (.ife (.cmp .Is (.var 6) .knone)
    (.cons (.ret (.tup (.cons (.var 5) (.cons .knone .nil))))
    .nil)
    .nil)
  ir_sought_t2)))
def ir_sought : ISs :=
  (.cons (.set 3 (.call 0 (.cons (.var 0) (.cons (.var 1) (.cons (.var 2) .nil)))))
  (.cons (.set 4 (.call 1 (.cons (.var 0) (.cons (.var 1) (.cons (.var 2) (.cons (.var 3) .nil))))))
  (.cons (.ife (.cmp .IsNot (.var 4) .knone)
    (.cons (.ret (.tup (.cons .knone (.cons (.var 4) .nil))))
    .nil)
    .nil)
  ir_sought_t3)))
-- calls: windows, end_of, too_many, to_split, sought
-- 0 floor, 1 best, 2 plan, 3 tree
def ir_least_t0 : ISs :=
  (.cons (.set 1 (.var 2))
  (.fgt [2, 3] .nil))
def ir_least_b0 : ISs :=
  (.cons (.setT [2, 3] (.call 2 (.cons (.var 0) (.cons (.bin .Sub (.call 3 (.cons (.var 0) (.cons (.var 1) .nil))) (.kint 1)) (.cons (.lst .nil) .nil)))))
  (.cons (.ife (.cmp .Is (.var 2) .knone)
    (.cons (.ret (.tup (.cons (.var 1) (.cons (.var 3) .nil))))
    .nil)
    .nil)
  ir_least_t0))
def ir_least : ISs :=
  (.cons (.set 1 (.call 0 (.cons (.var 0) (.cons (.call 1 (.cons (.var 0) .nil)) .nil))))
  (.cons (.whl (.kbool true) ir_least_b0)
  .nil))
-- calls: laid, some_row, sought, length
end CF
namespace CF
open PySem PySem.Spec PyProof.Rows L2
/-! ### a chain that does not fit -/
theorem nums_of {n : Nat} : ∀ {row : List Nat}, (∀ k ∈ row, k < n) → nums n (row.map eN) = some row
  | [], _ => rfl
  | k :: row, h => by
    rw [List.map_cons, nums, nums_of fun j hj => h j (List.mem_cons_of_mem _ hj), eN_def, numN_nat (h k List.mem_cons_self)]
structure ChainOk (F : Fl) (L : Int) (cs : List Ch) (row : List Nat) : Prop where
  ne : row ≠ []
  lk : linkd F row
  lt : ∀ k ∈ row, k < F.jobs.length
  len : row.length ≤ 40
  no : ownL' F L cs (row.getLastD 0) < ownF cs (row.headD 0) + (row.dropLast.map F.h).sum
theorem chain_true {F : Fl} {L : Int} {cs : List Ch} {row : List Nat} (h : ChainOk F L cs row) : mChain F L cs (.tuple (row.map eN)) = true := by
  unfold mChain
  have : chN F (.tuple (row.map eN)) = some row := by
    unfold chN
    simp only [nums_of h.lt]
    rw [if_pos ⟨h.ne, h.lk⟩]
  rw [this]
  exact decide_eq_true h.no
theorem linkd_cons {F : Fl} {o a : Nat} {rest : List Nat} (ho : (o, a) ∈ F.orders) (h : linkd F (a :: rest)) : linkd F (o :: a :: rest) := fun i x y hx hy => by
  cases i with
  | zero =>
    simp at hx hy
    subst hx
    subst hy
    exact ho
  | succ i => exact h i x y (by simpa using hx) (by simpa using hy)
theorem last_snoc {row : List Nat} {b : Nat} : (row ++ [b]).getLastD 0 = b := by
  rw [List.getLastD_eq_getLast?, List.getLast?_concat]
  rfl
theorem last_get {row : List Nat} (h : row ≠ []) : row[row.length - 1]? = some (row.getLastD 0) := by
  rw [List.getLastD_eq_getLast?, List.getLast?_eq_getElem?]
  have : row.length - 1 < row.length := by
    have := List.length_pos_iff.mpr h
    omega
  rw [mem_at this]
  rfl
theorem linkd_snoc {F : Fl} {row : List Nat} {b : Nat} (hne : row ≠ []) (ho : (row.getLastD 0, b) ∈ F.orders) (h : linkd F row) : linkd F (row ++ [b]) := fun i x y hx hy => by
  have hi := (List.getElem?_eq_some_iff.mp hy).1
  rw [List.length_append, List.length_singleton] at hi
  rcases Nat.lt_or_ge (i + 1) row.length with h' | h'
  · rw [List.getElem?_append_left (by omega)] at hx
    rw [List.getElem?_append_left h'] at hy
    exact h i x y hx hy
  · have e : i = row.length - 1 := by omega
    have hp := List.length_pos_iff.mpr hne
    rw [List.getElem?_append_left (by omega), e, last_get hne] at hx
    rw [List.getElem?_append_right (by omega), show i + 1 - row.length = 0 by omega] at hy
    simp at hx hy
    subst hy
    rw [← hx, List.getLastD_eq_getLast?] at *
    exact ho
theorem winF_att {F : Fl} {most : Int} (hF : GoodFl most F) {cs : List Ch} (a : Nat) : winF F cs a = ownF cs a ∨ ∃ o ∈ F.orders, o.2 = a ∧ winF F cs o.1 + F.h o.1 = winF F cs o.2 := by
  have h := att_swp (E := arcsF F) (f := ownF cs) (fun e he => by
    obtain ⟨o, ho, rfl⟩ := List.mem_map.mp he
    exact (ord_ok hF ho).2.2) F.jobs.length a
  rcases h with h | ⟨e, he, h1, h2⟩
  · exact .inl h
  · obtain ⟨o, ho, rfl⟩ := List.mem_map.mp he
    have h3 := clo_F hF (f := ownF cs) _ he
    refine .inr ⟨o, ho, h1, ?_⟩
    have h1 : o.2 = a := h1
    have h2 : winF F cs a ≤ winF F cs o.1 + F.h o.1 := h2
    have h3 : winF F cs o.1 + F.h o.1 ≤ winF F cs o.2 := h3
    rw [h1] at h3 ⊢
    omega
theorem winL_att {F : Fl} {most : Int} (hF : GoodFl most F) {L : Int} {cs : List Ch} (a : Nat) : winL F L cs a = ownL' F L cs a ∨ ∃ o ∈ F.orders, o.1 = a ∧ winL F L cs o.2 - F.h o.1 = winL F L cs o.1 := by
  have h := att_swp (E := arcsL F) (f := fun k => -(ownL' F L cs k)) (fun e he => by
    obtain ⟨o, ho, rfl⟩ := List.mem_map.mp he
    exact fun z => (ord_ok hF ho).2.2 z.symm) F.jobs.length a
  rcases h with h | ⟨e, he, h1, h2⟩
  · have h : winG F L cs a = -(ownL' F L cs a) := h
    exact .inl (by unfold winL; rw [h]; omega)
  · obtain ⟨o, ho, rfl⟩ := List.mem_map.mp he
    have h3 := clo_L hF (f := fun k => -(ownL' F L cs k)) _ he
    refine .inr ⟨o, ho, h1, ?_⟩
    have h1 : o.1 = a := h1
    have h2 : winG F L cs a ≤ winG F L cs o.2 + F.h o.1 := h2
    have h3 : winG F L cs o.2 + F.h o.1 ≤ winG F L cs o.1 := h3
    unfold winL
    rw [h1] at h3 ⊢
    rw [h1] at h2
    omega
def g_chain_of : Pm := fun ds R => ∃ (F : Fl) (L : Int) (cs : List Ch) (k : Nat), ds = [eFl F, .list ((ownW F L cs).map eP), .list ((winW F L cs).map eP), .int k] ∧ GoodFl 50 F ∧ k < F.jobs.length ∧ winL F L cs k < winF F cs k ∧ ∀ row, ChainOk F L cs row → R (.tuple (row.map eN))
abbrev e_chain_of : FnE := ⟨"chain_of", 4, false, g_chain_of⟩
theorem chain_of_ap {F : Fl} {L : Int} {cs : List Ch} {k : Nat} {Q : PyData → Prop} (hF : GoodFl 50 F) (hk : k < F.jobs.length) (h : winL F L cs k < winF F cs k) (q : ∀ row, ChainOk F L cs row → Q (.tuple (row.map eN))) : g_chain_of [eFl F, .list ((ownW F L cs).map eP), .list ((winW F L cs).map eP), .int k] Q := ⟨F, L, cs, k, rfl, hF, hk, h, q⟩
theorem own_get {F : Fl} {L : Int} {cs : List Ch} {k : Nat} (hk : k < F.jobs.length) : (ownW F L cs)[k]? = some (ownF cs k, ownL' F L cs k) := vec_get hk
theorem win_get {F : Fl} {L : Int} {cs : List Ch} {k : Nat} (hk : k < F.jobs.length) : (winW F L cs)[k]? = some (winF F cs k, winL F L cs k) := vec_get hk
theorem at_lastN {row : List Nat} (h : row ≠ []) : atI (row.map eN) (-1) = some (.int (row.getLastD 0 : Nat)) := by
  have h' : row.map eN ≠ [] := by simpa using h
  rw [at_last h', List.getLast_map (by simpa using h)]
  congr 1
  show eN _ = eN _
  congr 1
  have := last_get h
  rw [List.getLast_eq_getElem]
  exact Option.some.inj ((List.getElem?_eq_getElem _).symm.trans this)
theorem sem_chain_of : ∀ ds R, ds.length = 4 → g_chain_of ds R → wpSs (Gof []) ir_chain_of (startE 7 ds) { nx := fun _ => false = false ∧ R .none, rt := R } := by
  rintro _ R _ ⟨F, L, cs, k, rfl, hF, hk, hbad, q⟩
  have j2 := hF.j2
  have ho40 := hF.o
  obtain ⟨rank, hrb, hrk⟩ := hF.r
  (try simp only [ir_chain_of, ↓wpSs, ↓wpS, ↓wpE, ↓wpEs, ↓wpBop, ↓wpIfs, ↓wpIt, ↓pk, ↓bindT, ↓ownL, ↓lockIt, ↓unlockIt, isT, ↓setAll, ↓wipeE, ↓startE, ↓Tg.slots, ↓IEs.fine, ↓IEs.len, ↓noOwn, ↓isOwnE, ↓Sl.isO, ↓Ev.freeAll, List.replicate, if_true, if_false, reduceIte, Nat.reduceLeDiff, Nat.reduceSub, Nat.reduceAdd, eq_self, reduceCtorEq, Int.reduceLT, Nat.reduceLT, ↓wpl, wpu])
  refine ⟨fun m r => ∃ (a : Nat) (rest : List Nat), m = rank a ∧ linkd F (a :: rest) ∧ (∀ x ∈ a :: rest, x < F.jobs.length) ∧ (a :: rest).getLastD 0 = k ∧ winF F cs a + ((a :: rest).dropLast.map F.h).sum = winF F cs k ∧ rest.length + 1 + rank a ≤ F.jobs.length ∧ r = [.val (eFl F), .val (.list ((ownW F L cs).map eP)), .val (.list ((winW F L cs).map eP)), .val (.int k), .own (.list ((a :: rest).map eN)), .un, .un], ⟨_, k, [], rfl, fun i x y hx hy => by simp at hy, fun x hx => by simp at hx; omega, rfl, by simp, by have := hrb k hk; simp; omega, rfl⟩, ?_⟩
  rintro m _ ⟨a, rest, rfl, hlk, hlt, hlast, hsum, hlen, rfl⟩
  have ha := hlt a List.mem_cons_self
  (try simp only [eN_def, ↓wpSs, ↓wpS, ↓wpE, ↓wpEs, ↓wpBop, ↓wpIfs, ↓wpIt, ↓pk, ↓bindT, ↓ownL, ↓lockIt, ↓unlockIt, isT, ↓setAll, ↓wipeE, ↓startE, ↓Tg.slots, ↓IEs.fine, ↓IEs.len, ↓noOwn, ↓isOwnE, ↓Sl.isO, ↓Ev.freeAll, List.replicate, if_true, if_false, reduceIte, Nat.reduceLeDiff, Nat.reduceSub, Nat.reduceAdd, eq_self, reduceCtorEq, Int.reduceLT, Nat.reduceLT, ↓wpl, wpu])
  refine at_map (own_get ha) ?_
  (try simp only [eN_def, ↓wpSs, ↓wpS, ↓wpE, ↓wpEs, ↓wpBop, ↓wpIfs, ↓wpIt, ↓pk, ↓bindT, ↓ownL, ↓lockIt, ↓unlockIt, isT, ↓setAll, ↓wipeE, ↓startE, ↓Tg.slots, ↓IEs.fine, ↓IEs.len, ↓noOwn, ↓isOwnE, ↓Sl.isO, ↓Ev.freeAll, List.replicate, if_true, if_false, reduceIte, Nat.reduceLeDiff, Nat.reduceSub, Nat.reduceAdd, eq_self, reduceCtorEq, Int.reduceLT, Nat.reduceLT, ↓wpl, wpu])
  refine at_map (win_get ha) ?_
  (try simp only [↓wpSs, ↓wpS, ↓wpE, ↓wpEs, ↓wpBop, ↓wpIfs, ↓wpIt, ↓pk, ↓bindT, ↓ownL, ↓lockIt, ↓unlockIt, isT, ↓setAll, ↓wipeE, ↓startE, ↓Tg.slots, ↓IEs.fine, ↓IEs.len, ↓noOwn, ↓isOwnE, ↓Sl.isO, ↓Ev.freeAll, List.replicate, if_true, if_false, reduceIte, Nat.reduceLeDiff, Nat.reduceSub, Nat.reduceAdd, eq_self, reduceCtorEq, Int.reduceLT, Nat.reduceLT, ↓wpl, wpu])
  by_cases hown : ownF cs a = winF F cs a
  · rw [decide_eq_true hown]
    (try simp only [ir_chain_of_t1, ↓wpSs, ↓wpS, ↓wpE, ↓wpEs, ↓wpBop, ↓wpIfs, ↓wpIt, ↓pk, ↓bindT, ↓ownL, ↓lockIt, ↓unlockIt, isT, ↓setAll, ↓wipeE, ↓startE, ↓Tg.slots, ↓IEs.fine, ↓IEs.len, ↓noOwn, ↓isOwnE, ↓Sl.isO, ↓Ev.freeAll, List.replicate, if_true, if_false, reduceIte, Nat.reduceLeDiff, Nat.reduceSub, Nat.reduceAdd, eq_self, reduceCtorEq, Int.reduceLT, Nat.reduceLT, ↓wpl, wpu])
    have hfin : ∀ row : List Nat, ChainOk F L cs row → R (.tuple (row.map eN)) := q
    refine ⟨fun m r => ∃ (row : List Nat), row ≠ [] ∧ m = F.jobs.length - rank (row.getLastD 0) ∧ linkd F row ∧ (∀ x ∈ row, x < F.jobs.length) ∧ row.headD 0 = a ∧ winL F L cs (row.getLastD 0) < winF F cs a + (row.dropLast.map F.h).sum ∧ row.length ≤ F.jobs.length + rank (row.getLastD 0) ∧ r = [.val (eFl F), .val (.list ((ownW F L cs).map eP)), .val (.list ((winW F L cs).map eP)), .val (.int k), .own (.list (row.map eN)), .un, .un], ⟨_, a :: rest, by simp, rfl, hlk, hlt, rfl, by rw [hlast, hsum]; exact hbad, by simp; omega, rfl⟩, ?_⟩
    clear hlk hlt hlast hsum hlen
    rintro m _ ⟨row, hne, rfl, hlk, hlt, hhd, hno, hlen, rfl⟩
    have hzm : row.getLastD 0 ∈ row := List.mem_of_getElem? (last_get hne)
    have hz := hlt _ hzm
    have hrz := hrb _ hz
    have hl := at_lastN hne
    generalize hze : row.getLastD 0 = z at *
    (try simp only [hl, ↓wpSs, ↓wpS, ↓wpE, ↓wpEs, ↓wpBop, ↓wpIfs, ↓wpIt, ↓pk, ↓bindT, ↓ownL, ↓lockIt, ↓unlockIt, isT, ↓setAll, ↓wipeE, ↓startE, ↓Tg.slots, ↓IEs.fine, ↓IEs.len, ↓noOwn, ↓isOwnE, ↓Sl.isO, ↓Ev.freeAll, List.replicate, if_true, if_false, reduceIte, Nat.reduceLeDiff, Nat.reduceSub, Nat.reduceAdd, eq_self, reduceCtorEq, Int.reduceLT, Nat.reduceLT, ↓wpl, wpu])
    refine at_map (own_get hz) ?_
    (try simp only [hl, ↓wpSs, ↓wpS, ↓wpE, ↓wpEs, ↓wpBop, ↓wpIfs, ↓wpIt, ↓pk, ↓bindT, ↓ownL, ↓lockIt, ↓unlockIt, isT, ↓setAll, ↓wipeE, ↓startE, ↓Tg.slots, ↓IEs.fine, ↓IEs.len, ↓noOwn, ↓isOwnE, ↓Sl.isO, ↓Ev.freeAll, List.replicate, if_true, if_false, reduceIte, Nat.reduceLeDiff, Nat.reduceSub, Nat.reduceAdd, eq_self, reduceCtorEq, Int.reduceLT, Nat.reduceLT, ↓wpl, wpu])
    refine at_map (win_get hz) ?_
    (try simp only [↓wpSs, ↓wpS, ↓wpE, ↓wpEs, ↓wpBop, ↓wpIfs, ↓wpIt, ↓pk, ↓bindT, ↓ownL, ↓lockIt, ↓unlockIt, isT, ↓setAll, ↓wipeE, ↓startE, ↓Tg.slots, ↓IEs.fine, ↓IEs.len, ↓noOwn, ↓isOwnE, ↓Sl.isO, ↓Ev.freeAll, List.replicate, if_true, if_false, reduceIte, Nat.reduceLeDiff, Nat.reduceSub, Nat.reduceAdd, eq_self, reduceCtorEq, Int.reduceLT, Nat.reduceLT, ↓wpl, wpu])
    by_cases hown2 : ownL' F L cs z = winL F L cs z
    · rw [decide_eq_true hown2]
      (try simp only [ir_chain_of_t0, ↓wpSs, ↓wpS, ↓wpE, ↓wpEs, ↓wpBop, ↓wpIfs, ↓wpIt, ↓pk, ↓bindT, ↓ownL, ↓lockIt, ↓unlockIt, isT, ↓setAll, ↓wipeE, ↓startE, ↓Tg.slots, ↓IEs.fine, ↓IEs.len, ↓noOwn, ↓isOwnE, ↓Sl.isO, ↓Ev.freeAll, List.replicate, if_true, if_false, reduceIte, Nat.reduceLeDiff, Nat.reduceSub, Nat.reduceAdd, eq_self, reduceCtorEq, Int.reduceLT, Nat.reduceLT, ↓wpl, wpu])
      refine q row ⟨hne, hlk, hlt, by omega, ?_⟩
      rw [hze, hhd, hown2, hown]
      exact hno
    · rw [decide_eq_false hown2]
      (try simp only [ir_chain_of_b3, ↓wpSs, ↓wpS, ↓wpE, ↓wpEs, ↓wpBop, ↓wpIfs, ↓wpIt, ↓pk, ↓bindT, ↓ownL, ↓lockIt, ↓unlockIt, isT, ↓setAll, ↓wipeE, ↓startE, ↓Tg.slots, ↓IEs.fine, ↓IEs.len, ↓noOwn, ↓isOwnE, ↓Sl.isO, ↓Ev.freeAll, List.replicate, if_true, if_false, reduceIte, Nat.reduceLeDiff, Nat.reduceSub, Nat.reduceAdd, eq_self, reduceCtorEq, Int.reduceLT, Nat.reduceLT, ↓wpl, wpu])
      refine forL_map (fun i r => r = [.val (eFl F), .val (.list ((ownW F L cs).map eP)), .val (.list ((winW F L cs).map eP)), .val (.int k), .own (.list (row.map eN)), .un, .un] ∧ ∀ (j : Nat) o, j < i → F.orders[j]? = some o → ¬ (o.1 = z ∧ winL F L cs o.2 - F.h o.1 = winL F L cs o.1)) ⟨rfl, fun j o h => by omega⟩ ?_ ?_
      · rintro _ ⟨rfl, h⟩
        exfalso
        rcases winL_att hF (L := L) (cs := cs) z with h1 | ⟨o, ho, h1, h2⟩
        · exact hown2 h1.symm
        · obtain ⟨j, hj, e⟩ := List.mem_iff_getElem.mp ho
          exact h j o hj (by rw [← e]; exact mem_at hj) ⟨h1, h2⟩
      · rintro i o _ K hi ⟨rfl, h⟩ hK
        have ho := List.mem_of_getElem? hi
        obtain ⟨h1, h2, h3⟩ := ord_ok hF ho
        have eh : (F.jobs.getD o.1 (0, [])).1 = F.h o.1 := rfl
        have keep : ¬ (o.1 = z ∧ winL F L cs o.2 - F.h o.1 = winL F L cs o.1) → K [.val (eFl F), .val (.list ((ownW F L cs).map eP)), .val (.list ((winW F L cs).map eP)), .val (.int k), .own (.list (row.map eN)), .un, .un] := fun hno => hK _ ⟨rfl, fun j o' hj ho' => by
          rcases Nat.lt_or_ge j i with h' | h'
          · exact h j o' h' ho'
          · have : j = i := by omega
            subst this
            rw [hi] at ho'
            cases ho'
            exact hno⟩
        (try simp only [ir_chain_of_b2, ex_ord, hl, ↓wpSs, ↓wpS, ↓wpE, ↓wpEs, ↓wpBop, ↓wpIfs, ↓wpIt, ↓pk, ↓bindT, ↓ownL, ↓lockIt, ↓unlockIt, isT, ↓setAll, ↓wipeE, ↓startE, ↓Tg.slots, ↓IEs.fine, ↓IEs.len, ↓noOwn, ↓isOwnE, ↓Sl.isO, ↓Ev.freeAll, List.replicate, if_true, if_false, reduceIte, Nat.reduceLeDiff, Nat.reduceSub, Nat.reduceAdd, eq_self, reduceCtorEq, Int.reduceLT, Nat.reduceLT, ↓wpl, wpu])
        by_cases hoz : o.1 = z
        · have hoz' : (o.1 : Int) = z := by omega
          (try simp only [hoz', ↓wpSs, ↓wpS, ↓wpE, ↓wpEs, ↓wpBop, ↓wpIfs, ↓wpIt, ↓pk, ↓bindT, ↓ownL, ↓lockIt, ↓unlockIt, isT, ↓setAll, ↓wipeE, ↓startE, ↓Tg.slots, ↓IEs.fine, ↓IEs.len, ↓noOwn, ↓isOwnE, ↓Sl.isO, ↓Ev.freeAll, List.replicate, if_true, if_false, reduceIte, Nat.reduceLeDiff, Nat.reduceSub, Nat.reduceAdd, eq_self, reduceCtorEq, Int.reduceLT, Nat.reduceLT, ↓wpl, wpu])
          refine at_map (win_get h2) ?_
          (try simp only [↓wpSs, ↓wpS, ↓wpE, ↓wpEs, ↓wpBop, ↓wpIfs, ↓wpIt, ↓pk, ↓bindT, ↓ownL, ↓lockIt, ↓unlockIt, isT, ↓setAll, ↓wipeE, ↓startE, ↓Tg.slots, ↓IEs.fine, ↓IEs.len, ↓noOwn, ↓isOwnE, ↓Sl.isO, ↓Ev.freeAll, List.replicate, if_true, if_false, reduceIte, Nat.reduceLeDiff, Nat.reduceSub, Nat.reduceAdd, eq_self, reduceCtorEq, Int.reduceLT, Nat.reduceLT, ↓wpl, wpu])
          refine at_mapI (by omega) (get_job (k := z) hz) ?_
          (try simp only [↓wpSs, ↓wpS, ↓wpE, ↓wpEs, ↓wpBop, ↓wpIfs, ↓wpIt, ↓pk, ↓bindT, ↓ownL, ↓lockIt, ↓unlockIt, isT, ↓setAll, ↓wipeE, ↓startE, ↓Tg.slots, ↓IEs.fine, ↓IEs.len, ↓noOwn, ↓isOwnE, ↓Sl.isO, ↓Ev.freeAll, List.replicate, if_true, if_false, reduceIte, Nat.reduceLeDiff, Nat.reduceSub, Nat.reduceAdd, eq_self, reduceCtorEq, Int.reduceLT, Nat.reduceLT, ↓wpl, wpu])
          refine at_mapI (by omega) (win_get (k := z) hz) ?_
          (try simp only [↓wpSs, ↓wpS, ↓wpE, ↓wpEs, ↓wpBop, ↓wpIfs, ↓wpIt, ↓pk, ↓bindT, ↓ownL, ↓lockIt, ↓unlockIt, isT, ↓setAll, ↓wipeE, ↓startE, ↓Tg.slots, ↓IEs.fine, ↓IEs.len, ↓noOwn, ↓isOwnE, ↓Sl.isO, ↓Ev.freeAll, List.replicate, if_true, if_false, reduceIte, Nat.reduceLeDiff, Nat.reduceSub, Nat.reduceAdd, eq_self, reduceCtorEq, Int.reduceLT, Nat.reduceLT, ↓wpl, wpu])
          by_cases hc : winL F L cs o.2 - F.h o.1 = winL F L cs o.1
          · rw [if_pos (by rw [hoz] at hc; exact hc)]
            refine ⟨by omega, ?_⟩
            have hrr := (hrk o ho).2.2
            have hrb2 := hrb _ h2
            rw [hoz] at hrr
            refine ⟨F.jobs.length - rank o.2, by omega, row ++ [o.2], by simp, by rw [last_snoc], linkd_snoc hne (by rw [hze, ← hoz]; exact ho) hlk, fun x hx => ?_, ?_, ?_, ?_, by rw [List.map_append]; rfl⟩
            · rw [List.mem_append, List.mem_singleton] at hx
              rcases hx with hx | rfl
              · exact hlt x hx
              · exact h2
            · cases row with
              | nil => exact (hne rfl).elim
              | cons b bs => exact hhd
            · rw [last_snoc, List.dropLast_concat]
              have e1 : row = row.dropLast ++ [z] := by
                have := List.dropLast_concat_getLast hne
                have e2 : row.getLast hne = z := by
                  have := last_get hne
                  rw [List.getLast_eq_getElem]
                  rw [hze] at this
                  exact Option.some.inj ((List.getElem?_eq_getElem _).symm.trans this)
                rw [e2] at this
                exact this.symm
              have e2 : (row.map F.h).sum = (row.dropLast.map F.h).sum + F.h z := by
                conv => lhs; rw [e1, List.map_append, List.sum_append]
                simp
              rw [e2]
              rw [hoz] at hc
              omega
            · rw [last_snoc, List.length_append, List.length_singleton]
              omega
          · rw [if_neg (by rw [hoz] at hc; exact hc)]
            exact keep fun e => hc e.2
        · have hoz' : ¬ ((o.1 : Int) = z) := by omega
          (try simp only [hoz', ↓wpSs, ↓wpS, ↓wpE, ↓wpEs, ↓wpBop, ↓wpIfs, ↓wpIt, ↓pk, ↓bindT, ↓ownL, ↓lockIt, ↓unlockIt, isT, ↓setAll, ↓wipeE, ↓startE, ↓Tg.slots, ↓IEs.fine, ↓IEs.len, ↓noOwn, ↓isOwnE, ↓Sl.isO, ↓Ev.freeAll, List.replicate, if_true, if_false, reduceIte, Nat.reduceLeDiff, Nat.reduceSub, Nat.reduceAdd, eq_self, reduceCtorEq, Int.reduceLT, Nat.reduceLT, ↓wpl, wpu])
          exact keep fun e => hoz e.1
  · rw [decide_eq_false hown]
    (try simp only [ir_chain_of_b1, ↓wpSs, ↓wpS, ↓wpE, ↓wpEs, ↓wpBop, ↓wpIfs, ↓wpIt, ↓pk, ↓bindT, ↓ownL, ↓lockIt, ↓unlockIt, isT, ↓setAll, ↓wipeE, ↓startE, ↓Tg.slots, ↓IEs.fine, ↓IEs.len, ↓noOwn, ↓isOwnE, ↓Sl.isO, ↓Ev.freeAll, List.replicate, if_true, if_false, reduceIte, Nat.reduceLeDiff, Nat.reduceSub, Nat.reduceAdd, eq_self, reduceCtorEq, Int.reduceLT, Nat.reduceLT, ↓wpl, wpu])
    refine forL_map (fun i r => r = [.val (eFl F), .val (.list ((ownW F L cs).map eP)), .val (.list ((winW F L cs).map eP)), .val (.int k), .own (.list ((a :: rest).map eN)), .un, .un] ∧ ∀ (j : Nat) o, j < i → F.orders[j]? = some o → ¬ (o.2 = a ∧ winF F cs o.1 + F.h o.1 = winF F cs o.2)) ⟨rfl, fun j o h => by omega⟩ ?_ ?_
    · rintro _ ⟨rfl, h⟩
      exfalso
      rcases winF_att hF (cs := cs) a with h1 | ⟨o, ho, h1, h2⟩
      · exact hown h1.symm
      · obtain ⟨j, hj, e⟩ := List.mem_iff_getElem.mp ho
        exact h j o hj (by rw [← e]; exact mem_at hj) ⟨h1, h2⟩
    · rintro i o _ K hi ⟨rfl, h⟩ hK
      have ho := List.mem_of_getElem? hi
      obtain ⟨h1, h2, h3⟩ := ord_ok hF ho
      have eh : (F.jobs.getD o.1 (0, [])).1 = F.h o.1 := rfl
      have keep : ¬ (o.2 = a ∧ winF F cs o.1 + F.h o.1 = winF F cs o.2) → K [.val (eFl F), .val (.list ((ownW F L cs).map eP)), .val (.list ((winW F L cs).map eP)), .val (.int k), .own (.list ((a :: rest).map eN)), .un, .un] := fun hno => hK _ ⟨rfl, fun j o' hj ho' => by
        rcases Nat.lt_or_ge j i with h' | h'
        · exact h j o' h' ho'
        · have : j = i := by omega
          subst this
          rw [hi] at ho'
          cases ho'
          exact hno⟩
      (try simp only [ir_chain_of_b0, ex_ord, eN_def, ↓wpSs, ↓wpS, ↓wpE, ↓wpEs, ↓wpBop, ↓wpIfs, ↓wpIt, ↓pk, ↓bindT, ↓ownL, ↓lockIt, ↓unlockIt, isT, ↓setAll, ↓wipeE, ↓startE, ↓Tg.slots, ↓IEs.fine, ↓IEs.len, ↓noOwn, ↓isOwnE, ↓Sl.isO, ↓Ev.freeAll, List.replicate, if_true, if_false, reduceIte, Nat.reduceLeDiff, Nat.reduceSub, Nat.reduceAdd, eq_self, reduceCtorEq, Int.reduceLT, Nat.reduceLT, ↓wpl, wpu])
      by_cases hoz : o.2 = a
      · have hoz' : (o.2 : Int) = a := by omega
        (try simp only [hoz', ↓wpSs, ↓wpS, ↓wpE, ↓wpEs, ↓wpBop, ↓wpIfs, ↓wpIt, ↓pk, ↓bindT, ↓ownL, ↓lockIt, ↓unlockIt, isT, ↓setAll, ↓wipeE, ↓startE, ↓Tg.slots, ↓IEs.fine, ↓IEs.len, ↓noOwn, ↓isOwnE, ↓Sl.isO, ↓Ev.freeAll, List.replicate, if_true, if_false, reduceIte, Nat.reduceLeDiff, Nat.reduceSub, Nat.reduceAdd, eq_self, reduceCtorEq, Int.reduceLT, Nat.reduceLT, ↓wpl, wpu])
        refine at_map (win_get h1) ?_
        (try simp only [↓wpSs, ↓wpS, ↓wpE, ↓wpEs, ↓wpBop, ↓wpIfs, ↓wpIt, ↓pk, ↓bindT, ↓ownL, ↓lockIt, ↓unlockIt, isT, ↓setAll, ↓wipeE, ↓startE, ↓Tg.slots, ↓IEs.fine, ↓IEs.len, ↓noOwn, ↓isOwnE, ↓Sl.isO, ↓Ev.freeAll, List.replicate, if_true, if_false, reduceIte, Nat.reduceLeDiff, Nat.reduceSub, Nat.reduceAdd, eq_self, reduceCtorEq, Int.reduceLT, Nat.reduceLT, ↓wpl, wpu])
        refine at_map (get_job h1) ?_
        (try simp only [↓wpSs, ↓wpS, ↓wpE, ↓wpEs, ↓wpBop, ↓wpIfs, ↓wpIt, ↓pk, ↓bindT, ↓ownL, ↓lockIt, ↓unlockIt, isT, ↓setAll, ↓wipeE, ↓startE, ↓Tg.slots, ↓IEs.fine, ↓IEs.len, ↓noOwn, ↓isOwnE, ↓Sl.isO, ↓Ev.freeAll, List.replicate, if_true, if_false, reduceIte, Nat.reduceLeDiff, Nat.reduceSub, Nat.reduceAdd, eq_self, reduceCtorEq, Int.reduceLT, Nat.reduceLT, ↓wpl, wpu])
        refine at_mapI (by omega) (win_get (k := a) ha) ?_
        (try simp only [↓wpSs, ↓wpS, ↓wpE, ↓wpEs, ↓wpBop, ↓wpIfs, ↓wpIt, ↓pk, ↓bindT, ↓ownL, ↓lockIt, ↓unlockIt, isT, ↓setAll, ↓wipeE, ↓startE, ↓Tg.slots, ↓IEs.fine, ↓IEs.len, ↓noOwn, ↓isOwnE, ↓Sl.isO, ↓Ev.freeAll, List.replicate, if_true, if_false, reduceIte, Nat.reduceLeDiff, Nat.reduceSub, Nat.reduceAdd, eq_self, reduceCtorEq, Int.reduceLT, Nat.reduceLT, ↓wpl, wpu])
        rw [eh]
        by_cases hc : winF F cs o.1 + F.h o.1 = winF F cs o.2
        · rw [if_pos (by rw [hoz] at hc; exact hc)]
          have hrr := (hrk o ho).2.2
          rw [hoz] at hrr
          refine ⟨by omega, by omega, by decide, ?_⟩
          refine ⟨rank o.1, by omega, o.1, a :: rest, rfl, linkd_cons (by rw [← hoz]; exact ho) hlk, fun x hx => ?_, ?_, ?_, by simp; omega, rfl⟩
          · rcases List.mem_cons.mp hx with rfl | hx
            · exact h1
            · exact hlt x hx
          · rw [← hlast]
            rfl
          · rw [List.dropLast_cons_of_ne_nil (by simp), List.map_cons, List.sum_cons]
            rw [hoz] at hc
            omega
        · rw [if_neg (by rw [hoz] at hc; exact hc)]
          exact keep fun e => hc e.2
      · have hoz' : ¬ ((o.2 : Int) = a) := by omega
        (try simp only [hoz', ↓wpSs, ↓wpS, ↓wpE, ↓wpEs, ↓wpBop, ↓wpIfs, ↓wpIt, ↓pk, ↓bindT, ↓ownL, ↓lockIt, ↓unlockIt, isT, ↓setAll, ↓wipeE, ↓startE, ↓Tg.slots, ↓IEs.fine, ↓IEs.len, ↓noOwn, ↓isOwnE, ↓Sl.isO, ↓Ev.freeAll, List.replicate, if_true, if_false, reduceIte, Nat.reduceLeDiff, Nat.reduceSub, Nat.reduceAdd, eq_self, reduceCtorEq, Int.reduceLT, Nat.reduceLT, ↓wpl, wpu])
        exact keep fun e => hoz e.1
end CF
namespace CF
open PySem PySem.Spec PyProof.Rows L2
/-! ### what shuts the windows -/
theorem foldF_nn {k : Nat} : ∀ {cs : List Ch} {a : Int}, 0 ≤ a → 0 ≤ cs.foldl (inF1 k) a
  | [], a, h => h
  | c :: cs, a, h => by
    rw [List.foldl_cons]
    refine foldF_nn ?_
    unfold inF1
    split <;> omega
theorem ownF_nn {cs : List Ch} {k : Nat} : 0 ≤ ownF cs k := foldF_nn (Int.le_refl _)
theorem winF_nn {F : Fl} {cs : List Ch} {k : Nat} : 0 ≤ winF F cs k := Int.le_trans ownF_nn (swp_ge _ _)
structure Quiet (F : Fl) (L : Int) (cs : List Ch) : Prop where
  w : ∀ k, k < F.jobs.length → winF F cs k ≤ winL F L cs k
  s : ∀ c, c < F.crews.length → ∀ i, i < F.jobs.length → ∀ j, j < F.jobs.length → 0 < F.need i c → 0 < F.need j c → winF F cs i < winL F L cs j + F.h j →
    mAsked F (winW F L cs) c (winF F cs i) (winL F L cs j + F.h j) ≤ F.crews.getD c 0 * (winL F L cs j + F.h j - winF F cs i)
def g_end_of : Pm := fun ds R => ∃ (F : Fl) (L : Int) (cs : List Ch), ds = [eFl F, .int L, .list (cs.map eCh), .list ((winW F L cs).map eP)] ∧ GoodFl 50 F ∧ OkCh F cs ∧ (Quiet F L cs → R .none) ∧ ∀ t : Tr, mW F L cs t = true → t.ok → t.ht = 1 → R t.enc
abbrev e_end_of : FnE := ⟨"end_of", 4, false, g_end_of⟩
theorem end_of_ap {F : Fl} {L : Int} {cs : List Ch} {Q : PyData → Prop} (hF : GoodFl 50 F) (hc : OkCh F cs) (qn : Quiet F L cs → Q .none) (qt : ∀ t : Tr, mW F L cs t = true → t.ok → t.ht = 1 → Q t.enc) : g_end_of [eFl F, .int L, .list (cs.map eCh), .list ((winW F L cs).map eP)] Q := ⟨F, L, cs, rfl, hF, hc, qn, qt⟩
theorem sem_end_of : ∀ ds R, ds.length = 4 → g_end_of ds R → wpSs (Gof [e_chain_of, e_own_windows, e_asked]) ir_end_of (startE 10 ds) { nx := fun _ => false = false ∧ R .none, rt := R } := by
  rintro _ R _ ⟨F, L, cs, rfl, hF, hcs, qn, qt⟩
  have j2 := hF.j2
  have c4 := hF.c.2.1
  (try simp only [ir_end_of, ↓wpSs, ↓wpS, ↓wpE, ↓wpEs, ↓wpBop, ↓wpIfs, ↓wpIt, ↓pk, ↓bindT, ↓ownL, ↓lockIt, ↓unlockIt, isT, ↓setAll, ↓wipeE, ↓startE, ↓Tg.slots, ↓IEs.fine, ↓IEs.len, ↓noOwn, ↓isOwnE, ↓Sl.isO, ↓Ev.freeAll, List.replicate, if_true, if_false, reduceIte, Nat.reduceLeDiff, Nat.reduceSub, Nat.reduceAdd, eq_self, reduceCtorEq, Int.reduceLT, Nat.reduceLT, ↓wpl, wpu])
  rw [winW_len]
  refine ⟨by omega, ?_⟩
  refine forL_pred (fun k : Nat => winF F cs k ≤ winL F L cs k) (fun hw => ?_) fun k K hk hK => ?_
  · have hw' : ∀ k, k < F.jobs.length → winF F cs k ≤ winL F L cs k := fun k hk => hw k (List.mem_range.mpr hk)
    (try simp only [ir_end_of_t1, ↓wpSs, ↓wpS, ↓wpE, ↓wpEs, ↓wpBop, ↓wpIfs, ↓wpIt, ↓pk, ↓bindT, ↓ownL, ↓lockIt, ↓unlockIt, isT, ↓setAll, ↓wipeE, ↓startE, ↓Tg.slots, ↓IEs.fine, ↓IEs.len, ↓noOwn, ↓isOwnE, ↓Sl.isO, ↓Ev.freeAll, List.replicate, if_true, if_false, reduceIte, Nat.reduceLeDiff, Nat.reduceSub, Nat.reduceAdd, eq_self, reduceCtorEq, Int.reduceLT, Nat.reduceLT, ↓wpl, wpu])
    refine ⟨by omega, ?_⟩
    refine forL_pred (fun c : Nat => ∀ i, i < F.jobs.length → ∀ j, j < F.jobs.length → 0 < F.need i c → 0 < F.need j c → winF F cs i < winL F L cs j + F.h j → mAsked F (winW F L cs) c (winF F cs i) (winL F L cs j + F.h j) ≤ F.crews.getD c 0 * (winL F L cs j + F.h j - winF F cs i)) (fun hs => ?_) fun c K hc hK => ?_
    · (try simp only [ir_end_of_t0, ↓wpSs, ↓wpS, ↓wpE, ↓wpEs, ↓wpBop, ↓wpIfs, ↓wpIt, ↓pk, ↓bindT, ↓ownL, ↓lockIt, ↓unlockIt, isT, ↓setAll, ↓wipeE, ↓startE, ↓Tg.slots, ↓IEs.fine, ↓IEs.len, ↓noOwn, ↓isOwnE, ↓Sl.isO, ↓Ev.freeAll, List.replicate, if_true, if_false, reduceIte, Nat.reduceLeDiff, Nat.reduceSub, Nat.reduceAdd, eq_self, reduceCtorEq, Int.reduceLT, Nat.reduceLT, ↓wpl, wpu])
      exact qn ⟨hw', fun c hc => hs c (List.mem_range.mpr hc)⟩
    · have hc := List.mem_range.mp hc
      (try simp only [ir_end_of_b3, ↓wpSs, ↓wpS, ↓wpE, ↓wpEs, ↓wpBop, ↓wpIfs, ↓wpIt, ↓pk, ↓bindT, ↓ownL, ↓lockIt, ↓unlockIt, isT, ↓setAll, ↓wipeE, ↓startE, ↓Tg.slots, ↓IEs.fine, ↓IEs.len, ↓noOwn, ↓isOwnE, ↓Sl.isO, ↓Ev.freeAll, List.replicate, if_true, if_false, reduceIte, Nat.reduceLeDiff, Nat.reduceSub, Nat.reduceAdd, eq_self, reduceCtorEq, Int.reduceLT, Nat.reduceLT, ↓wpl, wpu])
      rw [winW_len]
      refine ⟨by omega, by omega, ?_⟩
      refine compL_if (fun k : Nat => decide (0 < F.need k c)) (fun k => .int (k : Nat)) (fun k hk K' h1 h2 => ?_) ?_
      · have hk := List.mem_range.mp hk
        (try simp only [↓wpSs, ↓wpS, ↓wpE, ↓wpEs, ↓wpBop, ↓wpIfs, ↓wpIt, ↓pk, ↓bindT, ↓ownL, ↓lockIt, ↓unlockIt, isT, ↓setAll, ↓wipeE, ↓startE, ↓Tg.slots, ↓IEs.fine, ↓IEs.len, ↓noOwn, ↓isOwnE, ↓Sl.isO, ↓Ev.freeAll, List.replicate, if_true, if_false, reduceIte, Nat.reduceLeDiff, Nat.reduceSub, Nat.reduceAdd, eq_self, reduceCtorEq, Int.reduceLT, Nat.reduceLT, ↓wpl, wpu])
        refine at_map (get_job hk) ?_
        (try simp only [↓wpSs, ↓wpS, ↓wpE, ↓wpEs, ↓wpBop, ↓wpIfs, ↓wpIt, ↓pk, ↓bindT, ↓ownL, ↓lockIt, ↓unlockIt, isT, ↓setAll, ↓wipeE, ↓startE, ↓Tg.slots, ↓IEs.fine, ↓IEs.len, ↓noOwn, ↓isOwnE, ↓Sl.isO, ↓Ev.freeAll, List.replicate, if_true, if_false, reduceIte, Nat.reduceLeDiff, Nat.reduceSub, Nat.reduceAdd, eq_self, reduceCtorEq, Int.reduceLT, Nat.reduceLT, ↓wpl, wpu])
        refine at_map (need_at hF hk hc) ?_
        (try simp only [↓wpSs, ↓wpS, ↓wpE, ↓wpEs, ↓wpBop, ↓wpIfs, ↓wpIt, ↓pk, ↓bindT, ↓ownL, ↓lockIt, ↓unlockIt, isT, ↓setAll, ↓wipeE, ↓startE, ↓Tg.slots, ↓IEs.fine, ↓IEs.len, ↓noOwn, ↓isOwnE, ↓Sl.isO, ↓Ev.freeAll, List.replicate, if_true, if_false, reduceIte, Nat.reduceLeDiff, Nat.reduceSub, Nat.reduceAdd, eq_self, reduceCtorEq, Int.reduceLT, Nat.reduceLT, ↓wpl, wpu])
        by_cases hn : 0 < F.need k c
        · rw [if_pos hn]
          exact h1 (decide_eq_true hn)
        · rw [if_neg hn]
          exact h2 (decide_eq_false hn)
      · obtain ⟨T, hT⟩ : ∃ T, (List.range F.jobs.length).filter (fun k : Nat => decide (0 < F.need k c)) = T := ⟨_, rfl⟩
        have hTm : ∀ k, k ∈ T ↔ k < F.jobs.length ∧ 0 < F.need k c := fun k => by
          rw [← hT, List.mem_filter, List.mem_range, decide_eq_true_eq]
        have hTl : T.length ≤ 12 := by
          rw [← hT]
          have := List.length_filter_le (fun k : Nat => decide (0 < F.need k c)) (List.range F.jobs.length)
          rw [List.length_range] at this
          omega
        rw [hT]
        clear hT
        (try simp only [↓wpSs, ↓wpS, ↓wpE, ↓wpEs, ↓wpBop, ↓wpIfs, ↓wpIt, ↓pk, ↓bindT, ↓ownL, ↓lockIt, ↓unlockIt, isT, ↓setAll, ↓wipeE, ↓startE, ↓Tg.slots, ↓IEs.fine, ↓IEs.len, ↓noOwn, ↓isOwnE, ↓Sl.isO, ↓Ev.freeAll, List.replicate, if_true, if_false, reduceIte, Nat.reduceLeDiff, Nat.reduceSub, Nat.reduceAdd, eq_self, reduceCtorEq, Int.reduceLT, Nat.reduceLT, ↓wpl, wpu])
        refine ⟨by omega, ?_⟩
        refine compL_map (fun k : Nat => .int (winL F L cs k + F.h k)) (fun k hk K' h => ?_) ?_
        · have hk := ((hTm k).mp hk).1
          (try simp only [↓wpSs, ↓wpS, ↓wpE, ↓wpEs, ↓wpBop, ↓wpIfs, ↓wpIt, ↓pk, ↓bindT, ↓ownL, ↓lockIt, ↓unlockIt, isT, ↓setAll, ↓wipeE, ↓startE, ↓Tg.slots, ↓IEs.fine, ↓IEs.len, ↓noOwn, ↓isOwnE, ↓Sl.isO, ↓Ev.freeAll, List.replicate, if_true, if_false, reduceIte, Nat.reduceLeDiff, Nat.reduceSub, Nat.reduceAdd, eq_self, reduceCtorEq, Int.reduceLT, Nat.reduceLT, ↓wpl, wpu])
          refine at_map (win_get hk) ?_
          (try simp only [↓wpSs, ↓wpS, ↓wpE, ↓wpEs, ↓wpBop, ↓wpIfs, ↓wpIt, ↓pk, ↓bindT, ↓ownL, ↓lockIt, ↓unlockIt, isT, ↓setAll, ↓wipeE, ↓startE, ↓Tg.slots, ↓IEs.fine, ↓IEs.len, ↓noOwn, ↓isOwnE, ↓Sl.isO, ↓Ev.freeAll, List.replicate, if_true, if_false, reduceIte, Nat.reduceLeDiff, Nat.reduceSub, Nat.reduceAdd, eq_self, reduceCtorEq, Int.reduceLT, Nat.reduceLT, ↓wpl, wpu])
          refine at_map (get_job hk) ?_
          (try simp only [↓wpSs, ↓wpS, ↓wpE, ↓wpEs, ↓wpBop, ↓wpIfs, ↓wpIt, ↓pk, ↓bindT, ↓ownL, ↓lockIt, ↓unlockIt, isT, ↓setAll, ↓wipeE, ↓startE, ↓Tg.slots, ↓IEs.fine, ↓IEs.len, ↓noOwn, ↓isOwnE, ↓Sl.isO, ↓Ev.freeAll, List.replicate, if_true, if_false, reduceIte, Nat.reduceLeDiff, Nat.reduceSub, Nat.reduceAdd, eq_self, reduceCtorEq, Int.reduceLT, Nat.reduceLT, ↓wpl, wpu])
          exact h
        · refine ⟨T.map fun k => winL F L cs k + F.h k, by rw [List.map_map]; rfl, by rw [List.length_map]; omega, fun es _ hes _ => ?_⟩
          (try simp only [↓wpSs, ↓wpS, ↓wpE, ↓wpEs, ↓wpBop, ↓wpIfs, ↓wpIt, ↓pk, ↓bindT, ↓ownL, ↓lockIt, ↓unlockIt, isT, ↓setAll, ↓wipeE, ↓startE, ↓Tg.slots, ↓IEs.fine, ↓IEs.len, ↓noOwn, ↓isOwnE, ↓Sl.isO, ↓Ev.freeAll, List.replicate, if_true, if_false, reduceIte, Nat.reduceLeDiff, Nat.reduceSub, Nat.reduceAdd, eq_self, reduceCtorEq, Int.reduceLT, Nat.reduceLT, ↓wpl, wpu])
          refine ⟨by omega, ?_⟩
          refine compL_map (fun k : Nat => .int (winF F cs k)) (fun k hk K' h => ?_) ?_
          · have hk := ((hTm k).mp hk).1
            (try simp only [↓wpSs, ↓wpS, ↓wpE, ↓wpEs, ↓wpBop, ↓wpIfs, ↓wpIt, ↓pk, ↓bindT, ↓ownL, ↓lockIt, ↓unlockIt, isT, ↓setAll, ↓wipeE, ↓startE, ↓Tg.slots, ↓IEs.fine, ↓IEs.len, ↓noOwn, ↓isOwnE, ↓Sl.isO, ↓Ev.freeAll, List.replicate, if_true, if_false, reduceIte, Nat.reduceLeDiff, Nat.reduceSub, Nat.reduceAdd, eq_self, reduceCtorEq, Int.reduceLT, Nat.reduceLT, ↓wpl, wpu])
            refine at_map (win_get hk) ?_
            (try simp only [↓wpSs, ↓wpS, ↓wpE, ↓wpEs, ↓wpBop, ↓wpIfs, ↓wpIt, ↓pk, ↓bindT, ↓ownL, ↓lockIt, ↓unlockIt, isT, ↓setAll, ↓wipeE, ↓startE, ↓Tg.slots, ↓IEs.fine, ↓IEs.len, ↓noOwn, ↓isOwnE, ↓Sl.isO, ↓Ev.freeAll, List.replicate, if_true, if_false, reduceIte, Nat.reduceLeDiff, Nat.reduceSub, Nat.reduceAdd, eq_self, reduceCtorEq, Int.reduceLT, Nat.reduceLT, ↓wpl, wpu])
            exact h
          · refine ⟨T.map fun k => winF F cs k, by rw [List.map_map]; rfl, by rw [List.length_map]; omega, fun bs _ hbs _ => ?_⟩
            (try simp only [↓wpSs, ↓wpS, ↓wpE, ↓wpEs, ↓wpBop, ↓wpIfs, ↓wpIt, ↓pk, ↓bindT, ↓ownL, ↓lockIt, ↓unlockIt, isT, ↓setAll, ↓wipeE, ↓startE, ↓Tg.slots, ↓IEs.fine, ↓IEs.len, ↓noOwn, ↓isOwnE, ↓Sl.isO, ↓Ev.freeAll, List.replicate, if_true, if_false, reduceIte, Nat.reduceLeDiff, Nat.reduceSub, Nat.reduceAdd, eq_self, reduceCtorEq, Int.reduceLT, Nat.reduceLT, ↓wpl, wpu])
            refine forL_pred (fun b : Int => ∀ e ∈ es, b < e → mAsked F (winW F L cs) c b e ≤ F.crews.getD c 0 * (e - b)) (fun hall => ?_) fun b K' hb hK' => ?_
            · (try simp only [↓wpSs, ↓wpS, ↓wpE, ↓wpEs, ↓wpBop, ↓wpIfs, ↓wpIt, ↓pk, ↓bindT, ↓ownL, ↓lockIt, ↓unlockIt, isT, ↓setAll, ↓wipeE, ↓startE, ↓Tg.slots, ↓IEs.fine, ↓IEs.len, ↓noOwn, ↓isOwnE, ↓Sl.isO, ↓Ev.freeAll, List.replicate, if_true, if_false, reduceIte, Nat.reduceLeDiff, Nat.reduceSub, Nat.reduceAdd, eq_self, reduceCtorEq, Int.reduceLT, Nat.reduceLT, ↓wpl, wpu])
              refine hK fun i hi j hj ni nj hlt => ?_
              exact hall _ ((hbs _).mpr (List.mem_map_of_mem (f := fun k => winF F cs k) ((hTm i).mpr ⟨hi, ni⟩))) _ ((hes _).mpr (List.mem_map_of_mem (f := fun k => winL F L cs k + F.h k) ((hTm j).mpr ⟨hj, nj⟩))) hlt
            · obtain ⟨i, hi, rfl⟩ := List.mem_map.mp ((hbs b).mp hb)
              (try simp only [ir_end_of_b2, ↓wpSs, ↓wpS, ↓wpE, ↓wpEs, ↓wpBop, ↓wpIfs, ↓wpIt, ↓pk, ↓bindT, ↓ownL, ↓lockIt, ↓unlockIt, isT, ↓setAll, ↓wipeE, ↓startE, ↓Tg.slots, ↓IEs.fine, ↓IEs.len, ↓noOwn, ↓isOwnE, ↓Sl.isO, ↓Ev.freeAll, List.replicate, if_true, if_false, reduceIte, Nat.reduceLeDiff, Nat.reduceSub, Nat.reduceAdd, eq_self, reduceCtorEq, Int.reduceLT, Nat.reduceLT, ↓wpl, wpu])
              refine forL_pred (fun e : Int => winF F cs i < e → mAsked F (winW F L cs) c (winF F cs i) e ≤ F.crews.getD c 0 * (e - winF F cs i)) (fun hall => ?_) fun e K2 he hK2 => ?_
              · (try simp only [↓wpSs, ↓wpS, ↓wpE, ↓wpEs, ↓wpBop, ↓wpIfs, ↓wpIt, ↓pk, ↓bindT, ↓ownL, ↓lockIt, ↓unlockIt, isT, ↓setAll, ↓wipeE, ↓startE, ↓Tg.slots, ↓IEs.fine, ↓IEs.len, ↓noOwn, ↓isOwnE, ↓Sl.isO, ↓Ev.freeAll, List.replicate, if_true, if_false, reduceIte, Nat.reduceLeDiff, Nat.reduceSub, Nat.reduceAdd, eq_self, reduceCtorEq, Int.reduceLT, Nat.reduceLT, ↓wpl, wpu])
                exact hK' hall
              · (try simp only [ir_end_of_b1, ↓wpSs, ↓wpS, ↓wpE, ↓wpEs, ↓wpBop, ↓wpIfs, ↓wpIt, ↓pk, ↓bindT, ↓ownL, ↓lockIt, ↓unlockIt, isT, ↓setAll, ↓wipeE, ↓startE, ↓Tg.slots, ↓IEs.fine, ↓IEs.len, ↓noOwn, ↓isOwnE, ↓Sl.isO, ↓Ev.freeAll, List.replicate, if_true, if_false, reduceIte, Nat.reduceLeDiff, Nat.reduceSub, Nat.reduceAdd, eq_self, reduceCtorEq, Int.reduceLT, Nat.reduceLT, ↓wpl, wpu])
                by_cases hlt : winF F cs i < e
                · rw [if_pos hlt]
                  refine asked_ap hF winW_len hc ?_
                  (try simp only [↓wpSs, ↓wpS, ↓wpE, ↓wpEs, ↓wpBop, ↓wpIfs, ↓wpIt, ↓pk, ↓bindT, ↓ownL, ↓lockIt, ↓unlockIt, isT, ↓setAll, ↓wipeE, ↓startE, ↓Tg.slots, ↓IEs.fine, ↓IEs.len, ↓noOwn, ↓isOwnE, ↓Sl.isO, ↓Ev.freeAll, List.replicate, if_true, if_false, reduceIte, Nat.reduceLeDiff, Nat.reduceSub, Nat.reduceAdd, eq_self, reduceCtorEq, Int.reduceLT, Nat.reduceLT, ↓wpl, wpu])
                  refine at_map (mem_at hc) ?_
                  have hcb := hF.c.2.2 F.crews[c] (List.getElem_mem hc)
                  rw [getD_of hc] at hK2
                  (try simp only [↓wpSs, ↓wpS, ↓wpE, ↓wpEs, ↓wpBop, ↓wpIfs, ↓wpIt, ↓pk, ↓bindT, ↓ownL, ↓lockIt, ↓unlockIt, isT, ↓setAll, ↓wipeE, ↓startE, ↓Tg.slots, ↓IEs.fine, ↓IEs.len, ↓noOwn, ↓isOwnE, ↓Sl.isO, ↓Ev.freeAll, List.replicate, if_true, if_false, reduceIte, Nat.reduceLeDiff, Nat.reduceSub, Nat.reduceAdd, eq_self, reduceCtorEq, Int.reduceLT, Nat.reduceLT, ↓wpl, wpu])
                  refine ⟨cmul_l (by omega), ?_⟩
                  split
                  · rename_i hgt
                    refine qt (.stretch (.int c) (.int (winF F cs i)) (.int e)) ?_ trivial rfl
                    show mStretch F L cs (.int c) (.int (winF F cs i)) (.int e) = true
                    unfold mStretch
                    rw [numN_nat hc]
                    have h0 := winF_nn (F := F) (cs := cs) (k := i)
                    simp only [whN]
                    rw [if_neg (by omega), getD_of hc]
                    exact decide_eq_true hgt
                  · rename_i hgt
                    exact hK2 fun _ => by omega
                · rw [if_neg hlt, if_neg hlt]
                  exact hK2 fun h => (hlt h).elim
  · have hk := List.mem_range.mp hk
    (try simp only [ir_end_of_b0, ↓wpSs, ↓wpS, ↓wpE, ↓wpEs, ↓wpBop, ↓wpIfs, ↓wpIt, ↓pk, ↓bindT, ↓ownL, ↓lockIt, ↓unlockIt, isT, ↓setAll, ↓wipeE, ↓startE, ↓Tg.slots, ↓IEs.fine, ↓IEs.len, ↓noOwn, ↓isOwnE, ↓Sl.isO, ↓Ev.freeAll, List.replicate, if_true, if_false, reduceIte, Nat.reduceLeDiff, Nat.reduceSub, Nat.reduceAdd, eq_self, reduceCtorEq, Int.reduceLT, Nat.reduceLT, ↓wpl, wpu])
    refine at_map (win_get hk) ?_
    (try simp only [↓wpSs, ↓wpS, ↓wpE, ↓wpEs, ↓wpBop, ↓wpIfs, ↓wpIt, ↓pk, ↓bindT, ↓ownL, ↓lockIt, ↓unlockIt, isT, ↓setAll, ↓wipeE, ↓startE, ↓Tg.slots, ↓IEs.fine, ↓IEs.len, ↓noOwn, ↓isOwnE, ↓Sl.isO, ↓Ev.freeAll, List.replicate, if_true, if_false, reduceIte, Nat.reduceLeDiff, Nat.reduceSub, Nat.reduceAdd, eq_self, reduceCtorEq, Int.reduceLT, Nat.reduceLT, ↓wpl, wpu])
    refine at_map (win_get hk) ?_
    (try simp only [↓wpSs, ↓wpS, ↓wpE, ↓wpEs, ↓wpBop, ↓wpIfs, ↓wpIt, ↓pk, ↓bindT, ↓ownL, ↓lockIt, ↓unlockIt, isT, ↓setAll, ↓wipeE, ↓startE, ↓Tg.slots, ↓IEs.fine, ↓IEs.len, ↓noOwn, ↓isOwnE, ↓Sl.isO, ↓Ev.freeAll, List.replicate, if_true, if_false, reduceIte, Nat.reduceLeDiff, Nat.reduceSub, Nat.reduceAdd, eq_self, reduceCtorEq, Int.reduceLT, Nat.reduceLT, ↓wpl, wpu])
    split
    · rename_i hlt
      refine own_windows_ap hF hcs ?_
      (try simp only [↓wpSs, ↓wpS, ↓wpE, ↓wpEs, ↓wpBop, ↓wpIfs, ↓wpIt, ↓pk, ↓bindT, ↓ownL, ↓lockIt, ↓unlockIt, isT, ↓setAll, ↓wipeE, ↓startE, ↓Tg.slots, ↓IEs.fine, ↓IEs.len, ↓noOwn, ↓isOwnE, ↓Sl.isO, ↓Ev.freeAll, List.replicate, if_true, if_false, reduceIte, Nat.reduceLeDiff, Nat.reduceSub, Nat.reduceAdd, eq_self, reduceCtorEq, Int.reduceLT, Nat.reduceLT, ↓wpl, wpu])
      refine chain_of_ap hF hk hlt fun row hrow => ?_
      (try simp only [↓wpSs, ↓wpS, ↓wpE, ↓wpEs, ↓wpBop, ↓wpIfs, ↓wpIt, ↓pk, ↓bindT, ↓ownL, ↓lockIt, ↓unlockIt, isT, ↓setAll, ↓wipeE, ↓startE, ↓Tg.slots, ↓IEs.fine, ↓IEs.len, ↓noOwn, ↓isOwnE, ↓Sl.isO, ↓Ev.freeAll, List.replicate, if_true, if_false, reduceIte, Nat.reduceLeDiff, Nat.reduceSub, Nat.reduceAdd, eq_self, reduceCtorEq, Int.reduceLT, Nat.reduceLT, ↓wpl, wpu])
      refine qt (.chain (.tuple (row.map eN))) (chain_true hrow) (fun xs hx => ?_) rfl
      cases hx
      exact ⟨by rw [List.length_map]; have := hrow.len; omega, fun x hx => by obtain ⟨w, _, rfl⟩ := List.mem_map.mp hx; exact Shp.int⟩
    · rename_i hlt
      exact hK (by omega)
end CF
namespace CF
open PySem PySem.Spec PyProof.Rows L2
/-! ### where to split -/
theorem exists_min {f : Nat → Int} : ∀ {l : List Nat}, l ≠ [] → ∃ a ∈ l, ∀ b ∈ l, f a ≤ f b
  | [], h => (h rfl).elim
  | [a], _ => ⟨a, by simp, fun b hb => by simp at hb; subst hb; exact Int.le_refl _⟩
  | a :: b :: l, _ => by
    obtain ⟨c, hc, h⟩ := exists_min (f := f) (l := b :: l) (by simp)
    by_cases hac : f a ≤ f c
    · exact ⟨a, by simp, fun x hx => by
        rcases List.mem_cons.mp hx with rfl | hx
        · exact Int.le_refl _
        · exact Int.le_trans hac (h x hx)⟩
    · exact ⟨c, List.mem_cons_of_mem _ hc, fun x hx => by
        rcases List.mem_cons.mp hx with rfl | hx
        · omega
        · exact h x hx⟩
theorem exists_max {f : Nat → Int} {l : List Nat} (h : l ≠ []) : ∃ a ∈ l, ∀ b ∈ l, f b ≤ f a := by
  obtain ⟨a, ha, h⟩ := exists_min (f := fun k => -(f k)) h
  exact ⟨a, ha, fun b hb => by have := h b hb; omega⟩
theorem sumTo_mul {f : Nat → Int} {d : Int} : ∀ {n : Nat}, sumTo (fun k => f k * d) n = sumTo f n * d
  | 0 => by simp [sumTo]
  | n + 1 => by rw [sumTo, sumTo, sumTo_mul (n := n), Int.add_mul]
theorem bsy_nn {F : Fl} {most : Int} (hF : GoodFl most F) {S : Nat → Int} {c : Nat} {t : Int} {k : Nat} (hk : k < F.jobs.length) (hc : c < F.crews.length) : 0 ≤ bsy F S c t k := by
  obtain ⟨_, _, h, _⟩ := need_bd hF hk hc
  unfold bsy
  split <;> omega
theorem crew_pos {F : Fl} {most : Int} (hF : GoodFl most F) {c : Nat} (hc : c < F.crews.length) : 1 ≤ F.crews.getD c 0 := by
  rw [getD_of hc]
  exact (hF.c.2.2 _ (List.getElem_mem hc)).1
/-- the hours in which jobs begin tell all hours -/
theorem cap_all {F : Fl} {most : Int} (hF : GoodFl most F) {S : Nat → Int} (h : CapOk F S) {c : Nat} (hc : c < F.crews.length) (t : Int) : wk F S c t ≤ F.crews.getD c 0 := by
  by_cases hT : (List.range F.jobs.length).filter (fun k => decide (S k ≤ t ∧ t < S k + F.h k)) = []
  · have : wk F S c t = 0 := sumTo_zero fun k hk => by
      have := List.filter_eq_nil_iff.mp hT k (List.mem_range.mpr hk)
      rw [decide_eq_true_eq] at this
      unfold bsy
      rw [if_neg this]
    have := crew_pos hF hc
    omega
  · obtain ⟨a, ha, hmax⟩ := exists_max (f := S) hT
    obtain ⟨ha1, ha2⟩ := List.mem_filter.mp ha
    rw [decide_eq_true_eq] at ha2
    have ha1 := List.mem_range.mp ha1
    refine Int.le_trans (sumTo_le fun k hk => ?_) (h a ha1 c hc)
    by_cases hb : S k ≤ t ∧ t < S k + F.h k
    · have := hmax k (List.mem_filter.mpr ⟨List.mem_range.mpr hk, decide_eq_true hb⟩)
      unfold bsy
      rw [if_pos hb, if_pos ⟨this, by omega⟩]
      exact Int.le_refl _
    · have e : bsy F S c t k = 0 := by unfold bsy; rw [if_neg hb]
      rw [e]
      exact bsy_nn hF hk hc
def Thr (F : Fl) (cs : List Ch) (t : Int) (c k : Nat) : Prop := winF F cs k ≤ t ∧ t < winF F cs k + F.h k ∧ 0 < F.need k c
instance (F : Fl) (cs : List Ch) (t : Int) (c k : Nat) : Decidable (Thr F cs t c k) := inferInstanceAs (Decidable (_ ∧ _ ∧ _))
def Over (F : Fl) (cs : List Ch) (c : Nat) (t : Int) : Prop := F.crews.getD c 0 < wk F (winF F cs) c t
def thrs (F : Fl) (cs : List Ch) (t : Int) (c : Nat) (i : Nat) : List Nat := (List.range i).filter fun k => decide (Thr F cs t c k)
theorem thrs_mem {F : Fl} {cs : List Ch} {t : Int} {c i k : Nat} : k ∈ thrs F cs t c i ↔ k < i ∧ Thr F cs t c k := by
  unfold thrs
  rw [List.mem_filter, List.mem_range, decide_eq_true_eq]
theorem bsy_thr {F : Fl} {most : Int} (hF : GoodFl most F) {cs : List Ch} {t : Int} {c k : Nat} (hk : k < F.jobs.length) (hc : c < F.crews.length) (h : ¬ Thr F cs t c k) : bsy F (winF F cs) c t k = 0 := by
  obtain ⟨_, _, h0, _⟩ := need_bd hF hk hc
  unfold bsy
  split
  · rename_i hb
    have : ¬ 0 < F.need k c := fun hn => h ⟨hb.1, hb.2, hn⟩
    omega
  · rfl
theorem over_some {F : Fl} {most : Int} (hF : GoodFl most F) {cs : List Ch} {t : Int} {c : Nat} (hc : c < F.crews.length) (h : Over F cs c t) : thrs F cs t c F.jobs.length ≠ [] := fun e => by
  have : wk F (winF F cs) c t = 0 := sumTo_zero fun k hk => bsy_thr hF hk hc fun hT => by
    have : k ∈ thrs F cs t c F.jobs.length := thrs_mem.mpr ⟨hk, hT⟩
    rw [e] at this
    cases this
  have := crew_pos hF hc
  unfold Over at h
  omega
/-- jobs that can't be moved, too many at once: a stretch asks for more than there is -/
theorem not_all_fixed {F : Fl} {most : Int} (hF : GoodFl most F) {L : Int} {cs : List Ch} (hQ : Quiet F L cs) {t : Int} {c : Nat} (hc : c < F.crews.length) (h : Over F cs c t) : ¬ ∀ k ∈ thrs F cs t c F.jobs.length, ¬ winF F cs k < winL F L cs k := fun hfix => by
  have hne := over_some hF hc h
  obtain ⟨i, hi, hmax⟩ := exists_max (f := winF F cs) hne
  obtain ⟨j, hj, hmin⟩ := exists_min (f := fun k => winF F cs k + F.h k) hne
  obtain ⟨hi1, hi2, hi3, hi4⟩ := thrs_mem.mp hi
  obtain ⟨hj1, hj2, hj3, hj4⟩ := thrs_mem.mp hj
  have ej : winL F L cs j = winF F cs j := by
    have := hQ.w j hj1
    have := hfix j hj
    omega
  have hs := hQ.s c hc i hi1 j hj1 hi4 hj4 (by omega)
  rw [ej] at hs
  have hle : sumTo (fun k => bsy F (winF F cs) c t k * (winF F cs j + F.h j - winF F cs i)) F.jobs.length ≤ mAsked F (winW F L cs) c (winF F cs i) (winF F cs j + F.h j) := by
    unfold mAsked
    refine sumTo_le fun k hk => ?_
    obtain ⟨_, _, h0, _⟩ := need_bd hF hk hc
    by_cases hT : Thr F cs t c k
    · have hk1 := thrs_mem.mpr ⟨hk, hT⟩
      have h1 := hmax k hk1
      have h2 := hmin k hk1
      have ek : winL F L cs k = winF F cs k := by
        have := hQ.w k hk
        have := hfix k hk1
        omega
      have e1 : bsy F (winF F cs) c t k = F.need k c := by unfold bsy; rw [if_pos ⟨hT.1, hT.2.1⟩]
      have e2 : mWithin ((winW F L cs).getD k (0, 0)) (F.h k) (winF F cs i) (winF F cs j + F.h j) = winF F cs j + F.h j - winF F cs i := by
        unfold winW
        rw [vec_getD hk, ek]
        unfold mWithin mShared
        dsimp only
        have h2 : winF F cs j + F.h j ≤ winF F cs k + F.h k := h2
        omega
      rw [e1, e2]
      exact Int.le_refl _
    · rw [bsy_thr hF hk hc hT, Int.zero_mul]
      refine Int.mul_nonneg h0 ?_
      unfold mWithin
      have := shared_nn (a := ((winW F L cs).getD k (0, 0)).1) (h := F.h k) (b := winF F cs i) (e := winF F cs j + F.h j)
      have := shared_nn (a := ((winW F L cs).getD k (0, 0)).2) (h := F.h k) (b := winF F cs i) (e := winF F cs j + F.h j)
      omega
  rw [sumTo_mul] at hle
  have hw : wk F (winF F cs) c t * (winF F cs j + F.h j - winF F cs i) ≤ F.crews.getD c 0 * (winF F cs j + F.h j - winF F cs i) := Int.le_trans hle hs
  have hd : 0 < winF F cs j + F.h j - winF F cs i := by omega
  have := Int.le_of_mul_le_mul_right hw hd
  unfold Over at h
  omega
structure SplitOk (F : Fl) (L : Int) (cs : List Ch) (t : Int) (c k : Nat) (x : Int) : Prop where
  hk : k < F.jobs.length
  a : Thr F cs t c k
  x0 : winF F cs k ≤ x
  x1 : x < winL F L cs k
  m : ∃ m, (∀ j, j < F.jobs.length → Thr F cs t c j → m ≤ winF F cs j + F.h j) ∧ (∃ j, j < F.jobs.length ∧ Thr F cs t c j ∧ m = winF F cs j + F.h j) ∧ (x = m - 1 ∨ winL F L cs k ≤ m - 1)
def g_to_split : Pm := fun ds R => ∃ (F : Fl) (L : Int) (cs : List Ch) (t : Int) (c : Nat), ds = [eFl F, .list ((winW F L cs).map eP), .int t, .int c] ∧ GoodFl 50 F ∧ Quiet F L cs ∧ c < F.crews.length ∧ Over F cs c t ∧ ∀ k x, SplitOk F L cs t c k x → R (.tuple [.int (k : Nat), .int x])
abbrev e_to_split : FnE := ⟨"to_split", 4, false, g_to_split⟩
theorem to_split_ap {F : Fl} {L : Int} {cs : List Ch} {t : Int} {c : Nat} {Q : PyData → Prop} (hF : GoodFl 50 F) (hQ : Quiet F L cs) (hc : c < F.crews.length) (ho : Over F cs c t) (q : ∀ (k : Nat) x, SplitOk F L cs t c k x → Q (.tuple [.int (k : Nat), .int x])) : g_to_split [eFl F, .list ((winW F L cs).map eP), .int t, .int c] Q := ⟨F, L, cs, t, c, rfl, hF, hQ, hc, ho, q⟩
theorem sem_to_split : ∀ ds R, ds.length = 4 → g_to_split ds R → wpSs (Gof []) ir_to_split (startE 10 ds) { nx := fun _ => false = false ∧ R .none, rt := R } := by
  rintro _ R _ ⟨F, L, cs, t, c, rfl, hF, hQ, hc, ho, q⟩
  have j2 := hF.j2
  (try simp only [ir_to_split, ↓wpSs, ↓wpS, ↓wpE, ↓wpEs, ↓wpBop, ↓wpIfs, ↓wpIt, ↓pk, ↓bindT, ↓ownL, ↓lockIt, ↓unlockIt, isT, ↓setAll, ↓wipeE, ↓startE, ↓Tg.slots, ↓IEs.fine, ↓IEs.len, ↓noOwn, ↓isOwnE, ↓Sl.isO, ↓Ev.freeAll, List.replicate, if_true, if_false, reduceIte, Nat.reduceLeDiff, Nat.reduceSub, Nat.reduceAdd, eq_self, reduceCtorEq, Int.reduceLT, Nat.reduceLT, ↓wpl, wpu])
  rw [winW_len]
  refine ⟨by omega, ?_⟩
  refine forL_rng (fun i r => r = [.val (eFl F), .val (.list ((winW F L cs).map eP)), .val (.int t), .val (.int c), .own (.list ((thrs F cs t c i).map eN)), .un, .un, .un, .un, .un]) rfl ?_ ?_
  · rintro _ rfl
    have hne := over_some hF hc ho
    have hfix := not_all_fixed hF hQ hc ho
    have hTm : ∀ k, k ∈ thrs F cs t c F.jobs.length → k < F.jobs.length ∧ Thr F cs t c k := fun k hk => thrs_mem.mp hk
    have hTm' : ∀ k, k < F.jobs.length → Thr F cs t c k → k ∈ thrs F cs t c F.jobs.length := fun k h1 h2 => thrs_mem.mpr ⟨h1, h2⟩
    have hTl : (thrs F cs t c F.jobs.length).length ≤ 12 := by
      have := List.length_filter_le (fun k => decide (Thr F cs t c k)) (List.range F.jobs.length)
      rw [List.length_range] at this
      unfold thrs
      omega
    generalize thrs F cs t c F.jobs.length = T at *
    (try simp only [ir_to_split_t2, ↓wpSs, ↓wpS, ↓wpE, ↓wpEs, ↓wpBop, ↓wpIfs, ↓wpIt, ↓pk, ↓bindT, ↓ownL, ↓lockIt, ↓unlockIt, isT, ↓setAll, ↓wipeE, ↓startE, ↓Tg.slots, ↓IEs.fine, ↓IEs.len, ↓noOwn, ↓isOwnE, ↓Sl.isO, ↓Ev.freeAll, List.replicate, if_true, if_false, reduceIte, Nat.reduceLeDiff, Nat.reduceSub, Nat.reduceAdd, eq_self, reduceCtorEq, Int.reduceLT, Nat.reduceLT, ↓wpl, wpu])
    refine ⟨by omega, ?_⟩
    refine compL_map (fun k : Nat => .int (winF F cs k + F.h k)) (fun k hk K' h => ?_) ?_
    · have hk := (hTm k hk).1
      (try simp only [eN_def, ↓wpSs, ↓wpS, ↓wpE, ↓wpEs, ↓wpBop, ↓wpIfs, ↓wpIt, ↓pk, ↓bindT, ↓ownL, ↓lockIt, ↓unlockIt, isT, ↓setAll, ↓wipeE, ↓startE, ↓Tg.slots, ↓IEs.fine, ↓IEs.len, ↓noOwn, ↓isOwnE, ↓Sl.isO, ↓Ev.freeAll, List.replicate, if_true, if_false, reduceIte, Nat.reduceLeDiff, Nat.reduceSub, Nat.reduceAdd, eq_self, reduceCtorEq, Int.reduceLT, Nat.reduceLT, ↓wpl, wpu])
      refine at_map (win_get hk) ?_
      (try simp only [↓wpSs, ↓wpS, ↓wpE, ↓wpEs, ↓wpBop, ↓wpIfs, ↓wpIt, ↓pk, ↓bindT, ↓ownL, ↓lockIt, ↓unlockIt, isT, ↓setAll, ↓wipeE, ↓startE, ↓Tg.slots, ↓IEs.fine, ↓IEs.len, ↓noOwn, ↓isOwnE, ↓Sl.isO, ↓Ev.freeAll, List.replicate, if_true, if_false, reduceIte, Nat.reduceLeDiff, Nat.reduceSub, Nat.reduceAdd, eq_self, reduceCtorEq, Int.reduceLT, Nat.reduceLT, ↓wpl, wpu])
      refine at_map (get_job hk) ?_
      (try simp only [↓wpSs, ↓wpS, ↓wpE, ↓wpEs, ↓wpBop, ↓wpIfs, ↓wpIt, ↓pk, ↓bindT, ↓ownL, ↓lockIt, ↓unlockIt, isT, ↓setAll, ↓wipeE, ↓startE, ↓Tg.slots, ↓IEs.fine, ↓IEs.len, ↓noOwn, ↓isOwnE, ↓Sl.isO, ↓Ev.freeAll, List.replicate, if_true, if_false, reduceIte, Nat.reduceLeDiff, Nat.reduceSub, Nat.reduceAdd, eq_self, reduceCtorEq, Int.reduceLT, Nat.reduceLT, ↓wpl, wpu])
      exact h
    · refine ⟨T.map fun k => winF F cs k + F.h k, by rw [List.map_map]; rfl, by rw [List.length_map]; exact List.length_pos_iff.mpr hne, fun m hm hmin => ?_⟩
      (try simp only [↓wpSs, ↓wpS, ↓wpE, ↓wpEs, ↓wpBop, ↓wpIfs, ↓wpIt, ↓pk, ↓bindT, ↓ownL, ↓lockIt, ↓unlockIt, isT, ↓setAll, ↓wipeE, ↓startE, ↓Tg.slots, ↓IEs.fine, ↓IEs.len, ↓noOwn, ↓isOwnE, ↓Sl.isO, ↓Ev.freeAll, List.replicate, if_true, if_false, reduceIte, Nat.reduceLeDiff, Nat.reduceSub, Nat.reduceAdd, eq_self, reduceCtorEq, Int.reduceLT, Nat.reduceLT, ↓wpl, wpu])
      obtain ⟨j, hj, ej⟩ := List.mem_map.mp hm
      have hj' := hTm j hj
      have hmin' : ∀ j, j < F.jobs.length → Thr F cs t c j → m ≤ winF F cs j + F.h j := fun j h1 h2 => hmin _ (List.mem_map_of_mem (f := fun k => winF F cs k + F.h k) (hTm' j h1 h2))
      refine forL_map (fun i r => (∃ s8, r = [.val (eFl F), .val (.list ((winW F L cs).map eP)), .val (.int t), .val (.int c), .lck (.list (T.map eN)), .un, .un, .val (.int (m - 1)), .val s8, .un] ∧ ((s8 = .none ∧ ∀ j k, j < i → T[j]? = some k → ¬ winF F cs k < winL F L cs k) ∨ ∃ b ∈ T, s8 = .int (b : Nat) ∧ winF F cs b < winL F L cs b))) ⟨_, rfl, .inl ⟨rfl, fun j k h => by omega⟩⟩ ?_ ?_
      · rintro _ ⟨s8, rfl, h8⟩
        rcases h8 with ⟨rfl, h8⟩ | ⟨b, hb, rfl, hw⟩
        · exfalso
          refine hfix fun k hk => ?_
          obtain ⟨i, hi, e⟩ := List.mem_iff_getElem.mp hk
          exact h8 i k hi (by rw [← e]; exact mem_at hi)
        · obtain ⟨hb1, hb2⟩ := hTm b hb
          have hmb := hmin' b hb1 hb2
          have htm : t < m := by rw [← ej]; exact hj'.2.2.1
          have hb3 := hb2.1
          (try simp only [ir_to_split_t1, ↓wpSs, ↓wpS, ↓wpE, ↓wpEs, ↓wpBop, ↓wpIfs, ↓wpIt, ↓pk, ↓bindT, ↓ownL, ↓lockIt, ↓unlockIt, isT, ↓setAll, ↓wipeE, ↓startE, ↓Tg.slots, ↓IEs.fine, ↓IEs.len, ↓noOwn, ↓isOwnE, ↓Sl.isO, ↓Ev.freeAll, List.replicate, if_true, if_false, reduceIte, Nat.reduceLeDiff, Nat.reduceSub, Nat.reduceAdd, eq_self, reduceCtorEq, Int.reduceLT, Nat.reduceLT, ↓wpl, wpu])
          refine at_map (win_get hb1) ?_
          (try simp only [↓wpSs, ↓wpS, ↓wpE, ↓wpEs, ↓wpBop, ↓wpIfs, ↓wpIt, ↓pk, ↓bindT, ↓ownL, ↓lockIt, ↓unlockIt, isT, ↓setAll, ↓wipeE, ↓startE, ↓Tg.slots, ↓IEs.fine, ↓IEs.len, ↓noOwn, ↓isOwnE, ↓Sl.isO, ↓Ev.freeAll, List.replicate, if_true, if_false, reduceIte, Nat.reduceLeDiff, Nat.reduceSub, Nat.reduceAdd, eq_self, reduceCtorEq, Int.reduceLT, Nat.reduceLT, ↓wpl, wpu])
          split
          · rename_i hlt
            exact q b (m - 1) ⟨hb1, hb2, by omega, hlt, m, hmin', ⟨j, hj'.1, hj'.2, ej.symm⟩, .inl rfl⟩
          · rename_i hlt
            (try simp only [ir_to_split_t0, ↓wpSs, ↓wpS, ↓wpE, ↓wpEs, ↓wpBop, ↓wpIfs, ↓wpIt, ↓pk, ↓bindT, ↓ownL, ↓lockIt, ↓unlockIt, isT, ↓setAll, ↓wipeE, ↓startE, ↓Tg.slots, ↓IEs.fine, ↓IEs.len, ↓noOwn, ↓isOwnE, ↓Sl.isO, ↓Ev.freeAll, List.replicate, if_true, if_false, reduceIte, Nat.reduceLeDiff, Nat.reduceSub, Nat.reduceAdd, eq_self, reduceCtorEq, Int.reduceLT, Nat.reduceLT, ↓wpl, wpu])
            refine at_map (win_get hb1) ?_
            (try simp only [↓wpSs, ↓wpS, ↓wpE, ↓wpEs, ↓wpBop, ↓wpIfs, ↓wpIt, ↓pk, ↓bindT, ↓ownL, ↓lockIt, ↓unlockIt, isT, ↓setAll, ↓wipeE, ↓startE, ↓Tg.slots, ↓IEs.fine, ↓IEs.len, ↓noOwn, ↓isOwnE, ↓Sl.isO, ↓Ev.freeAll, List.replicate, if_true, if_false, reduceIte, Nat.reduceLeDiff, Nat.reduceSub, Nat.reduceAdd, eq_self, reduceCtorEq, Int.reduceLT, Nat.reduceLT, ↓wpl, wpu])
            refine at_map (win_get hb1) ?_
            (try simp only [↓wpSs, ↓wpS, ↓wpE, ↓wpEs, ↓wpBop, ↓wpIfs, ↓wpIt, ↓pk, ↓bindT, ↓ownL, ↓lockIt, ↓unlockIt, isT, ↓setAll, ↓wipeE, ↓startE, ↓Tg.slots, ↓IEs.fine, ↓IEs.len, ↓noOwn, ↓isOwnE, ↓Sl.isO, ↓Ev.freeAll, List.replicate, if_true, if_false, reduceIte, Nat.reduceLeDiff, Nat.reduceSub, Nat.reduceAdd, eq_self, reduceCtorEq, Int.reduceLT, Nat.reduceLT, ↓wpl, wpu])
            exact q b _ ⟨hb1, hb2, by omega, by omega, m, hmin', ⟨j, hj'.1, hj'.2, ej.symm⟩, .inr (by omega)⟩
      · rintro i k _ K hi ⟨s8, rfl, h8⟩ hK
        have hkT := List.mem_of_getElem? hi
        obtain ⟨hk1, hk2⟩ := hTm k hkT
        have take : winF F cs k < winL F L cs k → K [.val (eFl F), .val (.list ((winW F L cs).map eP)), .val (.int t), .val (.int c), .lck (.list (T.map eN)), .un, .un, .val (.int (m - 1)), .val (.int (k : Nat)), .un] := fun h => hK _ ⟨_, rfl, .inr ⟨k, hkT, rfl, h⟩⟩
        (try simp only [ir_to_split_b1, eN_def, ↓wpSs, ↓wpS, ↓wpE, ↓wpEs, ↓wpBop, ↓wpIfs, ↓wpIt, ↓pk, ↓bindT, ↓ownL, ↓lockIt, ↓unlockIt, isT, ↓setAll, ↓wipeE, ↓startE, ↓Tg.slots, ↓IEs.fine, ↓IEs.len, ↓noOwn, ↓isOwnE, ↓Sl.isO, ↓Ev.freeAll, List.replicate, if_true, if_false, reduceIte, Nat.reduceLeDiff, Nat.reduceSub, Nat.reduceAdd, eq_self, reduceCtorEq, Int.reduceLT, Nat.reduceLT, ↓wpl, wpu])
        refine at_map (win_get hk1) ?_
        (try simp only [↓wpSs, ↓wpS, ↓wpE, ↓wpEs, ↓wpBop, ↓wpIfs, ↓wpIt, ↓pk, ↓bindT, ↓ownL, ↓lockIt, ↓unlockIt, isT, ↓setAll, ↓wipeE, ↓startE, ↓Tg.slots, ↓IEs.fine, ↓IEs.len, ↓noOwn, ↓isOwnE, ↓Sl.isO, ↓Ev.freeAll, List.replicate, if_true, if_false, reduceIte, Nat.reduceLeDiff, Nat.reduceSub, Nat.reduceAdd, eq_self, reduceCtorEq, Int.reduceLT, Nat.reduceLT, ↓wpl, wpu])
        by_cases hlt : winF F cs k < winL F L cs k
        · rw [if_pos hlt]
          rcases h8 with ⟨rfl, h8⟩ | ⟨b, hb, rfl, hw⟩
          · (try simp only [↓wpSs, ↓wpS, ↓wpE, ↓wpEs, ↓wpBop, ↓wpIfs, ↓wpIt, ↓pk, ↓bindT, ↓ownL, ↓lockIt, ↓unlockIt, isT, ↓setAll, ↓wipeE, ↓startE, ↓Tg.slots, ↓IEs.fine, ↓IEs.len, ↓noOwn, ↓isOwnE, ↓Sl.isO, ↓Ev.freeAll, List.replicate, if_true, if_false, reduceIte, Nat.reduceLeDiff, Nat.reduceSub, Nat.reduceAdd, eq_self, reduceCtorEq, Int.reduceLT, Nat.reduceLT, ↓wpl, wpu])
            exact take hlt
          · obtain ⟨hb1, hb2⟩ := hTm b hb
            (try simp only [↓wpSs, ↓wpS, ↓wpE, ↓wpEs, ↓wpBop, ↓wpIfs, ↓wpIt, ↓pk, ↓bindT, ↓ownL, ↓lockIt, ↓unlockIt, isT, ↓setAll, ↓wipeE, ↓startE, ↓Tg.slots, ↓IEs.fine, ↓IEs.len, ↓noOwn, ↓isOwnE, ↓Sl.isO, ↓Ev.freeAll, List.replicate, if_true, if_false, reduceIte, Nat.reduceLeDiff, Nat.reduceSub, Nat.reduceAdd, eq_self, reduceCtorEq, Int.reduceLT, Nat.reduceLT, ↓wpl, wpu])
            refine at_map (win_get hb1) ?_
            (try simp only [↓wpSs, ↓wpS, ↓wpE, ↓wpEs, ↓wpBop, ↓wpIfs, ↓wpIt, ↓pk, ↓bindT, ↓ownL, ↓lockIt, ↓unlockIt, isT, ↓setAll, ↓wipeE, ↓startE, ↓Tg.slots, ↓IEs.fine, ↓IEs.len, ↓noOwn, ↓isOwnE, ↓Sl.isO, ↓Ev.freeAll, List.replicate, if_true, if_false, reduceIte, Nat.reduceLeDiff, Nat.reduceSub, Nat.reduceAdd, eq_self, reduceCtorEq, Int.reduceLT, Nat.reduceLT, ↓wpl, wpu])
            refine at_map (win_get hb1) ?_
            (try simp only [↓wpSs, ↓wpS, ↓wpE, ↓wpEs, ↓wpBop, ↓wpIfs, ↓wpIt, ↓pk, ↓bindT, ↓ownL, ↓lockIt, ↓unlockIt, isT, ↓setAll, ↓wipeE, ↓startE, ↓Tg.slots, ↓IEs.fine, ↓IEs.len, ↓noOwn, ↓isOwnE, ↓Sl.isO, ↓Ev.freeAll, List.replicate, if_true, if_false, reduceIte, Nat.reduceLeDiff, Nat.reduceSub, Nat.reduceAdd, eq_self, reduceCtorEq, Int.reduceLT, Nat.reduceLT, ↓wpl, wpu])
            split
            · exact take hlt
            · exact hK _ ⟨_, rfl, .inr ⟨b, hb, rfl, hw⟩⟩
        · rw [if_neg hlt, if_neg hlt]
          refine hK _ ⟨_, rfl, h8.elim (fun h => .inl ⟨h.1, fun j k' hj hk' => ?_⟩) .inr⟩
          rcases Nat.lt_or_ge j i with h' | h'
          · exact h.2 j k' h' hk'
          · have e : j = i := by omega
            subst e
            rw [hi] at hk'
            cases hk'
            exact hlt
  · rintro i _ K hi rfl hK
    have eh : (F.jobs.getD i (0, [])).1 = F.h i := rfl
    have yes : Thr F cs t c i → K [.val (eFl F), .val (.list ((winW F L cs).map eP)), .val (.int t), .val (.int c), .own (.list ((thrs F cs t c i).map eN ++ [.int (i : Nat)])), .un, .un, .un, .un, .un] := fun h => hK _ (by
      unfold thrs
      rw [List.range_succ, List.filter_append, List.filter_cons, if_pos (decide_eq_true h), List.map_append]
      rfl)
    have no : ¬ Thr F cs t c i → K [.val (eFl F), .val (.list ((winW F L cs).map eP)), .val (.int t), .val (.int c), .own (.list ((thrs F cs t c i).map eN)), .un, .un, .un, .un, .un] := fun h => hK _ (by
      unfold thrs
      rw [List.range_succ, List.filter_append, List.filter_cons, if_neg (by rw [decide_eq_true_eq]; exact h), List.filter_nil, List.append_nil])
    have hTl : (thrs F cs t c i).length ≤ 12 := by
      have := List.length_filter_le (fun k => decide (Thr F cs t c k)) (List.range i)
      rw [List.length_range] at this
      unfold thrs
      omega
    (try simp only [ir_to_split_b0, ↓wpSs, ↓wpS, ↓wpE, ↓wpEs, ↓wpBop, ↓wpIfs, ↓wpIt, ↓pk, ↓bindT, ↓ownL, ↓lockIt, ↓unlockIt, isT, ↓setAll, ↓wipeE, ↓startE, ↓Tg.slots, ↓IEs.fine, ↓IEs.len, ↓noOwn, ↓isOwnE, ↓Sl.isO, ↓Ev.freeAll, List.replicate, if_true, if_false, reduceIte, Nat.reduceLeDiff, Nat.reduceSub, Nat.reduceAdd, eq_self, reduceCtorEq, Int.reduceLT, Nat.reduceLT, ↓wpl, wpu])
    refine at_map (win_get hi) ?_
    (try simp only [↓wpSs, ↓wpS, ↓wpE, ↓wpEs, ↓wpBop, ↓wpIfs, ↓wpIt, ↓pk, ↓bindT, ↓ownL, ↓lockIt, ↓unlockIt, isT, ↓setAll, ↓wipeE, ↓startE, ↓Tg.slots, ↓IEs.fine, ↓IEs.len, ↓noOwn, ↓isOwnE, ↓Sl.isO, ↓Ev.freeAll, List.replicate, if_true, if_false, reduceIte, Nat.reduceLeDiff, Nat.reduceSub, Nat.reduceAdd, eq_self, reduceCtorEq, Int.reduceLT, Nat.reduceLT, ↓wpl, wpu])
    by_cases h1 : winF F cs i ≤ t
    · rw [if_pos h1]
      refine at_map (get_job hi) ?_
      (try simp only [↓wpSs, ↓wpS, ↓wpE, ↓wpEs, ↓wpBop, ↓wpIfs, ↓wpIt, ↓pk, ↓bindT, ↓ownL, ↓lockIt, ↓unlockIt, isT, ↓setAll, ↓wipeE, ↓startE, ↓Tg.slots, ↓IEs.fine, ↓IEs.len, ↓noOwn, ↓isOwnE, ↓Sl.isO, ↓Ev.freeAll, List.replicate, if_true, if_false, reduceIte, Nat.reduceLeDiff, Nat.reduceSub, Nat.reduceAdd, eq_self, reduceCtorEq, Int.reduceLT, Nat.reduceLT, ↓wpl, wpu])
      rw [eh]
      by_cases h2 : t < winF F cs i + F.h i
      · (try simp only [h2, ↓wpSs, ↓wpS, ↓wpE, ↓wpEs, ↓wpBop, ↓wpIfs, ↓wpIt, ↓pk, ↓bindT, ↓ownL, ↓lockIt, ↓unlockIt, isT, ↓setAll, ↓wipeE, ↓startE, ↓Tg.slots, ↓IEs.fine, ↓IEs.len, ↓noOwn, ↓isOwnE, ↓Sl.isO, ↓Ev.freeAll, List.replicate, if_true, if_false, reduceIte, Nat.reduceLeDiff, Nat.reduceSub, Nat.reduceAdd, eq_self, reduceCtorEq, Int.reduceLT, Nat.reduceLT, ↓wpl, wpu])
        refine at_map (get_job hi) ?_
        (try simp only [↓wpSs, ↓wpS, ↓wpE, ↓wpEs, ↓wpBop, ↓wpIfs, ↓wpIt, ↓pk, ↓bindT, ↓ownL, ↓lockIt, ↓unlockIt, isT, ↓setAll, ↓wipeE, ↓startE, ↓Tg.slots, ↓IEs.fine, ↓IEs.len, ↓noOwn, ↓isOwnE, ↓Sl.isO, ↓Ev.freeAll, List.replicate, if_true, if_false, reduceIte, Nat.reduceLeDiff, Nat.reduceSub, Nat.reduceAdd, eq_self, reduceCtorEq, Int.reduceLT, Nat.reduceLT, ↓wpl, wpu])
        refine at_map (need_at hF hi hc) ?_
        (try simp only [↓wpSs, ↓wpS, ↓wpE, ↓wpEs, ↓wpBop, ↓wpIfs, ↓wpIt, ↓pk, ↓bindT, ↓ownL, ↓lockIt, ↓unlockIt, isT, ↓setAll, ↓wipeE, ↓startE, ↓Tg.slots, ↓IEs.fine, ↓IEs.len, ↓noOwn, ↓isOwnE, ↓Sl.isO, ↓Ev.freeAll, List.replicate, if_true, if_false, reduceIte, Nat.reduceLeDiff, Nat.reduceSub, Nat.reduceAdd, eq_self, reduceCtorEq, Int.reduceLT, Nat.reduceLT, ↓wpl, wpu])
        split
        · rename_i h3
          exact ⟨by omega, yes ⟨h1, h2, h3⟩⟩
        · rename_i h3
          exact no fun e => h3 e.2.2
      · (try simp only [h2, ↓wpSs, ↓wpS, ↓wpE, ↓wpEs, ↓wpBop, ↓wpIfs, ↓wpIt, ↓pk, ↓bindT, ↓ownL, ↓lockIt, ↓unlockIt, isT, ↓setAll, ↓wipeE, ↓startE, ↓Tg.slots, ↓IEs.fine, ↓IEs.len, ↓noOwn, ↓isOwnE, ↓Sl.isO, ↓Ev.freeAll, List.replicate, if_true, if_false, reduceIte, Nat.reduceLeDiff, Nat.reduceSub, Nat.reduceAdd, eq_self, reduceCtorEq, Int.reduceLT, Nat.reduceLT, ↓wpl, wpu])
        exact no fun e => h2 e.2.1
    · (try simp only [h1, ↓wpSs, ↓wpS, ↓wpE, ↓wpEs, ↓wpBop, ↓wpIfs, ↓wpIt, ↓pk, ↓bindT, ↓ownL, ↓lockIt, ↓unlockIt, isT, ↓setAll, ↓wipeE, ↓startE, ↓Tg.slots, ↓IEs.fine, ↓IEs.len, ↓noOwn, ↓isOwnE, ↓Sl.isO, ↓Ev.freeAll, List.replicate, if_true, if_false, reduceIte, Nat.reduceLeDiff, Nat.reduceSub, Nat.reduceAdd, eq_self, reduceCtorEq, Int.reduceLT, Nat.reduceLT, ↓wpl, wpu])
      exact no fun e => h1 e.1
end CF
namespace CF
open PySem PySem.Spec PyProof.Rows L2
/-! ### sought, least -/
theorem swpL_le {F : Fl} {L : Int} {cs : List Ch} {k : Nat} : winL F L cs k ≤ ownL' F L cs k := by
  have h : -(ownL' F L cs k) ≤ swp (arcsL F) F.jobs.length (fun k => -(ownL' F L cs k)) k := swp_ge (E := arcsL F) (f := fun k => -(ownL' F L cs k)) F.jobs.length k
  unfold winL winG
  omega
theorem foldL_le {k : Nat} : ∀ {cs : List Ch} {a : Int}, cs.foldl (inL1 k) a ≤ a
  | [], a => Int.le_refl _
  | c :: cs, a => by
    rw [List.foldl_cons]
    refine Int.le_trans foldL_le ?_
    unfold inL1
    split <;> omega
theorem winL_le {F : Fl} {L : Int} {cs : List Ch} {k : Nat} : winL F L cs k + F.h k ≤ L := by
  have h1 := swpL_le (F := F) (L := L) (cs := cs) (k := k)
  have h2 : ownL' F L cs k ≤ L - F.h k := foldL_le
  omega
theorem CapOk.congr {F : Fl} {S T : Nat → Int} (h : CapOk F S) (e : ∀ k, k < F.jobs.length → S k = T k) : CapOk F T := fun k hk c hc => by
  rw [← e k hk, ← wk_congr e]
  exact h k hk c hc
theorem quiet_plan {F : Fl} {most : Int} (hF : GoodFl most F) {cs : List Ch} (h : CapOk F (winF F cs)) : Plan F (winF F cs) :=
  ⟨fun k _ => winF_nn, fun o ho => clo_F hF (f := ownF cs) _ (List.mem_map_of_mem ho), fun c hc t => cap_all hF h hc t⟩
/-- how deep the search goes at most -/
def Dp (F : Fl) (L : Int) : Nat → List Ch → Prop
  | 0, _ => False
  | n + 1, cs => Quiet F L cs → ∀ t c k x, c < F.crews.length → Over F cs c t → SplitOk F L cs t c k x → Dp F L n (cs ++ [⟨false, k, x⟩]) ∧ Dp F L n (cs ++ [⟨true, k, x⟩])
def g_sought : Nat → Pm
  | 0 => fun _ _ => False
  | n + 1 => fun ds R => ∃ (F : Fl) (L : Int) (cs : List Ch), ds = [eFl F, .int L, .list (cs.map eCh)] ∧ GoodFl 50 F ∧ OkCh F cs ∧ Dp F L (n + 1) cs ∧ cs.length + (n + 1) ≤ 10000 ∧
    (∀ S, Plan F S → (∀ k, k < F.jobs.length → S k + F.h k ≤ L) → R (.tuple [.list ((vec F.jobs.length S).map .int), .none])) ∧ ∀ t : Tr, mW F L cs t = true → t.ok → t.ht ≤ n + 1 → R (.tuple [.none, t.enc])
theorem v_sought {ds : List PyData} {R : PyData → Prop} (h : g_sought 0 ds R) : False := h
abbrev e_sought (n : Nat) : FnE := ⟨"sought", 3, false, g_sought n⟩
theorem sought_ap {n : Nat} {F : Fl} {L : Int} {cs : List Ch} {Q : PyData → Prop} (hF : GoodFl 50 F) (hc : OkCh F cs) (hd : Dp F L n cs) (hl : cs.length + n ≤ 10000)
    (qp : ∀ S, Plan F S → (∀ k, k < F.jobs.length → S k + F.h k ≤ L) → Q (.tuple [.list ((vec F.jobs.length S).map .int), .none])) (qt : ∀ t : Tr, mW F L cs t = true → t.ok → t.ht ≤ n → Q (.tuple [.none, t.enc])) : g_sought n [eFl F, .int L, .list (cs.map eCh)] Q := by
  cases n with
  | zero => exact hd
  | succ n => exact ⟨F, L, cs, rfl, hF, hc, hd, hl, qp, qt⟩
theorem enc_none {F : Fl} {L : Int} {cs : List Ch} {t : Tr} (h : mW F L cs t = true) : isNoneD t.enc = false := by
  cases t with
  | bad d => exact absurd h (by simp [mW])
  | _ => rfl
theorem ex_tup2 {xs : List PyData} {p : List PyData → Prop} : (∃ ds, PyData.tuple xs = .tuple ds ∧ p ds) ↔ p xs := ex_tup
theorem sem_sought (n : Nat) : ∀ ds R, ds.length = 3 → g_sought (n + 1) ds R → wpSs (Gof [e_windows, e_end_of, e_too_many, e_to_split, e_sought n]) ir_sought (startE 14 ds) { nx := fun _ => false = false ∧ R .none, rt := R } := by
  rintro _ R _ ⟨F, L, cs, rfl, hF, hcs, hd, hl, qp, qt⟩
  have j2 := hF.j2
  (try simp only [ir_sought, ↓wpSs, ↓wpS, ↓wpE, ↓wpEs, ↓wpBop, ↓wpIfs, ↓wpIt, ↓pk, ↓bindT, ↓ownL, ↓lockIt, ↓unlockIt, isT, ↓setAll, ↓wipeE, ↓startE, ↓Tg.slots, ↓IEs.fine, ↓IEs.len, ↓noOwn, ↓isOwnE, ↓Sl.isO, ↓Ev.freeAll, List.replicate, if_true, if_false, reduceIte, Nat.reduceLeDiff, Nat.reduceSub, Nat.reduceAdd, eq_self, reduceCtorEq, Int.reduceLT, Nat.reduceLT, ↓wpl, wpu])
  refine windows_ap hF hcs ?_
  (try simp only [↓wpSs, ↓wpS, ↓wpE, ↓wpEs, ↓wpBop, ↓wpIfs, ↓wpIt, ↓pk, ↓bindT, ↓ownL, ↓lockIt, ↓unlockIt, isT, ↓setAll, ↓wipeE, ↓startE, ↓Tg.slots, ↓IEs.fine, ↓IEs.len, ↓noOwn, ↓isOwnE, ↓Sl.isO, ↓Ev.freeAll, List.replicate, if_true, if_false, reduceIte, Nat.reduceLeDiff, Nat.reduceSub, Nat.reduceAdd, eq_self, reduceCtorEq, Int.reduceLT, Nat.reduceLT, ↓wpl, wpu])
  refine end_of_ap hF hcs (fun hQ => ?_) fun t ht hok hh => ?_
  · (try simp only [ir_sought_t3, ↓wpSs, ↓wpS, ↓wpE, ↓wpEs, ↓wpBop, ↓wpIfs, ↓wpIt, ↓pk, ↓bindT, ↓ownL, ↓lockIt, ↓unlockIt, isT, ↓setAll, ↓wipeE, ↓startE, ↓Tg.slots, ↓IEs.fine, ↓IEs.len, ↓noOwn, ↓isOwnE, ↓Sl.isO, ↓Ev.freeAll, List.replicate, if_true, if_false, reduceIte, Nat.reduceLeDiff, Nat.reduceSub, Nat.reduceAdd, eq_self, reduceCtorEq, Int.reduceLT, Nat.reduceLT, ↓wpl, wpu])
    rw [winW_len]
    refine ⟨by omega, ?_⟩
    refine compL_map (fun w : Int × Int => .int w.1) (fun w _ K h => by (try simp only [ex_ep, ↓wpSs, ↓wpS, ↓wpE, ↓wpEs, ↓wpBop, ↓wpIfs, ↓wpIt, ↓pk, ↓bindT, ↓ownL, ↓lockIt, ↓unlockIt, isT, ↓setAll, ↓wipeE, ↓startE, ↓Tg.slots, ↓IEs.fine, ↓IEs.len, ↓noOwn, ↓isOwnE, ↓Sl.isO, ↓Ev.freeAll, List.replicate, if_true, if_false, reduceIte, Nat.reduceLeDiff, Nat.reduceSub, Nat.reduceAdd, eq_self, reduceCtorEq, Int.reduceLT, Nat.reduceLT, ↓wpl, wpu]); exact h) ?_
    have e1 : (winW F L cs).map (fun w => PyData.int w.1) = (vec F.jobs.length (winF F cs)).map .int := by unfold winW; rw [vec_map, vec_map]
    rw [e1]
    (try simp only [↓wpSs, ↓wpS, ↓wpE, ↓wpEs, ↓wpBop, ↓wpIfs, ↓wpIt, ↓pk, ↓bindT, ↓ownL, ↓lockIt, ↓unlockIt, isT, ↓setAll, ↓wipeE, ↓startE, ↓Tg.slots, ↓IEs.fine, ↓IEs.len, ↓noOwn, ↓isOwnE, ↓Sl.isO, ↓Ev.freeAll, List.replicate, if_true, if_false, reduceIte, Nat.reduceLeDiff, Nat.reduceSub, Nat.reduceAdd, eq_self, reduceCtorEq, Int.reduceLT, Nat.reduceLT, ↓wpl, wpu])
    have est : ∀ k, k < F.jobs.length → st (vec F.jobs.length (winF F cs)) k = winF F cs k := fun k hk => st_vec hk
    refine ⟨F, vec F.jobs.length (winF F cs), rfl, hF, vec_len, fun hcap => ?_, fun k0 c hk0 hc hov _ => ?_⟩
    · (try simp only [↓wpSs, ↓wpS, ↓wpE, ↓wpEs, ↓wpBop, ↓wpIfs, ↓wpIt, ↓pk, ↓bindT, ↓ownL, ↓lockIt, ↓unlockIt, isT, ↓setAll, ↓wipeE, ↓startE, ↓Tg.slots, ↓IEs.fine, ↓IEs.len, ↓noOwn, ↓isOwnE, ↓Sl.isO, ↓Ev.freeAll, List.replicate, if_true, if_false, reduceIte, Nat.reduceLeDiff, Nat.reduceSub, Nat.reduceAdd, eq_self, reduceCtorEq, Int.reduceLT, Nat.reduceLT, ↓wpl, wpu])
      exact qp _ (quiet_plan hF (hcap.congr est)) fun k hk => by
        have := hQ.w k hk
        have := winL_le (F := F) (L := L) (cs := cs) (k := k)
        omega
    · rw [wk_congr est, est k0 hk0] at hov
      rw [est k0 hk0]
      have hov' : Over F cs c (winF F cs k0) := hov
      (try simp only [ir_sought_t2, ↓wpSs, ↓wpS, ↓wpE, ↓wpEs, ↓wpBop, ↓wpIfs, ↓wpIt, ↓pk, ↓bindT, ↓ownL, ↓lockIt, ↓unlockIt, isT, ↓setAll, ↓wipeE, ↓startE, ↓Tg.slots, ↓IEs.fine, ↓IEs.len, ↓noOwn, ↓isOwnE, ↓Sl.isO, ↓Ev.freeAll, List.replicate, if_true, if_false, reduceIte, Nat.reduceLeDiff, Nat.reduceSub, Nat.reduceAdd, eq_self, reduceCtorEq, Int.reduceLT, Nat.reduceLT, ↓wpl, wpu])
      refine to_split_ap hF hQ hc hov' fun k x hsp => ?_
      (try simp only [eCh_early, ↓wpSs, ↓wpS, ↓wpE, ↓wpEs, ↓wpBop, ↓wpIfs, ↓wpIt, ↓pk, ↓bindT, ↓ownL, ↓lockIt, ↓unlockIt, isT, ↓setAll, ↓wipeE, ↓startE, ↓Tg.slots, ↓IEs.fine, ↓IEs.len, ↓noOwn, ↓isOwnE, ↓Sl.isO, ↓Ev.freeAll, List.replicate, if_true, if_false, reduceIte, Nat.reduceLeDiff, Nat.reduceSub, Nat.reduceAdd, eq_self, reduceCtorEq, Int.reduceLT, Nat.reduceLT, ↓wpl, wpu])
      refine ⟨by omega, ?_⟩
      obtain ⟨d1, d2⟩ := hd hQ _ c k x hc hov' hsp
      have hlen : ∀ b : Bool, (cs ++ [(⟨b, k, x⟩ : Ch)]).length + n ≤ 10000 := fun b => by rw [List.length_append]; show _ + 1 + n ≤ _; omega
      rw [show cs.map eCh ++ [eCh (⟨false, k, x⟩ : Ch)] = (cs ++ [(⟨false, k, x⟩ : Ch)]).map eCh by rw [List.map_append]; rfl]
      refine sought_ap hF (okch_app hcs hsp.hk) d1 (hlen _) (fun S hP hS => ?_) fun t1 ht1 hok1 hh1 => ?_
      · (try simp only [↓wpSs, ↓wpS, ↓wpE, ↓wpEs, ↓wpBop, ↓wpIfs, ↓wpIt, ↓pk, ↓bindT, ↓ownL, ↓lockIt, ↓unlockIt, isT, ↓setAll, ↓wipeE, ↓startE, ↓Tg.slots, ↓IEs.fine, ↓IEs.len, ↓noOwn, ↓isOwnE, ↓Sl.isO, ↓Ev.freeAll, List.replicate, if_true, if_false, reduceIte, Nat.reduceLeDiff, Nat.reduceSub, Nat.reduceAdd, eq_self, reduceCtorEq, Int.reduceLT, Nat.reduceLT, ↓wpl, wpu])
        exact qp S hP hS
      · (try simp only [ir_sought_t1, eCh_late, ↓wpSs, ↓wpS, ↓wpE, ↓wpEs, ↓wpBop, ↓wpIfs, ↓wpIt, ↓pk, ↓bindT, ↓ownL, ↓lockIt, ↓unlockIt, isT, ↓setAll, ↓wipeE, ↓startE, ↓Tg.slots, ↓IEs.fine, ↓IEs.len, ↓noOwn, ↓isOwnE, ↓Sl.isO, ↓Ev.freeAll, List.replicate, if_true, if_false, reduceIte, Nat.reduceLeDiff, Nat.reduceSub, Nat.reduceAdd, eq_self, reduceCtorEq, Int.reduceLT, Nat.reduceLT, ↓wpl, wpu])
        refine ⟨by omega, ?_⟩
        rw [show cs.map eCh ++ [eCh (⟨true, k, x⟩ : Ch)] = (cs ++ [(⟨true, k, x⟩ : Ch)]).map eCh by rw [List.map_append]; rfl]
        refine sought_ap hF (okch_app hcs hsp.hk) d2 (hlen _) (fun S hP hS => ?_) fun t2 ht2 hok2 hh2 => ?_
        · (try simp only [↓wpSs, ↓wpS, ↓wpE, ↓wpEs, ↓wpBop, ↓wpIfs, ↓wpIt, ↓pk, ↓bindT, ↓ownL, ↓lockIt, ↓unlockIt, isT, ↓setAll, ↓wipeE, ↓startE, ↓Tg.slots, ↓IEs.fine, ↓IEs.len, ↓noOwn, ↓isOwnE, ↓Sl.isO, ↓Ev.freeAll, List.replicate, if_true, if_false, reduceIte, Nat.reduceLeDiff, Nat.reduceSub, Nat.reduceAdd, eq_self, reduceCtorEq, Int.reduceLT, Nat.reduceLT, ↓wpl, wpu])
          exact qp S hP hS
        · (try simp only [ir_sought_t0, ↓wpSs, ↓wpS, ↓wpE, ↓wpEs, ↓wpBop, ↓wpIfs, ↓wpIt, ↓pk, ↓bindT, ↓ownL, ↓lockIt, ↓unlockIt, isT, ↓setAll, ↓wipeE, ↓startE, ↓Tg.slots, ↓IEs.fine, ↓IEs.len, ↓noOwn, ↓isOwnE, ↓Sl.isO, ↓Ev.freeAll, List.replicate, if_true, if_false, reduceIte, Nat.reduceLeDiff, Nat.reduceSub, Nat.reduceAdd, eq_self, reduceCtorEq, Int.reduceLT, Nat.reduceLT, ↓wpl, wpu])
          refine qt (.split (.int (k : Nat)) (.int x) t1 t2) ?_ ⟨hok1, hok2⟩ (by show max t1.ht t2.ht + 1 ≤ n + 1; omega)
          show (match numN F.jobs.length (.int (k : Nat)), whN (.int x) with | some k, some h => mW F L (cs ++ [⟨false, k, h⟩]) t1 && mW F L (cs ++ [⟨true, k, h⟩]) t2 | _, _ => false) = true
          rw [numN_nat hsp.hk]
          simp only [whN]
          rw [ht1, ht2]
          rfl
  · have hn := enc_none ht
    (try simp only [hn, ↓wpSs, ↓wpS, ↓wpE, ↓wpEs, ↓wpBop, ↓wpIfs, ↓wpIt, ↓pk, ↓bindT, ↓ownL, ↓lockIt, ↓unlockIt, isT, ↓setAll, ↓wipeE, ↓startE, ↓Tg.slots, ↓IEs.fine, ↓IEs.len, ↓noOwn, ↓isOwnE, ↓Sl.isO, ↓Ev.freeAll, List.replicate, if_true, if_false, reduceIte, Nat.reduceLeDiff, Nat.reduceSub, Nat.reduceAdd, eq_self, reduceCtorEq, Int.reduceLT, Nat.reduceLT, ↓wpl, wpu])
    exact qt t ht hok (by omega)
/-! the least plan -/
def hsum (F : Fl) : Int := sumTo F.h F.jobs.length
theorem endB_sum {F : Fl} {most : Int} (hF : GoodFl most F) {row : List Nat} (hr : ∀ j ∈ row, j < F.jobs.length) : ∀ i : Nat, i ≤ row.length → endB F (laidB F (row.take i)) ≤ ((row.take i).map F.h).sum
  | 0, _ => by simp [laidB, endB]
  | i + 1, h => by
    have ih := endB_sum hF hr i (by omega)
    have hi := mem_at (show i < row.length by omega)
    rw [laidB_take hi, endB_app, List.take_add_one, hi, Option.toList_some, List.map_append, List.sum_append]
    have hj := hr _ (List.mem_of_getElem? hi)
    have := place_le hF hj (B := laidB F (row.take i))
    have := (hours_bd hF hj).2.1
    simp only [List.map_cons, List.map_nil, List.sum_cons, List.sum_nil]
    omega
theorem laid_hsum {F : Fl} {most : Int} (hF : GoodFl most F) {row : List Nat} (hr : GoodRow F row) : endB F (laidB F row) ≤ hsum F := by
  have h := endB_sum hF (fun j hj => List.mem_range.mp (hr.1.mem_iff.mp hj)) row.length (Nat.le_refl _)
  rw [take_all] at h
  refine Int.le_trans h (Int.le_of_eq ?_)
  rw [sum_perm (hr.1.map F.h)]
  exact sum_vec
theorem exists_len {F : Fl} {most : Int} (hF : GoodFl most F) (S : Nat → Int) : ∃ m, IsLen F S m := by
  have j1 := hF.j1
  obtain ⟨a, ha, h⟩ := exists_max (f := fun k => S k + F.h k) (l := List.range F.jobs.length) (fun e => by
    have h0 : (List.range F.jobs.length).length = 0 := by rw [e]; rfl
    rw [List.length_range] at h0
    omega)
  exact ⟨_, ⟨a, List.mem_range.mp ha, rfl⟩, fun k hk => h k (List.mem_range.mpr hk)⟩
theorem len_pos {F : Fl} {most : Int} (hF : GoodFl most F) {S : Nat → Int} (hP : Plan F S) {m : Int} (h : IsLen F S m) : 1 ≤ m := by
  have j1 := hF.j1
  have := h.2 0 (by omega)
  have := hP.p 0 (by omega)
  have := (hours_bd hF (k := 0) (by omega)).2.1
  omega
def g_least : Pm := fun ds R => ∃ F : Fl, ds = [eFl F] ∧ GoodFl 50 F ∧ (∀ L, 0 ≤ L → L < hsum F → Dp F L 520 []) ∧
  ∀ S m t, Plan F S → IsLen F S m → m ≤ hsum F → mW F (m - 1) [] t = true → t.ok → t.ht ≤ 520 → R (.tuple [.list ((vec F.jobs.length S).map .int), t.enc])
abbrev e_least : FnE := ⟨"least", 1, false, g_least⟩
theorem least_ap {F : Fl} {Q : PyData → Prop} (hF : GoodFl 50 F) (hd : ∀ L, 0 ≤ L → L < hsum F → Dp F L 520 []) (q : ∀ S m t, Plan F S → IsLen F S m → m ≤ hsum F → mW F (m - 1) [] t = true → t.ok → t.ht ≤ 520 → Q (.tuple [.list ((vec F.jobs.length S).map .int), t.enc])) : g_least [eFl F] Q := ⟨F, rfl, hF, hd, q⟩
theorem sem_least : ∀ ds R, ds.length = 1 → g_least ds R → wpSs (Gof [e_laid, e_some_row, e_sought 520, e_length]) ir_least (startE 4 ds) { nx := fun _ => false = false ∧ R .none, rt := R } := by
  rintro _ R _ ⟨F, rfl, hF, hd, q⟩
  have j1 := hF.j1
  (try simp only [ir_least, ↓wpSs, ↓wpS, ↓wpE, ↓wpEs, ↓wpBop, ↓wpIfs, ↓wpIt, ↓pk, ↓bindT, ↓ownL, ↓lockIt, ↓unlockIt, isT, ↓setAll, ↓wipeE, ↓startE, ↓Tg.slots, ↓IEs.fine, ↓IEs.len, ↓noOwn, ↓isOwnE, ↓Sl.isO, ↓Ev.freeAll, List.replicate, if_true, if_false, reduceIte, Nat.reduceLeDiff, Nat.reduceSub, Nat.reduceAdd, eq_self, reduceCtorEq, Int.reduceLT, Nat.reduceLT, ↓wpl, wpu])
  refine some_row_ap hF fun row hrow => ?_
  (try simp only [↓wpSs, ↓wpS, ↓wpE, ↓wpEs, ↓wpBop, ↓wpIfs, ↓wpIt, ↓pk, ↓bindT, ↓ownL, ↓lockIt, ↓unlockIt, isT, ↓setAll, ↓wipeE, ↓startE, ↓Tg.slots, ↓IEs.fine, ↓IEs.len, ↓noOwn, ↓isOwnE, ↓Sl.isO, ↓Ev.freeAll, List.replicate, if_true, if_false, reduceIte, Nat.reduceLeDiff, Nat.reduceSub, Nat.reduceAdd, eq_self, reduceCtorEq, Int.reduceLT, Nat.reduceLT, ↓wpl, wpu])
  refine laid_ap hF hrow ?_
  (try simp only [↓wpSs, ↓wpS, ↓wpE, ↓wpEs, ↓wpBop, ↓wpIfs, ↓wpIt, ↓pk, ↓bindT, ↓ownL, ↓lockIt, ↓unlockIt, isT, ↓setAll, ↓wipeE, ↓startE, ↓Tg.slots, ↓IEs.fine, ↓IEs.len, ↓noOwn, ↓isOwnE, ↓Sl.isO, ↓Ev.freeAll, List.replicate, if_true, if_false, reduceIte, Nat.reduceLeDiff, Nat.reduceSub, Nat.reduceAdd, eq_self, reduceCtorEq, Int.reduceLT, Nat.reduceLT, ↓wpl, wpu])
  have hP0 := laid_plan hF hrow
  obtain ⟨m0, hm0⟩ := exists_len hF (mLaid F row)
  have hle0 : m0 ≤ hsum F := by
    obtain ⟨⟨k, hk, e⟩, _⟩ := hm0
    have h1 : (mLaid F row) k + F.h k ≤ endB F (laidB F row) := endB_ge (mem_st (laid_perm hrow.1) hk)
    have := laid_hsum hF hrow
    omega
  refine ⟨fun m r => ∃ (S : Nat → Int) (len : Int), Plan F S ∧ IsLen F S len ∧ len ≤ hsum F ∧ m = len.toNat ∧ r = [.val (eFl F), .val (.list ((vec F.jobs.length S).map .int)), .un, .un], ⟨_, _, m0, hP0, hm0, hle0, rfl, rfl⟩, ?_⟩
  rintro _ _ ⟨S, len, hP, hlen, hle, rfl, rfl⟩
  have hpos := len_pos hF hP hlen
  (try simp only [ir_least_b0, ↓wpSs, ↓wpS, ↓wpE, ↓wpEs, ↓wpBop, ↓wpIfs, ↓wpIt, ↓pk, ↓bindT, ↓ownL, ↓lockIt, ↓unlockIt, isT, ↓setAll, ↓wipeE, ↓startE, ↓Tg.slots, ↓IEs.fine, ↓IEs.len, ↓noOwn, ↓isOwnE, ↓Sl.isO, ↓Ev.freeAll, List.replicate, if_true, if_false, reduceIte, Nat.reduceLeDiff, Nat.reduceSub, Nat.reduceAdd, eq_self, reduceCtorEq, Int.reduceLT, Nat.reduceLT, ↓wpl, wpu])
  refine length_ap hF vec_len fun len' hlen' => ?_
  have e : len' = len := hlen'.uniq (hlen.congr fun k hk => (st_vec hk).symm)
  subst e
  (try simp only [↓wpSs, ↓wpS, ↓wpE, ↓wpEs, ↓wpBop, ↓wpIfs, ↓wpIt, ↓pk, ↓bindT, ↓ownL, ↓lockIt, ↓unlockIt, isT, ↓setAll, ↓wipeE, ↓startE, ↓Tg.slots, ↓IEs.fine, ↓IEs.len, ↓noOwn, ↓isOwnE, ↓Sl.isO, ↓Ev.freeAll, List.replicate, if_true, if_false, reduceIte, Nat.reduceLeDiff, Nat.reduceSub, Nat.reduceAdd, eq_self, reduceCtorEq, Int.reduceLT, Nat.reduceLT, ↓wpl, wpu])
  refine sought_ap (cs := []) hF (fun c hc => by simp at hc) (hd _ (by omega) (by omega)) (by simp) (fun S' hP' hS' => ?_) fun t ht hok hh => ?_
  · (try simp only [ir_least_t0, ↓wpSs, ↓wpS, ↓wpE, ↓wpEs, ↓wpBop, ↓wpIfs, ↓wpIt, ↓pk, ↓bindT, ↓ownL, ↓lockIt, ↓unlockIt, isT, ↓setAll, ↓wipeE, ↓startE, ↓Tg.slots, ↓IEs.fine, ↓IEs.len, ↓noOwn, ↓isOwnE, ↓Sl.isO, ↓Ev.freeAll, List.replicate, if_true, if_false, reduceIte, Nat.reduceLeDiff, Nat.reduceSub, Nat.reduceAdd, eq_self, reduceCtorEq, Int.reduceLT, Nat.reduceLT, ↓wpl, wpu])
    obtain ⟨m', hm'⟩ := exists_len hF S'
    have hlt : m' ≤ len' - 1 := by
      obtain ⟨⟨k, hk, e⟩, _⟩ := hm'
      have := hS' k hk
      omega
    have := len_pos hF hP' hm'
    exact ⟨m'.toNat, by omega, S', m', hP', hm', by omega, rfl, rfl⟩
  · (try simp only [↓wpSs, ↓wpS, ↓wpE, ↓wpEs, ↓wpBop, ↓wpIfs, ↓wpIt, ↓pk, ↓bindT, ↓ownL, ↓lockIt, ↓unlockIt, isT, ↓setAll, ↓wipeE, ↓startE, ↓Tg.slots, ↓IEs.fine, ↓IEs.len, ↓noOwn, ↓isOwnE, ↓Sl.isO, ↓Ev.freeAll, List.replicate, if_true, if_false, reduceIte, Nat.reduceLeDiff, Nat.reduceSub, Nat.reduceAdd, eq_self, reduceCtorEq, Int.reduceLT, Nat.reduceLT, ↓wpl, wpu])
    exact q S _ t hP hlen hle ht hok hh
end CF
namespace CF
open PySem PySem.Spec PyProof.Rows L2
/-! ### how deep the search goes -/
theorem ownF_app {cs : List Ch} {c : Ch} {k : Nat} : ownF (cs ++ [c]) k = inF1 k (ownF cs k) c := by
  unfold ownF
  rw [List.foldl_append]
  rfl
theorem ownL_app {F : Fl} {L : Int} {cs : List Ch} {c : Ch} {k : Nat} : ownL' F L (cs ++ [c]) k = inL1 k (ownL' F L cs k) c := by
  unfold ownL'
  rw [List.foldl_append]
  rfl
theorem winF_mono {F : Fl} {most : Int} (hF : GoodFl most F) {cs : List Ch} {c : Ch} (k : Nat) : winF F cs k ≤ winF F (cs ++ [c]) k :=
  swp_le (clo_F hF) (fun j => Int.le_trans (b := ownF (cs ++ [c]) j) (by rw [ownF_app]; unfold inF1; split <;> omega) (swp_ge _ _)) _ _
theorem winL_mono {F : Fl} {most : Int} (hF : GoodFl most F) {L : Int} {cs : List Ch} {c : Ch} (k : Nat) : winL F L (cs ++ [c]) k ≤ winL F L cs k := by
  have : winG F L cs k ≤ winG F L (cs ++ [c]) k := swp_le (clo_L hF) (fun j => Int.le_trans (b := -(ownL' F L (cs ++ [c]) j)) (by
    have : ownL' F L (cs ++ [c]) j ≤ ownL' F L cs j := by rw [ownL_app]; unfold inL1; split <;> omega
    show -(ownL' F L cs j) ≤ _
    omega) (swp_ge _ _)) _ _
  unfold winL
  omega
theorem late_ge {F : Fl} {cs : List Ch} {k : Nat} {x : Int} : x + 1 ≤ winF F (cs ++ [⟨true, k, x⟩]) k := by
  refine Int.le_trans (b := ownF (cs ++ [⟨true, k, x⟩]) k) ?_ (swp_ge _ _)
  rw [ownF_app]
  unfold inF1
  rw [if_pos ⟨rfl, rfl⟩]
  show _ ≤ max _ (x + 1)
  omega
theorem early_le {F : Fl} {L : Int} {cs : List Ch} {k : Nat} {x : Int} : winL F L (cs ++ [⟨false, k, x⟩]) k ≤ x := by
  refine Int.le_trans swpL_le ?_
  rw [ownL_app]
  unfold inL1
  rw [if_pos ⟨rfl, rfl⟩]
  show min _ x ≤ x
  omega
theorem sumTo_lt {f g : Nat → Int} : ∀ {n : Nat}, (∀ k, k < n → f k ≤ g k) → (∃ k, k < n ∧ f k < g k) → sumTo f n < sumTo g n
  | 0, _, ⟨k, hk, _⟩ => by omega
  | n + 1, h, ⟨k, hk, hl⟩ => by
    rw [sumTo, sumTo]
    have h1 := h n (by omega)
    by_cases e : k = n
    · subst e
      have := sumTo_le (n := k) fun j hj => h j (by omega)
      omega
    · have := sumTo_lt (n := n) (fun j hj => h j (by omega)) ⟨k, by omega, hl⟩
      omega
def wid (F : Fl) (L : Int) (cs : List Ch) : Int := sumTo (fun k => winL F L cs k - winF F cs k) F.jobs.length
theorem dp_gen {F : Fl} {most : Int} (hF : GoodFl most F) {L : Int} : ∀ (n : Nat) (cs : List Ch), (Quiet F L cs → wid F L cs + 1 ≤ n) → 1 ≤ n → Dp F L n cs
  | 0, cs, _, h => by omega
  | n + 1, cs, hw, _ => fun hQ t c k x hc ho hsp => by
    have h1 := hw hQ
    have x0 := hsp.x0
    have x1 := hsp.x1
    have mF : ∀ (ch : Ch) (j : Nat), winL F L (cs ++ [ch]) j - winF F (cs ++ [ch]) j ≤ winL F L cs j - winF F cs j := fun ch j => by
      have := winF_mono hF (cs := cs) (c := ch) j
      have := winL_mono hF (L := L) (cs := cs) (c := ch) j
      omega
    have hpos : 1 ≤ wid F L cs := by
      have : sumTo (fun _ => (0 : Int)) F.jobs.length < wid F L cs := sumTo_lt (fun j hj => by have := hQ.w j hj; omega) ⟨k, hsp.hk, by omega⟩
      rw [sumTo_zero fun _ _ => rfl] at this
      omega
    have child : ∀ ch : Ch, winL F L (cs ++ [ch]) k - winF F (cs ++ [ch]) k < winL F L cs k - winF F cs k → Dp F L n (cs ++ [ch]) := fun ch hlt => by
      have : wid F L (cs ++ [ch]) < wid F L cs := sumTo_lt (fun j _ => mF ch j) ⟨k, hsp.hk, hlt⟩
      exact dp_gen hF n _ (fun _ => by omega) (by omega)
    refine ⟨child _ ?_, child _ ?_⟩
    · have := early_le (F := F) (L := L) (cs := cs) (k := k) (x := x)
      have := winF_mono hF (cs := cs) (c := ⟨false, k, x⟩) k
      omega
    · have := late_ge (F := F) (cs := cs) (k := k) (x := x)
      have := winL_mono hF (L := L) (cs := cs) (c := ⟨true, k, x⟩) k
      omega
theorem sumTo_subC {f : Nat → Int} {L : Int} : ∀ {n : Nat}, sumTo (fun k => L - f k) n = n * L - sumTo f n
  | 0 => by simp [sumTo]
  | n + 1 => by
    rw [sumTo, sumTo, sumTo_subC (n := n), Int.natCast_add, Int.add_mul]
    simp
    omega
theorem dp_small {F : Fl} {most : Int} (hF : GoodFl most F) (hs : (F.jobs.length : Int) * (hsum F - 1) - hsum F ≤ 518) {L : Int} (hL : L < hsum F) : Dp F L 520 [] := by
  refine dp_gen hF 520 [] (fun _ => ?_) (by omega)
  have h1 : wid F L [] ≤ sumTo (fun k => L - F.h k) F.jobs.length := sumTo_le fun k _ => by
    have := winF_nn (F := F) (cs := []) (k := k)
    have := winL_le (F := F) (L := L) (cs := []) (k := k)
    omega
  rw [sumTo_subC] at h1
  have h2 : (F.jobs.length : Int) * L ≤ (F.jobs.length : Int) * (hsum F - 1) := Int.mul_le_mul_of_nonneg_left (by omega) (by omega)
  have h3 : hsum F = sumTo F.h F.jobs.length := rfl
  omega
theorem sumTo_one {f : Nat → Int} {a : Nat} : ∀ {n : Nat}, (∀ k, k < n → k ≠ a → f k = 0) → sumTo f n = if a < n then f a else 0
  | 0, _ => by simp [sumTo]
  | n + 1, h => by
    rw [sumTo, sumTo_one (n := n) fun k hk => h k (by omega)]
    by_cases e : n = a
    · subst e
      simp
    · rw [h n (by omega) e]
      by_cases h' : a < n
      · rw [if_pos h', if_pos (by omega)]
        omega
      · rw [if_neg h', if_neg (by omega)]
        omega
/-- two jobs alone need crews -/
structure Two (F : Fl) (A B : Nat) : Prop where
  z : ∀ k, k < F.jobs.length → k ≠ A → k ≠ B → ∀ c, c < F.crews.length → F.need k c = 0
  a : A < F.jobs.length → F.h A ≤ 3
  b : B < F.jobs.length → F.h B ≤ 3
theorem two_thr {F : Fl} {most : Int} (hF : GoodFl most F) {A B : Nat} (h2 : Two F A B) {cs : List Ch} {t : Int} {c : Nat} (hc : c < F.crews.length) (ho : Over F cs c t) : (A < F.jobs.length ∧ Thr F cs t c A) ∧ A ≠ B := by
  have key : ¬ ∀ k, k < F.jobs.length → k ≠ B → ¬ Thr F cs t c k := fun hn => by
    have e : wk F (winF F cs) c t = if B < F.jobs.length then bsy F (winF F cs) c t B else 0 := sumTo_one fun k hk hkb => bsy_thr hF hk hc (hn k hk hkb)
    unfold Over at ho
    have hp := crew_pos hF hc
    rw [e] at ho
    split at ho
    · rename_i hB
      obtain ⟨_, _, _, hle, _⟩ := need_bd hF hB hc
      rw [getD_of hc] at ho hp
      unfold bsy at ho
      split at ho <;> omega
    · omega
  simp only [Classical.not_forall, Classical.not_not] at key
  obtain ⟨k, hk, hkb, hT⟩ := key
  have ek : k = A := by
    rcases Nat.decEq k A with hne | e
    · have := h2.z k hk hne hkb c hc
      have := hT.2.2
      omega
    · exact e
  subst ek
  exact ⟨⟨hk, hT⟩, hkb⟩
theorem Two.symm {F : Fl} {A B : Nat} (h : Two F A B) : Two F B A := ⟨fun k hk h1 h2 => h.z k hk h2 h1, h.b, h.a⟩
def pot (F : Fl) (L : Int) (A B : Nat) (cs : List Ch) : Int := (L - min (winF F cs A + F.h A) (winF F cs B + F.h B)) + min 3 (winL F L cs A - winF F cs A) + min 3 (winL F L cs B - winF F cs B)
def Busy (F : Fl) (L : Int) (cs : List Ch) : Prop := Quiet F L cs ∧ ∃ t c, c < F.crews.length ∧ Over F cs c t
theorem dp_two {F : Fl} {most : Int} (hF : GoodFl most F) {L : Int} {A B : Nat} (h2 : Two F A B) : ∀ (n : Nat) (cs : List Ch), (Busy F L cs → pot F L A B cs + 2 ≤ n) → 1 ≤ n → Dp F L n cs
  | 0, cs, _, h => by omega
  | n + 1, cs, hw, _ => fun hQ t c k x hc ho hsp => by
    have h1 := hw ⟨hQ, t, c, hc, ho⟩
    obtain ⟨⟨hA, tA⟩, hAB⟩ := two_thr hF h2 hc ho
    obtain ⟨⟨hB, tB⟩, _⟩ := two_thr hF h2.symm hc ho
    have hhA := h2.a hA
    have hhB := h2.b hB
    have pA := (hours_bd hF hA).2.1
    have pB := (hours_bd hF hB).2.1
    have qA := hQ.w A hA
    have qB := hQ.w B hB
    have lA := winL_le (F := F) (L := L) (cs := cs) (k := A)
    have lB := winL_le (F := F) (L := L) (cs := cs) (k := B)
    have x0 := hsp.x0
    have x1 := hsp.x1
    have only : ∀ j, j < F.jobs.length → Thr F cs t c j → j = A ∨ j = B := fun j hj hT => by
      rcases Nat.decEq j A with hne | e
      · rcases Nat.decEq j B with hne' | e'
        · have := h2.z j hj hne hne' c hc
          have := hT.2.2
          omega
        · exact .inr e'
      · exact .inl e
    obtain ⟨m, hm1, ⟨j, hj, hT, hm2⟩, hm3⟩ := hsp.m
    have mA := hm1 A hA tA
    have mB := hm1 B hB tB
    have hmm : m = min (winF F cs A + F.h A) (winF F cs B + F.h B) := by
      rcases only j hj hT with rfl | rfl <;> omega
    have hpos : 0 ≤ pot F L A B cs := by unfold pot; omega
    have hk := only k hsp.hk hsp.a
    have child : ∀ ch : Ch, (ch = ⟨false, k, x⟩ ∨ ch = ⟨true, k, x⟩) → Dp F L n (cs ++ [ch]) := fun ch hch => by
      refine dp_two hF h2 n _ (fun hb => ?_) (by omega)
      obtain ⟨hQ', t', c', hc', ho'⟩ := hb
      obtain ⟨⟨_, tA'⟩, _⟩ := two_thr hF h2 hc' ho'
      obtain ⟨⟨_, tB'⟩, _⟩ := two_thr hF h2.symm hc' ho'
      have qA' := hQ'.w A hA
      have qB' := hQ'.w B hB
      have fA := winF_mono hF (cs := cs) (c := ch) A
      have fB := winF_mono hF (cs := cs) (c := ch) B
      have gA := winL_mono hF (L := L) (cs := cs) (c := ch) A
      have gB := winL_mono hF (L := L) (cs := cs) (c := ch) B
      have a1 := tA.1
      have a2 := tA.2.1
      have b1 := tB.1
      have b2 := tB.2.1
      have a1' := tA'.1
      have a2' := tA'.2.1
      have b1' := tB'.1
      have b2' := tB'.2.1
      have hkk : winL F L (cs ++ [ch]) k ≤ x ∨ x + 1 ≤ winF F (cs ++ [ch]) k := by
        rcases hch with rfl | rfl
        · exact .inl early_le
        · exact .inr late_ge
      have hlt : pot F L A B (cs ++ [ch]) < pot F L A B cs := by
        unfold pot
        rw [← hmm]
        rcases hk with rfl | rfl
        · rcases hkk with hkk | hkk <;> rcases hm3 with hm3 | hm3 <;> omega
        · rcases hkk with hkk | hkk <;> rcases hm3 with hm3 | hm3 <;> omega
      omega
    exact ⟨child _ (.inl rfl), child _ (.inr rfl)⟩
theorem two_sum {F : Fl} (hF : GoodFl 50 F) {A B : Nat} (h2 : Two F A B) (hA : A < F.jobs.length) (hB : B < F.jobs.length) (hne : A ≠ B) : hsum F ≤ 506 := by
  have j2 := hF.j2
  have e : sumTo (fun k => (F.h k + if k = A then 47 else 0) + if k = B then 47 else 0) F.jobs.length = hsum F + 47 + 47 := by
    rw [sumTo_add (f := fun k => F.h k + if k = A then 47 else 0), sumTo_add (f := F.h), sumTo_one (f := fun k => if k = A then 47 else 0) (a := A) (fun k _ h => if_neg h), sumTo_one (f := fun k => if k = B then 47 else 0) (a := B) (fun k _ h => if_neg h), if_pos hA, if_pos hB, if_pos rfl, if_pos rfl]
    rfl
  have h : sumTo (fun k => (F.h k + if k = A then 47 else 0) + if k = B then 47 else 0) F.jobs.length ≤ sumTo (fun k => 50 - (fun _ => (0 : Int)) k) F.jobs.length := sumTo_le fun k hk => by
    have h50 := (hours_bd hF hk).2.2
    have hA3 := h2.a hA
    have hB3 := h2.b hB
    dsimp only
    split
    · rename_i e1
      subst e1
      rw [if_neg hne]
      omega
    · split
      · rename_i e1
        subst e1
        omega
      · omega
  rw [sumTo_subC, sumTo_zero fun _ _ => rfl, e] at h
  omega
theorem dp_long {F : Fl} (hF : GoodFl 50 F) {A B : Nat} (h2 : Two F A B) {L : Int} (hL : L < hsum F) : Dp F L 520 [] := by
  refine dp_two hF h2 520 [] (fun ⟨hQ, t, c, hc, ho⟩ => ?_) (by omega)
  obtain ⟨⟨hA, tA⟩, hAB⟩ := two_thr hF h2 hc ho
  obtain ⟨⟨hB, tB⟩, _⟩ := two_thr hF h2.symm hc ho
  have := two_sum hF h2 hA hB hAB
  have pA := (hours_bd hF hA).2.1
  have pB := (hours_bd hF hB).2.1
  have nA := winF_nn (F := F) (cs := []) (k := A)
  have nB := winF_nn (F := F) (cs := []) (k := B)
  unfold pot
  omega
theorem hsum_le {F : Fl} {most : Int} (hF : GoodFl most F) : hsum F ≤ F.jobs.length * most := by
  have h : hsum F ≤ sumTo (fun k => most - (fun _ => (0 : Int)) k) F.jobs.length := sumTo_le fun k hk => by
    have := (hours_bd hF hk).2.2
    show F.h k ≤ most - 0
    omega
  rw [sumTo_subC, sumTo_zero fun _ _ => rfl] at h
  omega
/-- short hours -/
theorem dp_three {F : Fl} (hF : GoodFl 3 F) {L : Int} (hL : L < hsum F) : Dp F L 520 [] := by
  refine dp_small hF ?_ hL
  have h := hsum_le hF
  have j1 := hF.j1
  have j2 := hF.j2
  generalize F.jobs.length = n at *
  rcases (by omega : n = 1 ∨ n = 2 ∨ n = 3 ∨ n = 4 ∨ n = 5 ∨ n = 6 ∨ n = 7 ∨ n = 8 ∨ n = 9 ∨ n = 10 ∨ n = 11 ∨ n = 12) with rfl | rfl | rfl | rfl | rfl | rfl | rfl | rfl | rfl | rfl | rfl | rfl <;> omega
end CF
namespace CF
open PySem PySem.Spec PyProof.Rows L2
/-! ### a floor cut to two crews -/
theorem cut_take {xs : List PyData} {k : Nat} : cutP xs none (some (k : Int)) = xs.take k := by
  unfold cutP
  rw [HT.sIx_none, HT.sIx_nat, List.drop_zero, Nat.sub_zero]
  rcases Nat.le_total k xs.length with h | h
  · rw [Nat.min_eq_left h]
  · rw [Nat.min_eq_right h, List.take_length, List.take_of_length_le h]
theorem cut_take2 {xs : List PyData} : cutP xs none (some 2) = xs.take 2 := cut_take (k := 2)
def cutFl (F : Fl) : Fl := ⟨F.crews.take 2, F.jobs.map fun j => (j.1, j.2.take 2), F.orders⟩
theorem cut_good {F : Fl} {most : Int} (hF : GoodFl most F) : GoodFl most (cutFl F) := by
  refine ⟨⟨?_, ?_, fun c hc => hF.c.2.2 c (List.mem_of_mem_take hc)⟩, ?_, ?_, fun j hj => ?_, hF.o, ?_⟩
  · show 1 ≤ (F.crews.take 2).length
    have := hF.c.1
    rw [List.length_take]
    omega
  · show (F.crews.take 2).length ≤ 4
    rw [List.length_take]
    omega
  · show 1 ≤ (F.jobs.map _).length
    rw [List.length_map]
    exact hF.j1
  · show (F.jobs.map _).length ≤ 12
    rw [List.length_map]
    exact hF.j2
  · obtain ⟨i, hi, rfl⟩ := List.mem_map.mp hj
    obtain ⟨h1, h2, h3, h4⟩ := hF.j i hi
    refine ⟨h1, h2, ?_, fun k c n hc hn => ?_⟩
    · show (i.2.take 2).length = (F.crews.take 2).length
      rw [List.length_take, List.length_take, h3]
    · have hc' : (F.crews.take 2)[k]? = some c := hc
      have hn' : (i.2.take 2)[k]? = some n := hn
      rw [List.getElem?_take] at hc' hn'
      split at hc'
      · rename_i hk
        rw [if_pos hk] at hn'
        exact h4 k c n hc' hn'
      · cases hc'
  · show GoodOr (F.jobs.map _).length F.orders
    rw [List.length_map]
    exact hF.r
theorem cut_len2 {F : Fl} : (cutFl F).jobs.length = F.jobs.length := by
  show (F.jobs.map _).length = _
  rw [List.length_map]
theorem eCut {F : Fl} : PyData.tuple [.tuple ((F.crews.map .int).take 2), .tuple (F.jobs.map fun j => .tuple [.int j.1, .tuple ((j.2.map .int).take 2)]), .tuple (F.orders.map eOrd)] = eFl (cutFl F) := by
  have e : (fun j : Int × List Int => PyData.tuple [.int j.1, .tuple ((j.2.map PyData.int).take 2)]) = eJob ∘ fun j => (j.1, j.2.take 2) := by
    funext j
    show _ = PyData.tuple [.int j.1, .tuple ((j.2.take 2).map .int)]
    rw [List.map_take]
  unfold eFl cutFl
  rw [e, ← List.map_map, ← List.map_take]
theorem planL_of {F : Fl} {most : Int} (hF : GoodFl most F) {S : Nat → Int} (h : Plan F S) : PlanL F (vec F.jobs.length S) := by
  have e : ∀ k, k < F.jobs.length → st (vec F.jobs.length S) k = S k := fun k hk => st_vec hk
  refine ⟨vec_len, fun x hx => ?_, fun o ho => ?_, fun k hk c hc => ?_⟩
  · obtain ⟨k, hk, rfl⟩ := vec_mem.mp hx
    exact h.p k hk
  · obtain ⟨h1, h2, _⟩ := ord_ok hF ho
    rw [e _ h1, e _ h2]
    exact h.o o ho
  · rw [wk_congr e]
    exact h.c c hc _
theorem l_is_plan_ap {F : Fl} (hF : GoodFl 50 F) {S : Nat → Int} {Q : PyData → Prop} (h : Plan F S) (q : Q (.bool true)) : g_is_plan [eFl F, .list ((vec F.jobs.length S).map .int)] Q := is_plan_ap hF (by rw [vec_len]; have := hF.j2; omega) (fun _ => q) fun hn => (hn (planL_of hF h)).elim
end CF
namespace CF
open PySem PySem.Spec PyProof.Rows L2
/-! ### jobs laid in the order of a plan begin no later -/
theorem sumL_le {α : Type} {f g : α → Int} : ∀ {l : List α}, (∀ x ∈ l, f x ≤ g x) → (l.map f).sum ≤ (l.map g).sum
  | [], _ => Int.le_refl _
  | a :: l, h => by
    rw [List.map_cons, List.map_cons, List.sum_cons, List.sum_cons]
    have := h a List.mem_cons_self
    have := sumL_le (l := l) fun x hx => h x (List.mem_cons_of_mem _ hx)
    omega
theorem sumL_nn {α : Type} {f : α → Int} : ∀ {l : List α}, (∀ x ∈ l, 0 ≤ f x) → 0 ≤ (l.map f).sum
  | [], _ => by simp
  | a :: l, h => by
    rw [List.map_cons, List.sum_cons]
    have := h a List.mem_cons_self
    have := sumL_nn (l := l) fun x hx => h x (List.mem_cons_of_mem _ hx)
    omega
theorem wk_row {F : Fl} {S : Nat → Int} {row : List Nat} (hr : row.Perm (List.range F.jobs.length)) {c : Nat} {t : Int} : wk F S c t = (row.map (bsy F S c t)).sum := by
  unfold wk
  rw [sum_perm (hr.map (bsy F S c t))]
  exact sum_vec.symm
theorem shift {F : Fl} {most : Int} (hF : GoodFl most F) {S : Nat → Int} (hP : Plan F S) {row : List Nat} (hr : GoodRow F row) (hs : row.Pairwise fun a b => S a ≤ S b) : ∀ i : Nat, i ≤ row.length → ∀ p ∈ laidB F (row.take i), p.2 ≤ S p.1
  | 0, _ => fun p hp => by simp [laidB] at hp
  | i + 1, hi => fun p hp => by
    have ih := shift hF hP hr hs i (by omega)
    have hil : i < row.length := by omega
    have hi' := mem_at hil
    have hjm : row[i] ∈ row := List.getElem_mem hil
    have hj : row[i] < F.jobs.length := List.mem_range.mp (hr.1.mem_iff.mp hjm)
    have hBmap : (laidB F (row.take i)).map (·.1) = row.take i := laidB_map
    rw [laidB_take hi', List.mem_append, List.mem_singleton] at hp
    rcases hp with hp | rfl
    · exact ih p hp
    · show place F (laidB F (row.take i)) row[i] ≤ S row[i]
      have hle : ∀ p ∈ laidB F (row.take i), S p.1 ≤ S row[i] := fun p hp => by
        have hm : p.1 ∈ row.take i := by rw [← hBmap]; exact List.mem_map_of_mem hp
        obtain ⟨k, hk, e⟩ := List.mem_iff_getElem.mp hm
        rw [List.length_take] at hk
        rw [List.getElem_take] at e
        have := List.pairwise_iff_getElem.mp hs k i (by omega) hil (by omega)
        rw [e] at this
        exact this
      generalize laidB F (row.take i) = B at ih hBmap hle ⊢
      obtain ⟨_, _, _, p4⟩ := place_ok hF hj (B := B)
      have hready : readyB F B row[i] ≤ S row[i] := by
        rw [readyB_c]
        refine cmax_le (hP.p _ hj) fun p hp ho => ?_
        have h1 := ih p hp
        have h2 := hP.o _ ho
        dsimp only at h2
        omega
      have hroom : mRoom F B row[i] (S row[i]) = true := mRoom_iff.mpr fun c hc t h1 h2 => by
        have e1 : F.need row[i] c = bsy F S c t row[i] := by unfold bsy; rw [if_pos ⟨h1, h2⟩]
        have e2 : use F B c t ≤ ((row.take i).map (bsy F S c t)).sum := by
          rw [← hBmap, List.map_map]
          refine sumL_le fun p hp => ?_
          have h3 := ih p hp
          have h4 := hle p hp
          have hpm : p.1 ∈ row.take i := by rw [← hBmap]; exact List.mem_map_of_mem hp
          have hpn : p.1 < F.jobs.length := List.mem_range.mp (hr.1.mem_iff.mp (List.mem_of_mem_take hpm))
          show busy1 F c t p ≤ bsy F S c t p.1
          unfold busy1
          split
          · rename_i h5
            unfold bsy
            rw [if_pos ⟨by omega, by omega⟩]
            exact Int.le_refl _
          · exact bsy_nn hF hpn hc
        have e3 : ((row.take i).map (bsy F S c t)).sum + bsy F S c t row[i] ≤ wk F S c t := by
          rw [wk_row hr.1]
          conv => rhs; rw [← List.take_append_drop (i + 1) row, List.map_append, List.sum_append, List.take_add_one, hi', Option.toList_some, List.map_append, List.sum_append]
          have : 0 ≤ ((row.drop (i + 1)).map (bsy F S c t)).sum := sumL_nn fun k hk => bsy_nn hF (List.mem_range.mp (hr.1.mem_iff.mp (List.mem_of_mem_drop hk))) hc
          simp only [List.map_cons, List.map_nil, List.sum_cons, List.sum_nil]
          omega
        have := hP.c c hc t
        omega
      rcases Int.lt_or_le (S row[i]) (place F B row[i]) with h | h
      · have := p4 _ hready h
        rw [hroom] at this
        cases this
      · exact h
theorem shift_laid {F : Fl} {most : Int} (hF : GoodFl most F) {S : Nat → Int} (hP : Plan F S) {row : List Nat} (hr : GoodRow F row) (hs : row.Pairwise fun a b => S a ≤ S b) {k : Nat} (hk : k < F.jobs.length) : mLaid F row k ≤ S k := by
  have := shift hF hP hr hs row.length (Nat.le_refl _) (k, mLaid F row k)
  rw [take_all] at this
  exact this (mem_st (laid_perm hr.1) hk)
/-- no plan is shorter than the least -/
theorem least_le {F : Fl} (hF : GoodFl 50 F) {m : Int} {t : Tr} (ht : mW F (m - 1) [] t = true) {S : Nat → Int} (hP : Plan F S) {m' : Int} (h : IsLen F S m') : m ≤ m' := by
  rcases Int.lt_or_le m' m with hlt | hle
  · exfalso
    have := tree_sound hF hP (L := m - 1) (fun k hk => by have := h.2 k hk; omega) t [] fun c hc => by simp at hc
    rw [this] at ht
    cases ht
  · exact hle
end CF
namespace CF
open PySem PySem.Spec PyProof.Rows L2
-- 0 _law_script, 1 _law_many, 2 _law_floor_here, 3 _law_crews_here, 4 _law_jobs, 5 _law_orders_here, 6 _law_long, 7 _law_cell, 8 _law_crew, 9 _law_more, 10 _law_at, 11 _law_less, 12 _law_turned, 13 _law_starts, 14 _law_job_here, 15 _law_one, 16 _law_other
def ir_law_t0 : ISs :=
  (.cons (.ife (.cmp .Gt (.call 4 (.cons (.var 11) (.cons (.ix (.call 3 (.cons (.var 11) .nil)) (.kint 0)) .nil))) (.var 6))
      (.cons (.ret (.kbool false))
      .nil)
      .nil)
    .nil)
def ir_law_t1 : ISs :=
  (.cons (.set 11 (.tup (.cons (.var 3) (.cons (.var 4) (.cons (.bin .Add (.sl (.var 5) .nil (.cons (.var 10) .nil)) (.sl (.var 5) (.cons (.bin .Add (.var 10) (.kint 1)) .nil) .nil)) .nil)))))
    ir_law_t0)
def ir_law_t2 : ISs :=
  (.cons (.ret (.call 5 (.cons (.var 2) (.cons (.comp (.bin .Sub (.bin .Sub (.var 6) (.ix (.var 13) (.var 14))) (.ix (.ix (.var 4) (.var 14)) (.kint 0))) (.one 14) (.rng (.cons (.var 1) .nil)) .nil) .nil))))
  .nil)
def ir_law_t3 : ISs :=
  (.cons (.ife (.cmp .NotEq (.call 4 (.cons (.var 12) (.cons (.var 13) .nil))) (.var 6))
    (.cons (.ret (.kbool false))
    .nil)
    .nil)
  ir_law_t2)
def ir_law_t4 : ISs :=
  (.cons (.set 13 (.ix (.call 3 (.cons (.var 12) .nil)) (.kint 0)))
  ir_law_t3)
def ir_law_t5 : ISs :=
  (.cons (.set 12 (.tup (.cons (.var 3) (.cons (.var 4) (.cons (.blt .tuple1 (.cons (.comp (.tup (.cons (.var 16) (.cons (.var 15) .nil))) (.many [15, 16]) (.seq (.var 5)) .nil) .nil)) .nil)))))
  ir_law_t4)
def ir_law_t6 : ISs :=
  (.cons (.ife (.cmp .Gt (.blt .len (.cons (.var 5) .nil)) (.kint 0))
    (.cons (.set 10 (.bin .Mod (.bin .FloorDiv (.var 7) (.kint 16)) (.blt .len (.cons (.var 5) .nil))))
    ir_law_t1)
    .nil)
  ir_law_t5)
def ir_law_t7 : ISs :=
  (.cons (.ife (.bop .And (.cons (.cmp .LtE (.ix (.ix (.var 9) (.kint 0)) (.var 8)) (.kint 50)) (.cons (.cmp .Gt (.call 4 (.cons (.var 9) (.cons (.ix (.call 3 (.cons (.var 9) .nil)) (.kint 0)) .nil))) (.var 6)) .nil)))
    (.cons (.ret (.kbool false))
    .nil)
    .nil)
  ir_law_t6)
def ir_law_t8 : ISs :=
  (.cons (.set 9 (.tup (.cons (.bin .Add (.bin .Add (.sl (.var 3) .nil (.cons (.var 8) .nil)) (.tup (.cons (.bin .Add (.bin .Add (.ix (.var 3) (.var 8)) (.kint 1)) (.bin .Mod (.bin .FloorDiv (.var 7) (.kint 4)) (.kint 3))) .nil))) (.sl (.var 3) (.cons (.bin .Add (.var 8) (.kint 1)) .nil) .nil)) (.cons (.var 4) (.cons (.var 5) .nil)))))
  ir_law_t7)
def ir_law_t9 : ISs :=
  (.cons (.set 8 (.bin .Mod (.var 7) (.blt .len (.cons (.var 3) .nil))))
  ir_law_t8)
def ir_law_t10 : ISs :=
  (.cons (.set 7 (.call 0 (.cons (.var 0) (.cons (.kint 4) .nil))))
  ir_law_t9)
def ir_law_t11 : ISs :=
  (.cons (.set 6 (.call 2 (.cons (.var 2) (.cons (.ix (.call 3 (.cons (.var 2) .nil)) (.kint 0)) .nil))))
  ir_law_t10)
def ir_law_t12 : ISs :=
  (.cons (.setT [3, 4, 5] (.var 2))
  ir_law_t11)
def ir_law_t13 : ISs :=
  (.cons (.set 2 (.tup (.cons (.sl (.ix (.var 2) (.kint 0)) .nil (.cons (.kint 2) .nil)) (.cons (.blt .tuple1 (.cons (.comp (.tup (.cons (.ix (.var 14) (.kint 0)) (.cons (.sl (.ix (.var 14) (.kint 1)) .nil (.cons (.kint 2) .nil)) .nil))) (.one 14) (.seq (.ix (.var 2) (.kint 1))) .nil) .nil)) (.cons (.ix (.var 2) (.kint 2)) .nil)))))
  ir_law_t12)
def ir_law_t14 : ISs :=
  (.cons (.set 2 (.call 1 (.cons (.var 0) (.cons (.kint 0) (.cons (.var 1) (.cons (.ix (.lst (.cons (.kint 3) (.cons (.kint 3) (.cons (.kint 2) (.cons (.kint 1) .nil))))) (.bin .Sub (.var 1) (.kint 1))) (.cons (.kint 5) .nil)))))))
  ir_law_t13)
def ir_law : ISs :=
  (.cons (.set 1 (.bin .Add (.kint 1) (.bin .Mod (.call 0 (.cons (.var 0) (.cons (.kint 3) .nil))) (.kint 4))))
  ir_law_t14)
-- calls: _law_cell_at, _law_floor, length, least, _law_length, _law_is_plan
end CF
namespace CF
open PySem PySem.Spec PyProof.Rows L2
theorem at4v {p : PyData → Prop} {a b c e i : Int} (h0 : 0 ≤ i) (h4 : i < 4) (h : ∀ m, (m = a ∨ m = b ∨ m = c ∨ m = e) → p (.int m)) : ∃ d, atI [PyData.int a, .int b, .int c, .int e] i = some d ∧ p d := by
  rcases (by omega : i = 0 ∨ i = 1 ∨ i = 2 ∨ i = 3) with rfl | rfl | rfl | rfl
  · exact ⟨_, at_lit0, h _ (.inl rfl)⟩
  · exact ⟨_, at_lit1, h _ (.inr (.inl rfl))⟩
  · exact ⟨_, at_lit2, h _ (.inr (.inr (.inl rfl)))⟩
  · exact ⟨_, at_lit3, h _ (.inr (.inr (.inr rfl)))⟩
/-! a crew made greater -/
def moreFl (F : Fl) (c : Nat) (v : Int) : Fl := ⟨F.crews.set c v, F.jobs, F.orders⟩
theorem more_good {F : Fl} {most : Int} (hF : GoodFl most F) {c : Nat} (hc : c < F.crews.length) {v : Int} (h1 : F.crews[c] ≤ v) (h50 : v ≤ 50) : GoodFl most (moreFl F c v) := by
  have hl : (F.crews.set c v).length = F.crews.length := List.length_set
  have hc1 := (hF.c.2.2 _ (List.getElem_mem hc)).1
  refine ⟨⟨?_, ?_, fun x hx => ?_⟩, hF.j1, hF.j2, fun j hj => ?_, hF.o, hF.r⟩
  · show 1 ≤ (F.crews.set c v).length
    rw [hl]; exact hF.c.1
  · show (F.crews.set c v).length ≤ 4
    rw [hl]; exact hF.c.2.1
  · rcases List.mem_or_eq_of_mem_set hx with h | rfl
    · exact hF.c.2.2 x h
    · omega
  · obtain ⟨g1, g2, g3, g4⟩ := hF.j j hj
    refine ⟨g1, g2, by rw [g3]; exact hl.symm, fun k x n hx hn => ?_⟩
    have hx : (F.crews.set c v)[k]? = some x := hx
    by_cases e : c = k
    · subst e
      rw [List.getElem?_set_self hc] at hx
      cases hx
      have := g4 c _ n (mem_at hc) hn
      omega
    · rw [List.getElem?_set_ne e] at hx
      exact g4 k x n hx hn
theorem more_plan {F : Fl} {S : Nat → Int} (hP : Plan F S) {c : Nat} (hc : c < F.crews.length) {v : Int} (h1 : F.crews[c] ≤ v) : Plan (moreFl F c v) S :=
  ⟨hP.p, hP.o, fun k hk t => by
    have hk' : k < F.crews.length := by
      have hk : k < (F.crews.set c v).length := hk
      rw [List.length_set] at hk
      exact hk
    refine Int.le_trans (hP.c k hk' t) ?_
    show _ ≤ (F.crews.set c v).getD k 0
    rw [List.getD_eq_getElem?_getD, List.getD_eq_getElem?_getD]
    by_cases e : c = k
    · subst e
      rw [List.getElem?_set_self hc, mem_at hc]
      exact h1
    · rw [List.getElem?_set_ne e]
      exact Int.le_refl _⟩
/-! other orders -/
def ordFl (F : Fl) (os : List (Nat × Nat)) : Fl := ⟨F.crews, F.jobs, os⟩
theorem less_good {F : Fl} {most : Int} (hF : GoodFl most F) {os : List (Nat × Nat)} (hl : os.length ≤ 40) (ho : ∀ o ∈ os, o ∈ F.orders) : GoodFl most (ordFl F os) :=
  ⟨hF.c, hF.j1, hF.j2, hF.j, hl, let ⟨rank, h1, h2⟩ := hF.r; ⟨rank, h1, fun o h => h2 o (ho o h)⟩⟩
theorem less_plan {F : Fl} {S : Nat → Int} (hP : Plan F S) {os : List (Nat × Nat)} (ho : ∀ o ∈ os, o ∈ F.orders) : Plan (ordFl F os) S := ⟨hP.p, fun o h => hP.o o (ho o h), hP.c⟩
def swapO (o : Nat × Nat) : Nat × Nat := (o.2, o.1)
theorem turn_good {F : Fl} {most : Int} (hF : GoodFl most F) : GoodFl most (ordFl F (F.orders.map swapO)) := by
  refine ⟨hF.c, hF.j1, hF.j2, hF.j, by show (F.orders.map swapO).length ≤ 40; rw [List.length_map]; exact hF.o, ?_⟩
  obtain ⟨rank, h1, h2⟩ := hF.r
  refine ⟨fun k => F.jobs.length - 1 - rank k, fun i hi => ?_, fun o ho => ?_⟩
  · have hi : i < F.jobs.length := hi
    show F.jobs.length - 1 - rank i < F.jobs.length
    omega
  obtain ⟨p, hp, rfl⟩ := List.mem_map.mp ho
  obtain ⟨h3, h4, h5⟩ := h2 p hp
  have h6 := h1 _ h3
  have h7 := h1 _ h4
  refine ⟨h4, h3, ?_⟩
  show F.jobs.length - 1 - rank p.2 < F.jobs.length - 1 - rank p.1
  omega
def rev (F : Fl) (m : Int) (S : Nat → Int) : Nat → Int := fun k => m - S k - F.h k
theorem rev_plan {F : Fl} {S : Nat → Int} (hP : Plan F S) {m : Int} (hm : ∀ k, k < F.jobs.length → S k + F.h k ≤ m) {os : List (Nat × Nat)} (ho : ∀ o ∈ os, swapO o ∈ F.orders) : Plan (ordFl F os) (rev F m S) := by
  refine ⟨fun k hk => ?_, fun o h => ?_, fun c hc t => ?_⟩
  · have := hm k hk
    show 0 ≤ m - S k - F.h k
    omega
  · have := hP.o _ (ho o h)
    show m - S o.1 - F.h o.1 + F.h o.1 ≤ m - S o.2 - F.h o.2
    have h' : S o.2 + F.h o.2 ≤ S o.1 := this
    omega
  · have e : wk (ordFl F os) (rev F m S) c t = wk F S c (m - 1 - t) := by
      show sumTo (bsy F (rev F m S) c t) F.jobs.length = _
      refine sumTo_congr fun k _ => ?_
      unfold bsy rev
      by_cases h : S k ≤ m - 1 - t ∧ m - 1 - t < S k + F.h k
      · rw [if_pos h, if_pos (by omega)]
      · rw [if_neg h, if_neg (by omega)]
    rw [e]
    exact hP.c c hc _
theorem rev_len {F : Fl} {most : Int} (hF : GoodFl most F) {S : Nat → Int} (hp : ∀ k, k < F.jobs.length → 0 ≤ S k) {m m' : Int} {os : List (Nat × Nat)} (h : IsLen (ordFl F os) (rev F m S) m') : m' ≤ m := by
  obtain ⟨⟨k, hk, e⟩, _⟩ := h
  have e : m' = m - S k - F.h k + F.h k := e
  have := hp k hk
  omega
theorem cutL_le {xs : List PyData} {a b : Option Int} : (cutP xs a b).length ≤ xs.length := by
  unfold cutP
  rw [List.length_take, List.length_drop]
  omega
theorem cut_tail1 {xs : List PyData} {c : Nat} (h : c < xs.length) : cutP xs (some ((c : Int) + 1)) none = xs.drop (c + 1) := by
  rw [show ((c : Int) + 1) = ((c + 1 : Nat) : Int) by omega, cut_tail (by omega)]
abbrev T11 : List FnE := [e_l_cell_at, e_l_floor, e_length, e_least, e_l_length, e_l_is_plan]
theorem lst {G : Fl} {Q : PyData → Prop} (hG : GoodFl 3 G) (h : ∀ S m t, Plan G S → IsLen G S m → mW G (m - 1) [] t = true → Q (.tuple [.list ((vec G.jobs.length S).map .int), t.enc])) : g_least [eFl G] Q := least_ap (good_mono (by omega) hG) (fun L _ hL => dp_three hG hL) fun S m t h1 h2 _ h3 _ _ => h S m t h1 h2 h3
theorem lng {G : Fl} {S : Nat → Int} {m : Int} {Q : PyData → Prop} (hG : GoodFl 3 G) (hm : IsLen G S m) (h : Q (.int m)) : g_length [eFl G, .list ((vec G.jobs.length S).map .int)] Q := length_ap (good_mono (by omega) hG) vec_len fun m' hm' => by
  have e : m' = m := hm'.uniq (hm.congr fun k hk => (st_vec hk).symm)
  rw [e]
  exact h
theorem eMoreL {F : Fl} {c : Nat} (hc : c < F.crews.length) {v : Int} : cutP (F.crews.map PyData.int) none (some (c : Int)) ++ [.int v] ++ cutP (F.crews.map .int) (some ((c : Int) + 1)) none = (F.crews.set c v).map .int := by
  rw [cut_take, cut_tail1 (by rw [List.length_map]; exact hc), List.set_eq_take_append_cons_drop, if_pos hc, List.map_append, List.map_cons, List.map_take, List.map_drop]
  simp
theorem eLess {F : Fl} {a : Nat} (ha : a < F.orders.length) : PyData.tuple [.tuple (F.crews.map .int), .tuple (F.jobs.map eJob), .tuple (cutP (F.orders.map eOrd) none (some (a : Int)) ++ cutP (F.orders.map eOrd) (some ((a : Int) + 1)) none)] = eFl (ordFl F (F.orders.take a ++ F.orders.drop (a + 1))) := by
  have e : cutP (F.orders.map eOrd) none (some (a : Int)) ++ cutP (F.orders.map eOrd) (some ((a : Int) + 1)) none = (F.orders.take a ++ F.orders.drop (a + 1)).map eOrd := by
    rw [cut_take, cut_tail1 (by rw [List.length_map]; exact ha), List.map_append, List.map_take, List.map_drop]
  unfold eFl ordFl
  rw [e]
theorem eTurn {F : Fl} : PyData.tuple [.tuple (F.crews.map .int), .tuple (F.jobs.map eJob), .tuple (F.orders.map fun o => eOrd (swapO o))] = eFl (ordFl F (F.orders.map swapO)) := by
  unfold eFl ordFl
  rw [List.map_map]
  rfl
theorem l11_end {F : Fl} (hC3 : GoodFl 3 F) {S : Nat → Int} {m : Int} {t : Tr} (hP : Plan F S) (hlen : IsLen F S m) (ht : mW F (m - 1) [] t = true) {ns : List Int} {R : PyData → Prop} (q : R (.bool true)) (a b r9 r10 r11 : Sl) :
    wpSs (Gof T11) ir_law_t5 [.val (.list (ns.map .int)), .val (.int F.jobs.length), .val (eFl F), .val (.tuple (F.crews.map .int)), .val (.tuple (F.jobs.map eJob)), .val (.tuple (F.orders.map eOrd)), .val (.int m), a, b, r9, r10, r11, .un, .un, .un, .un, .un] { nx := fun _ => R .none, rt := R } := by
  have hF : GoodFl 50 F := good_mono (by omega) hC3
  have j2 := hF.j2
  have o40 := hF.o
  have hT3 := turn_good hC3
  have hlm : ∀ k, k < F.jobs.length → S k + F.h k ≤ m := hlen.2
  (try simp only [ir_law_t5, ↓wpSs, ↓wpS, ↓wpE, ↓wpEs, ↓wpBop, ↓wpIfs, ↓wpIt, ↓pk, ↓bp_add, ↓bp_adds, ↓bp_addl, ↓bp_addt, ↓bp_sub, ↓bp_mul, ↓bp_mult, ↓bp_div, ↓bp_mod, ↓bp_pow, ↓cp_lt, ↓cp_le, ↓cp_gt, ↓cp_ge, ↓cp_eq, ↓cp_ne, ↓cp_is, ↓cp_isn, ↓cp_isb, ↓cp_isnb, ↓cp_inl, ↓cp_nil_, ↓cp_int, ↓cp_nit, ↓isn_int, ↓isn_none, ↓isn_tup, ↓isn_list, ↓ip_l, ↓ip_t, ↓sp_l, ↓sp_t, ↓rv_l, ↓rv_t, ↓bu_lenl, ↓bu_lent, ↓bu_max, ↓bu_min, ↓bu_maxL, ↓bu_minL, ↓bu_sum, ↓bu_all, ↓bu_list, ↓bu_listt, ↓bu_tup, ↓bu_tupt, ↓bu_int, ↓bu_intb, ↓bu_str, ↓bu_sortI, ↓bu_sortP, ↓it_l, ↓it_t, ↓eqv_int, ↓rg1, ↓rg2, ↓rg3, ↓lrg1, ↓lrg2, ↓pt0, ↓pt1, ↓cdiv_iff, List.length_map, List.length_range, ↓bindT, ↓ownL, ↓lockIt, ↓unlockIt, isT, ↓setAll, ↓wipeE, ↓startE, ↓Tg.slots, ↓IEs.fine, ↓IEs.len, ↓noOwn, ↓isOwnE, ↓Sl.isO, ↓Ev.freeAll, free_eq, ↓get0, ↓getS, ↓gof0, ↓gofS, ↓tr_bool_, ↓List.map_cons, ↓List.map_nil, List.length_cons, List.length_nil, ↓List.cons_append, ↓List.nil_append, ↓List.set_cons_zero, ↓List.set_cons_succ, ↓List.all_cons, ↓List.all_nil, List.replicate, ↓at_lit0, ↓at_lit1, ↓at_lit2, ↓at_lit3, ↓at_lit4, ↓ex_some, ↓ex_eq_, ↓ex_int, ↓ex_intN, ↓ex_tup, ↓flat_int, ↓flat_bool, ↓flat_str, ↓flat_none, ↓flat_list, ↓flat_tup, true_and, and_true, true_or, or_true, Bool.and_true, Bool.true_and, Bool.and_self, Bool.not_false, Bool.not_true, if_true, if_false, reduceIte, Int.toNat_natCast, decide_eq_true_eq, decide_true, decide_eq_false_iff_not, not_false_eq_true, not_true_eq_false, and_self, Nat.reduceLeDiff, Nat.reduceSub, Nat.reduceAdd, Bool.false_eq_true, eq_self, reduceCtorEq, Int.reduceLT, Nat.reduceLT, ↓fl0, ↓fl1, ↓fl2, ↓jb0, ↓jb1, ↓od0, ↓od1, ↓ep0, ↓ep1, ↓ex_fl, ↓ex_job, ↓ex_ord, ↓ex_ep, ↓shp_ep, ↓shp_eps, ↓eqv_ep, ↓eqv_eps, ↓shp_int, ↓shp_bool, ↓shp_none, ↓shp_ints, ↓shp_nil, ↓shp_pair, ↓eqv_ints, ↓eqv_pair, zadd])
  refine ⟨by omega, ?_⟩
  refine compL_map (fun o => eOrd (swapO o)) (fun o _ K h => by (try simp only [ex_ord, ↓wpSs, ↓wpS, ↓wpE, ↓wpEs, ↓wpBop, ↓wpIfs, ↓wpIt, ↓pk, ↓bp_add, ↓bp_adds, ↓bp_addl, ↓bp_addt, ↓bp_sub, ↓bp_mul, ↓bp_mult, ↓bp_div, ↓bp_mod, ↓bp_pow, ↓cp_lt, ↓cp_le, ↓cp_gt, ↓cp_ge, ↓cp_eq, ↓cp_ne, ↓cp_is, ↓cp_isn, ↓cp_isb, ↓cp_isnb, ↓cp_inl, ↓cp_nil_, ↓cp_int, ↓cp_nit, ↓isn_int, ↓isn_none, ↓isn_tup, ↓isn_list, ↓ip_l, ↓ip_t, ↓sp_l, ↓sp_t, ↓rv_l, ↓rv_t, ↓bu_lenl, ↓bu_lent, ↓bu_max, ↓bu_min, ↓bu_maxL, ↓bu_minL, ↓bu_sum, ↓bu_all, ↓bu_list, ↓bu_listt, ↓bu_tup, ↓bu_tupt, ↓bu_int, ↓bu_intb, ↓bu_str, ↓bu_sortI, ↓bu_sortP, ↓it_l, ↓it_t, ↓eqv_int, ↓rg1, ↓rg2, ↓rg3, ↓lrg1, ↓lrg2, ↓pt0, ↓pt1, ↓cdiv_iff, List.length_map, List.length_range, ↓bindT, ↓ownL, ↓lockIt, ↓unlockIt, isT, ↓setAll, ↓wipeE, ↓startE, ↓Tg.slots, ↓IEs.fine, ↓IEs.len, ↓noOwn, ↓isOwnE, ↓Sl.isO, ↓Ev.freeAll, free_eq, ↓get0, ↓getS, ↓gof0, ↓gofS, ↓tr_bool_, ↓List.map_cons, ↓List.map_nil, List.length_cons, List.length_nil, ↓List.cons_append, ↓List.nil_append, ↓List.set_cons_zero, ↓List.set_cons_succ, ↓List.all_cons, ↓List.all_nil, List.replicate, ↓at_lit0, ↓at_lit1, ↓at_lit2, ↓at_lit3, ↓at_lit4, ↓ex_some, ↓ex_eq_, ↓ex_int, ↓ex_intN, ↓ex_tup, ↓flat_int, ↓flat_bool, ↓flat_str, ↓flat_none, ↓flat_list, ↓flat_tup, true_and, and_true, true_or, or_true, Bool.and_true, Bool.true_and, Bool.and_self, Bool.not_false, Bool.not_true, if_true, if_false, reduceIte, Int.toNat_natCast, decide_eq_true_eq, decide_true, decide_eq_false_iff_not, not_false_eq_true, not_true_eq_false, and_self, Nat.reduceLeDiff, Nat.reduceSub, Nat.reduceAdd, Bool.false_eq_true, eq_self, reduceCtorEq, Int.reduceLT, Nat.reduceLT, ↓fl0, ↓fl1, ↓fl2, ↓jb0, ↓jb1, ↓od0, ↓od1, ↓ep0, ↓ep1, ↓ex_fl, ↓ex_job, ↓ex_ord, ↓ex_ep, ↓shp_ep, ↓shp_eps, ↓eqv_ep, ↓eqv_eps, ↓shp_int, ↓shp_bool, ↓shp_none, ↓shp_ints, ↓shp_nil, ↓shp_pair, ↓eqv_ints, ↓eqv_pair, zadd]); exact h) ?_
  rw [eTurn]
  (try simp only [ir_law_t4, ↓wpSs, ↓wpS, ↓wpE, ↓wpEs, ↓wpBop, ↓wpIfs, ↓wpIt, ↓pk, ↓bp_add, ↓bp_adds, ↓bp_addl, ↓bp_addt, ↓bp_sub, ↓bp_mul, ↓bp_mult, ↓bp_div, ↓bp_mod, ↓bp_pow, ↓cp_lt, ↓cp_le, ↓cp_gt, ↓cp_ge, ↓cp_eq, ↓cp_ne, ↓cp_is, ↓cp_isn, ↓cp_isb, ↓cp_isnb, ↓cp_inl, ↓cp_nil_, ↓cp_int, ↓cp_nit, ↓isn_int, ↓isn_none, ↓isn_tup, ↓isn_list, ↓ip_l, ↓ip_t, ↓sp_l, ↓sp_t, ↓rv_l, ↓rv_t, ↓bu_lenl, ↓bu_lent, ↓bu_max, ↓bu_min, ↓bu_maxL, ↓bu_minL, ↓bu_sum, ↓bu_all, ↓bu_list, ↓bu_listt, ↓bu_tup, ↓bu_tupt, ↓bu_int, ↓bu_intb, ↓bu_str, ↓bu_sortI, ↓bu_sortP, ↓it_l, ↓it_t, ↓eqv_int, ↓rg1, ↓rg2, ↓rg3, ↓lrg1, ↓lrg2, ↓pt0, ↓pt1, ↓cdiv_iff, List.length_map, List.length_range, ↓bindT, ↓ownL, ↓lockIt, ↓unlockIt, isT, ↓setAll, ↓wipeE, ↓startE, ↓Tg.slots, ↓IEs.fine, ↓IEs.len, ↓noOwn, ↓isOwnE, ↓Sl.isO, ↓Ev.freeAll, free_eq, ↓get0, ↓getS, ↓gof0, ↓gofS, ↓tr_bool_, ↓List.map_cons, ↓List.map_nil, List.length_cons, List.length_nil, ↓List.cons_append, ↓List.nil_append, ↓List.set_cons_zero, ↓List.set_cons_succ, ↓List.all_cons, ↓List.all_nil, List.replicate, ↓at_lit0, ↓at_lit1, ↓at_lit2, ↓at_lit3, ↓at_lit4, ↓ex_some, ↓ex_eq_, ↓ex_int, ↓ex_intN, ↓ex_tup, ↓flat_int, ↓flat_bool, ↓flat_str, ↓flat_none, ↓flat_list, ↓flat_tup, true_and, and_true, true_or, or_true, Bool.and_true, Bool.true_and, Bool.and_self, Bool.not_false, Bool.not_true, if_true, if_false, reduceIte, Int.toNat_natCast, decide_eq_true_eq, decide_true, decide_eq_false_iff_not, not_false_eq_true, not_true_eq_false, and_self, Nat.reduceLeDiff, Nat.reduceSub, Nat.reduceAdd, Bool.false_eq_true, eq_self, reduceCtorEq, Int.reduceLT, Nat.reduceLT, ↓fl0, ↓fl1, ↓fl2, ↓jb0, ↓jb1, ↓od0, ↓od1, ↓ep0, ↓ep1, ↓ex_fl, ↓ex_job, ↓ex_ord, ↓ex_ep, ↓shp_ep, ↓shp_eps, ↓eqv_ep, ↓eqv_eps, ↓shp_int, ↓shp_bool, ↓shp_none, ↓shp_ints, ↓shp_nil, ↓shp_pair, ↓eqv_ints, ↓eqv_pair, zadd])
  refine lst hT3 fun S3 m3 t3 hP3 hlen3 ht3 => ?_
  have hR : Plan (ordFl F (F.orders.map swapO)) (rev F m S) := rev_plan hP hlm fun o ho => by
    obtain ⟨p, hp, rfl⟩ := List.mem_map.mp ho
    exact hp
  obtain ⟨m4, hm4⟩ := exists_len hT3 (rev F m S)
  have h1 := least_le (good_mono (by omega) hT3) ht3 hR hm4
  have h2 := rev_len hC3 hP.p hm4
  have hR3 : Plan F (rev F m3 S3) := rev_plan (F := ordFl F (F.orders.map swapO)) (os := F.orders) hP3 hlen3.2 fun o ho => List.mem_map_of_mem ho
  obtain ⟨m5, hm5⟩ := exists_len hC3 (rev F m3 S3)
  have h3 := least_le hF ht hR3 hm5
  have h4 := rev_len (F := F) (os := F.orders) hC3 hP3.p hm5
  have e : m3 = m := by omega
  subst e
  (try simp only [ir_law_t3, ↓wpSs, ↓wpS, ↓wpE, ↓wpEs, ↓wpBop, ↓wpIfs, ↓wpIt, ↓pk, ↓bp_add, ↓bp_adds, ↓bp_addl, ↓bp_addt, ↓bp_sub, ↓bp_mul, ↓bp_mult, ↓bp_div, ↓bp_mod, ↓bp_pow, ↓cp_lt, ↓cp_le, ↓cp_gt, ↓cp_ge, ↓cp_eq, ↓cp_ne, ↓cp_is, ↓cp_isn, ↓cp_isb, ↓cp_isnb, ↓cp_inl, ↓cp_nil_, ↓cp_int, ↓cp_nit, ↓isn_int, ↓isn_none, ↓isn_tup, ↓isn_list, ↓ip_l, ↓ip_t, ↓sp_l, ↓sp_t, ↓rv_l, ↓rv_t, ↓bu_lenl, ↓bu_lent, ↓bu_max, ↓bu_min, ↓bu_maxL, ↓bu_minL, ↓bu_sum, ↓bu_all, ↓bu_list, ↓bu_listt, ↓bu_tup, ↓bu_tupt, ↓bu_int, ↓bu_intb, ↓bu_str, ↓bu_sortI, ↓bu_sortP, ↓it_l, ↓it_t, ↓eqv_int, ↓rg1, ↓rg2, ↓rg3, ↓lrg1, ↓lrg2, ↓pt0, ↓pt1, ↓cdiv_iff, List.length_map, List.length_range, ↓bindT, ↓ownL, ↓lockIt, ↓unlockIt, isT, ↓setAll, ↓wipeE, ↓startE, ↓Tg.slots, ↓IEs.fine, ↓IEs.len, ↓noOwn, ↓isOwnE, ↓Sl.isO, ↓Ev.freeAll, free_eq, ↓get0, ↓getS, ↓gof0, ↓gofS, ↓tr_bool_, ↓List.map_cons, ↓List.map_nil, List.length_cons, List.length_nil, ↓List.cons_append, ↓List.nil_append, ↓List.set_cons_zero, ↓List.set_cons_succ, ↓List.all_cons, ↓List.all_nil, List.replicate, ↓at_lit0, ↓at_lit1, ↓at_lit2, ↓at_lit3, ↓at_lit4, ↓ex_some, ↓ex_eq_, ↓ex_int, ↓ex_intN, ↓ex_tup, ↓flat_int, ↓flat_bool, ↓flat_str, ↓flat_none, ↓flat_list, ↓flat_tup, true_and, and_true, true_or, or_true, Bool.and_true, Bool.true_and, Bool.and_self, Bool.not_false, Bool.not_true, if_true, if_false, reduceIte, Int.toNat_natCast, decide_eq_true_eq, decide_true, decide_eq_false_iff_not, not_false_eq_true, not_true_eq_false, and_self, Nat.reduceLeDiff, Nat.reduceSub, Nat.reduceAdd, Bool.false_eq_true, eq_self, reduceCtorEq, Int.reduceLT, Nat.reduceLT, ↓fl0, ↓fl1, ↓fl2, ↓jb0, ↓jb1, ↓od0, ↓od1, ↓ep0, ↓ep1, ↓ex_fl, ↓ex_job, ↓ex_ord, ↓ex_ep, ↓shp_ep, ↓shp_eps, ↓eqv_ep, ↓eqv_eps, ↓shp_int, ↓shp_bool, ↓shp_none, ↓shp_ints, ↓shp_nil, ↓shp_pair, ↓eqv_ints, ↓eqv_pair, zadd])
  refine lng hT3 hlen3 ?_
  (try simp only [ir_law_t2, ↓wpSs, ↓wpS, ↓wpE, ↓wpEs, ↓wpBop, ↓wpIfs, ↓wpIt, ↓pk, ↓bp_add, ↓bp_adds, ↓bp_addl, ↓bp_addt, ↓bp_sub, ↓bp_mul, ↓bp_mult, ↓bp_div, ↓bp_mod, ↓bp_pow, ↓cp_lt, ↓cp_le, ↓cp_gt, ↓cp_ge, ↓cp_eq, ↓cp_ne, ↓cp_is, ↓cp_isn, ↓cp_isb, ↓cp_isnb, ↓cp_inl, ↓cp_nil_, ↓cp_int, ↓cp_nit, ↓isn_int, ↓isn_none, ↓isn_tup, ↓isn_list, ↓ip_l, ↓ip_t, ↓sp_l, ↓sp_t, ↓rv_l, ↓rv_t, ↓bu_lenl, ↓bu_lent, ↓bu_max, ↓bu_min, ↓bu_maxL, ↓bu_minL, ↓bu_sum, ↓bu_all, ↓bu_list, ↓bu_listt, ↓bu_tup, ↓bu_tupt, ↓bu_int, ↓bu_intb, ↓bu_str, ↓bu_sortI, ↓bu_sortP, ↓it_l, ↓it_t, ↓eqv_int, ↓rg1, ↓rg2, ↓rg3, ↓lrg1, ↓lrg2, ↓pt0, ↓pt1, ↓cdiv_iff, List.length_map, List.length_range, ↓bindT, ↓ownL, ↓lockIt, ↓unlockIt, isT, ↓setAll, ↓wipeE, ↓startE, ↓Tg.slots, ↓IEs.fine, ↓IEs.len, ↓noOwn, ↓isOwnE, ↓Sl.isO, ↓Ev.freeAll, free_eq, ↓get0, ↓getS, ↓gof0, ↓gofS, ↓tr_bool_, ↓List.map_cons, ↓List.map_nil, List.length_cons, List.length_nil, ↓List.cons_append, ↓List.nil_append, ↓List.set_cons_zero, ↓List.set_cons_succ, ↓List.all_cons, ↓List.all_nil, List.replicate, ↓at_lit0, ↓at_lit1, ↓at_lit2, ↓at_lit3, ↓at_lit4, ↓ex_some, ↓ex_eq_, ↓ex_int, ↓ex_intN, ↓ex_tup, ↓flat_int, ↓flat_bool, ↓flat_str, ↓flat_none, ↓flat_list, ↓flat_tup, true_and, and_true, true_or, or_true, Bool.and_true, Bool.true_and, Bool.and_self, Bool.not_false, Bool.not_true, if_true, if_false, reduceIte, Int.toNat_natCast, decide_eq_true_eq, decide_true, decide_eq_false_iff_not, not_false_eq_true, not_true_eq_false, and_self, Nat.reduceLeDiff, Nat.reduceSub, Nat.reduceAdd, Bool.false_eq_true, eq_self, reduceCtorEq, Int.reduceLT, Nat.reduceLT, ↓fl0, ↓fl1, ↓fl2, ↓jb0, ↓jb1, ↓od0, ↓od1, ↓ep0, ↓ep1, ↓ex_fl, ↓ex_job, ↓ex_ord, ↓ex_ep, ↓shp_ep, ↓shp_eps, ↓eqv_ep, ↓eqv_eps, ↓shp_int, ↓shp_bool, ↓shp_none, ↓shp_ints, ↓shp_nil, ↓shp_pair, ↓eqv_ints, ↓eqv_pair, zadd])
  refine ⟨by omega, by omega, ?_⟩
  have ev : (vec (ordFl F (F.orders.map swapO)).jobs.length S3) = vec F.jobs.length S3 := rfl
  refine compL_map (fun k : Nat => .int (rev F m3 S3 k)) (fun k hk K h => ?_) ?_
  · have hk := List.mem_range.mp hk
    refine at_map (vec_get hk) ?_
    (try simp only [↓wpSs, ↓wpS, ↓wpE, ↓wpEs, ↓wpBop, ↓wpIfs, ↓wpIt, ↓pk, ↓bp_add, ↓bp_adds, ↓bp_addl, ↓bp_addt, ↓bp_sub, ↓bp_mul, ↓bp_mult, ↓bp_div, ↓bp_mod, ↓bp_pow, ↓cp_lt, ↓cp_le, ↓cp_gt, ↓cp_ge, ↓cp_eq, ↓cp_ne, ↓cp_is, ↓cp_isn, ↓cp_isb, ↓cp_isnb, ↓cp_inl, ↓cp_nil_, ↓cp_int, ↓cp_nit, ↓isn_int, ↓isn_none, ↓isn_tup, ↓isn_list, ↓ip_l, ↓ip_t, ↓sp_l, ↓sp_t, ↓rv_l, ↓rv_t, ↓bu_lenl, ↓bu_lent, ↓bu_max, ↓bu_min, ↓bu_maxL, ↓bu_minL, ↓bu_sum, ↓bu_all, ↓bu_list, ↓bu_listt, ↓bu_tup, ↓bu_tupt, ↓bu_int, ↓bu_intb, ↓bu_str, ↓bu_sortI, ↓bu_sortP, ↓it_l, ↓it_t, ↓eqv_int, ↓rg1, ↓rg2, ↓rg3, ↓lrg1, ↓lrg2, ↓pt0, ↓pt1, ↓cdiv_iff, List.length_map, List.length_range, ↓bindT, ↓ownL, ↓lockIt, ↓unlockIt, isT, ↓setAll, ↓wipeE, ↓startE, ↓Tg.slots, ↓IEs.fine, ↓IEs.len, ↓noOwn, ↓isOwnE, ↓Sl.isO, ↓Ev.freeAll, free_eq, ↓get0, ↓getS, ↓gof0, ↓gofS, ↓tr_bool_, ↓List.map_cons, ↓List.map_nil, List.length_cons, List.length_nil, ↓List.cons_append, ↓List.nil_append, ↓List.set_cons_zero, ↓List.set_cons_succ, ↓List.all_cons, ↓List.all_nil, List.replicate, ↓at_lit0, ↓at_lit1, ↓at_lit2, ↓at_lit3, ↓at_lit4, ↓ex_some, ↓ex_eq_, ↓ex_int, ↓ex_intN, ↓ex_tup, ↓flat_int, ↓flat_bool, ↓flat_str, ↓flat_none, ↓flat_list, ↓flat_tup, true_and, and_true, true_or, or_true, Bool.and_true, Bool.true_and, Bool.and_self, Bool.not_false, Bool.not_true, if_true, if_false, reduceIte, Int.toNat_natCast, decide_eq_true_eq, decide_true, decide_eq_false_iff_not, not_false_eq_true, not_true_eq_false, and_self, Nat.reduceLeDiff, Nat.reduceSub, Nat.reduceAdd, Bool.false_eq_true, eq_self, reduceCtorEq, Int.reduceLT, Nat.reduceLT, ↓fl0, ↓fl1, ↓fl2, ↓jb0, ↓jb1, ↓od0, ↓od1, ↓ep0, ↓ep1, ↓ex_fl, ↓ex_job, ↓ex_ord, ↓ex_ep, ↓shp_ep, ↓shp_eps, ↓eqv_ep, ↓eqv_eps, ↓shp_int, ↓shp_bool, ↓shp_none, ↓shp_ints, ↓shp_nil, ↓shp_pair, ↓eqv_ints, ↓eqv_pair, zadd])
    refine at_map (get_job hk) ?_
    (try simp only [↓wpSs, ↓wpS, ↓wpE, ↓wpEs, ↓wpBop, ↓wpIfs, ↓wpIt, ↓pk, ↓bp_add, ↓bp_adds, ↓bp_addl, ↓bp_addt, ↓bp_sub, ↓bp_mul, ↓bp_mult, ↓bp_div, ↓bp_mod, ↓bp_pow, ↓cp_lt, ↓cp_le, ↓cp_gt, ↓cp_ge, ↓cp_eq, ↓cp_ne, ↓cp_is, ↓cp_isn, ↓cp_isb, ↓cp_isnb, ↓cp_inl, ↓cp_nil_, ↓cp_int, ↓cp_nit, ↓isn_int, ↓isn_none, ↓isn_tup, ↓isn_list, ↓ip_l, ↓ip_t, ↓sp_l, ↓sp_t, ↓rv_l, ↓rv_t, ↓bu_lenl, ↓bu_lent, ↓bu_max, ↓bu_min, ↓bu_maxL, ↓bu_minL, ↓bu_sum, ↓bu_all, ↓bu_list, ↓bu_listt, ↓bu_tup, ↓bu_tupt, ↓bu_int, ↓bu_intb, ↓bu_str, ↓bu_sortI, ↓bu_sortP, ↓it_l, ↓it_t, ↓eqv_int, ↓rg1, ↓rg2, ↓rg3, ↓lrg1, ↓lrg2, ↓pt0, ↓pt1, ↓cdiv_iff, List.length_map, List.length_range, ↓bindT, ↓ownL, ↓lockIt, ↓unlockIt, isT, ↓setAll, ↓wipeE, ↓startE, ↓Tg.slots, ↓IEs.fine, ↓IEs.len, ↓noOwn, ↓isOwnE, ↓Sl.isO, ↓Ev.freeAll, free_eq, ↓get0, ↓getS, ↓gof0, ↓gofS, ↓tr_bool_, ↓List.map_cons, ↓List.map_nil, List.length_cons, List.length_nil, ↓List.cons_append, ↓List.nil_append, ↓List.set_cons_zero, ↓List.set_cons_succ, ↓List.all_cons, ↓List.all_nil, List.replicate, ↓at_lit0, ↓at_lit1, ↓at_lit2, ↓at_lit3, ↓at_lit4, ↓ex_some, ↓ex_eq_, ↓ex_int, ↓ex_intN, ↓ex_tup, ↓flat_int, ↓flat_bool, ↓flat_str, ↓flat_none, ↓flat_list, ↓flat_tup, true_and, and_true, true_or, or_true, Bool.and_true, Bool.true_and, Bool.and_self, Bool.not_false, Bool.not_true, if_true, if_false, reduceIte, Int.toNat_natCast, decide_eq_true_eq, decide_true, decide_eq_false_iff_not, not_false_eq_true, not_true_eq_false, and_self, Nat.reduceLeDiff, Nat.reduceSub, Nat.reduceAdd, Bool.false_eq_true, eq_self, reduceCtorEq, Int.reduceLT, Nat.reduceLT, ↓fl0, ↓fl1, ↓fl2, ↓jb0, ↓jb1, ↓od0, ↓od1, ↓ep0, ↓ep1, ↓ex_fl, ↓ex_job, ↓ex_ord, ↓ex_ep, ↓shp_ep, ↓shp_eps, ↓eqv_ep, ↓eqv_eps, ↓shp_int, ↓shp_bool, ↓shp_none, ↓shp_ints, ↓shp_nil, ↓shp_pair, ↓eqv_ints, ↓eqv_pair, zadd])
    exact h
  · rw [show (List.range F.jobs.length).map (fun k : Nat => PyData.int (rev F m3 S3 k)) = (vec F.jobs.length (rev F m3 S3)).map .int by rw [vec_map]; rfl]
    exact l_is_plan_ap hF hR3 q
theorem l11_ord {F : Fl} (hC3 : GoodFl 3 F) {S : Nat → Int} {m : Int} {t : Tr} (hP : Plan F S) (hlen : IsLen F S m) (ht : mW F (m - 1) [] t = true) {ns : List Int} {R : PyData → Prop} (q : R (.bool true)) {cell c : Int} (h0 : 0 ≤ cell) (d : PyData) :
    wpSs (Gof T11) ir_law_t6 [.val (.list (ns.map .int)), .val (.int F.jobs.length), .val (eFl F), .val (.tuple (F.crews.map .int)), .val (.tuple (F.jobs.map eJob)), .val (.tuple (F.orders.map eOrd)), .val (.int m), .val (.int cell), .val (.int c), .val d, .un, .un, .un, .un, .un, .un, .un] { nx := fun _ => R .none, rt := R } := by
  have o40 := hC3.o
  (try simp only [ir_law_t6, ↓wpSs, ↓wpS, ↓wpE, ↓wpEs, ↓wpBop, ↓wpIfs, ↓wpIt, ↓pk, ↓bp_add, ↓bp_adds, ↓bp_addl, ↓bp_addt, ↓bp_sub, ↓bp_mul, ↓bp_mult, ↓bp_div, ↓bp_mod, ↓bp_pow, ↓cp_lt, ↓cp_le, ↓cp_gt, ↓cp_ge, ↓cp_eq, ↓cp_ne, ↓cp_is, ↓cp_isn, ↓cp_isb, ↓cp_isnb, ↓cp_inl, ↓cp_nil_, ↓cp_int, ↓cp_nit, ↓isn_int, ↓isn_none, ↓isn_tup, ↓isn_list, ↓ip_l, ↓ip_t, ↓sp_l, ↓sp_t, ↓rv_l, ↓rv_t, ↓bu_lenl, ↓bu_lent, ↓bu_max, ↓bu_min, ↓bu_maxL, ↓bu_minL, ↓bu_sum, ↓bu_all, ↓bu_list, ↓bu_listt, ↓bu_tup, ↓bu_tupt, ↓bu_int, ↓bu_intb, ↓bu_str, ↓bu_sortI, ↓bu_sortP, ↓it_l, ↓it_t, ↓eqv_int, ↓rg1, ↓rg2, ↓rg3, ↓lrg1, ↓lrg2, ↓pt0, ↓pt1, ↓cdiv_iff, List.length_map, List.length_range, ↓bindT, ↓ownL, ↓lockIt, ↓unlockIt, isT, ↓setAll, ↓wipeE, ↓startE, ↓Tg.slots, ↓IEs.fine, ↓IEs.len, ↓noOwn, ↓isOwnE, ↓Sl.isO, ↓Ev.freeAll, free_eq, ↓get0, ↓getS, ↓gof0, ↓gofS, ↓tr_bool_, ↓List.map_cons, ↓List.map_nil, List.length_cons, List.length_nil, ↓List.cons_append, ↓List.nil_append, ↓List.set_cons_zero, ↓List.set_cons_succ, ↓List.all_cons, ↓List.all_nil, List.replicate, ↓at_lit0, ↓at_lit1, ↓at_lit2, ↓at_lit3, ↓at_lit4, ↓ex_some, ↓ex_eq_, ↓ex_int, ↓ex_intN, ↓ex_tup, ↓flat_int, ↓flat_bool, ↓flat_str, ↓flat_none, ↓flat_list, ↓flat_tup, true_and, and_true, true_or, or_true, Bool.and_true, Bool.true_and, Bool.and_self, Bool.not_false, Bool.not_true, if_true, if_false, reduceIte, Int.toNat_natCast, decide_eq_true_eq, decide_true, decide_eq_false_iff_not, not_false_eq_true, not_true_eq_false, and_self, Nat.reduceLeDiff, Nat.reduceSub, Nat.reduceAdd, Bool.false_eq_true, eq_self, reduceCtorEq, Int.reduceLT, Nat.reduceLT, ↓fl0, ↓fl1, ↓fl2, ↓jb0, ↓jb1, ↓od0, ↓od1, ↓ep0, ↓ep1, ↓ex_fl, ↓ex_job, ↓ex_ord, ↓ex_ep, ↓shp_ep, ↓shp_eps, ↓eqv_ep, ↓eqv_eps, ↓shp_int, ↓shp_bool, ↓shp_none, ↓shp_ints, ↓shp_nil, ↓shp_pair, ↓eqv_ints, ↓eqv_pair, zadd])
  split
  · rename_i hpos
    have ha := mod_lt_ (a := cell / 16) (b := (F.orders.length : Int)) hpos
    obtain ⟨a, ha'⟩ := Int.eq_ofNat_of_zero_le ha.1
    have hal : a < F.orders.length := by omega
    rw [ha']
    refine ⟨by omega, ?_⟩
    (try simp only [ir_law_t1, ↓wpSs, ↓wpS, ↓wpE, ↓wpEs, ↓wpBop, ↓wpIfs, ↓wpIt, ↓pk, ↓bp_add, ↓bp_adds, ↓bp_addl, ↓bp_addt, ↓bp_sub, ↓bp_mul, ↓bp_mult, ↓bp_div, ↓bp_mod, ↓bp_pow, ↓cp_lt, ↓cp_le, ↓cp_gt, ↓cp_ge, ↓cp_eq, ↓cp_ne, ↓cp_is, ↓cp_isn, ↓cp_isb, ↓cp_isnb, ↓cp_inl, ↓cp_nil_, ↓cp_int, ↓cp_nit, ↓isn_int, ↓isn_none, ↓isn_tup, ↓isn_list, ↓ip_l, ↓ip_t, ↓sp_l, ↓sp_t, ↓rv_l, ↓rv_t, ↓bu_lenl, ↓bu_lent, ↓bu_max, ↓bu_min, ↓bu_maxL, ↓bu_minL, ↓bu_sum, ↓bu_all, ↓bu_list, ↓bu_listt, ↓bu_tup, ↓bu_tupt, ↓bu_int, ↓bu_intb, ↓bu_str, ↓bu_sortI, ↓bu_sortP, ↓it_l, ↓it_t, ↓eqv_int, ↓rg1, ↓rg2, ↓rg3, ↓lrg1, ↓lrg2, ↓pt0, ↓pt1, ↓cdiv_iff, List.length_map, List.length_range, ↓bindT, ↓ownL, ↓lockIt, ↓unlockIt, isT, ↓setAll, ↓wipeE, ↓startE, ↓Tg.slots, ↓IEs.fine, ↓IEs.len, ↓noOwn, ↓isOwnE, ↓Sl.isO, ↓Ev.freeAll, free_eq, ↓get0, ↓getS, ↓gof0, ↓gofS, ↓tr_bool_, ↓List.map_cons, ↓List.map_nil, List.length_cons, List.length_nil, ↓List.cons_append, ↓List.nil_append, ↓List.set_cons_zero, ↓List.set_cons_succ, ↓List.all_cons, ↓List.all_nil, List.replicate, ↓at_lit0, ↓at_lit1, ↓at_lit2, ↓at_lit3, ↓at_lit4, ↓ex_some, ↓ex_eq_, ↓ex_int, ↓ex_intN, ↓ex_tup, ↓flat_int, ↓flat_bool, ↓flat_str, ↓flat_none, ↓flat_list, ↓flat_tup, true_and, and_true, true_or, or_true, Bool.and_true, Bool.true_and, Bool.and_self, Bool.not_false, Bool.not_true, if_true, if_false, reduceIte, Int.toNat_natCast, decide_eq_true_eq, decide_true, decide_eq_false_iff_not, not_false_eq_true, not_true_eq_false, and_self, Nat.reduceLeDiff, Nat.reduceSub, Nat.reduceAdd, Bool.false_eq_true, eq_self, reduceCtorEq, Int.reduceLT, Nat.reduceLT, ↓fl0, ↓fl1, ↓fl2, ↓jb0, ↓jb1, ↓od0, ↓od1, ↓ep0, ↓ep1, ↓ex_fl, ↓ex_job, ↓ex_ord, ↓ex_ep, ↓shp_ep, ↓shp_eps, ↓eqv_ep, ↓eqv_eps, ↓shp_int, ↓shp_bool, ↓shp_none, ↓shp_ints, ↓shp_nil, ↓shp_pair, ↓eqv_ints, ↓eqv_pair, zadd])
    have l1 := cutL_le (xs := F.orders.map eOrd) (a := none) (b := some (a : Int))
    have l2 := cutL_le (xs := F.orders.map eOrd) (a := some ((a : Int) + 1)) (b := none)
    rw [List.length_map] at l1 l2
    refine ⟨by omega, ?_⟩
    rw [eLess hal]
    (try simp only [ir_law_t0, ↓wpSs, ↓wpS, ↓wpE, ↓wpEs, ↓wpBop, ↓wpIfs, ↓wpIt, ↓pk, ↓bp_add, ↓bp_adds, ↓bp_addl, ↓bp_addt, ↓bp_sub, ↓bp_mul, ↓bp_mult, ↓bp_div, ↓bp_mod, ↓bp_pow, ↓cp_lt, ↓cp_le, ↓cp_gt, ↓cp_ge, ↓cp_eq, ↓cp_ne, ↓cp_is, ↓cp_isn, ↓cp_isb, ↓cp_isnb, ↓cp_inl, ↓cp_nil_, ↓cp_int, ↓cp_nit, ↓isn_int, ↓isn_none, ↓isn_tup, ↓isn_list, ↓ip_l, ↓ip_t, ↓sp_l, ↓sp_t, ↓rv_l, ↓rv_t, ↓bu_lenl, ↓bu_lent, ↓bu_max, ↓bu_min, ↓bu_maxL, ↓bu_minL, ↓bu_sum, ↓bu_all, ↓bu_list, ↓bu_listt, ↓bu_tup, ↓bu_tupt, ↓bu_int, ↓bu_intb, ↓bu_str, ↓bu_sortI, ↓bu_sortP, ↓it_l, ↓it_t, ↓eqv_int, ↓rg1, ↓rg2, ↓rg3, ↓lrg1, ↓lrg2, ↓pt0, ↓pt1, ↓cdiv_iff, List.length_map, List.length_range, ↓bindT, ↓ownL, ↓lockIt, ↓unlockIt, isT, ↓setAll, ↓wipeE, ↓startE, ↓Tg.slots, ↓IEs.fine, ↓IEs.len, ↓noOwn, ↓isOwnE, ↓Sl.isO, ↓Ev.freeAll, free_eq, ↓get0, ↓getS, ↓gof0, ↓gofS, ↓tr_bool_, ↓List.map_cons, ↓List.map_nil, List.length_cons, List.length_nil, ↓List.cons_append, ↓List.nil_append, ↓List.set_cons_zero, ↓List.set_cons_succ, ↓List.all_cons, ↓List.all_nil, List.replicate, ↓at_lit0, ↓at_lit1, ↓at_lit2, ↓at_lit3, ↓at_lit4, ↓ex_some, ↓ex_eq_, ↓ex_int, ↓ex_intN, ↓ex_tup, ↓flat_int, ↓flat_bool, ↓flat_str, ↓flat_none, ↓flat_list, ↓flat_tup, true_and, and_true, true_or, or_true, Bool.and_true, Bool.true_and, Bool.and_self, Bool.not_false, Bool.not_true, if_true, if_false, reduceIte, Int.toNat_natCast, decide_eq_true_eq, decide_true, decide_eq_false_iff_not, not_false_eq_true, not_true_eq_false, and_self, Nat.reduceLeDiff, Nat.reduceSub, Nat.reduceAdd, Bool.false_eq_true, eq_self, reduceCtorEq, Int.reduceLT, Nat.reduceLT, ↓fl0, ↓fl1, ↓fl2, ↓jb0, ↓jb1, ↓od0, ↓od1, ↓ep0, ↓ep1, ↓ex_fl, ↓ex_job, ↓ex_ord, ↓ex_ep, ↓shp_ep, ↓shp_eps, ↓eqv_ep, ↓eqv_eps, ↓shp_int, ↓shp_bool, ↓shp_none, ↓shp_ints, ↓shp_nil, ↓shp_pair, ↓eqv_ints, ↓eqv_pair, zadd])
    have hsub : ∀ o ∈ F.orders.take a ++ F.orders.drop (a + 1), o ∈ F.orders := fun o ho => by
      rcases List.mem_append.mp ho with h | h
      · exact List.mem_of_mem_take h
      · exact List.mem_of_mem_drop h
    have hG := less_good hC3 (os := F.orders.take a ++ F.orders.drop (a + 1)) (by simp; omega) hsub
    refine lst hG fun S2 m2 t2 hP2 hlen2 ht2 => ?_
    (try simp only [↓wpSs, ↓wpS, ↓wpE, ↓wpEs, ↓wpBop, ↓wpIfs, ↓wpIt, ↓pk, ↓bp_add, ↓bp_adds, ↓bp_addl, ↓bp_addt, ↓bp_sub, ↓bp_mul, ↓bp_mult, ↓bp_div, ↓bp_mod, ↓bp_pow, ↓cp_lt, ↓cp_le, ↓cp_gt, ↓cp_ge, ↓cp_eq, ↓cp_ne, ↓cp_is, ↓cp_isn, ↓cp_isb, ↓cp_isnb, ↓cp_inl, ↓cp_nil_, ↓cp_int, ↓cp_nit, ↓isn_int, ↓isn_none, ↓isn_tup, ↓isn_list, ↓ip_l, ↓ip_t, ↓sp_l, ↓sp_t, ↓rv_l, ↓rv_t, ↓bu_lenl, ↓bu_lent, ↓bu_max, ↓bu_min, ↓bu_maxL, ↓bu_minL, ↓bu_sum, ↓bu_all, ↓bu_list, ↓bu_listt, ↓bu_tup, ↓bu_tupt, ↓bu_int, ↓bu_intb, ↓bu_str, ↓bu_sortI, ↓bu_sortP, ↓it_l, ↓it_t, ↓eqv_int, ↓rg1, ↓rg2, ↓rg3, ↓lrg1, ↓lrg2, ↓pt0, ↓pt1, ↓cdiv_iff, List.length_map, List.length_range, ↓bindT, ↓ownL, ↓lockIt, ↓unlockIt, isT, ↓setAll, ↓wipeE, ↓startE, ↓Tg.slots, ↓IEs.fine, ↓IEs.len, ↓noOwn, ↓isOwnE, ↓Sl.isO, ↓Ev.freeAll, free_eq, ↓get0, ↓getS, ↓gof0, ↓gofS, ↓tr_bool_, ↓List.map_cons, ↓List.map_nil, List.length_cons, List.length_nil, ↓List.cons_append, ↓List.nil_append, ↓List.set_cons_zero, ↓List.set_cons_succ, ↓List.all_cons, ↓List.all_nil, List.replicate, ↓at_lit0, ↓at_lit1, ↓at_lit2, ↓at_lit3, ↓at_lit4, ↓ex_some, ↓ex_eq_, ↓ex_int, ↓ex_intN, ↓ex_tup, ↓flat_int, ↓flat_bool, ↓flat_str, ↓flat_none, ↓flat_list, ↓flat_tup, true_and, and_true, true_or, or_true, Bool.and_true, Bool.true_and, Bool.and_self, Bool.not_false, Bool.not_true, if_true, if_false, reduceIte, Int.toNat_natCast, decide_eq_true_eq, decide_true, decide_eq_false_iff_not, not_false_eq_true, not_true_eq_false, and_self, Nat.reduceLeDiff, Nat.reduceSub, Nat.reduceAdd, Bool.false_eq_true, eq_self, reduceCtorEq, Int.reduceLT, Nat.reduceLT, ↓fl0, ↓fl1, ↓fl2, ↓jb0, ↓jb1, ↓od0, ↓od1, ↓ep0, ↓ep1, ↓ex_fl, ↓ex_job, ↓ex_ord, ↓ex_ep, ↓shp_ep, ↓shp_eps, ↓eqv_ep, ↓eqv_eps, ↓shp_int, ↓shp_bool, ↓shp_none, ↓shp_ints, ↓shp_nil, ↓shp_pair, ↓eqv_ints, ↓eqv_pair, zadd])
    refine lng hG hlen2 ?_
    obtain ⟨m4, hm4⟩ := exists_len hG S
    have h1 := least_le (good_mono (by omega) hG) ht2 (less_plan hP hsub) hm4
    have h2 : m4 ≤ m := by
      obtain ⟨⟨k, hk, e⟩, _⟩ := hm4
      have := hlen.2 k hk
      have e : m4 = S k + F.h k := e
      omega
    have hn : ¬ m < m2 := by omega
    (try simp only [hn, ↓wpSs, ↓wpS, ↓wpE, ↓wpEs, ↓wpBop, ↓wpIfs, ↓wpIt, ↓pk, ↓bp_add, ↓bp_adds, ↓bp_addl, ↓bp_addt, ↓bp_sub, ↓bp_mul, ↓bp_mult, ↓bp_div, ↓bp_mod, ↓bp_pow, ↓cp_lt, ↓cp_le, ↓cp_gt, ↓cp_ge, ↓cp_eq, ↓cp_ne, ↓cp_is, ↓cp_isn, ↓cp_isb, ↓cp_isnb, ↓cp_inl, ↓cp_nil_, ↓cp_int, ↓cp_nit, ↓isn_int, ↓isn_none, ↓isn_tup, ↓isn_list, ↓ip_l, ↓ip_t, ↓sp_l, ↓sp_t, ↓rv_l, ↓rv_t, ↓bu_lenl, ↓bu_lent, ↓bu_max, ↓bu_min, ↓bu_maxL, ↓bu_minL, ↓bu_sum, ↓bu_all, ↓bu_list, ↓bu_listt, ↓bu_tup, ↓bu_tupt, ↓bu_int, ↓bu_intb, ↓bu_str, ↓bu_sortI, ↓bu_sortP, ↓it_l, ↓it_t, ↓eqv_int, ↓rg1, ↓rg2, ↓rg3, ↓lrg1, ↓lrg2, ↓pt0, ↓pt1, ↓cdiv_iff, List.length_map, List.length_range, ↓bindT, ↓ownL, ↓lockIt, ↓unlockIt, isT, ↓setAll, ↓wipeE, ↓startE, ↓Tg.slots, ↓IEs.fine, ↓IEs.len, ↓noOwn, ↓isOwnE, ↓Sl.isO, ↓Ev.freeAll, free_eq, ↓get0, ↓getS, ↓gof0, ↓gofS, ↓tr_bool_, ↓List.map_cons, ↓List.map_nil, List.length_cons, List.length_nil, ↓List.cons_append, ↓List.nil_append, ↓List.set_cons_zero, ↓List.set_cons_succ, ↓List.all_cons, ↓List.all_nil, List.replicate, ↓at_lit0, ↓at_lit1, ↓at_lit2, ↓at_lit3, ↓at_lit4, ↓ex_some, ↓ex_eq_, ↓ex_int, ↓ex_intN, ↓ex_tup, ↓flat_int, ↓flat_bool, ↓flat_str, ↓flat_none, ↓flat_list, ↓flat_tup, true_and, and_true, true_or, or_true, Bool.and_true, Bool.true_and, Bool.and_self, Bool.not_false, Bool.not_true, if_true, if_false, reduceIte, Int.toNat_natCast, decide_eq_true_eq, decide_true, decide_eq_false_iff_not, not_false_eq_true, not_true_eq_false, and_self, Nat.reduceLeDiff, Nat.reduceSub, Nat.reduceAdd, Bool.false_eq_true, eq_self, reduceCtorEq, Int.reduceLT, Nat.reduceLT, ↓fl0, ↓fl1, ↓fl2, ↓jb0, ↓jb1, ↓od0, ↓od1, ↓ep0, ↓ep1, ↓ex_fl, ↓ex_job, ↓ex_ord, ↓ex_ep, ↓shp_ep, ↓shp_eps, ↓eqv_ep, ↓eqv_eps, ↓shp_int, ↓shp_bool, ↓shp_none, ↓shp_ints, ↓shp_nil, ↓shp_pair, ↓eqv_ints, ↓eqv_pair, zadd])
    exact l11_end hC3 hP hlen ht q _ _ _ _ _
  · exact l11_end hC3 hP hlen ht q _ _ _ _ _
theorem l11_tail {F : Fl} (hC3 : GoodFl 3 F) {ns : List Int} {R : PyData → Prop} (q : R (.bool true)) :
    wpSs (Gof T11) ir_law_t12 [.val (.list (ns.map .int)), .val (.int F.jobs.length), .val (eFl F), .un, .un, .un, .un, .un, .un, .un, .un, .un, .un, .un, .un, .un, .un] { nx := fun _ => R .none, rt := R } := by
  have hF : GoodFl 50 F := good_mono (by omega) hC3
  have cr1 := hF.c.1
  have cr4 := hF.c.2.1
  have o40 := hF.o
  have c4 := cell_bd ns 4
  (try simp only [ir_law_t12, ex_fl, ir_law_t11, ↓wpSs, ↓wpS, ↓wpE, ↓wpEs, ↓wpBop, ↓wpIfs, ↓wpIt, ↓pk, ↓bp_add, ↓bp_adds, ↓bp_addl, ↓bp_addt, ↓bp_sub, ↓bp_mul, ↓bp_mult, ↓bp_div, ↓bp_mod, ↓bp_pow, ↓cp_lt, ↓cp_le, ↓cp_gt, ↓cp_ge, ↓cp_eq, ↓cp_ne, ↓cp_is, ↓cp_isn, ↓cp_isb, ↓cp_isnb, ↓cp_inl, ↓cp_nil_, ↓cp_int, ↓cp_nit, ↓isn_int, ↓isn_none, ↓isn_tup, ↓isn_list, ↓ip_l, ↓ip_t, ↓sp_l, ↓sp_t, ↓rv_l, ↓rv_t, ↓bu_lenl, ↓bu_lent, ↓bu_max, ↓bu_min, ↓bu_maxL, ↓bu_minL, ↓bu_sum, ↓bu_all, ↓bu_list, ↓bu_listt, ↓bu_tup, ↓bu_tupt, ↓bu_int, ↓bu_intb, ↓bu_str, ↓bu_sortI, ↓bu_sortP, ↓it_l, ↓it_t, ↓eqv_int, ↓rg1, ↓rg2, ↓rg3, ↓lrg1, ↓lrg2, ↓pt0, ↓pt1, ↓cdiv_iff, List.length_map, List.length_range, ↓bindT, ↓ownL, ↓lockIt, ↓unlockIt, isT, ↓setAll, ↓wipeE, ↓startE, ↓Tg.slots, ↓IEs.fine, ↓IEs.len, ↓noOwn, ↓isOwnE, ↓Sl.isO, ↓Ev.freeAll, free_eq, ↓get0, ↓getS, ↓gof0, ↓gofS, ↓tr_bool_, ↓List.map_cons, ↓List.map_nil, List.length_cons, List.length_nil, ↓List.cons_append, ↓List.nil_append, ↓List.set_cons_zero, ↓List.set_cons_succ, ↓List.all_cons, ↓List.all_nil, List.replicate, ↓at_lit0, ↓at_lit1, ↓at_lit2, ↓at_lit3, ↓at_lit4, ↓ex_some, ↓ex_eq_, ↓ex_int, ↓ex_intN, ↓ex_tup, ↓flat_int, ↓flat_bool, ↓flat_str, ↓flat_none, ↓flat_list, ↓flat_tup, true_and, and_true, true_or, or_true, Bool.and_true, Bool.true_and, Bool.and_self, Bool.not_false, Bool.not_true, if_true, if_false, reduceIte, Int.toNat_natCast, decide_eq_true_eq, decide_true, decide_eq_false_iff_not, not_false_eq_true, not_true_eq_false, and_self, Nat.reduceLeDiff, Nat.reduceSub, Nat.reduceAdd, Bool.false_eq_true, eq_self, reduceCtorEq, Int.reduceLT, Nat.reduceLT, ↓fl0, ↓fl1, ↓fl2, ↓jb0, ↓jb1, ↓od0, ↓od1, ↓ep0, ↓ep1, ↓ex_fl, ↓ex_job, ↓ex_ord, ↓ex_ep, ↓shp_ep, ↓shp_eps, ↓eqv_ep, ↓eqv_eps, ↓shp_int, ↓shp_bool, ↓shp_none, ↓shp_ints, ↓shp_nil, ↓shp_pair, ↓eqv_ints, ↓eqv_pair, zadd])
  refine lst hC3 fun S m t hP hlen ht => ?_
  (try simp only [↓wpSs, ↓wpS, ↓wpE, ↓wpEs, ↓wpBop, ↓wpIfs, ↓wpIt, ↓pk, ↓bp_add, ↓bp_adds, ↓bp_addl, ↓bp_addt, ↓bp_sub, ↓bp_mul, ↓bp_mult, ↓bp_div, ↓bp_mod, ↓bp_pow, ↓cp_lt, ↓cp_le, ↓cp_gt, ↓cp_ge, ↓cp_eq, ↓cp_ne, ↓cp_is, ↓cp_isn, ↓cp_isb, ↓cp_isnb, ↓cp_inl, ↓cp_nil_, ↓cp_int, ↓cp_nit, ↓isn_int, ↓isn_none, ↓isn_tup, ↓isn_list, ↓ip_l, ↓ip_t, ↓sp_l, ↓sp_t, ↓rv_l, ↓rv_t, ↓bu_lenl, ↓bu_lent, ↓bu_max, ↓bu_min, ↓bu_maxL, ↓bu_minL, ↓bu_sum, ↓bu_all, ↓bu_list, ↓bu_listt, ↓bu_tup, ↓bu_tupt, ↓bu_int, ↓bu_intb, ↓bu_str, ↓bu_sortI, ↓bu_sortP, ↓it_l, ↓it_t, ↓eqv_int, ↓rg1, ↓rg2, ↓rg3, ↓lrg1, ↓lrg2, ↓pt0, ↓pt1, ↓cdiv_iff, List.length_map, List.length_range, ↓bindT, ↓ownL, ↓lockIt, ↓unlockIt, isT, ↓setAll, ↓wipeE, ↓startE, ↓Tg.slots, ↓IEs.fine, ↓IEs.len, ↓noOwn, ↓isOwnE, ↓Sl.isO, ↓Ev.freeAll, free_eq, ↓get0, ↓getS, ↓gof0, ↓gofS, ↓tr_bool_, ↓List.map_cons, ↓List.map_nil, List.length_cons, List.length_nil, ↓List.cons_append, ↓List.nil_append, ↓List.set_cons_zero, ↓List.set_cons_succ, ↓List.all_cons, ↓List.all_nil, List.replicate, ↓at_lit0, ↓at_lit1, ↓at_lit2, ↓at_lit3, ↓at_lit4, ↓ex_some, ↓ex_eq_, ↓ex_int, ↓ex_intN, ↓ex_tup, ↓flat_int, ↓flat_bool, ↓flat_str, ↓flat_none, ↓flat_list, ↓flat_tup, true_and, and_true, true_or, or_true, Bool.and_true, Bool.true_and, Bool.and_self, Bool.not_false, Bool.not_true, if_true, if_false, reduceIte, Int.toNat_natCast, decide_eq_true_eq, decide_true, decide_eq_false_iff_not, not_false_eq_true, not_true_eq_false, and_self, Nat.reduceLeDiff, Nat.reduceSub, Nat.reduceAdd, Bool.false_eq_true, eq_self, reduceCtorEq, Int.reduceLT, Nat.reduceLT, ↓fl0, ↓fl1, ↓fl2, ↓jb0, ↓jb1, ↓od0, ↓od1, ↓ep0, ↓ep1, ↓ex_fl, ↓ex_job, ↓ex_ord, ↓ex_ep, ↓shp_ep, ↓shp_eps, ↓eqv_ep, ↓eqv_eps, ↓shp_int, ↓shp_bool, ↓shp_none, ↓shp_ints, ↓shp_nil, ↓shp_pair, ↓eqv_ints, ↓eqv_pair, zadd])
  refine lng hC3 hlen ?_
  (try simp only [ir_law_t10, ↓wpSs, ↓wpS, ↓wpE, ↓wpEs, ↓wpBop, ↓wpIfs, ↓wpIt, ↓pk, ↓bp_add, ↓bp_adds, ↓bp_addl, ↓bp_addt, ↓bp_sub, ↓bp_mul, ↓bp_mult, ↓bp_div, ↓bp_mod, ↓bp_pow, ↓cp_lt, ↓cp_le, ↓cp_gt, ↓cp_ge, ↓cp_eq, ↓cp_ne, ↓cp_is, ↓cp_isn, ↓cp_isb, ↓cp_isnb, ↓cp_inl, ↓cp_nil_, ↓cp_int, ↓cp_nit, ↓isn_int, ↓isn_none, ↓isn_tup, ↓isn_list, ↓ip_l, ↓ip_t, ↓sp_l, ↓sp_t, ↓rv_l, ↓rv_t, ↓bu_lenl, ↓bu_lent, ↓bu_max, ↓bu_min, ↓bu_maxL, ↓bu_minL, ↓bu_sum, ↓bu_all, ↓bu_list, ↓bu_listt, ↓bu_tup, ↓bu_tupt, ↓bu_int, ↓bu_intb, ↓bu_str, ↓bu_sortI, ↓bu_sortP, ↓it_l, ↓it_t, ↓eqv_int, ↓rg1, ↓rg2, ↓rg3, ↓lrg1, ↓lrg2, ↓pt0, ↓pt1, ↓cdiv_iff, List.length_map, List.length_range, ↓bindT, ↓ownL, ↓lockIt, ↓unlockIt, isT, ↓setAll, ↓wipeE, ↓startE, ↓Tg.slots, ↓IEs.fine, ↓IEs.len, ↓noOwn, ↓isOwnE, ↓Sl.isO, ↓Ev.freeAll, free_eq, ↓get0, ↓getS, ↓gof0, ↓gofS, ↓tr_bool_, ↓List.map_cons, ↓List.map_nil, List.length_cons, List.length_nil, ↓List.cons_append, ↓List.nil_append, ↓List.set_cons_zero, ↓List.set_cons_succ, ↓List.all_cons, ↓List.all_nil, List.replicate, ↓at_lit0, ↓at_lit1, ↓at_lit2, ↓at_lit3, ↓at_lit4, ↓ex_some, ↓ex_eq_, ↓ex_int, ↓ex_intN, ↓ex_tup, ↓flat_int, ↓flat_bool, ↓flat_str, ↓flat_none, ↓flat_list, ↓flat_tup, true_and, and_true, true_or, or_true, Bool.and_true, Bool.true_and, Bool.and_self, Bool.not_false, Bool.not_true, if_true, if_false, reduceIte, Int.toNat_natCast, decide_eq_true_eq, decide_true, decide_eq_false_iff_not, not_false_eq_true, not_true_eq_false, and_self, Nat.reduceLeDiff, Nat.reduceSub, Nat.reduceAdd, Bool.false_eq_true, eq_self, reduceCtorEq, Int.reduceLT, Nat.reduceLT, ↓fl0, ↓fl1, ↓fl2, ↓jb0, ↓jb1, ↓od0, ↓od1, ↓ep0, ↓ep1, ↓ex_fl, ↓ex_job, ↓ex_ord, ↓ex_ep, ↓shp_ep, ↓shp_eps, ↓eqv_ep, ↓eqv_eps, ↓shp_int, ↓shp_bool, ↓shp_none, ↓shp_ints, ↓shp_nil, ↓shp_pair, ↓eqv_ints, ↓eqv_pair, zadd])
  refine cell_ap (by omega) ?_
  have e4 : (4 : Int).toNat = 4 := rfl
  rw [e4]
  generalize cellAt ns 4 = cell at c4
  have hcr := mod_lt_ (a := cell) (b := (F.crews.length : Int)) (by omega)
  obtain ⟨c, hc'⟩ := Int.eq_ofNat_of_zero_le hcr.1
  have hc : c < F.crews.length := by omega
  have d3 := mod_lt_ (a := cell / 4) (b := 3) (by omega)
  (try simp only [ir_law_t9, hc', ↓wpSs, ↓wpS, ↓wpE, ↓wpEs, ↓wpBop, ↓wpIfs, ↓wpIt, ↓pk, ↓bp_add, ↓bp_adds, ↓bp_addl, ↓bp_addt, ↓bp_sub, ↓bp_mul, ↓bp_mult, ↓bp_div, ↓bp_mod, ↓bp_pow, ↓cp_lt, ↓cp_le, ↓cp_gt, ↓cp_ge, ↓cp_eq, ↓cp_ne, ↓cp_is, ↓cp_isn, ↓cp_isb, ↓cp_isnb, ↓cp_inl, ↓cp_nil_, ↓cp_int, ↓cp_nit, ↓isn_int, ↓isn_none, ↓isn_tup, ↓isn_list, ↓ip_l, ↓ip_t, ↓sp_l, ↓sp_t, ↓rv_l, ↓rv_t, ↓bu_lenl, ↓bu_lent, ↓bu_max, ↓bu_min, ↓bu_maxL, ↓bu_minL, ↓bu_sum, ↓bu_all, ↓bu_list, ↓bu_listt, ↓bu_tup, ↓bu_tupt, ↓bu_int, ↓bu_intb, ↓bu_str, ↓bu_sortI, ↓bu_sortP, ↓it_l, ↓it_t, ↓eqv_int, ↓rg1, ↓rg2, ↓rg3, ↓lrg1, ↓lrg2, ↓pt0, ↓pt1, ↓cdiv_iff, List.length_map, List.length_range, ↓bindT, ↓ownL, ↓lockIt, ↓unlockIt, isT, ↓setAll, ↓wipeE, ↓startE, ↓Tg.slots, ↓IEs.fine, ↓IEs.len, ↓noOwn, ↓isOwnE, ↓Sl.isO, ↓Ev.freeAll, free_eq, ↓get0, ↓getS, ↓gof0, ↓gofS, ↓tr_bool_, ↓List.map_cons, ↓List.map_nil, List.length_cons, List.length_nil, ↓List.cons_append, ↓List.nil_append, ↓List.set_cons_zero, ↓List.set_cons_succ, ↓List.all_cons, ↓List.all_nil, List.replicate, ↓at_lit0, ↓at_lit1, ↓at_lit2, ↓at_lit3, ↓at_lit4, ↓ex_some, ↓ex_eq_, ↓ex_int, ↓ex_intN, ↓ex_tup, ↓flat_int, ↓flat_bool, ↓flat_str, ↓flat_none, ↓flat_list, ↓flat_tup, true_and, and_true, true_or, or_true, Bool.and_true, Bool.true_and, Bool.and_self, Bool.not_false, Bool.not_true, if_true, if_false, reduceIte, Int.toNat_natCast, decide_eq_true_eq, decide_true, decide_eq_false_iff_not, not_false_eq_true, not_true_eq_false, and_self, Nat.reduceLeDiff, Nat.reduceSub, Nat.reduceAdd, Bool.false_eq_true, eq_self, reduceCtorEq, Int.reduceLT, Nat.reduceLT, ↓fl0, ↓fl1, ↓fl2, ↓jb0, ↓jb1, ↓od0, ↓od1, ↓ep0, ↓ep1, ↓ex_fl, ↓ex_job, ↓ex_ord, ↓ex_ep, ↓shp_ep, ↓shp_eps, ↓eqv_ep, ↓eqv_eps, ↓shp_int, ↓shp_bool, ↓shp_none, ↓shp_ints, ↓shp_nil, ↓shp_pair, ↓eqv_ints, ↓eqv_pair, zadd])
  refine ⟨by omega, ?_⟩
  (try simp only [ir_law_t8, ↓wpSs, ↓wpS, ↓wpE, ↓wpEs, ↓wpBop, ↓wpIfs, ↓wpIt, ↓pk, ↓bp_add, ↓bp_adds, ↓bp_addl, ↓bp_addt, ↓bp_sub, ↓bp_mul, ↓bp_mult, ↓bp_div, ↓bp_mod, ↓bp_pow, ↓cp_lt, ↓cp_le, ↓cp_gt, ↓cp_ge, ↓cp_eq, ↓cp_ne, ↓cp_is, ↓cp_isn, ↓cp_isb, ↓cp_isnb, ↓cp_inl, ↓cp_nil_, ↓cp_int, ↓cp_nit, ↓isn_int, ↓isn_none, ↓isn_tup, ↓isn_list, ↓ip_l, ↓ip_t, ↓sp_l, ↓sp_t, ↓rv_l, ↓rv_t, ↓bu_lenl, ↓bu_lent, ↓bu_max, ↓bu_min, ↓bu_maxL, ↓bu_minL, ↓bu_sum, ↓bu_all, ↓bu_list, ↓bu_listt, ↓bu_tup, ↓bu_tupt, ↓bu_int, ↓bu_intb, ↓bu_str, ↓bu_sortI, ↓bu_sortP, ↓it_l, ↓it_t, ↓eqv_int, ↓rg1, ↓rg2, ↓rg3, ↓lrg1, ↓lrg2, ↓pt0, ↓pt1, ↓cdiv_iff, List.length_map, List.length_range, ↓bindT, ↓ownL, ↓lockIt, ↓unlockIt, isT, ↓setAll, ↓wipeE, ↓startE, ↓Tg.slots, ↓IEs.fine, ↓IEs.len, ↓noOwn, ↓isOwnE, ↓Sl.isO, ↓Ev.freeAll, free_eq, ↓get0, ↓getS, ↓gof0, ↓gofS, ↓tr_bool_, ↓List.map_cons, ↓List.map_nil, List.length_cons, List.length_nil, ↓List.cons_append, ↓List.nil_append, ↓List.set_cons_zero, ↓List.set_cons_succ, ↓List.all_cons, ↓List.all_nil, List.replicate, ↓at_lit0, ↓at_lit1, ↓at_lit2, ↓at_lit3, ↓at_lit4, ↓ex_some, ↓ex_eq_, ↓ex_int, ↓ex_intN, ↓ex_tup, ↓flat_int, ↓flat_bool, ↓flat_str, ↓flat_none, ↓flat_list, ↓flat_tup, true_and, and_true, true_or, or_true, Bool.and_true, Bool.true_and, Bool.and_self, Bool.not_false, Bool.not_true, if_true, if_false, reduceIte, Int.toNat_natCast, decide_eq_true_eq, decide_true, decide_eq_false_iff_not, not_false_eq_true, not_true_eq_false, and_self, Nat.reduceLeDiff, Nat.reduceSub, Nat.reduceAdd, Bool.false_eq_true, eq_self, reduceCtorEq, Int.reduceLT, Nat.reduceLT, ↓fl0, ↓fl1, ↓fl2, ↓jb0, ↓jb1, ↓od0, ↓od1, ↓ep0, ↓ep1, ↓ex_fl, ↓ex_job, ↓ex_ord, ↓ex_ep, ↓shp_ep, ↓shp_eps, ↓eqv_ep, ↓eqv_eps, ↓shp_int, ↓shp_bool, ↓shp_none, ↓shp_ints, ↓shp_nil, ↓shp_pair, ↓eqv_ints, ↓eqv_pair, zadd])
  refine at_map (mem_at hc) ?_
  (try simp only [↓wpSs, ↓wpS, ↓wpE, ↓wpEs, ↓wpBop, ↓wpIfs, ↓wpIt, ↓pk, ↓bp_add, ↓bp_adds, ↓bp_addl, ↓bp_addt, ↓bp_sub, ↓bp_mul, ↓bp_mult, ↓bp_div, ↓bp_mod, ↓bp_pow, ↓cp_lt, ↓cp_le, ↓cp_gt, ↓cp_ge, ↓cp_eq, ↓cp_ne, ↓cp_is, ↓cp_isn, ↓cp_isb, ↓cp_isnb, ↓cp_inl, ↓cp_nil_, ↓cp_int, ↓cp_nit, ↓isn_int, ↓isn_none, ↓isn_tup, ↓isn_list, ↓ip_l, ↓ip_t, ↓sp_l, ↓sp_t, ↓rv_l, ↓rv_t, ↓bu_lenl, ↓bu_lent, ↓bu_max, ↓bu_min, ↓bu_maxL, ↓bu_minL, ↓bu_sum, ↓bu_all, ↓bu_list, ↓bu_listt, ↓bu_tup, ↓bu_tupt, ↓bu_int, ↓bu_intb, ↓bu_str, ↓bu_sortI, ↓bu_sortP, ↓it_l, ↓it_t, ↓eqv_int, ↓rg1, ↓rg2, ↓rg3, ↓lrg1, ↓lrg2, ↓pt0, ↓pt1, ↓cdiv_iff, List.length_map, List.length_range, ↓bindT, ↓ownL, ↓lockIt, ↓unlockIt, isT, ↓setAll, ↓wipeE, ↓startE, ↓Tg.slots, ↓IEs.fine, ↓IEs.len, ↓noOwn, ↓isOwnE, ↓Sl.isO, ↓Ev.freeAll, free_eq, ↓get0, ↓getS, ↓gof0, ↓gofS, ↓tr_bool_, ↓List.map_cons, ↓List.map_nil, List.length_cons, List.length_nil, ↓List.cons_append, ↓List.nil_append, ↓List.set_cons_zero, ↓List.set_cons_succ, ↓List.all_cons, ↓List.all_nil, List.replicate, ↓at_lit0, ↓at_lit1, ↓at_lit2, ↓at_lit3, ↓at_lit4, ↓ex_some, ↓ex_eq_, ↓ex_int, ↓ex_intN, ↓ex_tup, ↓flat_int, ↓flat_bool, ↓flat_str, ↓flat_none, ↓flat_list, ↓flat_tup, true_and, and_true, true_or, or_true, Bool.and_true, Bool.true_and, Bool.and_self, Bool.not_false, Bool.not_true, if_true, if_false, reduceIte, Int.toNat_natCast, decide_eq_true_eq, decide_true, decide_eq_false_iff_not, not_false_eq_true, not_true_eq_false, and_self, Nat.reduceLeDiff, Nat.reduceSub, Nat.reduceAdd, Bool.false_eq_true, eq_self, reduceCtorEq, Int.reduceLT, Nat.reduceLT, ↓fl0, ↓fl1, ↓fl2, ↓jb0, ↓jb1, ↓od0, ↓od1, ↓ep0, ↓ep1, ↓ex_fl, ↓ex_job, ↓ex_ord, ↓ex_ep, ↓shp_ep, ↓shp_eps, ↓eqv_ep, ↓eqv_eps, ↓shp_int, ↓shp_bool, ↓shp_none, ↓shp_ints, ↓shp_nil, ↓shp_pair, ↓eqv_ints, ↓eqv_pair, zadd])
  have l1 := cutL_le (xs := F.crews.map .int) (a := none) (b := some (c : Int))
  have l2 := cutL_le (xs := F.crews.map .int) (a := some ((c : Int) + 1)) (b := none)
  rw [List.length_map] at l1 l2
  refine ⟨by omega, by simp; omega, ?_⟩
  rw [eMoreL hc]
  have e9 : ∀ v : Int, PyData.tuple [.tuple ((F.crews.set c v).map .int), .tuple (F.jobs.map eJob), .tuple (F.orders.map eOrd)] = eFl (moreFl F c v) := fun _ => rfl
  rw [e9]
  (try simp only [ir_law_t7, ↓wpSs, ↓wpS, ↓wpE, ↓wpEs, ↓wpBop, ↓wpIfs, ↓wpIt, ↓pk, ↓bp_add, ↓bp_adds, ↓bp_addl, ↓bp_addt, ↓bp_sub, ↓bp_mul, ↓bp_mult, ↓bp_div, ↓bp_mod, ↓bp_pow, ↓cp_lt, ↓cp_le, ↓cp_gt, ↓cp_ge, ↓cp_eq, ↓cp_ne, ↓cp_is, ↓cp_isn, ↓cp_isb, ↓cp_isnb, ↓cp_inl, ↓cp_nil_, ↓cp_int, ↓cp_nit, ↓isn_int, ↓isn_none, ↓isn_tup, ↓isn_list, ↓ip_l, ↓ip_t, ↓sp_l, ↓sp_t, ↓rv_l, ↓rv_t, ↓bu_lenl, ↓bu_lent, ↓bu_max, ↓bu_min, ↓bu_maxL, ↓bu_minL, ↓bu_sum, ↓bu_all, ↓bu_list, ↓bu_listt, ↓bu_tup, ↓bu_tupt, ↓bu_int, ↓bu_intb, ↓bu_str, ↓bu_sortI, ↓bu_sortP, ↓it_l, ↓it_t, ↓eqv_int, ↓rg1, ↓rg2, ↓rg3, ↓lrg1, ↓lrg2, ↓pt0, ↓pt1, ↓cdiv_iff, List.length_map, List.length_range, ↓bindT, ↓ownL, ↓lockIt, ↓unlockIt, isT, ↓setAll, ↓wipeE, ↓startE, ↓Tg.slots, ↓IEs.fine, ↓IEs.len, ↓noOwn, ↓isOwnE, ↓Sl.isO, ↓Ev.freeAll, free_eq, ↓get0, ↓getS, ↓gof0, ↓gofS, ↓tr_bool_, ↓List.map_cons, ↓List.map_nil, List.length_cons, List.length_nil, ↓List.cons_append, ↓List.nil_append, ↓List.set_cons_zero, ↓List.set_cons_succ, ↓List.all_cons, ↓List.all_nil, List.replicate, ↓at_lit0, ↓at_lit1, ↓at_lit2, ↓at_lit3, ↓at_lit4, ↓ex_some, ↓ex_eq_, ↓ex_int, ↓ex_intN, ↓ex_tup, ↓flat_int, ↓flat_bool, ↓flat_str, ↓flat_none, ↓flat_list, ↓flat_tup, true_and, and_true, true_or, or_true, Bool.and_true, Bool.true_and, Bool.and_self, Bool.not_false, Bool.not_true, if_true, if_false, reduceIte, Int.toNat_natCast, decide_eq_true_eq, decide_true, decide_eq_false_iff_not, not_false_eq_true, not_true_eq_false, and_self, Nat.reduceLeDiff, Nat.reduceSub, Nat.reduceAdd, Bool.false_eq_true, eq_self, reduceCtorEq, Int.reduceLT, Nat.reduceLT, ↓fl0, ↓fl1, ↓fl2, ↓jb0, ↓jb1, ↓od0, ↓od1, ↓ep0, ↓ep1, ↓ex_fl, ↓ex_job, ↓ex_ord, ↓ex_ep, ↓shp_ep, ↓shp_eps, ↓eqv_ep, ↓eqv_eps, ↓shp_int, ↓shp_bool, ↓shp_none, ↓shp_ints, ↓shp_nil, ↓shp_pair, ↓eqv_ints, ↓eqv_pair, zadd])
  have hv : F.crews[c] ≤ F.crews[c] + 1 + cell / 4 % 3 := by omega
  generalize F.crews[c] + 1 + cell / 4 % 3 = v at hv
  refine at_map (List.getElem?_set_self hc) ?_
  (try simp only [↓wpSs, ↓wpS, ↓wpE, ↓wpEs, ↓wpBop, ↓wpIfs, ↓wpIt, ↓pk, ↓bp_add, ↓bp_adds, ↓bp_addl, ↓bp_addt, ↓bp_sub, ↓bp_mul, ↓bp_mult, ↓bp_div, ↓bp_mod, ↓bp_pow, ↓cp_lt, ↓cp_le, ↓cp_gt, ↓cp_ge, ↓cp_eq, ↓cp_ne, ↓cp_is, ↓cp_isn, ↓cp_isb, ↓cp_isnb, ↓cp_inl, ↓cp_nil_, ↓cp_int, ↓cp_nit, ↓isn_int, ↓isn_none, ↓isn_tup, ↓isn_list, ↓ip_l, ↓ip_t, ↓sp_l, ↓sp_t, ↓rv_l, ↓rv_t, ↓bu_lenl, ↓bu_lent, ↓bu_max, ↓bu_min, ↓bu_maxL, ↓bu_minL, ↓bu_sum, ↓bu_all, ↓bu_list, ↓bu_listt, ↓bu_tup, ↓bu_tupt, ↓bu_int, ↓bu_intb, ↓bu_str, ↓bu_sortI, ↓bu_sortP, ↓it_l, ↓it_t, ↓eqv_int, ↓rg1, ↓rg2, ↓rg3, ↓lrg1, ↓lrg2, ↓pt0, ↓pt1, ↓cdiv_iff, List.length_map, List.length_range, ↓bindT, ↓ownL, ↓lockIt, ↓unlockIt, isT, ↓setAll, ↓wipeE, ↓startE, ↓Tg.slots, ↓IEs.fine, ↓IEs.len, ↓noOwn, ↓isOwnE, ↓Sl.isO, ↓Ev.freeAll, free_eq, ↓get0, ↓getS, ↓gof0, ↓gofS, ↓tr_bool_, ↓List.map_cons, ↓List.map_nil, List.length_cons, List.length_nil, ↓List.cons_append, ↓List.nil_append, ↓List.set_cons_zero, ↓List.set_cons_succ, ↓List.all_cons, ↓List.all_nil, List.replicate, ↓at_lit0, ↓at_lit1, ↓at_lit2, ↓at_lit3, ↓at_lit4, ↓ex_some, ↓ex_eq_, ↓ex_int, ↓ex_intN, ↓ex_tup, ↓flat_int, ↓flat_bool, ↓flat_str, ↓flat_none, ↓flat_list, ↓flat_tup, true_and, and_true, true_or, or_true, Bool.and_true, Bool.true_and, Bool.and_self, Bool.not_false, Bool.not_true, if_true, if_false, reduceIte, Int.toNat_natCast, decide_eq_true_eq, decide_true, decide_eq_false_iff_not, not_false_eq_true, not_true_eq_false, and_self, Nat.reduceLeDiff, Nat.reduceSub, Nat.reduceAdd, Bool.false_eq_true, eq_self, reduceCtorEq, Int.reduceLT, Nat.reduceLT, ↓fl0, ↓fl1, ↓fl2, ↓jb0, ↓jb1, ↓od0, ↓od1, ↓ep0, ↓ep1, ↓ex_fl, ↓ex_job, ↓ex_ord, ↓ex_ep, ↓shp_ep, ↓shp_eps, ↓eqv_ep, ↓eqv_eps, ↓shp_int, ↓shp_bool, ↓shp_none, ↓shp_ints, ↓shp_nil, ↓shp_pair, ↓eqv_ints, ↓eqv_pair, zadd])
  by_cases h50 : v ≤ 50
  · have hG := more_good hC3 hc hv h50
    (try simp only [h50, ↓wpSs, ↓wpS, ↓wpE, ↓wpEs, ↓wpBop, ↓wpIfs, ↓wpIt, ↓pk, ↓bp_add, ↓bp_adds, ↓bp_addl, ↓bp_addt, ↓bp_sub, ↓bp_mul, ↓bp_mult, ↓bp_div, ↓bp_mod, ↓bp_pow, ↓cp_lt, ↓cp_le, ↓cp_gt, ↓cp_ge, ↓cp_eq, ↓cp_ne, ↓cp_is, ↓cp_isn, ↓cp_isb, ↓cp_isnb, ↓cp_inl, ↓cp_nil_, ↓cp_int, ↓cp_nit, ↓isn_int, ↓isn_none, ↓isn_tup, ↓isn_list, ↓ip_l, ↓ip_t, ↓sp_l, ↓sp_t, ↓rv_l, ↓rv_t, ↓bu_lenl, ↓bu_lent, ↓bu_max, ↓bu_min, ↓bu_maxL, ↓bu_minL, ↓bu_sum, ↓bu_all, ↓bu_list, ↓bu_listt, ↓bu_tup, ↓bu_tupt, ↓bu_int, ↓bu_intb, ↓bu_str, ↓bu_sortI, ↓bu_sortP, ↓it_l, ↓it_t, ↓eqv_int, ↓rg1, ↓rg2, ↓rg3, ↓lrg1, ↓lrg2, ↓pt0, ↓pt1, ↓cdiv_iff, List.length_map, List.length_range, ↓bindT, ↓ownL, ↓lockIt, ↓unlockIt, isT, ↓setAll, ↓wipeE, ↓startE, ↓Tg.slots, ↓IEs.fine, ↓IEs.len, ↓noOwn, ↓isOwnE, ↓Sl.isO, ↓Ev.freeAll, free_eq, ↓get0, ↓getS, ↓gof0, ↓gofS, ↓tr_bool_, ↓List.map_cons, ↓List.map_nil, List.length_cons, List.length_nil, ↓List.cons_append, ↓List.nil_append, ↓List.set_cons_zero, ↓List.set_cons_succ, ↓List.all_cons, ↓List.all_nil, List.replicate, ↓at_lit0, ↓at_lit1, ↓at_lit2, ↓at_lit3, ↓at_lit4, ↓ex_some, ↓ex_eq_, ↓ex_int, ↓ex_intN, ↓ex_tup, ↓flat_int, ↓flat_bool, ↓flat_str, ↓flat_none, ↓flat_list, ↓flat_tup, true_and, and_true, true_or, or_true, Bool.and_true, Bool.true_and, Bool.and_self, Bool.not_false, Bool.not_true, if_true, if_false, reduceIte, Int.toNat_natCast, decide_eq_true_eq, decide_true, decide_eq_false_iff_not, not_false_eq_true, not_true_eq_false, and_self, Nat.reduceLeDiff, Nat.reduceSub, Nat.reduceAdd, Bool.false_eq_true, eq_self, reduceCtorEq, Int.reduceLT, Nat.reduceLT, ↓fl0, ↓fl1, ↓fl2, ↓jb0, ↓jb1, ↓od0, ↓od1, ↓ep0, ↓ep1, ↓ex_fl, ↓ex_job, ↓ex_ord, ↓ex_ep, ↓shp_ep, ↓shp_eps, ↓eqv_ep, ↓eqv_eps, ↓shp_int, ↓shp_bool, ↓shp_none, ↓shp_ints, ↓shp_nil, ↓shp_pair, ↓eqv_ints, ↓eqv_pair, zadd])
    refine lst hG fun S2 m2 t2 hP2 hlen2 ht2 => ?_
    (try simp only [↓wpSs, ↓wpS, ↓wpE, ↓wpEs, ↓wpBop, ↓wpIfs, ↓wpIt, ↓pk, ↓bp_add, ↓bp_adds, ↓bp_addl, ↓bp_addt, ↓bp_sub, ↓bp_mul, ↓bp_mult, ↓bp_div, ↓bp_mod, ↓bp_pow, ↓cp_lt, ↓cp_le, ↓cp_gt, ↓cp_ge, ↓cp_eq, ↓cp_ne, ↓cp_is, ↓cp_isn, ↓cp_isb, ↓cp_isnb, ↓cp_inl, ↓cp_nil_, ↓cp_int, ↓cp_nit, ↓isn_int, ↓isn_none, ↓isn_tup, ↓isn_list, ↓ip_l, ↓ip_t, ↓sp_l, ↓sp_t, ↓rv_l, ↓rv_t, ↓bu_lenl, ↓bu_lent, ↓bu_max, ↓bu_min, ↓bu_maxL, ↓bu_minL, ↓bu_sum, ↓bu_all, ↓bu_list, ↓bu_listt, ↓bu_tup, ↓bu_tupt, ↓bu_int, ↓bu_intb, ↓bu_str, ↓bu_sortI, ↓bu_sortP, ↓it_l, ↓it_t, ↓eqv_int, ↓rg1, ↓rg2, ↓rg3, ↓lrg1, ↓lrg2, ↓pt0, ↓pt1, ↓cdiv_iff, List.length_map, List.length_range, ↓bindT, ↓ownL, ↓lockIt, ↓unlockIt, isT, ↓setAll, ↓wipeE, ↓startE, ↓Tg.slots, ↓IEs.fine, ↓IEs.len, ↓noOwn, ↓isOwnE, ↓Sl.isO, ↓Ev.freeAll, free_eq, ↓get0, ↓getS, ↓gof0, ↓gofS, ↓tr_bool_, ↓List.map_cons, ↓List.map_nil, List.length_cons, List.length_nil, ↓List.cons_append, ↓List.nil_append, ↓List.set_cons_zero, ↓List.set_cons_succ, ↓List.all_cons, ↓List.all_nil, List.replicate, ↓at_lit0, ↓at_lit1, ↓at_lit2, ↓at_lit3, ↓at_lit4, ↓ex_some, ↓ex_eq_, ↓ex_int, ↓ex_intN, ↓ex_tup, ↓flat_int, ↓flat_bool, ↓flat_str, ↓flat_none, ↓flat_list, ↓flat_tup, true_and, and_true, true_or, or_true, Bool.and_true, Bool.true_and, Bool.and_self, Bool.not_false, Bool.not_true, if_true, if_false, reduceIte, Int.toNat_natCast, decide_eq_true_eq, decide_true, decide_eq_false_iff_not, not_false_eq_true, not_true_eq_false, and_self, Nat.reduceLeDiff, Nat.reduceSub, Nat.reduceAdd, Bool.false_eq_true, eq_self, reduceCtorEq, Int.reduceLT, Nat.reduceLT, ↓fl0, ↓fl1, ↓fl2, ↓jb0, ↓jb1, ↓od0, ↓od1, ↓ep0, ↓ep1, ↓ex_fl, ↓ex_job, ↓ex_ord, ↓ex_ep, ↓shp_ep, ↓shp_eps, ↓eqv_ep, ↓eqv_eps, ↓shp_int, ↓shp_bool, ↓shp_none, ↓shp_ints, ↓shp_nil, ↓shp_pair, ↓eqv_ints, ↓eqv_pair, zadd])
    refine lng hG hlen2 ?_
    obtain ⟨m4, hm4⟩ := exists_len hG S
    have h1 := least_le (good_mono (by omega) hG) ht2 (more_plan hP hc hv) hm4
    have h2 : m4 ≤ m := by
      obtain ⟨⟨k, hk, e⟩, _⟩ := hm4
      have := hlen.2 k hk
      have e : m4 = S k + F.h k := e
      omega
    have hn : ¬ m < m2 := by omega
    (try simp only [hn, ↓wpSs, ↓wpS, ↓wpE, ↓wpEs, ↓wpBop, ↓wpIfs, ↓wpIt, ↓pk, ↓bp_add, ↓bp_adds, ↓bp_addl, ↓bp_addt, ↓bp_sub, ↓bp_mul, ↓bp_mult, ↓bp_div, ↓bp_mod, ↓bp_pow, ↓cp_lt, ↓cp_le, ↓cp_gt, ↓cp_ge, ↓cp_eq, ↓cp_ne, ↓cp_is, ↓cp_isn, ↓cp_isb, ↓cp_isnb, ↓cp_inl, ↓cp_nil_, ↓cp_int, ↓cp_nit, ↓isn_int, ↓isn_none, ↓isn_tup, ↓isn_list, ↓ip_l, ↓ip_t, ↓sp_l, ↓sp_t, ↓rv_l, ↓rv_t, ↓bu_lenl, ↓bu_lent, ↓bu_max, ↓bu_min, ↓bu_maxL, ↓bu_minL, ↓bu_sum, ↓bu_all, ↓bu_list, ↓bu_listt, ↓bu_tup, ↓bu_tupt, ↓bu_int, ↓bu_intb, ↓bu_str, ↓bu_sortI, ↓bu_sortP, ↓it_l, ↓it_t, ↓eqv_int, ↓rg1, ↓rg2, ↓rg3, ↓lrg1, ↓lrg2, ↓pt0, ↓pt1, ↓cdiv_iff, List.length_map, List.length_range, ↓bindT, ↓ownL, ↓lockIt, ↓unlockIt, isT, ↓setAll, ↓wipeE, ↓startE, ↓Tg.slots, ↓IEs.fine, ↓IEs.len, ↓noOwn, ↓isOwnE, ↓Sl.isO, ↓Ev.freeAll, free_eq, ↓get0, ↓getS, ↓gof0, ↓gofS, ↓tr_bool_, ↓List.map_cons, ↓List.map_nil, List.length_cons, List.length_nil, ↓List.cons_append, ↓List.nil_append, ↓List.set_cons_zero, ↓List.set_cons_succ, ↓List.all_cons, ↓List.all_nil, List.replicate, ↓at_lit0, ↓at_lit1, ↓at_lit2, ↓at_lit3, ↓at_lit4, ↓ex_some, ↓ex_eq_, ↓ex_int, ↓ex_intN, ↓ex_tup, ↓flat_int, ↓flat_bool, ↓flat_str, ↓flat_none, ↓flat_list, ↓flat_tup, true_and, and_true, true_or, or_true, Bool.and_true, Bool.true_and, Bool.and_self, Bool.not_false, Bool.not_true, if_true, if_false, reduceIte, Int.toNat_natCast, decide_eq_true_eq, decide_true, decide_eq_false_iff_not, not_false_eq_true, not_true_eq_false, and_self, Nat.reduceLeDiff, Nat.reduceSub, Nat.reduceAdd, Bool.false_eq_true, eq_self, reduceCtorEq, Int.reduceLT, Nat.reduceLT, ↓fl0, ↓fl1, ↓fl2, ↓jb0, ↓jb1, ↓od0, ↓od1, ↓ep0, ↓ep1, ↓ex_fl, ↓ex_job, ↓ex_ord, ↓ex_ep, ↓shp_ep, ↓shp_eps, ↓eqv_ep, ↓eqv_eps, ↓shp_int, ↓shp_bool, ↓shp_none, ↓shp_ints, ↓shp_nil, ↓shp_pair, ↓eqv_ints, ↓eqv_pair, zadd])
    exact l11_ord hC3 hP hlen ht q c4.1 _
  · (try simp only [h50, ↓wpSs, ↓wpS, ↓wpE, ↓wpEs, ↓wpBop, ↓wpIfs, ↓wpIt, ↓pk, ↓bp_add, ↓bp_adds, ↓bp_addl, ↓bp_addt, ↓bp_sub, ↓bp_mul, ↓bp_mult, ↓bp_div, ↓bp_mod, ↓bp_pow, ↓cp_lt, ↓cp_le, ↓cp_gt, ↓cp_ge, ↓cp_eq, ↓cp_ne, ↓cp_is, ↓cp_isn, ↓cp_isb, ↓cp_isnb, ↓cp_inl, ↓cp_nil_, ↓cp_int, ↓cp_nit, ↓isn_int, ↓isn_none, ↓isn_tup, ↓isn_list, ↓ip_l, ↓ip_t, ↓sp_l, ↓sp_t, ↓rv_l, ↓rv_t, ↓bu_lenl, ↓bu_lent, ↓bu_max, ↓bu_min, ↓bu_maxL, ↓bu_minL, ↓bu_sum, ↓bu_all, ↓bu_list, ↓bu_listt, ↓bu_tup, ↓bu_tupt, ↓bu_int, ↓bu_intb, ↓bu_str, ↓bu_sortI, ↓bu_sortP, ↓it_l, ↓it_t, ↓eqv_int, ↓rg1, ↓rg2, ↓rg3, ↓lrg1, ↓lrg2, ↓pt0, ↓pt1, ↓cdiv_iff, List.length_map, List.length_range, ↓bindT, ↓ownL, ↓lockIt, ↓unlockIt, isT, ↓setAll, ↓wipeE, ↓startE, ↓Tg.slots, ↓IEs.fine, ↓IEs.len, ↓noOwn, ↓isOwnE, ↓Sl.isO, ↓Ev.freeAll, free_eq, ↓get0, ↓getS, ↓gof0, ↓gofS, ↓tr_bool_, ↓List.map_cons, ↓List.map_nil, List.length_cons, List.length_nil, ↓List.cons_append, ↓List.nil_append, ↓List.set_cons_zero, ↓List.set_cons_succ, ↓List.all_cons, ↓List.all_nil, List.replicate, ↓at_lit0, ↓at_lit1, ↓at_lit2, ↓at_lit3, ↓at_lit4, ↓ex_some, ↓ex_eq_, ↓ex_int, ↓ex_intN, ↓ex_tup, ↓flat_int, ↓flat_bool, ↓flat_str, ↓flat_none, ↓flat_list, ↓flat_tup, true_and, and_true, true_or, or_true, Bool.and_true, Bool.true_and, Bool.and_self, Bool.not_false, Bool.not_true, if_true, if_false, reduceIte, Int.toNat_natCast, decide_eq_true_eq, decide_true, decide_eq_false_iff_not, not_false_eq_true, not_true_eq_false, and_self, Nat.reduceLeDiff, Nat.reduceSub, Nat.reduceAdd, Bool.false_eq_true, eq_self, reduceCtorEq, Int.reduceLT, Nat.reduceLT, ↓fl0, ↓fl1, ↓fl2, ↓jb0, ↓jb1, ↓od0, ↓od1, ↓ep0, ↓ep1, ↓ex_fl, ↓ex_job, ↓ex_ord, ↓ex_ep, ↓shp_ep, ↓shp_eps, ↓eqv_ep, ↓eqv_eps, ↓shp_int, ↓shp_bool, ↓shp_none, ↓shp_ints, ↓shp_nil, ↓shp_pair, ↓eqv_ints, ↓eqv_pair, zadd])
    exact l11_ord hC3 hP hlen ht q c4.1 _
theorem sem_law : ∀ ds R, ds.length = 1 → gLaw ds R → wpSs (Gof T11) ir_law (startE 17 ds) { nx := fun _ => false = false ∧ R .none, rt := R } := by
  rintro _ R _ ⟨ns, rfl, hn, q⟩
  have c3 := cell_bd ns 3
  (try simp only [ir_law, ↓wpSs, ↓wpS, ↓wpE, ↓wpEs, ↓wpBop, ↓wpIfs, ↓wpIt, ↓pk, ↓bindT, ↓ownL, ↓lockIt, ↓unlockIt, isT, ↓setAll, ↓wipeE, ↓startE, ↓Tg.slots, ↓IEs.fine, ↓IEs.len, ↓noOwn, ↓isOwnE, ↓Sl.isO, ↓Ev.freeAll, List.replicate, if_true, if_false, reduceIte, Nat.reduceLeDiff, Nat.reduceSub, Nat.reduceAdd, eq_self, reduceCtorEq, Int.reduceLT, Nat.reduceLT, ↓wpl, wpu])
  refine cell_ap (by omega) ?_
  (try simp only [ir_law_t14, ↓wpSs, ↓wpS, ↓wpE, ↓wpEs, ↓wpBop, ↓wpIfs, ↓wpIt, ↓pk, ↓bindT, ↓ownL, ↓lockIt, ↓unlockIt, isT, ↓setAll, ↓wipeE, ↓startE, ↓Tg.slots, ↓IEs.fine, ↓IEs.len, ↓noOwn, ↓isOwnE, ↓Sl.isO, ↓Ev.freeAll, List.replicate, if_true, if_false, reduceIte, Nat.reduceLeDiff, Nat.reduceSub, Nat.reduceAdd, eq_self, reduceCtorEq, Int.reduceLT, Nat.reduceLT, ↓wpl, wpu])
  refine at4v (by omega) (by omega) fun most hmost => ?_
  refine floor_ap (by omega) (by omega) (by omega) (by omega) (by omega) (by omega) (by omega) fun F0 hF0 hn0 _ => ?_
  have hC3 := cut_good (good_mono (show most ≤ 3 by omega) hF0)
  (try simp only [ir_law_t13, cut_take2, ↓wpSs, ↓wpS, ↓wpE, ↓wpEs, ↓wpBop, ↓wpIfs, ↓wpIt, ↓pk, ↓bindT, ↓ownL, ↓lockIt, ↓unlockIt, isT, ↓setAll, ↓wipeE, ↓startE, ↓Tg.slots, ↓IEs.fine, ↓IEs.len, ↓noOwn, ↓isOwnE, ↓Sl.isO, ↓Ev.freeAll, List.replicate, if_true, if_false, reduceIte, Nat.reduceLeDiff, Nat.reduceSub, Nat.reduceAdd, eq_self, reduceCtorEq, Int.reduceLT, Nat.reduceLT, ↓wpl, wpu])
  have j20 := hF0.j2
  refine ⟨by omega, ?_⟩
  refine compL_map (fun j => .tuple [.int j.1, .tuple ((j.2.map .int).take 2)]) (fun j _ K h => by (try simp only [cut_take2, ↓wpSs, ↓wpS, ↓wpE, ↓wpEs, ↓wpBop, ↓wpIfs, ↓wpIt, ↓pk, ↓bindT, ↓ownL, ↓lockIt, ↓unlockIt, isT, ↓setAll, ↓wipeE, ↓startE, ↓Tg.slots, ↓IEs.fine, ↓IEs.len, ↓noOwn, ↓isOwnE, ↓Sl.isO, ↓Ev.freeAll, List.replicate, if_true, if_false, reduceIte, Nat.reduceLeDiff, Nat.reduceSub, Nat.reduceAdd, eq_self, reduceCtorEq, Int.reduceLT, Nat.reduceLT, ↓wpl, wpu]); exact h) ?_
  rw [eCut, ← hn0]
  have hn1 : F0.jobs.length = (cutFl F0).jobs.length := cut_len2.symm
  rw [hn1]
  exact l11_tail hC3 q
end CF
namespace CF
open PySem PySem.Spec PyProof.Rows L2
def cs0 : List (Str × Int) := []
abbrev g_law : Pm := gLaw
def topS (i : Nat) : Stmt := PySem.Challenge.pw_crewfloor_k11_whole_more_crew_less_order.main.body.getD i (.Pass ⟨0, 0, 0, 0⟩)
abbrev s_at_work : Stmt := topS 4
abbrev n_at_work : List Str := ["floor", "starts", "crew", "hour", "jobs", "found", "job"]
theorem sc_at_work : FnScope n_at_work ["floor", "starts", "crew", "hour"] (defScope s_at_work) := ⟨rfl, rfl, rfl, by decide +kernel, rfl, by decide +kernel, by decide +kernel⟩
abbrev s_length : Stmt := topS 5
abbrev n_length : List Str := ["floor", "starts", "job"]
theorem sc_length : FnScope n_length ["floor", "starts"] (defScope s_length) := ⟨rfl, rfl, rfl, by decide +kernel, rfl, by decide +kernel, by decide +kernel⟩
abbrev s_too_many : Stmt := topS 6
abbrev n_too_many : List Str := ["floor", "starts", "hour", "crew"]
theorem sc_too_many : FnScope n_too_many ["floor", "starts"] (defScope s_too_many) := ⟨rfl, rfl, rfl, by decide +kernel, rfl, by decide +kernel, by decide +kernel⟩
abbrev s_fits : Stmt := topS 7
abbrev n_fits : List Str := ["floor", "begun", "job", "hour", "hours", "needs", "late", "crew", "many", "other"]
theorem sc_fits : FnScope n_fits ["floor", "begun", "job", "hour"] (defScope s_fits) := ⟨rfl, rfl, rfl, by decide +kernel, rfl, by decide +kernel, by decide +kernel⟩
abbrev s_look_at_row : Stmt := topS 8
abbrev n_look_at_row : List Str := ["floor", "row", "one", "other"]
theorem sc_look_at_row : FnScope n_look_at_row ["floor", "row"] (defScope s_look_at_row) := ⟨rfl, rfl, rfl, by decide +kernel, rfl, by decide +kernel, by decide +kernel⟩
abbrev s_laid : Stmt := topS 9
abbrev n_laid : List Str := ["floor", "row", "begun", "job", "hour", "one", "other"]
theorem sc_laid : FnScope n_laid ["floor", "row"] (defScope s_laid) := ⟨rfl, rfl, rfl, by decide +kernel, rfl, by decide +kernel, by decide +kernel⟩
abbrev s_own_windows : Stmt := topS 11
abbrev n_own_windows : List Str := ["floor", "limit", "choices", "firsts", "lasts", "way", "job", "hour"]
theorem sc_own_windows : FnScope n_own_windows ["floor", "limit", "choices"] (defScope s_own_windows) := ⟨rfl, rfl, rfl, by decide +kernel, rfl, by decide +kernel, by decide +kernel⟩
abbrev s_windows : Stmt := topS 12
abbrev n_windows : List Str := ["floor", "limit", "choices", "found", "jobs", "turn", "one", "other"]
theorem sc_windows : FnScope n_windows ["floor", "limit", "choices"] (defScope s_windows) := ⟨rfl, rfl, rfl, by decide +kernel, rfl, by decide +kernel, by decide +kernel⟩
abbrev s_shared : Stmt := topS 13
abbrev n_shared : List Str := ["at", "hours", "begin", "end"]
theorem sc_shared : FnScope n_shared ["at", "hours", "begin", "end"] (defScope s_shared) := ⟨rfl, rfl, rfl, by decide +kernel, rfl, by decide +kernel, by decide +kernel⟩
abbrev s_within : Stmt := topS 14
abbrev n_within : List Str := ["window", "hours", "begin", "end"]
theorem sc_within : FnScope n_within ["window", "hours", "begin", "end"] (defScope s_within) := ⟨rfl, rfl, rfl, by decide +kernel, rfl, by decide +kernel, by decide +kernel⟩
abbrev s_asked : Stmt := topS 15
abbrev n_asked : List Str := ["floor", "found", "crew", "begin", "end", "total", "job", "hours", "needs"]
theorem sc_asked : FnScope n_asked ["floor", "found", "crew", "begin", "end"] (defScope s_asked) := ⟨rfl, rfl, rfl, by decide +kernel, rfl, by decide +kernel, by decide +kernel⟩
abbrev s_chain_of : Stmt := topS 17
abbrev n_chain_of : List Str := ["floor", "own", "found", "job", "row", "one", "other"]
theorem sc_chain_of : FnScope n_chain_of ["floor", "own", "found", "job"] (defScope s_chain_of) := ⟨rfl, rfl, rfl, by decide +kernel, rfl, by decide +kernel, by decide +kernel⟩
abbrev s_end_of : Stmt := topS 18
abbrev n_end_of : List Str := ["floor", "limit", "choices", "found", "job", "crew", "there", "ends", "begin", "end"]
theorem sc_end_of : FnScope n_end_of ["floor", "limit", "choices", "found"] (defScope s_end_of) := ⟨rfl, rfl, rfl, by decide +kernel, rfl, by decide +kernel, by decide +kernel⟩
abbrev s_to_split : Stmt := topS 19
abbrev n_to_split : List Str := ["floor", "found", "hour", "crew", "there", "job", "first", "until", "best", "last"]
theorem sc_to_split : FnScope n_to_split ["floor", "found", "hour", "crew"] (defScope s_to_split) := ⟨rfl, rfl, rfl, by decide +kernel, rfl, by decide +kernel, by decide +kernel⟩
abbrev s_sought : Stmt := topS 20
abbrev n_sought : List Str := ["floor", "limit", "choices", "found", "end", "starts", "much", "job", "hour", "plan", "early", "late", "first", "last"]
theorem sc_sought : FnScope n_sought ["floor", "limit", "choices"] (defScope s_sought) := ⟨rfl, rfl, rfl, by decide +kernel, rfl, by decide +kernel, by decide +kernel⟩
abbrev s_some_row : Stmt := topS 21
abbrev n_some_row : List Str := ["floor", "row", "job", "one", "other"]
theorem sc_some_row : FnScope n_some_row ["floor"] (defScope s_some_row) := ⟨rfl, rfl, rfl, by decide +kernel, rfl, by decide +kernel, by decide +kernel⟩
abbrev s_least : Stmt := topS 22
abbrev n_least : List Str := ["floor", "best", "plan", "tree"]
theorem sc_least : FnScope n_least ["floor"] (defScope s_least) := ⟨rfl, rfl, rfl, by decide +kernel, rfl, by decide +kernel, by decide +kernel⟩
abbrev s_l_cell_at : Stmt := topS 24
abbrev n_l_cell_at : List Str := ["_law_script", "_law_k"]
theorem sc_l_cell_at : FnScope n_l_cell_at ["_law_script", "_law_k"] (defScope s_l_cell_at) := ⟨rfl, rfl, rfl, by decide +kernel, rfl, by decide +kernel, by decide +kernel⟩
abbrev s_l_mix : Stmt := topS 25
abbrev n_l_mix : List Str := ["_law_cell", "_law_k", "_law_number"]
theorem sc_l_mix : FnScope n_l_mix ["_law_cell", "_law_k"] (defScope s_l_mix) := ⟨rfl, rfl, rfl, by decide +kernel, rfl, by decide +kernel, by decide +kernel⟩
abbrev s_l_crews : Stmt := topS 26
abbrev n_l_crews : List Str := ["_law_cell", "_law_many", "_law_greatest", "_law_k"]
theorem sc_l_crews : FnScope n_l_crews ["_law_cell"] (defScope s_l_crews) := ⟨rfl, rfl, rfl, by decide +kernel, rfl, by decide +kernel, by decide +kernel⟩
abbrev s_l_job : Stmt := topS 27
abbrev n_l_job : List Str := ["_law_cell", "_law_crews_here", "_law_most", "_law_needs", "_law_k", "_law_more", "_law_need"]
theorem sc_l_job : FnScope n_l_job ["_law_cell", "_law_crews_here", "_law_most"] (defScope s_l_job) := ⟨rfl, rfl, rfl, by decide +kernel, rfl, by decide +kernel, by decide +kernel⟩
abbrev s_l_orders : Stmt := topS 28
abbrev n_l_orders : List Str := ["_law_cell", "_law_many", "_law_most", "_law_line", "_law_orders_here", "_law_k", "_law_one", "_law_other"]
theorem sc_l_orders : FnScope n_l_orders ["_law_cell", "_law_many", "_law_most"] (defScope s_l_orders) := ⟨rfl, rfl, rfl, by decide +kernel, rfl, by decide +kernel, by decide +kernel⟩
abbrev s_l_floor : Stmt := topS 29
abbrev n_l_floor : List Str := ["_law_script", "_law_at", "_law_many", "_law_most", "_law_orders_here", "_law_crews_here", "_law_jobs", "_law_k"]
theorem sc_l_floor : FnScope n_l_floor ["_law_script", "_law_at", "_law_many", "_law_most", "_law_orders_here"] (defScope s_l_floor) := ⟨rfl, rfl, rfl, by decide +kernel, rfl, by decide +kernel, by decide +kernel⟩
abbrev s_l_at_work : Stmt := topS 30
abbrev n_l_at_work : List Str := ["_law_floor_here", "_law_starts", "_law_crew", "_law_hour", "_law_total", "_law_job_here"]
theorem sc_l_at_work : FnScope n_l_at_work ["_law_floor_here", "_law_starts", "_law_crew", "_law_hour"] (defScope s_l_at_work) := ⟨rfl, rfl, rfl, by decide +kernel, rfl, by decide +kernel, by decide +kernel⟩
abbrev s_l_length : Stmt := topS 31
abbrev n_l_length : List Str := ["_law_floor_here", "_law_starts", "_law_job_here"]
theorem sc_l_length : FnScope n_l_length ["_law_floor_here", "_law_starts"] (defScope s_l_length) := ⟨rfl, rfl, rfl, by decide +kernel, rfl, by decide +kernel, by decide +kernel⟩
abbrev s_l_is_plan : Stmt := topS 32
abbrev n_l_is_plan : List Str := ["_law_floor_here", "_law_starts", "_law_one", "_law_other", "_law_crew", "_law_start"]
theorem sc_l_is_plan : FnScope n_l_is_plan ["_law_floor_here", "_law_starts"] (defScope s_l_is_plan) := ⟨rfl, rfl, rfl, by decide +kernel, rfl, by decide +kernel, by decide +kernel⟩
abbrev s_law : Stmt := topS 33
abbrev n_law : List Str := ["_law_script", "_law_many", "_law_floor_here", "_law_crews_here", "_law_jobs", "_law_orders_here", "_law_long", "_law_cell", "_law_crew", "_law_more", "_law_at", "_law_less", "_law_turned", "_law_starts", "_law_job_here", "_law_one", "_law_other"]
theorem sc_law : FnScope n_law ["_law_script"] (defScope s_law) := ⟨rfl, rfl, rfl, by decide +kernel, rfl, by decide +kernel, by decide +kernel⟩

abbrev t_at_work : List FnE := []
theorem ck_at_work : chkSs (ckOf n_at_work t_at_work cs0) (t_at_work.map (·.fresh)) false (defScope s_at_work) ir_at_work (defBody s_at_work) = true := by decide +kernel
abbrev t_length : List FnE := []
theorem ck_length : chkSs (ckOf n_length t_length cs0) (t_length.map (·.fresh)) false (defScope s_length) ir_length (defBody s_length) = true := by decide +kernel
abbrev t_too_many : List FnE := [e_at_work]
theorem ck_too_many : chkSs (ckOf n_too_many t_too_many cs0) (t_too_many.map (·.fresh)) false (defScope s_too_many) ir_too_many (defBody s_too_many) = true := by decide +kernel
abbrev t_fits : List FnE := []
theorem ck_fits : chkSs (ckOf n_fits t_fits cs0) (t_fits.map (·.fresh)) false (defScope s_fits) ir_fits (defBody s_fits) = true := by decide +kernel
abbrev t_look_at_row : List FnE := []
theorem ck_look_at_row : chkSs (ckOf n_look_at_row t_look_at_row cs0) (t_look_at_row.map (·.fresh)) false (defScope s_look_at_row) ir_look_at_row (defBody s_look_at_row) = true := by decide +kernel
abbrev t_laid : List FnE := [e_look_at_row, e_fits]
theorem ck_laid : chkSs (ckOf n_laid t_laid cs0) (t_laid.map (·.fresh)) false (defScope s_laid) ir_laid (defBody s_laid) = true := by decide +kernel
abbrev t_own_windows : List FnE := []
theorem ck_own_windows : chkSs (ckOf n_own_windows t_own_windows cs0) (t_own_windows.map (·.fresh)) true (defScope s_own_windows) ir_own_windows (defBody s_own_windows) = true := by decide +kernel
abbrev t_windows : List FnE := [e_own_windows]
theorem ck_windows : chkSs (ckOf n_windows t_windows cs0) (t_windows.map (·.fresh)) false (defScope s_windows) ir_windows (defBody s_windows) = true := by decide +kernel
abbrev t_shared : List FnE := []
theorem ck_shared : chkSs (ckOf n_shared t_shared cs0) (t_shared.map (·.fresh)) false (defScope s_shared) ir_shared (defBody s_shared) = true := by decide +kernel
abbrev t_within : List FnE := [e_shared]
theorem ck_within : chkSs (ckOf n_within t_within cs0) (t_within.map (·.fresh)) false (defScope s_within) ir_within (defBody s_within) = true := by decide +kernel
abbrev t_asked : List FnE := [e_within]
theorem ck_asked : chkSs (ckOf n_asked t_asked cs0) (t_asked.map (·.fresh)) false (defScope s_asked) ir_asked (defBody s_asked) = true := by decide +kernel
abbrev t_chain_of : List FnE := []
theorem ck_chain_of : chkSs (ckOf n_chain_of t_chain_of cs0) (t_chain_of.map (·.fresh)) false (defScope s_chain_of) ir_chain_of (defBody s_chain_of) = true := by decide +kernel
abbrev t_end_of : List FnE := [e_chain_of, e_own_windows, e_asked]
theorem ck_end_of : chkSs (ckOf n_end_of t_end_of cs0) (t_end_of.map (·.fresh)) false (defScope s_end_of) ir_end_of (defBody s_end_of) = true := by decide +kernel
abbrev t_to_split : List FnE := []
theorem ck_to_split : chkSs (ckOf n_to_split t_to_split cs0) (t_to_split.map (·.fresh)) false (defScope s_to_split) ir_to_split (defBody s_to_split) = true := by decide +kernel
abbrev t_sought (n : Nat) : List FnE := [e_windows, e_end_of, e_too_many, e_to_split, e_sought n]
theorem ck_sought : chkSs (ckOf n_sought (t_sought 0) cs0) ((t_sought 0).map (·.fresh)) false (defScope s_sought) ir_sought (defBody s_sought) = true := by decide +kernel
abbrev t_some_row : List FnE := []
theorem ck_some_row : chkSs (ckOf n_some_row t_some_row cs0) (t_some_row.map (·.fresh)) false (defScope s_some_row) ir_some_row (defBody s_some_row) = true := by decide +kernel
abbrev t_least : List FnE := [e_laid, e_some_row, e_sought 520, e_length]
theorem ck_least : chkSs (ckOf n_least t_least cs0) (t_least.map (·.fresh)) false (defScope s_least) ir_least (defBody s_least) = true := by decide +kernel
abbrev t_l_cell_at : List FnE := []
theorem ck_l_cell_at : chkSs (ckOf n_l_cell_at t_l_cell_at cs0) (t_l_cell_at.map (·.fresh)) false (defScope s_l_cell_at) ir_l_cell_at (defBody s_l_cell_at) = true := by decide +kernel
abbrev t_l_mix : List FnE := []
theorem ck_l_mix : chkSs (ckOf n_l_mix t_l_mix cs0) (t_l_mix.map (·.fresh)) false (defScope s_l_mix) ir_l_mix (defBody s_l_mix) = true := by decide +kernel
abbrev t_l_crews : List FnE := [e_l_mix]
theorem ck_l_crews : chkSs (ckOf n_l_crews t_l_crews cs0) (t_l_crews.map (·.fresh)) false (defScope s_l_crews) ir_l_crews (defBody s_l_crews) = true := by decide +kernel
abbrev t_l_job : List FnE := [e_l_mix]
theorem ck_l_job : chkSs (ckOf n_l_job t_l_job cs0) (t_l_job.map (·.fresh)) false (defScope s_l_job) ir_l_job (defBody s_l_job) = true := by decide +kernel
abbrev t_l_orders : List FnE := [e_l_mix]
theorem ck_l_orders : chkSs (ckOf n_l_orders t_l_orders cs0) (t_l_orders.map (·.fresh)) false (defScope s_l_orders) ir_l_orders (defBody s_l_orders) = true := by decide +kernel
abbrev t_l_floor : List FnE := [e_l_crews, e_l_cell_at, e_l_job, e_l_mix, e_l_orders]
theorem ck_l_floor : chkSs (ckOf n_l_floor t_l_floor cs0) (t_l_floor.map (·.fresh)) false (defScope s_l_floor) ir_l_floor (defBody s_l_floor) = true := by decide +kernel
abbrev t_l_at_work : List FnE := []
theorem ck_l_at_work : chkSs (ckOf n_l_at_work t_l_at_work cs0) (t_l_at_work.map (·.fresh)) false (defScope s_l_at_work) ir_l_at_work (defBody s_l_at_work) = true := by decide +kernel
abbrev t_l_length : List FnE := []
theorem ck_l_length : chkSs (ckOf n_l_length t_l_length cs0) (t_l_length.map (·.fresh)) false (defScope s_l_length) ir_l_length (defBody s_l_length) = true := by decide +kernel
abbrev t_l_is_plan : List FnE := [e_l_at_work]
theorem ck_l_is_plan : chkSs (ckOf n_l_is_plan t_l_is_plan cs0) (t_l_is_plan.map (·.fresh)) false (defScope s_l_is_plan) ir_l_is_plan (defBody s_l_is_plan) = true := by decide +kernel
abbrev t_law : List FnE := [e_l_cell_at, e_l_floor, e_length, e_least, e_l_length, e_l_is_plan]
theorem ck_law : chkSs (ckOf n_law t_law cs0) (t_law.map (·.fresh)) false (defScope s_law) ir_law (defBody s_law) = true := by decide +kernel

section
variable {P : Program} {w : World} {K : PySem.W.Frag} {mg : Str → Option Value} {base : Heap}
theorem ok_at_work (M : MdOk mg cs0)  {f : Addr} {fd : FuncData} (F : Fun K "at_work" "at_work" s_at_work f fd) : FnM P w K mg base 1 f fd ["floor", "starts", "crew", "hour"] (spD K 4 false g_at_work) :=
  def_ok (T := t_at_work) (cs := cs0) M F sc_at_work ts_nil ck_at_work sem_at_work
theorem ok_length (M : MdOk mg cs0)  {f : Addr} {fd : FuncData} (F : Fun K "length" "length" s_length f fd) : FnM P w K mg base 1 f fd ["floor", "starts"] (spD K 2 false g_length) :=
  def_ok (T := t_length) (cs := cs0) M F sc_length ts_nil ck_length sem_length
theorem ok_too_many (M : MdOk mg cs0) (A_at_work : ∃ f, FnAt P w K mg base 1 e_at_work f) {f : Addr} {fd : FuncData} (F : Fun K "too_many" "too_many" s_too_many f fd) : FnM P w K mg base 2 f fd ["floor", "starts"] (spD K 2 false g_too_many) :=
  let ⟨_, a_at_work⟩ := A_at_work; def_ok (T := t_too_many) (cs := cs0) M F sc_too_many (ts_cons a_at_work ts_nil) ck_too_many sem_too_many
theorem ok_fits (M : MdOk mg cs0)  {f : Addr} {fd : FuncData} (F : Fun K "fits" "fits" s_fits f fd) : FnM P w K mg base 1 f fd ["floor", "begun", "job", "hour"] (spD K 4 false g_fits) :=
  def_okL (T := t_fits) (cs := cs0) 1 M F sc_fits ts_nil ck_fits dk_fits sem_fits
theorem ok_look_at_row (M : MdOk mg cs0)  {f : Addr} {fd : FuncData} (F : Fun K "look_at_row" "look_at_row" s_look_at_row f fd) : FnM P w K mg base 1 f fd ["floor", "row"] (spD K 2 false g_look_at_row) :=
  def_ok (T := t_look_at_row) (cs := cs0) M F sc_look_at_row ts_nil ck_look_at_row sem_look_at_row
theorem ok_laid (M : MdOk mg cs0) (A_look_at_row : ∃ f, FnAt P w K mg base 1 e_look_at_row f) (A_fits : ∃ f, FnAt P w K mg base 1 e_fits f) {f : Addr} {fd : FuncData} (F : Fun K "laid" "laid" s_laid f fd) : FnM P w K mg base 2 f fd ["floor", "row"] (spD K 2 false g_laid) :=
  let ⟨_, a_look_at_row⟩ := A_look_at_row; let ⟨_, a_fits⟩ := A_fits; def_ok (T := t_laid) (cs := cs0) M F sc_laid (ts_cons a_look_at_row (ts_cons a_fits ts_nil)) ck_laid sem_laid
theorem ok_own_windows (M : MdOk mg cs0)  {f : Addr} {fd : FuncData} (F : Fun K "own_windows" "own_windows" s_own_windows f fd) : FnM P w K mg base 1 f fd ["floor", "limit", "choices"] (spD K 3 true g_own_windows) :=
  def_ok (T := t_own_windows) (cs := cs0) M F sc_own_windows ts_nil ck_own_windows sem_own_windows
theorem ok_windows (M : MdOk mg cs0) (A_own_windows : ∃ f, FnAt P w K mg base 1 e_own_windows f) {f : Addr} {fd : FuncData} (F : Fun K "windows" "windows" s_windows f fd) : FnM P w K mg base 2 f fd ["floor", "limit", "choices"] (spD K 3 false g_windows) :=
  let ⟨_, a_own_windows⟩ := A_own_windows; def_ok (T := t_windows) (cs := cs0) M F sc_windows (ts_cons a_own_windows ts_nil) ck_windows sem_windows
theorem ok_shared (M : MdOk mg cs0)  {f : Addr} {fd : FuncData} (F : Fun K "shared" "shared" s_shared f fd) : FnM P w K mg base 1 f fd ["at", "hours", "begin", "end"] (spD K 4 false g_shared) :=
  def_ok (T := t_shared) (cs := cs0) M F sc_shared ts_nil ck_shared sem_shared
theorem ok_within (M : MdOk mg cs0) (A_shared : ∃ f, FnAt P w K mg base 1 e_shared f) {f : Addr} {fd : FuncData} (F : Fun K "within" "within" s_within f fd) : FnM P w K mg base 2 f fd ["window", "hours", "begin", "end"] (spD K 4 false g_within) :=
  let ⟨_, a_shared⟩ := A_shared; def_ok (T := t_within) (cs := cs0) M F sc_within (ts_cons a_shared ts_nil) ck_within sem_within
theorem ok_asked (M : MdOk mg cs0) (A_within : ∃ f, FnAt P w K mg base 2 e_within f) {f : Addr} {fd : FuncData} (F : Fun K "asked" "asked" s_asked f fd) : FnM P w K mg base 3 f fd ["floor", "found", "crew", "begin", "end"] (spD K 5 false g_asked) :=
  let ⟨_, a_within⟩ := A_within; def_ok (T := t_asked) (cs := cs0) M F sc_asked (ts_cons a_within ts_nil) ck_asked sem_asked
theorem ok_chain_of (M : MdOk mg cs0)  {f : Addr} {fd : FuncData} (F : Fun K "chain_of" "chain_of" s_chain_of f fd) : FnM P w K mg base 1 f fd ["floor", "own", "found", "job"] (spD K 4 false g_chain_of) :=
  def_ok (T := t_chain_of) (cs := cs0) M F sc_chain_of ts_nil ck_chain_of sem_chain_of
theorem ok_end_of (M : MdOk mg cs0) (A_chain_of : ∃ f, FnAt P w K mg base 1 e_chain_of f) (A_own_windows : ∃ f, FnAt P w K mg base 1 e_own_windows f) (A_asked : ∃ f, FnAt P w K mg base 3 e_asked f) {f : Addr} {fd : FuncData} (F : Fun K "end_of" "end_of" s_end_of f fd) : FnM P w K mg base 4 f fd ["floor", "limit", "choices", "found"] (spD K 4 false g_end_of) :=
  let ⟨_, a_chain_of⟩ := A_chain_of; let ⟨_, a_own_windows⟩ := A_own_windows; let ⟨_, a_asked⟩ := A_asked; def_ok (T := t_end_of) (cs := cs0) M F sc_end_of (ts_cons a_chain_of (ts_cons a_own_windows (ts_cons a_asked ts_nil))) ck_end_of sem_end_of
theorem ok_to_split (M : MdOk mg cs0)  {f : Addr} {fd : FuncData} (F : Fun K "to_split" "to_split" s_to_split f fd) : FnM P w K mg base 1 f fd ["floor", "found", "hour", "crew"] (spD K 4 false g_to_split) :=
  def_ok (T := t_to_split) (cs := cs0) M F sc_to_split ts_nil ck_to_split sem_to_split
theorem ok_sought (M : MdOk mg cs0) (A_windows : ∃ f, FnAt P w K mg base 2 e_windows f) (A_end_of : ∃ f, FnAt P w K mg base 4 e_end_of f) (A_too_many : ∃ f, FnAt P w K mg base 2 e_too_many f) (A_to_split : ∃ f, FnAt P w K mg base 1 e_to_split f) {f : Addr} {fd : FuncData} (F : Fun K "sought" "sought" s_sought f fd) (gg : mg "sought" = some (.ref f)) (kk : PySem.W.keepIn K (.ref f) = true) (bb : Binds K fd ["floor", "limit", "choices"] []) : ∀ n : Nat, FnM P w K mg base (5 + n) f fd ["floor", "limit", "choices"] (spD K 3 false (g_sought n))
  | 0 => fnM_void (ps := ["floor", "limit", "choices"]) fun ds R h => v_sought h
  | n + 1 => let ⟨_, a_windows⟩ := A_windows; let ⟨_, a_end_of⟩ := A_end_of; let ⟨_, a_too_many⟩ := A_too_many; let ⟨_, a_to_split⟩ := A_to_split; def_ok (d := 5 + n) (T := t_sought n) (cs := cs0) M F sc_sought (ts_cons a_windows (ts_cons a_end_of (ts_cons a_too_many (ts_cons a_to_split (ts_cons (FnM.at (x := "sought") (ok_sought M ⟨_, a_windows⟩ ⟨_, a_end_of⟩ ⟨_, a_too_many⟩ ⟨_, a_to_split⟩ F gg kk bb n) gg kk bb) ts_nil (by omega)) (by omega)) (by omega)) (by omega)) (by omega)) ck_sought (sem_sought n)
theorem ok_some_row (M : MdOk mg cs0)  {f : Addr} {fd : FuncData} (F : Fun K "some_row" "some_row" s_some_row f fd) : FnM P w K mg base 1 f fd ["floor"] (spD K 1 false g_some_row) :=
  def_ok (T := t_some_row) (cs := cs0) M F sc_some_row ts_nil ck_some_row sem_some_row
theorem ok_least (M : MdOk mg cs0) (A_laid : ∃ f, FnAt P w K mg base 2 e_laid f) (A_some_row : ∃ f, FnAt P w K mg base 1 e_some_row f) (A_sought : ∃ f, FnAt P w K mg base 525 (e_sought 520) f) (A_length : ∃ f, FnAt P w K mg base 1 e_length f) {f : Addr} {fd : FuncData} (F : Fun K "least" "least" s_least f fd) : FnM P w K mg base 526 f fd ["floor"] (spD K 1 false g_least) :=
  let ⟨_, a_laid⟩ := A_laid; let ⟨_, a_some_row⟩ := A_some_row; let ⟨_, a_sought⟩ := A_sought; let ⟨_, a_length⟩ := A_length; def_ok (T := t_least) (cs := cs0) M F sc_least (ts_cons a_laid (ts_cons a_some_row (ts_cons a_sought (ts_cons a_length ts_nil)))) ck_least sem_least
theorem ok_l_cell_at (M : MdOk mg cs0)  {f : Addr} {fd : FuncData} (F : Fun K "_law_cell_at" "_law_cell_at" s_l_cell_at f fd) : FnM P w K mg base 1 f fd ["_law_script", "_law_k"] (spD K 2 false g_l_cell_at) :=
  def_ok (T := t_l_cell_at) (cs := cs0) M F sc_l_cell_at ts_nil ck_l_cell_at sem_l_cell_at
theorem ok_l_mix (M : MdOk mg cs0)  {f : Addr} {fd : FuncData} (F : Fun K "_law_mix" "_law_mix" s_l_mix f fd) : FnM P w K mg base 1 f fd ["_law_cell", "_law_k"] (spD K 2 false g_l_mix) :=
  def_ok (T := t_l_mix) (cs := cs0) M F sc_l_mix ts_nil ck_l_mix sem_l_mix
theorem ok_l_crews (M : MdOk mg cs0) (A_l_mix : ∃ f, FnAt P w K mg base 1 e_l_mix f) {f : Addr} {fd : FuncData} (F : Fun K "_law_crews" "_law_crews" s_l_crews f fd) : FnM P w K mg base 2 f fd ["_law_cell"] (spD K 1 false g_l_crews) :=
  let ⟨_, a_l_mix⟩ := A_l_mix; def_ok (T := t_l_crews) (cs := cs0) M F sc_l_crews (ts_cons a_l_mix ts_nil) ck_l_crews sem_l_crews
theorem ok_l_job (M : MdOk mg cs0) (A_l_mix : ∃ f, FnAt P w K mg base 1 e_l_mix f) {f : Addr} {fd : FuncData} (F : Fun K "_law_job" "_law_job" s_l_job f fd) : FnM P w K mg base 2 f fd ["_law_cell", "_law_crews_here", "_law_most"] (spD K 3 false g_l_job) :=
  let ⟨_, a_l_mix⟩ := A_l_mix; def_ok (T := t_l_job) (cs := cs0) M F sc_l_job (ts_cons a_l_mix ts_nil) ck_l_job sem_l_job
theorem ok_l_orders (M : MdOk mg cs0) (A_l_mix : ∃ f, FnAt P w K mg base 1 e_l_mix f) {f : Addr} {fd : FuncData} (F : Fun K "_law_orders" "_law_orders" s_l_orders f fd) : FnM P w K mg base 2 f fd ["_law_cell", "_law_many", "_law_most"] (spD K 3 false g_l_orders) :=
  let ⟨_, a_l_mix⟩ := A_l_mix; def_ok (T := t_l_orders) (cs := cs0) M F sc_l_orders (ts_cons a_l_mix ts_nil) ck_l_orders sem_l_orders
theorem ok_l_floor (M : MdOk mg cs0) (A_l_crews : ∃ f, FnAt P w K mg base 2 e_l_crews f) (A_l_cell_at : ∃ f, FnAt P w K mg base 1 e_l_cell_at f) (A_l_job : ∃ f, FnAt P w K mg base 2 e_l_job f) (A_l_mix : ∃ f, FnAt P w K mg base 1 e_l_mix f) (A_l_orders : ∃ f, FnAt P w K mg base 2 e_l_orders f) {f : Addr} {fd : FuncData} (F : Fun K "_law_floor" "_law_floor" s_l_floor f fd) : FnM P w K mg base 3 f fd ["_law_script", "_law_at", "_law_many", "_law_most", "_law_orders_here"] (spD K 5 false g_l_floor) :=
  let ⟨_, a_l_crews⟩ := A_l_crews; let ⟨_, a_l_cell_at⟩ := A_l_cell_at; let ⟨_, a_l_job⟩ := A_l_job; let ⟨_, a_l_mix⟩ := A_l_mix; let ⟨_, a_l_orders⟩ := A_l_orders; def_ok (T := t_l_floor) (cs := cs0) M F sc_l_floor (ts_cons a_l_crews (ts_cons a_l_cell_at (ts_cons a_l_job (ts_cons a_l_mix (ts_cons a_l_orders ts_nil))))) ck_l_floor sem_l_floor
theorem ok_l_at_work (M : MdOk mg cs0)  {f : Addr} {fd : FuncData} (F : Fun K "_law_at_work" "_law_at_work" s_l_at_work f fd) : FnM P w K mg base 1 f fd ["_law_floor_here", "_law_starts", "_law_crew", "_law_hour"] (spD K 4 false g_l_at_work) :=
  def_ok (T := t_l_at_work) (cs := cs0) M F sc_l_at_work ts_nil ck_l_at_work sem_l_at_work
theorem ok_l_length (M : MdOk mg cs0)  {f : Addr} {fd : FuncData} (F : Fun K "_law_length" "_law_length" s_l_length f fd) : FnM P w K mg base 1 f fd ["_law_floor_here", "_law_starts"] (spD K 2 false g_l_length) :=
  def_ok (T := t_l_length) (cs := cs0) M F sc_l_length ts_nil ck_l_length sem_l_length
theorem ok_l_is_plan (M : MdOk mg cs0) (A_l_at_work : ∃ f, FnAt P w K mg base 1 e_l_at_work f) {f : Addr} {fd : FuncData} (F : Fun K "_law_is_plan" "_law_is_plan" s_l_is_plan f fd) : FnM P w K mg base 2 f fd ["_law_floor_here", "_law_starts"] (spD K 2 false g_l_is_plan) :=
  let ⟨_, a_l_at_work⟩ := A_l_at_work; def_ok (T := t_l_is_plan) (cs := cs0) M F sc_l_is_plan (ts_cons a_l_at_work ts_nil) ck_l_is_plan sem_l_is_plan
theorem ok_law (M : MdOk mg cs0) (A_l_cell_at : ∃ f, FnAt P w K mg base 1 e_l_cell_at f) (A_l_floor : ∃ f, FnAt P w K mg base 3 e_l_floor f) (A_length : ∃ f, FnAt P w K mg base 1 e_length f) (A_least : ∃ f, FnAt P w K mg base 526 e_least f) (A_l_length : ∃ f, FnAt P w K mg base 1 e_l_length f) (A_l_is_plan : ∃ f, FnAt P w K mg base 2 e_l_is_plan f) {f : Addr} {fd : FuncData} (F : Fun K "law" "law" s_law f fd) : FnM P w K mg base 527 f fd ["_law_script"] (spD K 1 false g_law) :=
  let ⟨_, a_l_cell_at⟩ := A_l_cell_at; let ⟨_, a_l_floor⟩ := A_l_floor; let ⟨_, a_length⟩ := A_length; let ⟨_, a_least⟩ := A_least; let ⟨_, a_l_length⟩ := A_l_length; let ⟨_, a_l_is_plan⟩ := A_l_is_plan; def_ok (T := t_law) (cs := cs0) M F sc_law (ts_cons a_l_cell_at (ts_cons a_l_floor (ts_cons a_length (ts_cons a_least (ts_cons a_l_length (ts_cons a_l_is_plan ts_nil)))))) ck_law sem_law

end
theorem all_mk {l : PySem.W.OpenLaw} {w : World} {K : PySem.W.Frag} {h : Heap} {mg : Str → Option Value} {fa : Addr} (X : K.In h) (Gl : h.Ns mainGlobals mg) (hfa : mg "law" = some (.ref fa))
    {f0 f1 f2 f3 f4 f5 f6 f7 f8 f9 f10 f11 f12 f13 f14 f15 f16 f17 f18 f19 f20 f21 f22 f23 f24 f25 f26 : Addr} {od0 an0 od1 an1 od2 an2 od3 an3 od4 an4 od5 an5 od6 an6 od7 an7 od8 an8 od9 an9 od10 an10 od11 an11 od12 an12 od13 an13 od14 an14 od15 an15 od16 an16 od17 an17 od18 an18 od19 an19 od20 an20 od21 an21 od22 an22 od23 an23 od24 an24 od25 an25 od26 an26 : Option Addr} {sl0 sl1 sl2 sl3 sl4 sl5 sl6 sl7 sl8 sl9 sl10 sl11 sl12 sl13 sl14 sl15 sl16 sl17 sl18 sl19 sl20 sl21 sl22 sl23 sl24 sl25 sl26 : Array (Option Value)} {oc0 kV0 dc0 pm0 cd0 ct0 oc1 kV1 dc1 pm1 cd1 ct1 oc2 kV2 dc2 pm2 cd2 ct2 oc3 kV3 dc3 pm3 cd3 ct3 oc4 kV4 dc4 pm4 cd4 ct4 oc5 kV5 dc5 pm5 cd5 ct5 oc6 kV6 dc6 pm6 cd6 ct6 oc7 kV7 dc7 pm7 cd7 ct7 oc8 kV8 dc8 pm8 cd8 ct8 oc9 kV9 dc9 pm9 cd9 ct9 oc10 kV10 dc10 pm10 cd10 ct10 oc11 kV11 dc11 pm11 cd11 ct11 oc12 kV12 dc12 pm12 cd12 ct12 oc13 kV13 dc13 pm13 cd13 ct13 oc14 kV14 dc14 pm14 cd14 ct14 oc15 kV15 dc15 pm15 cd15 ct15 oc16 kV16 dc16 pm16 cd16 ct16 oc17 kV17 dc17 pm17 cd17 ct17 oc18 kV18 dc18 pm18 cd18 ct18 oc19 kV19 dc19 pm19 cd19 ct19 oc20 kV20 dc20 pm20 cd20 ct20 oc21 kV21 dc21 pm21 cd21 ct21 oc22 kV22 dc22 pm22 cd22 ct22 oc23 kV23 dc23 pm23 cd23 ct23 oc24 kV24 dc24 pm24 cd24 ct24 oc25 kV25 dc25 pm25 cd25 ct25 oc26 kV26 dc26 pm26 cd26 ct26 : Value}
    (a0 : PySem.W.nsIn K mainGlobals "at_work" = some (some (.ref f0))) (l0 : K.lookup f0 = some ⟨oc0, od0, .func (PySem.W.fnOf "at_work" "at_work" (defArgs s_at_work) (defBody s_at_work) (defScope s_at_work) .none kV0 dc0 pm0 an0 cd0 ct0), sl0⟩) (c0 : PySem.W.codeIn K cd0 "at_work" = true) (k0 : PySem.W.keepIn K (.ref f0) = true)
    (a1 : PySem.W.nsIn K mainGlobals "length" = some (some (.ref f1))) (l1 : K.lookup f1 = some ⟨oc1, od1, .func (PySem.W.fnOf "length" "length" (defArgs s_length) (defBody s_length) (defScope s_length) .none kV1 dc1 pm1 an1 cd1 ct1), sl1⟩) (c1 : PySem.W.codeIn K cd1 "length" = true) (k1 : PySem.W.keepIn K (.ref f1) = true)
    (a2 : PySem.W.nsIn K mainGlobals "too_many" = some (some (.ref f2))) (l2 : K.lookup f2 = some ⟨oc2, od2, .func (PySem.W.fnOf "too_many" "too_many" (defArgs s_too_many) (defBody s_too_many) (defScope s_too_many) .none kV2 dc2 pm2 an2 cd2 ct2), sl2⟩) (c2 : PySem.W.codeIn K cd2 "too_many" = true) (k2 : PySem.W.keepIn K (.ref f2) = true)
    (a3 : PySem.W.nsIn K mainGlobals "fits" = some (some (.ref f3))) (l3 : K.lookup f3 = some ⟨oc3, od3, .func (PySem.W.fnOf "fits" "fits" (defArgs s_fits) (defBody s_fits) (defScope s_fits) .none kV3 dc3 pm3 an3 cd3 ct3), sl3⟩) (c3 : PySem.W.codeIn K cd3 "fits" = true) (k3 : PySem.W.keepIn K (.ref f3) = true)
    (a4 : PySem.W.nsIn K mainGlobals "look_at_row" = some (some (.ref f4))) (l4 : K.lookup f4 = some ⟨oc4, od4, .func (PySem.W.fnOf "look_at_row" "look_at_row" (defArgs s_look_at_row) (defBody s_look_at_row) (defScope s_look_at_row) .none kV4 dc4 pm4 an4 cd4 ct4), sl4⟩) (c4 : PySem.W.codeIn K cd4 "look_at_row" = true) (k4 : PySem.W.keepIn K (.ref f4) = true)
    (a5 : PySem.W.nsIn K mainGlobals "laid" = some (some (.ref f5))) (l5 : K.lookup f5 = some ⟨oc5, od5, .func (PySem.W.fnOf "laid" "laid" (defArgs s_laid) (defBody s_laid) (defScope s_laid) .none kV5 dc5 pm5 an5 cd5 ct5), sl5⟩) (c5 : PySem.W.codeIn K cd5 "laid" = true) (k5 : PySem.W.keepIn K (.ref f5) = true)
    (a6 : PySem.W.nsIn K mainGlobals "own_windows" = some (some (.ref f6))) (l6 : K.lookup f6 = some ⟨oc6, od6, .func (PySem.W.fnOf "own_windows" "own_windows" (defArgs s_own_windows) (defBody s_own_windows) (defScope s_own_windows) .none kV6 dc6 pm6 an6 cd6 ct6), sl6⟩) (c6 : PySem.W.codeIn K cd6 "own_windows" = true) (k6 : PySem.W.keepIn K (.ref f6) = true)
    (a7 : PySem.W.nsIn K mainGlobals "windows" = some (some (.ref f7))) (l7 : K.lookup f7 = some ⟨oc7, od7, .func (PySem.W.fnOf "windows" "windows" (defArgs s_windows) (defBody s_windows) (defScope s_windows) .none kV7 dc7 pm7 an7 cd7 ct7), sl7⟩) (c7 : PySem.W.codeIn K cd7 "windows" = true) (k7 : PySem.W.keepIn K (.ref f7) = true)
    (a8 : PySem.W.nsIn K mainGlobals "shared" = some (some (.ref f8))) (l8 : K.lookup f8 = some ⟨oc8, od8, .func (PySem.W.fnOf "shared" "shared" (defArgs s_shared) (defBody s_shared) (defScope s_shared) .none kV8 dc8 pm8 an8 cd8 ct8), sl8⟩) (c8 : PySem.W.codeIn K cd8 "shared" = true) (k8 : PySem.W.keepIn K (.ref f8) = true)
    (a9 : PySem.W.nsIn K mainGlobals "within" = some (some (.ref f9))) (l9 : K.lookup f9 = some ⟨oc9, od9, .func (PySem.W.fnOf "within" "within" (defArgs s_within) (defBody s_within) (defScope s_within) .none kV9 dc9 pm9 an9 cd9 ct9), sl9⟩) (c9 : PySem.W.codeIn K cd9 "within" = true) (k9 : PySem.W.keepIn K (.ref f9) = true)
    (a10 : PySem.W.nsIn K mainGlobals "asked" = some (some (.ref f10))) (l10 : K.lookup f10 = some ⟨oc10, od10, .func (PySem.W.fnOf "asked" "asked" (defArgs s_asked) (defBody s_asked) (defScope s_asked) .none kV10 dc10 pm10 an10 cd10 ct10), sl10⟩) (c10 : PySem.W.codeIn K cd10 "asked" = true) (k10 : PySem.W.keepIn K (.ref f10) = true)
    (a11 : PySem.W.nsIn K mainGlobals "chain_of" = some (some (.ref f11))) (l11 : K.lookup f11 = some ⟨oc11, od11, .func (PySem.W.fnOf "chain_of" "chain_of" (defArgs s_chain_of) (defBody s_chain_of) (defScope s_chain_of) .none kV11 dc11 pm11 an11 cd11 ct11), sl11⟩) (c11 : PySem.W.codeIn K cd11 "chain_of" = true) (k11 : PySem.W.keepIn K (.ref f11) = true)
    (a12 : PySem.W.nsIn K mainGlobals "end_of" = some (some (.ref f12))) (l12 : K.lookup f12 = some ⟨oc12, od12, .func (PySem.W.fnOf "end_of" "end_of" (defArgs s_end_of) (defBody s_end_of) (defScope s_end_of) .none kV12 dc12 pm12 an12 cd12 ct12), sl12⟩) (c12 : PySem.W.codeIn K cd12 "end_of" = true) (k12 : PySem.W.keepIn K (.ref f12) = true)
    (a13 : PySem.W.nsIn K mainGlobals "to_split" = some (some (.ref f13))) (l13 : K.lookup f13 = some ⟨oc13, od13, .func (PySem.W.fnOf "to_split" "to_split" (defArgs s_to_split) (defBody s_to_split) (defScope s_to_split) .none kV13 dc13 pm13 an13 cd13 ct13), sl13⟩) (c13 : PySem.W.codeIn K cd13 "to_split" = true) (k13 : PySem.W.keepIn K (.ref f13) = true)
    (a14 : PySem.W.nsIn K mainGlobals "sought" = some (some (.ref f14))) (l14 : K.lookup f14 = some ⟨oc14, od14, .func (PySem.W.fnOf "sought" "sought" (defArgs s_sought) (defBody s_sought) (defScope s_sought) .none kV14 dc14 pm14 an14 cd14 ct14), sl14⟩) (c14 : PySem.W.codeIn K cd14 "sought" = true) (k14 : PySem.W.keepIn K (.ref f14) = true)
    (a15 : PySem.W.nsIn K mainGlobals "some_row" = some (some (.ref f15))) (l15 : K.lookup f15 = some ⟨oc15, od15, .func (PySem.W.fnOf "some_row" "some_row" (defArgs s_some_row) (defBody s_some_row) (defScope s_some_row) .none kV15 dc15 pm15 an15 cd15 ct15), sl15⟩) (c15 : PySem.W.codeIn K cd15 "some_row" = true) (k15 : PySem.W.keepIn K (.ref f15) = true)
    (a16 : PySem.W.nsIn K mainGlobals "least" = some (some (.ref f16))) (l16 : K.lookup f16 = some ⟨oc16, od16, .func (PySem.W.fnOf "least" "least" (defArgs s_least) (defBody s_least) (defScope s_least) .none kV16 dc16 pm16 an16 cd16 ct16), sl16⟩) (c16 : PySem.W.codeIn K cd16 "least" = true) (k16 : PySem.W.keepIn K (.ref f16) = true)
    (a17 : PySem.W.nsIn K mainGlobals "_law_cell_at" = some (some (.ref f17))) (l17 : K.lookup f17 = some ⟨oc17, od17, .func (PySem.W.fnOf "_law_cell_at" "_law_cell_at" (defArgs s_l_cell_at) (defBody s_l_cell_at) (defScope s_l_cell_at) .none kV17 dc17 pm17 an17 cd17 ct17), sl17⟩) (c17 : PySem.W.codeIn K cd17 "_law_cell_at" = true) (k17 : PySem.W.keepIn K (.ref f17) = true)
    (a18 : PySem.W.nsIn K mainGlobals "_law_mix" = some (some (.ref f18))) (l18 : K.lookup f18 = some ⟨oc18, od18, .func (PySem.W.fnOf "_law_mix" "_law_mix" (defArgs s_l_mix) (defBody s_l_mix) (defScope s_l_mix) .none kV18 dc18 pm18 an18 cd18 ct18), sl18⟩) (c18 : PySem.W.codeIn K cd18 "_law_mix" = true) (k18 : PySem.W.keepIn K (.ref f18) = true)
    (a19 : PySem.W.nsIn K mainGlobals "_law_crews" = some (some (.ref f19))) (l19 : K.lookup f19 = some ⟨oc19, od19, .func (PySem.W.fnOf "_law_crews" "_law_crews" (defArgs s_l_crews) (defBody s_l_crews) (defScope s_l_crews) .none kV19 dc19 pm19 an19 cd19 ct19), sl19⟩) (c19 : PySem.W.codeIn K cd19 "_law_crews" = true) (k19 : PySem.W.keepIn K (.ref f19) = true)
    (a20 : PySem.W.nsIn K mainGlobals "_law_job" = some (some (.ref f20))) (l20 : K.lookup f20 = some ⟨oc20, od20, .func (PySem.W.fnOf "_law_job" "_law_job" (defArgs s_l_job) (defBody s_l_job) (defScope s_l_job) .none kV20 dc20 pm20 an20 cd20 ct20), sl20⟩) (c20 : PySem.W.codeIn K cd20 "_law_job" = true) (k20 : PySem.W.keepIn K (.ref f20) = true)
    (a21 : PySem.W.nsIn K mainGlobals "_law_orders" = some (some (.ref f21))) (l21 : K.lookup f21 = some ⟨oc21, od21, .func (PySem.W.fnOf "_law_orders" "_law_orders" (defArgs s_l_orders) (defBody s_l_orders) (defScope s_l_orders) .none kV21 dc21 pm21 an21 cd21 ct21), sl21⟩) (c21 : PySem.W.codeIn K cd21 "_law_orders" = true) (k21 : PySem.W.keepIn K (.ref f21) = true)
    (a22 : PySem.W.nsIn K mainGlobals "_law_floor" = some (some (.ref f22))) (l22 : K.lookup f22 = some ⟨oc22, od22, .func (PySem.W.fnOf "_law_floor" "_law_floor" (defArgs s_l_floor) (defBody s_l_floor) (defScope s_l_floor) .none kV22 dc22 pm22 an22 cd22 ct22), sl22⟩) (c22 : PySem.W.codeIn K cd22 "_law_floor" = true) (k22 : PySem.W.keepIn K (.ref f22) = true)
    (a23 : PySem.W.nsIn K mainGlobals "_law_at_work" = some (some (.ref f23))) (l23 : K.lookup f23 = some ⟨oc23, od23, .func (PySem.W.fnOf "_law_at_work" "_law_at_work" (defArgs s_l_at_work) (defBody s_l_at_work) (defScope s_l_at_work) .none kV23 dc23 pm23 an23 cd23 ct23), sl23⟩) (c23 : PySem.W.codeIn K cd23 "_law_at_work" = true) (k23 : PySem.W.keepIn K (.ref f23) = true)
    (a24 : PySem.W.nsIn K mainGlobals "_law_length" = some (some (.ref f24))) (l24 : K.lookup f24 = some ⟨oc24, od24, .func (PySem.W.fnOf "_law_length" "_law_length" (defArgs s_l_length) (defBody s_l_length) (defScope s_l_length) .none kV24 dc24 pm24 an24 cd24 ct24), sl24⟩) (c24 : PySem.W.codeIn K cd24 "_law_length" = true) (k24 : PySem.W.keepIn K (.ref f24) = true)
    (a25 : PySem.W.nsIn K mainGlobals "_law_is_plan" = some (some (.ref f25))) (l25 : K.lookup f25 = some ⟨oc25, od25, .func (PySem.W.fnOf "_law_is_plan" "_law_is_plan" (defArgs s_l_is_plan) (defBody s_l_is_plan) (defScope s_l_is_plan) .none kV25 dc25 pm25 an25 cd25 ct25), sl25⟩) (c25 : PySem.W.codeIn K cd25 "_law_is_plan" = true) (k25 : PySem.W.keepIn K (.ref f25) = true)
    (a26 : PySem.W.nsIn K mainGlobals "law" = some (some (.ref f26))) (l26 : K.lookup f26 = some ⟨oc26, od26, .func (PySem.W.fnOf "law" "law" (defArgs s_law) (defBody s_law) (defScope s_law) .none kV26 dc26 pm26 an26 cd26 ct26), sl26⟩) (c26 : PySem.W.codeIn K cd26 "law" = true) (k26 : PySem.W.keepIn K (.ref f26) = true)
    (z0 : PySem.W.nsIn K mainGlobals "len" = some none) (z1 : PySem.W.nsIn K mainGlobals "max" = some none) (z2 : PySem.W.nsIn K mainGlobals "min" = some none) (z3 : PySem.W.nsIn K mainGlobals "sum" = some none) (z4 : PySem.W.nsIn K mainGlobals "all" = some none) (z5 : PySem.W.nsIn K mainGlobals "list" = some none) (z6 : PySem.W.nsIn K mainGlobals "tuple" = some none) (z7 : PySem.W.nsIn K mainGlobals "int" = some none) (z8 : PySem.W.nsIn K mainGlobals "bool" = some none) (z9 : PySem.W.nsIn K mainGlobals "str" = some none) (z10 : PySem.W.nsIn K mainGlobals "sorted" = some none) (z11 : PySem.W.nsIn K mainGlobals "isinstance" = some none) (z12 : PySem.W.nsIn K mainGlobals "range" = some none) (z13 : PySem.W.nsIn K mainGlobals "set" = some none) (z14 : PySem.W.nsIn K mainGlobals "enumerate" = some none) (z15 : PySem.W.nsIn K mainGlobals "repr" = some none) :
    ∃ fd : FuncData, (∀ (s : Shared) (v : Value), BindsTo s fd ⟨[v], []⟩ [("_law_script", v)]) ∧ ∀ base : Heap, K.In base → base.Ns mainGlobals mg → FnOk l.prog w K mg base CX0 230 fa fd ["_law_script"] (spLaw K) := by
  have e := hfa.symm.trans (PySem.W.mg_of X Gl a26)
  cases e
  have M : MdOk mg cs0 := ⟨fun x hx => by
    simp only [bnames, List.mem_cons, List.not_mem_nil, or_false] at hx
    rcases hx with rfl | rfl | rfl | rfl | rfl | rfl | rfl | rfl | rfl | rfl | rfl | rfl | rfl | rfl | rfl | rfl
    · exact PySem.W.mg_none_of X Gl z0
    · exact PySem.W.mg_none_of X Gl z1
    · exact PySem.W.mg_none_of X Gl z2
    · exact PySem.W.mg_none_of X Gl z3
    · exact PySem.W.mg_none_of X Gl z4
    · exact PySem.W.mg_none_of X Gl z5
    · exact PySem.W.mg_none_of X Gl z6
    · exact PySem.W.mg_none_of X Gl z7
    · exact PySem.W.mg_none_of X Gl z8
    · exact PySem.W.mg_none_of X Gl z9
    · exact PySem.W.mg_none_of X Gl z10
    · exact PySem.W.mg_none_of X Gl z11
    · exact PySem.W.mg_none_of X Gl z12
    · exact PySem.W.mg_none_of X Gl z13
    · exact PySem.W.mg_none_of X Gl z14
    · exact PySem.W.mg_none_of X Gl z15, fun x i h => by simp [cs0] at h⟩
  have F0 := fun_mk (st := s_at_work) l0 c0 k0
  have F1 := fun_mk (st := s_length) l1 c1 k1
  have F2 := fun_mk (st := s_too_many) l2 c2 k2
  have F3 := fun_mk (st := s_fits) l3 c3 k3
  have F4 := fun_mk (st := s_look_at_row) l4 c4 k4
  have F5 := fun_mk (st := s_laid) l5 c5 k5
  have F6 := fun_mk (st := s_own_windows) l6 c6 k6
  have F7 := fun_mk (st := s_windows) l7 c7 k7
  have F8 := fun_mk (st := s_shared) l8 c8 k8
  have F9 := fun_mk (st := s_within) l9 c9 k9
  have F10 := fun_mk (st := s_asked) l10 c10 k10
  have F11 := fun_mk (st := s_chain_of) l11 c11 k11
  have F12 := fun_mk (st := s_end_of) l12 c12 k12
  have F13 := fun_mk (st := s_to_split) l13 c13 k13
  have F14 := fun_mk (st := s_sought) l14 c14 k14
  have F15 := fun_mk (st := s_some_row) l15 c15 k15
  have F16 := fun_mk (st := s_least) l16 c16 k16
  have F17 := fun_mk (st := s_l_cell_at) l17 c17 k17
  have F18 := fun_mk (st := s_l_mix) l18 c18 k18
  have F19 := fun_mk (st := s_l_crews) l19 c19 k19
  have F20 := fun_mk (st := s_l_job) l20 c20 k20
  have F21 := fun_mk (st := s_l_orders) l21 c21 k21
  have F22 := fun_mk (st := s_l_floor) l22 c22 k22
  have F23 := fun_mk (st := s_l_at_work) l23 c23 k23
  have F24 := fun_mk (st := s_l_length) l24 c24 k24
  have F25 := fun_mk (st := s_l_is_plan) l25 c25 k25
  have F26 := fun_mk (st := s_law) l26 c26 k26
  refine ⟨PySem.W.fnOf "law" "law" (defArgs s_law) (defBody s_law) (defScope s_law) .none kV26 dc26 pm26 an26 cd26 ct26, fun s v => .of_eq rfl, fun base _ _ => ?_⟩
  have A_at_work : ∃ f, FnAt l.prog w K mg base 1 e_at_work f := ⟨f0, (ok_at_work M  F0).at (PySem.W.mg_of X Gl a0) F0.kp (F0.binds (ps := ["floor", "starts", "crew", "hour"]) fun _ _ _ _ _ _ us hl => match us, hl with | [_, _, _, _], _ => rfl)⟩
  have A_length : ∃ f, FnAt l.prog w K mg base 1 e_length f := ⟨f1, (ok_length M  F1).at (PySem.W.mg_of X Gl a1) F1.kp (F1.binds (ps := ["floor", "starts"]) fun _ _ _ _ _ _ us hl => match us, hl with | [_, _], _ => rfl)⟩
  have A_too_many : ∃ f, FnAt l.prog w K mg base 2 e_too_many f := ⟨f2, (ok_too_many M A_at_work F2).at (PySem.W.mg_of X Gl a2) F2.kp (F2.binds (ps := ["floor", "starts"]) fun _ _ _ _ _ _ us hl => match us, hl with | [_, _], _ => rfl)⟩
  have A_fits : ∃ f, FnAt l.prog w K mg base 1 e_fits f := ⟨f3, (ok_fits M  F3).at (PySem.W.mg_of X Gl a3) F3.kp (F3.binds (ps := ["floor", "begun", "job", "hour"]) fun _ _ _ _ _ _ us hl => match us, hl with | [_, _, _, _], _ => rfl)⟩
  have A_look_at_row : ∃ f, FnAt l.prog w K mg base 1 e_look_at_row f := ⟨f4, (ok_look_at_row M  F4).at (PySem.W.mg_of X Gl a4) F4.kp (F4.binds (ps := ["floor", "row"]) fun _ _ _ _ _ _ us hl => match us, hl with | [_, _], _ => rfl)⟩
  have A_laid : ∃ f, FnAt l.prog w K mg base 2 e_laid f := ⟨f5, (ok_laid M A_look_at_row A_fits F5).at (PySem.W.mg_of X Gl a5) F5.kp (F5.binds (ps := ["floor", "row"]) fun _ _ _ _ _ _ us hl => match us, hl with | [_, _], _ => rfl)⟩
  have A_own_windows : ∃ f, FnAt l.prog w K mg base 1 e_own_windows f := ⟨f6, (ok_own_windows M  F6).at (PySem.W.mg_of X Gl a6) F6.kp (F6.binds (ps := ["floor", "limit", "choices"]) fun _ _ _ _ _ _ us hl => match us, hl with | [_, _, _], _ => rfl)⟩
  have A_windows : ∃ f, FnAt l.prog w K mg base 2 e_windows f := ⟨f7, (ok_windows M A_own_windows F7).at (PySem.W.mg_of X Gl a7) F7.kp (F7.binds (ps := ["floor", "limit", "choices"]) fun _ _ _ _ _ _ us hl => match us, hl with | [_, _, _], _ => rfl)⟩
  have A_shared : ∃ f, FnAt l.prog w K mg base 1 e_shared f := ⟨f8, (ok_shared M  F8).at (PySem.W.mg_of X Gl a8) F8.kp (F8.binds (ps := ["at", "hours", "begin", "end"]) fun _ _ _ _ _ _ us hl => match us, hl with | [_, _, _, _], _ => rfl)⟩
  have A_within : ∃ f, FnAt l.prog w K mg base 2 e_within f := ⟨f9, (ok_within M A_shared F9).at (PySem.W.mg_of X Gl a9) F9.kp (F9.binds (ps := ["window", "hours", "begin", "end"]) fun _ _ _ _ _ _ us hl => match us, hl with | [_, _, _, _], _ => rfl)⟩
  have A_asked : ∃ f, FnAt l.prog w K mg base 3 e_asked f := ⟨f10, (ok_asked M A_within F10).at (PySem.W.mg_of X Gl a10) F10.kp (F10.binds (ps := ["floor", "found", "crew", "begin", "end"]) fun _ _ _ _ _ _ us hl => match us, hl with | [_, _, _, _, _], _ => rfl)⟩
  have A_chain_of : ∃ f, FnAt l.prog w K mg base 1 e_chain_of f := ⟨f11, (ok_chain_of M  F11).at (PySem.W.mg_of X Gl a11) F11.kp (F11.binds (ps := ["floor", "own", "found", "job"]) fun _ _ _ _ _ _ us hl => match us, hl with | [_, _, _, _], _ => rfl)⟩
  have A_end_of : ∃ f, FnAt l.prog w K mg base 4 e_end_of f := ⟨f12, (ok_end_of M A_chain_of A_own_windows A_asked F12).at (PySem.W.mg_of X Gl a12) F12.kp (F12.binds (ps := ["floor", "limit", "choices", "found"]) fun _ _ _ _ _ _ us hl => match us, hl with | [_, _, _, _], _ => rfl)⟩
  have A_to_split : ∃ f, FnAt l.prog w K mg base 1 e_to_split f := ⟨f13, (ok_to_split M  F13).at (PySem.W.mg_of X Gl a13) F13.kp (F13.binds (ps := ["floor", "found", "hour", "crew"]) fun _ _ _ _ _ _ us hl => match us, hl with | [_, _, _, _], _ => rfl)⟩
  have B_sought := F14.binds (ps := ["floor", "limit", "choices"]) fun _ _ _ _ _ _ us hl => match us, hl with | [_, _, _], _ => rfl
  have A_sought : ∃ f, FnAt l.prog w K mg base 525 (e_sought 520) f := ⟨f14, (ok_sought M A_windows A_end_of A_too_many A_to_split F14 (PySem.W.mg_of X Gl a14) F14.kp B_sought 520).at (PySem.W.mg_of X Gl a14) F14.kp B_sought⟩
  have A_some_row : ∃ f, FnAt l.prog w K mg base 1 e_some_row f := ⟨f15, (ok_some_row M  F15).at (PySem.W.mg_of X Gl a15) F15.kp (F15.binds (ps := ["floor"]) fun _ _ _ _ _ _ us hl => match us, hl with | [_], _ => rfl)⟩
  have A_least : ∃ f, FnAt l.prog w K mg base 526 e_least f := ⟨f16, (ok_least M A_laid A_some_row A_sought A_length F16).at (PySem.W.mg_of X Gl a16) F16.kp (F16.binds (ps := ["floor"]) fun _ _ _ _ _ _ us hl => match us, hl with | [_], _ => rfl)⟩
  have A_l_cell_at : ∃ f, FnAt l.prog w K mg base 1 e_l_cell_at f := ⟨f17, (ok_l_cell_at M  F17).at (PySem.W.mg_of X Gl a17) F17.kp (F17.binds (ps := ["_law_script", "_law_k"]) fun _ _ _ _ _ _ us hl => match us, hl with | [_, _], _ => rfl)⟩
  have A_l_mix : ∃ f, FnAt l.prog w K mg base 1 e_l_mix f := ⟨f18, (ok_l_mix M  F18).at (PySem.W.mg_of X Gl a18) F18.kp (F18.binds (ps := ["_law_cell", "_law_k"]) fun _ _ _ _ _ _ us hl => match us, hl with | [_, _], _ => rfl)⟩
  have A_l_crews : ∃ f, FnAt l.prog w K mg base 2 e_l_crews f := ⟨f19, (ok_l_crews M A_l_mix F19).at (PySem.W.mg_of X Gl a19) F19.kp (F19.binds (ps := ["_law_cell"]) fun _ _ _ _ _ _ us hl => match us, hl with | [_], _ => rfl)⟩
  have A_l_job : ∃ f, FnAt l.prog w K mg base 2 e_l_job f := ⟨f20, (ok_l_job M A_l_mix F20).at (PySem.W.mg_of X Gl a20) F20.kp (F20.binds (ps := ["_law_cell", "_law_crews_here", "_law_most"]) fun _ _ _ _ _ _ us hl => match us, hl with | [_, _, _], _ => rfl)⟩
  have A_l_orders : ∃ f, FnAt l.prog w K mg base 2 e_l_orders f := ⟨f21, (ok_l_orders M A_l_mix F21).at (PySem.W.mg_of X Gl a21) F21.kp (F21.binds (ps := ["_law_cell", "_law_many", "_law_most"]) fun _ _ _ _ _ _ us hl => match us, hl with | [_, _, _], _ => rfl)⟩
  have A_l_floor : ∃ f, FnAt l.prog w K mg base 3 e_l_floor f := ⟨f22, (ok_l_floor M A_l_crews A_l_cell_at A_l_job A_l_mix A_l_orders F22).at (PySem.W.mg_of X Gl a22) F22.kp (F22.binds (ps := ["_law_script", "_law_at", "_law_many", "_law_most", "_law_orders_here"]) fun _ _ _ _ _ _ us hl => match us, hl with | [_, _, _, _, _], _ => rfl)⟩
  have A_l_at_work : ∃ f, FnAt l.prog w K mg base 1 e_l_at_work f := ⟨f23, (ok_l_at_work M  F23).at (PySem.W.mg_of X Gl a23) F23.kp (F23.binds (ps := ["_law_floor_here", "_law_starts", "_law_crew", "_law_hour"]) fun _ _ _ _ _ _ us hl => match us, hl with | [_, _, _, _], _ => rfl)⟩
  have A_l_length : ∃ f, FnAt l.prog w K mg base 1 e_l_length f := ⟨f24, (ok_l_length M  F24).at (PySem.W.mg_of X Gl a24) F24.kp (F24.binds (ps := ["_law_floor_here", "_law_starts"]) fun _ _ _ _ _ _ us hl => match us, hl with | [_, _], _ => rfl)⟩
  have A_l_is_plan : ∃ f, FnAt l.prog w K mg base 2 e_l_is_plan f := ⟨f25, (ok_l_is_plan M A_l_at_work F25).at (PySem.W.mg_of X Gl a25) F25.kp (F25.binds (ps := ["_law_floor_here", "_law_starts"]) fun _ _ _ _ _ _ us hl => match us, hl with | [_, _], _ => rfl)⟩
  exact law_fn (ok_law M A_l_cell_at A_l_floor A_length A_least A_l_length A_l_is_plan F26) (by decide)
end CF
open PySem PySem.W PyProof.Rows
set_option maxRecDepth 100000 in
set_option maxHeartbeats 0 in
theorem PySem.Challenge.cw_crewfloor_k11_whole_more_crew_less_order_holds : PySem.Challenge.rw_crewfloor_k11_whole_more_crew_less_order.Holds := by
  w_on; o_law; k_head; (case hw => w_witness2)
  k_fill
  refine L2.walk_ofK (l := PySem.Challenge.rw_crewfloor_k11_whole_more_crew_less_order) (n := 63) (k := 230) (x := "_law_script") (CX := L2.CX0) (sp := CF.spLaw) rfl (by decide) rfl ⟨rfl, by decide, by decide⟩ (fun w h Y => PySem.W.kIn_of Y) ?F (fun K H a ns h1 h2 h3 => CF.law_sp K H a ns h1 h2 h3) (fun _ _ _ _ h => h)
  case F =>
    intro w mg fa h KX G hmg
    refine' CF.all_mk KX G hmg ?a0 ?l0 ?c0 ?k0 ?a1 ?l1 ?c1 ?k1 ?a2 ?l2 ?c2 ?k2 ?a3 ?l3 ?c3 ?k3 ?a4 ?l4 ?c4 ?k4 ?a5 ?l5 ?c5 ?k5 ?a6 ?l6 ?c6 ?k6 ?a7 ?l7 ?c7 ?k7 ?a8 ?l8 ?c8 ?k8 ?a9 ?l9 ?c9 ?k9 ?a10 ?l10 ?c10 ?k10 ?a11 ?l11 ?c11 ?k11 ?a12 ?l12 ?c12 ?k12 ?a13 ?l13 ?c13 ?k13 ?a14 ?l14 ?c14 ?k14 ?a15 ?l15 ?c15 ?k15 ?a16 ?l16 ?c16 ?k16 ?a17 ?l17 ?c17 ?k17 ?a18 ?l18 ?c18 ?k18 ?a19 ?l19 ?c19 ?k19 ?a20 ?l20 ?c20 ?k20 ?a21 ?l21 ?c21 ?k21 ?a22 ?l22 ?c22 ?k22 ?a23 ?l23 ?c23 ?k23 ?a24 ?l24 ?c24 ?k24 ?a25 ?l25 ?c25 ?k25 ?a26 ?l26 ?c26 ?k26 ?z0 ?z1 ?z2 ?z3 ?z4 ?z5 ?z6 ?z7 ?z8 ?z9 ?z10 ?z11 ?z12 ?z13 ?z14 ?z15
    (case a0 => k_is); (case l0 => k_is); (case c0 => k_is); (case k0 => k_is); (case a1 => k_is); (case l1 => k_is); (case c1 => k_is); (case k1 => k_is); (case a2 => k_is); (case l2 => k_is); (case c2 => k_is); (case k2 => k_is); (case a3 => k_is); (case l3 => k_is); (case c3 => k_is); (case k3 => k_is); (case a4 => k_is); (case l4 => k_is); (case c4 => k_is); (case k4 => k_is); (case a5 => k_is); (case l5 => k_is); (case c5 => k_is); (case k5 => k_is); (case a6 => k_is); (case l6 => k_is); (case c6 => k_is); (case k6 => k_is); (case a7 => k_is); (case l7 => k_is); (case c7 => k_is); (case k7 => k_is); (case a8 => k_is); (case l8 => k_is); (case c8 => k_is); (case k8 => k_is); (case a9 => k_is); (case l9 => k_is); (case c9 => k_is); (case k9 => k_is); (case a10 => k_is); (case l10 => k_is); (case c10 => k_is); (case k10 => k_is); (case a11 => k_is); (case l11 => k_is); (case c11 => k_is); (case k11 => k_is); (case a12 => k_is); (case l12 => k_is); (case c12 => k_is); (case k12 => k_is); (case a13 => k_is); (case l13 => k_is); (case c13 => k_is); (case k13 => k_is); (case a14 => k_is); (case l14 => k_is); (case c14 => k_is); (case k14 => k_is); (case a15 => k_is); (case l15 => k_is); (case c15 => k_is); (case k15 => k_is); (case a16 => k_is); (case l16 => k_is); (case c16 => k_is); (case k16 => k_is); (case a17 => k_is); (case l17 => k_is); (case c17 => k_is); (case k17 => k_is); (case a18 => k_is); (case l18 => k_is); (case c18 => k_is); (case k18 => k_is); (case a19 => k_is); (case l19 => k_is); (case c19 => k_is); (case k19 => k_is); (case a20 => k_is); (case l20 => k_is); (case c20 => k_is); (case k20 => k_is); (case a21 => k_is); (case l21 => k_is); (case c21 => k_is); (case k21 => k_is); (case a22 => k_is); (case l22 => k_is); (case c22 => k_is); (case k22 => k_is); (case a23 => k_is); (case l23 => k_is); (case c23 => k_is); (case k23 => k_is); (case a24 => k_is); (case l24 => k_is); (case c24 => k_is); (case k24 => k_is); (case a25 => k_is); (case l25 => k_is); (case c25 => k_is); (case k25 => k_is); (case a26 => k_is); (case l26 => k_is); (case c26 => k_is); (case k26 => k_is); (case z0 => k_is); (case z1 => k_is); (case z2 => k_is); (case z3 => k_is); (case z4 => k_is); (case z5 => k_is); (case z6 => k_is); (case z7 => k_is); (case z8 => k_is); (case z9 => k_is); (case z10 => k_is); (case z11 => k_is); (case z12 => k_is); (case z13 => k_is); (case z14 => k_is); (case z15 => k_is)

