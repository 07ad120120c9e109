import PyProof.Rows.All
import Wide.All
import OpenK.AllK
import Wide.FinOn
import HandS.ForMost
import HandS.Sort
import HandS.SortRule
import HandS.IsInst
import HandS.TupAny
import HandS.TupMul
import HandS.Deep
import HandS.Conv
import HandS.Style
import HandS.More
import HandS.TupSets
import HandS.Exc
import HandS.ExcOwn
import HandS.ExcIs
import HandS.SetFor
import HandS.Strs
import HandS.Zip
import PySem.Challenge.RW_crewfloor_k02_heads_and_tails
set_option Elab.async false
set_option linter.all false
set_option maxRecDepth 100000
set_option maxHeartbeats 4000000
namespace CF
open PySem PySem.Spec PyProof.Rows L2

/-! ### plain data, and how it stands in an abstract heap -/
/-- a dict from numbers to numbers -/
def dL (l : List (Int × Int)) : List (PyData × PyData) := l.map fun p => (PyData.int p.1, PyData.int p.2)
def dV (l : List (Int × Int)) : List (Key × V) := l.map fun p => (Sum.inl p.1, V.int p.2)
theorem dL_inj : ∀ {a b : List (Int × Int)}, dL a = dL b → a = b
  | [], [], _ => rfl
  | [], _ :: _, h => by simp [dL] at h
  | _ :: _, [], h => by simp [dL] at h
  | (x, y) :: a, (z, u) :: b, h => by
    have h' : (PyData.int x, PyData.int y) :: dL a = (PyData.int z, PyData.int u) :: dL b := h
    injection h' with h1 h2
    injection h1 with h3 h4
    injection h3 with h3
    injection h4 with h4
    rw [h3, h4, dL_inj h2]
abbrev DRep (kvs : List (PyData × PyData)) (ks : List (Key × V)) : Prop := ∃ l : List (Int × Int), kvs = dL l ∧ ks = dV l

mutual
def Rep (K : PySem.W.Frag) (H : Hp) : PyData → V → Prop
  | .none, v => v = .non
  | .bool b, v => v = .bl b
  | .int i, v => v = .int i
  | .str x, v => v = .str x
  | .tuple xs, v => ∃ a vs, v = .ref a ∧ H a = some (.tup vs) ∧ RepL K H xs vs
  | .list xs, v => ∃ a vs, v = .ref a ∧ SqL K H a vs ∧ RepL K H xs vs
  | .dict kvs, v => ∃ a ks, v = .ref a ∧ Rd H a (.dK ks) ∧ DRep kvs ks
def RepL (K : PySem.W.Frag) (H : Hp) : List PyData → List V → Prop
  | [], vs => vs = []
  | x :: xs, vs => ∃ v r, vs = v :: r ∧ Rep K H x v ∧ RepL K H xs r
end

section
variable {K : PySem.W.Frag} {H H' Hf Hf' : Hp}
theorem Rd.same {a : Addr} {u : HO} (s : Same H H') (h : Rd H a u) : Rd H' a u := by
  rcases h with h | ⟨o, h⟩
  · exact .inl (s _ _ h)
  · exact .inr ⟨o, s _ _ h⟩
mutual
theorem Rep.mono (s : Same H H') : ∀ (d : PyData) (v : V), Rep K H d v → Rep K H' d v
  | .none, v, h => by unfold Rep at h ⊢; exact h
  | .bool b, v, h => by unfold Rep at h ⊢; exact h
  | .int i, v, h => by unfold Rep at h ⊢; exact h
  | .str x, v, h => by unfold Rep at h ⊢; exact h
  | .tuple xs, v, h => by
    unfold Rep at h ⊢
    obtain ⟨a, vs, e, h1, h2⟩ := h
    exact ⟨a, vs, e, s _ _ h1, RepL.mono s xs vs h2⟩
  | .list xs, v, h => by
    unfold Rep at h ⊢
    obtain ⟨a, vs, e, h1, h2⟩ := h
    exact ⟨a, vs, e, s.seq h1, RepL.mono s xs vs h2⟩
  | .dict kvs, v, h => by
    unfold Rep at h ⊢
    obtain ⟨a, ks, e, h1, h2⟩ := h
    exact ⟨a, ks, e, Rd.same s h1, h2⟩
theorem RepL.mono (s : Same H H') : ∀ (ds : List PyData) (vs : List V), RepL K H ds vs → RepL K H' ds vs
  | [], vs, h => by unfold RepL at h ⊢; exact h
  | x :: xs, vs, h => by
    unfold RepL at h ⊢
    obtain ⟨v, r, e, h1, h2⟩ := h
    exact ⟨v, r, e, Rep.mono s x v h1, RepL.mono s xs r h2⟩
end
theorem RepL.length : ∀ {ds : List PyData} {vs : List V}, RepL K H ds vs → ds.length = vs.length
  | [], vs, h => by unfold RepL at h; subst h; rfl
  | x :: xs, vs, h => by
    unfold RepL at h
    obtain ⟨v, r, rfl, h1, h2⟩ := h
    rw [List.length_cons, List.length_cons, RepL.length h2]
theorem RepL.nil : RepL K H [] [] := by unfold RepL; rfl
theorem RepL.cons {d : PyData} {ds : List PyData} {v : V} {vs : List V} (h : Rep K H d v) (h' : RepL K H ds vs) : RepL K H (d :: ds) (v :: vs) := by
  unfold RepL
  exact ⟨v, vs, rfl, h, h'⟩
theorem RepL.get : ∀ {ds : List PyData} {vs : List V} {i : Nat} {d : PyData}, RepL K H ds vs → ds[i]? = some d → ∃ v, vs[i]? = some v ∧ Rep K H d v
  | [], vs, i, d, h, e => by simp at e
  | x :: xs, vs, 0, d, h, e => by
    unfold RepL at h
    obtain ⟨v, r, rfl, h1, h2⟩ := h
    simp at e
    subst e
    exact ⟨v, rfl, h1⟩
  | x :: xs, vs, i + 1, d, h, e => by
    unfold RepL at h
    obtain ⟨v, r, rfl, h1, h2⟩ := h
    obtain ⟨w, e1, e2⟩ := RepL.get (i := i) (d := d) h2 (by simpa using e)
    exact ⟨w, by simpa using e1, e2⟩
theorem RepL.get' : ∀ {ds : List PyData} {vs : List V} {i : Nat} {v : V}, RepL K H ds vs → vs[i]? = some v → ∃ d, ds[i]? = some d ∧ Rep K H d v
  | [], vs, i, d, h, e => by unfold RepL at h; subst h; simp at e
  | x :: xs, vs, 0, d, h, e => by
    unfold RepL at h
    obtain ⟨v, r, rfl, h1, h2⟩ := h
    simp at e
    subst e
    exact ⟨x, rfl, h1⟩
  | x :: xs, vs, i + 1, d, h, e => by
    unfold RepL at h
    obtain ⟨v, r, rfl, h1, h2⟩ := h
    obtain ⟨w, e1, e2⟩ := RepL.get' (i := i) h2 (by simpa using e)
    exact ⟨w, by simpa using e1, e2⟩
theorem RepL.append : ∀ {ds es : List PyData} {vs ws : List V}, RepL K H ds vs → RepL K H es ws → RepL K H (ds ++ es) (vs ++ ws)
  | [], es, vs, ws, h, h' => by unfold RepL at h; subst h; exact h'
  | x :: xs, es, vs, ws, h, h' => by
    unfold RepL at h
    obtain ⟨v, r, rfl, h1, h2⟩ := h
    exact RepL.cons h1 (RepL.append h2 h')
theorem RepL.take : ∀ {ds : List PyData} {vs : List V} (n : Nat), RepL K H ds vs → RepL K H (ds.take n) (vs.take n)
  | _, _, 0, _ => RepL.nil
  | [], vs, n + 1, h => by unfold RepL at h; subst h; exact RepL.nil
  | x :: xs, vs, n + 1, h => by
    unfold RepL at h
    obtain ⟨v, r, rfl, h1, h2⟩ := h
    exact RepL.cons h1 (RepL.take n h2)
theorem RepL.drop : ∀ {ds : List PyData} {vs : List V} (n : Nat), RepL K H ds vs → RepL K H (ds.drop n) (vs.drop n)
  | _, _, 0, h => h
  | [], vs, n + 1, h => by unfold RepL at h; subst h; exact RepL.nil
  | x :: xs, vs, n + 1, h => by
    unfold RepL at h
    obtain ⟨v, r, rfl, h1, h2⟩ := h
    exact RepL.drop n h2
theorem RepL.set {d : PyData} {v : V} (hd : Rep K H d v) : ∀ {ds : List PyData} {vs : List V} (n : Nat), RepL K H ds vs → RepL K H (ds.set n d) (vs.set n v)
  | [], vs, n, h => by unfold RepL at h; subst h; exact RepL.nil
  | x :: xs, vs, 0, h => by
    unfold RepL at h
    obtain ⟨v, r, rfl, h1, h2⟩ := h
    exact RepL.cons hd h2
  | x :: xs, vs, n + 1, h => by
    unfold RepL at h
    obtain ⟨v, r, rfl, h1, h2⟩ := h
    exact RepL.cons h1 (RepL.set hd n h2)
theorem RepL.rev : ∀ {ds : List PyData} {vs : List V}, RepL K H ds vs → RepL K H ds.reverse vs.reverse
  | [], vs, h => by unfold RepL at h; subst h; exact RepL.nil
  | x :: xs, vs, h => by
    unfold RepL at h
    obtain ⟨v, r, rfl, h1, h2⟩ := h
    rw [List.reverse_cons, List.reverse_cons]
    exact RepL.append (RepL.rev h2) (RepL.cons h1 RepL.nil)
theorem RepL.rep : ∀ {ds : List PyData} {vs : List V} (n : Nat), RepL K H ds vs → RepL K H (List.replicate n ds).flatten (List.replicate n vs).flatten
  | ds, vs, 0, h => RepL.nil
  | ds, vs, n + 1, h => by
    rw [List.replicate_succ, List.replicate_succ, List.flatten_cons, List.flatten_cons]
    exact RepL.append h (RepL.rep n h)
/-- data that is no object of its own -/
def flat : PyData → Bool
  | .none => true
  | .bool _ => true
  | .int _ => true
  | .str _ => true
  | _ => false
theorem Rep.flat {d : PyData} {v : V} (f : flat d = true) (h : Rep K H d v) : Rep K H' d v := by
  cases d <;> first
    | (unfold Rep at h ⊢; exact h)
    | (exact absurd f (by simp [CF.flat]))
mutual
theorem Rep.dp : ∀ (d : PyData) (v : V), d.canLay0 = true → Rep K H d v → Dp K H v d
  | .none, v, _, h => by unfold Rep at h; subst h; exact .non
  | .bool b, v, _, h => by unfold Rep at h; subst h; exact .bl b
  | .int i, v, _, h => by unfold Rep at h; subst h; exact .int i
  | .str x, v, _, h => by unfold Rep at h; subst h; exact .str x
  | .tuple xs, v, c, h => by
    unfold Rep at h
    obtain ⟨a, vs, rfl, h1, h2⟩ := h
    exact .tup (SqT.of h1) (RepL.dp xs vs (by simpa [PyData.canLay0] using c) h2)
  | .list xs, v, c, h => by
    unfold Rep at h
    obtain ⟨a, vs, rfl, h1, h2⟩ := h
    exact .lst h1 (RepL.dp xs vs (by simpa [PyData.canLay0] using c) h2)
  | .dict kvs, v, c, h => by simp [PyData.canLay0] at c
theorem RepL.dp : ∀ (ds : List PyData) (vs : List V), PyData.canLayAll0 ds = true → RepL K H ds vs → DpAll K H vs ds
  | [], vs, _, h => by unfold RepL at h; subst h; exact .nil
  | x :: xs, vs, c, h => by
    unfold RepL at h
    obtain ⟨v, r, rfl, h1, h2⟩ := h
    have c' : x.canLay0 = true ∧ PyData.canLayAll0 xs = true := by simpa [PyData.canLayAll0] using c
    exact .cons (Rep.dp x v c'.1 h1) (RepL.dp xs r c'.2 h2)
end
theorem Rep.shp {d : PyData} {v : V} (s : SeqAt.shaped d = true) (h : Rep K H d v) : Dp K H v d := Rep.dp d v (SeqAt.canLay_of_shaped s) h

/-! ### heaps that grow: Hf what is frozen within H -/
structure Ext (Hf H Hf' H' : Hp) : Prop where
  a : Same H H'
  b : Same Hf Hf'
  c : Same Hf' H'
  d : ∀ p, H p ≠ none → Hf' p = Hf p
theorem Ext.refl (h : Same Hf H) : Ext Hf H Hf H := ⟨Same.refl _, Same.refl _, h, fun _ _ => rfl⟩
theorem Ext.trans {H1 H1f H2 H2f : Hp} (x : Ext Hf H H1f H1) (y : Ext H1f H1 H2f H2) : Ext Hf H H2f H2 :=
  ⟨x.a.trans y.a, x.b.trans y.b, y.c, fun p h => by
    rw [← x.d p h]
    refine y.d p fun z => ?_
    cases q : H p with
    | none => exact h q
    | some o => rw [x.a _ _ q] at z; cases z⟩
theorem same_new {p : Addr} {o : HO} (h : H p = none) : Same H (upd H p o) := fun b u e => by
  rw [upd_ne (ne_of_none e h)]
  exact e
theorem Ext.new {p : Addr} {o : HO} (s : Same Hf H) (h : H p = none) : Ext Hf H (upd Hf p o) (upd H p o) := by
  have hf : Hf p = none := s.free h
  refine ⟨same_new h, same_new hf, fun b u e => ?_, fun q hq => ?_⟩
  · by_cases hb : b = p
    · subst hb
      rw [upd_same] at e ⊢
      exact e
    · rw [upd_ne hb] at e ⊢
      exact s _ _ e
  · rw [upd_ne]
    rintro rfl
    exact hq h
/-- the new object is not frozen -/
theorem Ext.newO {p : Addr} {o : HO} (s : Same Hf H) (h : H p = none) : Ext Hf H Hf (upd H p o) :=
  ⟨same_new h, Same.refl _, s.trans (same_new h), fun _ _ => rfl⟩
theorem Ext.frozen {Hf H Hf' H' : Hp} (x : Ext Hf H Hf' H') {p : Addr} {o : HO} (h : H p = some o) (hf : Hf p = none) : Hf' p = none := by
  rw [x.d p (by rw [h]; exact fun z => nomatch z)]
  exact hf

/-- a list (a dict) of the body's own, not frozen -/
def ORep (K : PySem.W.Frag) (Hf H : Hp) : PyData → V → Prop
  | .list xs, v => ∃ p vs, v = .ref p ∧ Hf p = none ∧ H p = some (.lst vs) ∧ RepL K Hf xs vs
  | .dict kvs, v => ∃ p ks, v = .ref p ∧ Hf p = none ∧ H p = some (.dK ks) ∧ DRep kvs ks
  | _, _ => False
theorem ORep.ext {d : PyData} {v : V} (x : Ext Hf H Hf' H') (h : ORep K Hf H d v) : ORep K Hf' H' d v := by
  cases d with
  | list xs =>
    obtain ⟨p, vs, rfl, h1, h2, h3⟩ := h
    exact ⟨p, vs, rfl, x.frozen h2 h1, x.a _ _ h2, RepL.mono x.b _ _ h3⟩
  | dict kvs =>
    obtain ⟨p, vs, rfl, h1, h2, h3⟩ := h
    exact ⟨p, vs, rfl, x.frozen h2 h1, x.a _ _ h2, h3⟩
  | _ => exact h.elim
theorem ORep.ref {d : PyData} {v : V} (h : ORep K Hf H d v) : ∃ p o, v = .ref p ∧ Hf p = none ∧ H p = some o := by
  cases d with
  | list xs =>
    obtain ⟨p, vs, rfl, h1, h2, h3⟩ := h
    exact ⟨p, _, rfl, h1, h2⟩
  | dict kvs =>
    obtain ⟨p, vs, rfl, h1, h2, h3⟩ := h
    exact ⟨p, _, rfl, h1, h2⟩
  | _ => exact h.elim
/-- freezing one address -/
theorem Same.frz {p : Addr} {o : HO} (s : Same Hf H) (hf : Hf p = none) (h : H p = some o) : Same Hf (upd Hf p o) ∧ Same (upd Hf p o) H :=
  ⟨same_new hf, fun b u e => by
    by_cases hb : b = p
    · subst hb
      rw [upd_same] at e
      cases e
      exact h
    · rw [upd_ne hb] at e
      exact s _ _ e⟩
theorem ORep.freeze {d : PyData} {p : Addr} {o : HO} (h : ORep K Hf H d (.ref p)) (e : H p = some o) : Rep K (upd Hf p o) d (.ref p) := by
  cases d with
  | list xs =>
    obtain ⟨q, vs, eq, h1, h2, h3⟩ := h
    cases eq
    rw [e] at h2
    cases h2
    unfold Rep
    exact ⟨p, vs, rfl, SqL.of upd_same, RepL.mono (same_new h1) _ _ h3⟩
  | dict kvs =>
    obtain ⟨q, vs, eq, h1, h2, h3⟩ := h
    cases eq
    rw [e] at h2
    cases h2
    unfold Rep
    exact ⟨p, vs, rfl, .inl upd_same, h3⟩
  | _ => exact h.elim
theorem ORep.full {d : PyData} {v : V} (s : Same Hf H) (h : ORep K Hf H d v) : Rep K H d v := by
  obtain ⟨p, o, rfl, h1, h2⟩ := h.ref
  exact Rep.mono (Same.frz s h1 h2).2 _ _ (h.freeze h2)
/-- what may be looked at -/
def PRep (K : PySem.W.Frag) (Hf H : Hp) (d : PyData) (v : V) : Prop := Rep K Hf d v ∨ ORep K Hf H d v
theorem PRep.ext {d : PyData} {v : V} (x : Ext Hf H Hf' H') (h : PRep K Hf H d v) : PRep K Hf' H' d v := h.elim (fun h => .inl (Rep.mono x.b _ _ h)) fun h => .inr (h.ext x)
theorem PRep.full {d : PyData} {v : V} (s : Same Hf H) (h : PRep K Hf H d v) : Rep K H d v := h.elim (fun h => Rep.mono s _ _ h) fun h => h.full s
theorem PRep.list {xs : List PyData} {v : V} (s : Same Hf H) (h : PRep K Hf H (.list xs) v) : ∃ a vs, v = .ref a ∧ SqL K H a vs ∧ RepL K Hf xs vs := by
  rcases h with h | h
  · unfold Rep at h
    obtain ⟨a, vs, e, h1, h2⟩ := h
    exact ⟨a, vs, e, s.seq h1, h2⟩
  · obtain ⟨p, vs, e, h1, h2, h3⟩ := h
    exact ⟨p, vs, e, SqL.of h2, h3⟩
theorem PRep.tuple {xs : List PyData} {v : V} (s : Same Hf H) (h : PRep K Hf H (.tuple xs) v) : ∃ a vs, v = .ref a ∧ H a = some (.tup vs) ∧ RepL K Hf xs vs := by
  rcases h with h | h
  · unfold Rep at h
    obtain ⟨a, vs, e, h1, h2⟩ := h
    exact ⟨a, vs, e, s _ _ h1, h2⟩
  · exact h.elim
theorem PRep.int {i : Int} {v : V} (h : PRep K Hf H (.int i) v) : v = .int i := by
  rcases h with h | h
  · unfold Rep at h; exact h
  · exact h.elim
theorem PRep.bool {i : Bool} {v : V} (h : PRep K Hf H (.bool i) v) : v = .bl i := by
  rcases h with h | h
  · unfold Rep at h; exact h
  · exact h.elim
theorem PRep.str {i : Str} {v : V} (h : PRep K Hf H (.str i) v) : v = .str i := by
  rcases h with h | h
  · unfold Rep at h; exact h
  · exact h.elim
theorem PRep.none {v : V} (h : PRep K Hf H .none v) : v = .non := by
  rcases h with h | h
  · unfold Rep at h; exact h
  · exact h.elim
theorem rep_int {i : Int} : Rep K H (.int i) (.int i) := by unfold Rep; rfl
theorem rep_bool {i : Bool} : Rep K H (.bool i) (.bl i) := by unfold Rep; rfl
theorem rep_str {i : Str} : Rep K H (.str i) (.str i) := by unfold Rep; rfl
theorem rep_none : Rep K H .none .non := by unfold Rep; rfl
theorem rep_newL {p : Addr} {xs : List PyData} {vs : List V} (h : Hf p = Option.none) (r : RepL K Hf xs vs) : Rep K (upd Hf p (.lst vs)) (.list xs) (.ref p) := by
  unfold Rep
  exact ⟨p, vs, rfl, SqL.of upd_same, RepL.mono (same_new h) _ _ r⟩
theorem rep_newT {p : Addr} {xs : List PyData} {vs : List V} (h : Hf p = Option.none) (r : RepL K Hf xs vs) : Rep K (upd Hf p (.tup vs)) (.tuple xs) (.ref p) := by
  unfold Rep
  exact ⟨p, vs, rfl, upd_same, RepL.mono (same_new h) _ _ r⟩
theorem RepL.ints : ∀ {ns : List Int} {vs : List V}, RepL K H (ns.map PyData.int) vs → vs = ns.map V.int
  | [], vs, h => by unfold RepL at h; exact h
  | n :: ns, vs, h => by
    unfold RepL at h
    obtain ⟨v, r, rfl, h1, h2⟩ := h
    unfold Rep at h1
    subst h1
    rw [RepL.ints h2]
    rfl
theorem repL_ints : ∀ (ns : List Int), RepL K H (ns.map PyData.int) (ns.map V.int)
  | [] => RepL.nil
  | n :: ns => RepL.cons rep_int (repL_ints ns)
theorem RepL.bools : ∀ {ns : List Bool} {vs : List V}, RepL K H (ns.map PyData.bool) vs → vs = ns.map V.bl
  | [], vs, h => by unfold RepL at h; exact h
  | n :: ns, vs, h => by
    unfold RepL at h
    obtain ⟨v, r, rfl, h1, h2⟩ := h
    unfold Rep at h1
    subst h1
    rw [RepL.bools h2]
    rfl
end

/-! ### the body's slots -/
inductive Sl where
  | un | val (d : PyData) | own (d : PyData) | lck (d : PyData) | kyd (l : List (Int × Int)) | mem (l : List (Int × Int))
def Sl.isO : Sl → Bool
  | .own _ => true
  | .lck _ => true
  | .mem _ => true
  | _ => false
abbrev Ev := List Sl
def Ev.get (r : Ev) (i : Nat) : Sl := r.getD i .un
def SlRep (K : PySem.W.Frag) (B Hf H : Hp) : Sl → Option (Option V) → Prop
  | .un, _ => True
  | .val d, s => ∃ v, s = some (some v) ∧ Rep K Hf d v
  | .own d, s => ∃ p, s = some (some (.ref p)) ∧ ORep K Hf H d (.ref p) ∧ B p = none
  | .lck d, s => ∃ p, s = some (some (.ref p)) ∧ ORep K Hf H d (.ref p) ∧ B p = none
  | .kyd l, s => ∃ p o, s = some (some (.ref p)) ∧ Hf p = some (.frz o (.dK (dV l)))
  | .mem l, s => ∃ p, s = some (some (.ref p)) ∧ ORep K Hf H (.dict (dL l)) (.ref p) ∧ B p = none
structure StR (K : PySem.W.Frag) (n : Nat) (Bf B Hf H : Hp) (r : Ev) (s : L2.St) : Prop where
  ln : r.length = n
  len : r.length = s.length
  sl : ∀ i, SlRep K B Hf H (r.get i) s[i]?
  sep : ∀ i j p, i ≠ j → (r.get i).isO = true → (r.get j).isO = true → s[i]? = some (some (.ref p)) → s[j]? = some (some (.ref p)) → False
  e : Ext Bf B Hf H
section
variable {K : PySem.W.Frag} {n : Nat} {Bf B H H' Hf Hf' : Hp} {r : Ev} {s : L2.St}
theorem SlRep.ext {x : Sl} {o : Option (Option V)} (z : Ext Hf H Hf' H') (h : SlRep K B Hf H x o) : SlRep K B Hf' H' x o := by
  cases x with
  | un => exact trivial
  | val d =>
    obtain ⟨v, e, h⟩ := h
    exact ⟨v, e, Rep.mono z.b _ _ h⟩
  | own d =>
    obtain ⟨v, e, h, h'⟩ := h
    exact ⟨v, e, h.ext z, h'⟩
  | lck d =>
    obtain ⟨v, e, h, h'⟩ := h
    exact ⟨v, e, h.ext z, h'⟩
  | kyd l =>
    obtain ⟨p, o, e, h⟩ := h
    exact ⟨p, o, e, z.b _ _ h⟩
  | mem l =>
    obtain ⟨v, e, h, h'⟩ := h
    exact ⟨v, e, h.ext z, h'⟩
theorem StR.ext (R : StR K n Bf B Hf H r s) (z : Ext Hf H Hf' H') : StR K n Bf B Hf' H' r s :=
  ⟨R.ln, R.len, fun i => (R.sl i).ext z, R.sep, R.e.trans z⟩
theorem Ev.get_set_same {i : Nat} {x : Sl} (h : i < r.length) : (Ev.get (r.set i x) i) = x := by
  unfold Ev.get
  rw [List.getD_eq_getElem?_getD, List.getElem?_set_self h]
  rfl
theorem Ev.get_set_ne {i j : Nat} {x : Sl} (h : i ≠ j) : (Ev.get (r.set i x) j) = r.get j := by
  unfold Ev.get
  rw [List.getD_eq_getElem?_getD, List.getElem?_set_ne h, ← List.getD_eq_getElem?_getD]
theorem Ev.get_out {i : Nat} (h : r.length ≤ i) : r.get i = .un := by
  unfold Ev.get
  rw [List.getD_eq_getElem?_getD, List.getElem?_eq_none h]
  rfl
/-- a slot that holds nothing of one's own takes frozen data -/
theorem StR.setV {i : Nat} {d : PyData} {v : V} (R : StR K n Bf B Hf H r s) (h : Rep K Hf d v) (hi : i < n) : StR K n Bf B Hf H (r.set i (.val d)) (s.set i (some v)) := by
  have hi : i < r.length := by rw [R.ln]; exact hi
  refine ⟨by rw [List.length_set]; exact R.ln, by rw [List.length_set, List.length_set]; exact R.len, fun j => ?_, fun j k p hjk h1 h2 e1 e2 => ?_, R.e⟩
  · by_cases hj : i = j
    · subst hj
      rw [Ev.get_set_same hi, List.getElem?_set_self (by rw [← R.len]; exact hi)]
      exact ⟨v, rfl, h⟩
    · rw [Ev.get_set_ne hj, List.getElem?_set_ne hj]
      exact R.sl j
  · have nj : i ≠ j := fun z => by
      subst z
      rw [Ev.get_set_same hi] at h1
      cases h1
    have nk : i ≠ k := fun z => by
      subst z
      rw [Ev.get_set_same hi] at h2
      cases h2
    rw [Ev.get_set_ne nj] at h1
    rw [Ev.get_set_ne nk] at h2
    rw [List.getElem?_set_ne nj] at e1
    rw [List.getElem?_set_ne nk] at e2
    exact R.sep j k p hjk h1 h2 e1 e2
/-- a slot takes a list of one's own, at an address that no other slot of one's own holds -/
theorem StR.setO {i : Nat} {x : Sl} {d : PyData} {p : Addr} (R : StR K n Bf B Hf H r s) (hx : x = .own d ∨ x = .lck d) (h : ORep K Hf H d (.ref p)) (hb : B p = none) (hi : i < n)
    (hn : ∀ j, j ≠ i → (r.get j).isO = true → s[j]? ≠ some (some (.ref p))) : StR K n Bf B Hf H (r.set i x) (s.set i (some (.ref p))) := by
  have hi : i < r.length := by rw [R.ln]; exact hi
  have hs : (s.set i (some (.ref p)))[i]? = some (some (.ref p)) := List.getElem?_set_self (by rw [← R.len]; exact hi)
  refine ⟨by rw [List.length_set]; exact R.ln, by rw [List.length_set, List.length_set]; exact R.len, fun j => ?_, fun j k q hjk h1 h2 e1 e2 => ?_, R.e⟩
  · by_cases hj : i = j
    · subst hj
      rw [Ev.get_set_same hi, hs]
      rcases hx with rfl | rfl
      · exact ⟨p, rfl, h, hb⟩
      · exact ⟨p, rfl, h, hb⟩
    · rw [Ev.get_set_ne hj, List.getElem?_set_ne hj]
      exact R.sl j
  · by_cases nj : i = j
    · subst nj
      have nk : i ≠ k := hjk
      rw [hs] at e1
      cases e1
      rw [Ev.get_set_ne nk] at h2
      rw [List.getElem?_set_ne nk] at e2
      exact hn k (Ne.symm nk) h2 e2
    · by_cases nk : i = k
      · subst nk
        rw [hs] at e2
        cases e2
        rw [Ev.get_set_ne nj] at h1
        rw [List.getElem?_set_ne nj] at e1
        exact hn j (Ne.symm nj) h1 e1
      · rw [Ev.get_set_ne nj] at h1
        rw [Ev.get_set_ne nk] at h2
        rw [List.getElem?_set_ne nj] at e1
        rw [List.getElem?_set_ne nk] at e2
        exact R.sep j k q hjk h1 h2 e1 e2
end
end CF
namespace CF
open PySem PySem.Spec PyProof.Rows L2

/-! ### the small language -/
inductive Bf where
  | len | max2 | min2 | maxL | minL | sum | all | list1 | tuple1 | int1 | str1 | sortI | sortP
inductive Ty where
  | int | bool | str | list | tuple
def Ty.nm : Ty → String
  | .int => "int" | .bool => "bool" | .str => "str" | .list => "list" | .tuple => "tuple"
inductive Tg where
  | one (i : Nat) | many (is : List Nat)
def Tg.slots : Tg → List Nat
  | .one i => [i]
  | .many is => is
mutual
inductive IE where
  | var (i : Nat) | kint (i : Int) | kstr (x : Str) | kbool (b : Bool) | knone
  | gint (x : Str) (i : Int)
  | bin (op : Operator) (a b : IE)
  | neg (a : IE) | no (a : IE)
  | cmp (op : CmpOp) (a b : IE)
  | chain (o1 o2 : CmpOp) (a b c : IE)
  | bop (op : BoolOp) (es : IEs)
  | call (f : Nat) (es : IEs)
  | blt (f : Bf) (es : IEs)
  | isi (a : IE) (t : Ty)
  | tup (es : IEs) | lst (es : IEs)
  | ix (a i : IE)
  | kix (j : Nat) (e : IE)
  | dic0
  | sl (a : IE) (lo hi : IEs)
  | rev (a : IE)
  | comp (elt : IE) (tg : Tg) (it : IIt) (ifs : IEs)
  | lrng (es : IEs)
  | sset (a : IE)
  | lset (a : IE)
  | index (a x : IE)
inductive IEs where
  | nil | cons (e : IE) (es : IEs)
inductive IIt where
  | seq (e : IE) | rng (es : IEs) | keys (j : Nat)
end
mutual
inductive IS where
  | skip | brk | cont
  | set (i : Nat) (e : IE)
  | setO (i : Nat) (e : IE)
  | setT (is : List Nat) (e : IE)
  | par2 (i j : Nat) (a b : IE)
  | swp (i a b : Nat)
  | mcal (i : Nat) (A E : IE) (f : Nat) (es : IEs) (m : Nat)
  | mcmp (i f : Nat) (es : IEs) (tg : Tg) (it : IIt) (m : Nat)
  | setI (i : Nat) (k e : IE)
  | app (i : Nat) (e : IE)
  | dput (i : Nat) (k e : IE)
  | rse
  | rsx (f : Nat)
  | drx (f : Nat) (es : IEs)
  | ins (i : Nat) (k e : IE)
  | drop (e : IE)
  | ife (c : IE) (a b : ISs)
  | fors (tg : Tg) (it : IIt) (b : ISs)
  | whl (c : IE) (b : ISs)
  | ret (e : IE)
  | retO (e : IE)
  | retN
inductive ISs where
  | nil | cons (s : IS) (ss : ISs)
  | fgt (is : List Nat) (ss : ISs)
end
def IEs.len : IEs → Nat
  | .nil => 0
  | .cons _ es => es.len + 1

/-! ### what it means, over plain data -/
/-- a function's promise over plain data -/
abbrev Pm := List PyData → (PyData → Prop) → Prop
/-- to look at a value (a list of one's own may be looked at, not handed on) -/
def pk (a : IE) (r : Ev) (w : (PyData → Prop) → Prop) (Q : PyData → Prop) : Prop :=
  match a with
  | .var i => (match r.get i with | .val d => Q d | .own d => Q d | .lck d => Q d | _ => False)
  | _ => w Q
def tr (Q : Bool → Prop) (d : PyData) : Prop := ∃ b, d = .bool b ∧ Q b
def Ev.free (r : Ev) (i : Nat) : Bool := match r.get i with | .lck _ => false | .mem _ => false | _ => true
def Ev.freeAll (r : Ev) (is : List Nat) : Bool := is.all fun i => r.free i
def setAll (r : Ev) : List Nat → List PyData → Ev
  | i :: is, d :: ds => setAll (r.set i (.val d)) is ds
  | _, _ => r
def bindT (tg : Tg) (d : PyData) (r : Ev) (Q : Ev → Prop) : Prop := match tg with
  | .one i => r.free i = true ∧ Q (r.set i (.val d))
  | .many is => r.freeAll is = true ∧ ∃ ds, d = .tuple ds ∧ ds.length = is.length ∧ Q (setAll r is ds)
def wipeE (r : Ev) : List Nat → Ev
  | [] => r
  | i :: is => (wipeE r is).set i .un
def isOwnE (a : IE) (r : Ev) : Bool := match a with
  | .var i => (r.get i).isO
  | _ => false
def noOwn : IEs → Ev → Bool
  | .nil, _ => true
  | .cons e es, r => !isOwnE e r && noOwn es r
def IEs.fine (es : IEs) (r : Ev) : Bool := noOwn es r && decide (es.len ≤ 1000)

def binP (op : Operator) (x y : PyData) (Q : PyData → Prop) : Prop := match op, x, y with
  | .Add, .int i, .int j => Q (.int (i + j))
  | .Add, .str a, .str b => a.length + b.length ≤ 1000000 ∧ Q (.str (a ++ b))
  | .Add, .list a, .list b => a.length + b.length ≤ 1000000 ∧ Q (.list (a ++ b))
  | .Add, .tuple a, .tuple b => a.length + b.length ≤ 1000000 ∧ Q (.tuple (a ++ b))
  | .Sub, .int i, .int j => Q (.int (i - j))
  | .Mult, .int i, .int j => CMul i j ∧ Q (.int (i * j))
  | .Mult, .tuple a, .int k => a ≠ [] ∧ 0 ≤ k ∧ k ≤ 1000 ∧ a.length ≤ 1000 ∧ Q (.tuple (List.replicate k.toNat a).flatten)
  | .FloorDiv, .int i, .int j => CDiv i j ∧ Q (.int (i / j))
  | .Mod, .int i, .int j => 0 < j ∧ Q (.int (i % j))
  | .Pow, .int i, .int j => CPow i j ∧ Q (.int (i ^ j.toNat))
  | _, _, _ => False
def isNoneD (d : PyData) : Bool := match d with | .none => true | _ => false
def cmpP (op : CmpOp) (x y : PyData) (Q : Bool → Prop) : Prop := match op, x, y with
  | .Lt, .int i, .int j => Q (decide (i < j))
  | .LtE, .int i, .int j => Q (decide (i ≤ j))
  | .Gt, .int i, .int j => Q (decide (j < i))
  | .GtE, .int i, .int j => Q (decide (j ≤ i))
  | .Eq, a, b => SeqAt.shaped a = true ∧ SeqAt.shaped b = true ∧ Q (PyData.eqv a b)
  | .NotEq, a, b => SeqAt.shaped a = true ∧ SeqAt.shaped b = true ∧ Q (!PyData.eqv a b)
  | .Is, a, .none => Q (isNoneD a)
  | .IsNot, a, .none => Q (!isNoneD a)
  | .Is, .bool a, .bool b => Q (decide (a = b))
  | .IsNot, .bool a, .bool b => Q (!decide (a = b))
  | .In, a, .list ys => SeqAt.shaped a = true ∧ SeqAt.shaped (.list ys) = true ∧ Q (ys.any fun z => PyData.eqv z a)
  | .NotIn, a, .list ys => SeqAt.shaped a = true ∧ SeqAt.shaped (.list ys) = true ∧ Q (!ys.any fun z => PyData.eqv z a)
  | .In, a, .tuple ys => SeqAt.shaped a = true ∧ SeqAt.shaped (.tuple ys) = true ∧ Q (ys.any fun z => PyData.eqv z a)
  | .NotIn, a, .tuple ys => SeqAt.shaped a = true ∧ SeqAt.shaped (.tuple ys) = true ∧ Q (!ys.any fun z => PyData.eqv z a)
  | _, _, _ => False
def ixP (x y : PyData) (Q : PyData → Prop) : Prop := match x, y with
  | .list xs, .int i => ∃ d, atI xs i = some d ∧ Q d
  | .tuple xs, .int i => ∃ d, atI xs i = some d ∧ Q d
  | _, _ => False
def cutP (xs : List PyData) (lo hi : Option Int) : List PyData := (xs.drop (HT.sIx xs.length 0 lo)).take (HT.sIx xs.length xs.length hi - HT.sIx xs.length 0 lo)
def slP (x : PyData) (lo hi : Option Int) (Q : PyData → Prop) : Prop := match x with
  | .list xs => Q (.list (cutP xs lo hi))
  | .tuple xs => Q (.tuple (cutP xs lo hi))
  | _ => False
def ltD : PyData → PyData → Prop
  | .tuple [.int a, .int b], .tuple [.int c, .int d] => a < c ∨ (a = c ∧ b ≤ d)
  | _, _ => False
def bltP (f : Bf) (ds : List PyData) (Q : PyData → Prop) : Prop := match f, ds with
  | .len, [.list xs] => Q (.int xs.length)
  | .len, [.tuple xs] => Q (.int xs.length)
  | .max2, [.int i, .int j] => Q (.int (max i j))
  | .min2, [.int i, .int j] => Q (.int (min i j))
  | .maxL, [.list xs] => ∃ ns : List Int, xs = ns.map PyData.int ∧ 0 < ns.length ∧ ∀ m, m ∈ ns → (∀ y, y ∈ ns → y ≤ m) → Q (.int m)
  | .minL, [.list xs] => ∃ ns : List Int, xs = ns.map PyData.int ∧ 0 < ns.length ∧ ∀ m, m ∈ ns → (∀ y, y ∈ ns → m ≤ y) → Q (.int m)
  | .sum, [.list xs] => ∃ ns : List Int, xs = ns.map PyData.int ∧ Q (.int ns.sum)
  | .all, [.list xs] => ∃ bs : List Bool, xs = bs.map PyData.bool ∧ Q (.bool (bs.all id))
  | .list1, [.list xs] => Q (.list xs)
  | .list1, [.tuple xs] => Q (.list xs)
  | .tuple1, [.list xs] => Q (.tuple xs)
  | .tuple1, [.tuple xs] => Q (.tuple xs)
  | .int1, [.int i] => Q (.int i)
  | .int1, [.bool b] => Q (.int (if b then 1 else 0))
  | .str1, [.int i] => i.natAbs.log2 < 1920 ∧ Q (.str (toString i))
  | .sortI, [.list xs] => ∃ ns : List Int, xs = ns.map PyData.int ∧ ns.length < 64 ∧ ∀ ns' : List Int, ns'.Perm ns → ns'.Pairwise (· ≤ ·) → Q (.list (ns'.map PyData.int))
  | .sortP, [.list xs] => (∀ x ∈ xs, ∃ i j, x = .tuple [.int i, .int j]) ∧ ∀ ys : List PyData, ys.Perm xs → ys.Pairwise ltD → Q (.list ys)
  | _, _ => False
def isT (d : PyData) (t : Ty) : Bool := match d, t with
  | .int _, .int => true
  | .bool _, .int => true
  | .bool _, .bool => true
  | .str _, .str => true
  | .list _, .list => true
  | .tuple _, .tuple => true
  | _, _ => false
def rngP (ds : List PyData) (Q : List PyData → Prop) : Prop := match ds with
  | [.int n] => (-(2 ^ 62) ≤ n ∧ n < 2 ^ 62) ∧ Q ((List.range n.toNat).map fun i => .int (0 + (i : Nat)))
  | [.int a, .int b] => (-(2 ^ 62) ≤ a ∧ a < 2 ^ 62 ∧ -(2 ^ 62) ≤ b ∧ b < 2 ^ 62) ∧ Q ((List.range (b - a).toNat).map fun i => .int (a + (i : Nat)))
  | [.int a, .int b, .int c] => ∃ n, RgC a b c n ∧ Q ((List.range n).map fun i => .int (a + (i : Nat) * c))
  | _ => False
def itP (d : PyData) (Q : List PyData → Prop) : Prop := match d with
  | .list xs => Q xs
  | .tuple xs => Q xs
  | _ => False
def partP (ds : List PyData) (Q : Option Int → Prop) : Prop := match ds with
  | [] => Q none
  | [.int i] => Q (some i)
  | _ => False
def compL (step : PyData → (Option PyData → Prop) → Prop) : List PyData → (List PyData → Prop) → Prop
  | [], Q => Q []
  | x :: xs, Q => step x fun o => compL step xs fun ys => Q (o.toList ++ ys)
def lrngP (d : List PyData) (Q : PyData → Prop) : Prop := match d with
  | [.int b] => (-(2 ^ 62) ≤ b ∧ b ≤ 1000000) ∧ Q (.list ((List.range b.toNat).map fun i => .int (i : Nat)))
  | [.int a, .int b] => (0 ≤ a ∧ a ≤ 1000000 ∧ 0 ≤ b ∧ b ≤ 1000000) ∧ Q (.list ((List.range (b - a).toNat).map fun i => .int (a + (i : Nat))))
  | _ => False

def dgetL (l : List (Int × Int)) (i : Int) : Option Int := (l.find? fun p => decide (p.1 = i)).map (·.2)
def dputL (l : List (Int × Int)) (k v : Int) : List (Int × Int) := if (l.any fun p => decide (p.1 = k)) = true then l.map (fun p => if p.1 = k then (p.1, v) else p) else l ++ [(k, v)]
/-- a slot that holds a dict: one's own, or one that is walked -/
def dictS (s : Sl) (Q : List (Int × Int) → Prop) : Prop := ∃ l, (s = .kyd l ∨ s = .own (.dict (dL l))) ∧ Q l
/-- what a def raises, as an answer: an exception of the class of that name -/
def excD (x : Str) : PyData := .dict [(.str x, .none)]
def isExcD (d : PyData) : Bool := match d with | .dict [(.str _, .none)] => true | _ => false
def revP (x : PyData) (Q : PyData → Prop) : Prop := match x with
  | .list xs => Q (.list xs.reverse)
  | .tuple xs => Q (.tuple xs.reverse)
  | _ => False

mutual
def wpE (G : Nat → Pm) : IE → Ev → (PyData → Prop) → Prop
  | .var i, r, Q => (match r.get i with | .val d => Q d | _ => False)
  | .kint i, _, Q => Q (.int i)
  | .kstr x, _, Q => Q (.str x)
  | .kbool b, _, Q => Q (.bool b)
  | .knone, _, Q => Q .none
  | .gint _ i, _, Q => Q (.int i)
  | .bin op a b, r, Q => pk a r (wpE G a r) fun x => pk b r (wpE G b r) fun y => binP op x y Q
  | .neg a, r, Q => wpE G a r fun x => ∃ i, x = .int i ∧ Q (.int (-i))
  | .no a, r, Q => wpE G a r (tr fun b => Q (.bool (!b)))
  | .cmp op a b, r, Q => pk a r (wpE G a r) fun x => pk b r (wpE G b r) fun y => cmpP op x y fun t => Q (.bool t)
  | .chain o1 o2 a b c, r, Q => wpE G a r fun x => wpE G b r fun y => cmpP o1 x y fun t => if t = true then wpE G c r fun z => cmpP o2 y z fun t => Q (.bool t) else Q (.bool false)
  | .bop op es, r, Q => wpBop G op es r Q
  | .call f es, r, Q => wpEs G es r fun ds => G f ds fun d => (flat d = true ∨ noOwn es r = true) ∧ Q d
  | .blt f es, r, Q => wpEs G es r fun ds => bltP f ds Q
  | .isi a t, r, Q => pk a r (wpE G a r) fun x => Q (.bool (isT x t))
  | .tup es, r, Q => wpEs G es r fun ds => es.fine r = true ∧ Q (.tuple ds)
  | .lst es, r, Q => wpEs G es r fun ds => es.fine r = true ∧ Q (.list ds)
  | .ix a i, r, Q => pk a r (wpE G a r) fun x => wpE G i r fun y => ixP x y Q
  | .dic0, _, Q => Q (.dict (dL []))
  | .kix j e, r, Q => dictS (r.get j) fun l => wpE G e r fun y => ∃ i, y = .int i ∧ ∃ v, dgetL l i = some v ∧ Q (.int v)
  | .sl a lo hi, r, Q => pk a r (wpE G a r) fun x => wpEs G lo r fun l => partP l fun lo => wpEs G hi r fun h => partP h fun hi => slP x lo hi Q
  | .rev a, r, Q => pk a r (wpE G a r) fun x => revP x Q
  | .comp elt tg it ifs, r, Q => wpIt G it r fun items => items.length ≤ 1000000 ∧
      compL (fun x k => bindT tg x (wipeE r tg.slots) fun r1 => wpIfs G ifs r1 fun b => if b = true then wpE G elt r1 fun y => k (some y) else k none) items fun ys => Q (.list ys)
  | .lrng es, r, Q => wpEs G es r fun ds => lrngP ds Q
  | .sset a, r, Q => pk a r (wpE G a r) fun x => ∃ ns : List Int, x = .list (ns.map PyData.int) ∧ ns.length < 64 ∧ ∀ ns' : List Int, ns'.Nodup → (∀ n, n ∈ ns' ↔ n ∈ ns) → ns'.Pairwise (· ≤ ·) → Q (.list (ns'.map PyData.int))
  | .lset a, r, Q => pk a r (wpE G a r) fun x => ∃ ns : List Int, x = .list (ns.map PyData.int) ∧ ns.length < 64 ∧ ns.Nodup ∧ Q (.int ns.length)
  | .index a x, r, Q => pk a r (wpE G a r) fun a => ∃ ys, a = .list ys ∧ wpE G x r fun x => ∃ j z, SeqAt.shaped a = true ∧ SeqAt.shaped x = true ∧ ys[j]? = some z ∧ PyData.eqv z x = true ∧ (∀ (m : Nat) z', m < j → ys[m]? = some z' → PyData.eqv z' x = false) ∧ Q (.int (j : Nat))
def wpEs (G : Nat → Pm) : IEs → Ev → (List PyData → Prop) → Prop
  | .nil, _, Q => Q []
  | .cons e es, r, Q => pk e r (wpE G e r) fun d => wpEs G es r fun ds => Q (d :: ds)
def wpBop (G : Nat → Pm) (op : BoolOp) : IEs → Ev → (PyData → Prop) → Prop
  | .nil, _, Q => False
  | .cons e es, r, Q => (match es with
    | .nil => wpE G e r Q
    | .cons _ _ => wpE G e r (tr fun b => if b = (match op with | .And => true | .Or => false) then wpBop G op es r Q else Q (.bool b)))
def wpIfs (G : Nat → Pm) : IEs → Ev → (Bool → Prop) → Prop
  | .nil, _, Q => Q true
  | .cons e es, r, Q => (match es with
    | .nil => wpE G e r (tr Q)
    | .cons _ _ => False)
def wpIt (G : Nat → Pm) : IIt → Ev → (List PyData → Prop) → Prop
  | .seq e, r, Q => pk e r (wpE G e r) fun d => itP d Q
  | .rng es, r, Q => wpEs G es r fun ds => rngP ds Q
  | .keys j, r, Q => ∃ l, r.get j = .kyd l ∧ Q (l.map fun p => .int p.1)
end

def ownD (s : Sl) (Q : List (Int × Int) → Prop) : Prop := ∃ l, s = .own (.dict (dL l)) ∧ Q l
def ownL (s : Sl) (Q : List PyData → Prop) : Prop := match s with | .own (.list xs) => Q xs | _ => False
structure Kt where
  nx : Ev → Prop
  rt : PyData → Prop
  bk : Ev → Prop := fun _ => False
  ct : Ev → Prop := fun _ => False
def lockIt (it : IIt) (r : Ev) : Ev := match it with
  | .seq (.var j) => (match r.get j with | .own d => r.set j (.lck d) | _ => r)
  | _ => r
def unlockIt (it : IIt) (r0 r : Ev) : Ev := match it with
  | .seq (.var j) => (match r0.get j with | .own d => r.set j (.own d) | _ => r)
  | _ => r
def forL (step : PyData → Ev → Kt → Prop) : List PyData → Kt → Ev → Prop
  | [], D, r => D.nx r
  | x :: xs, D, r => step x r { nx := forL step xs D, ct := forL step xs D, bk := D.nx, rt := D.rt }
/-- one after another, the dict handed on -/
def memL (step : PyData → List (Int × Int) → (PyData → List (Int × Int) → Prop) → Prop) : List PyData → List (Int × Int) → List PyData → (List PyData → List (Int × Int) → Prop) → Prop
  | [], l, acc, K => K acc l
  | x :: xs, l, acc, K => step x l fun v l' => memL step xs l' (acc ++ [v]) K
mutual
def wpS (G : Nat → Pm) : IS → Ev → Kt → Prop
  | .skip, r, D => D.nx r
  | .brk, r, D => D.bk r
  | .cont, r, D => D.ct r
  | .set i e, r, D => wpE G e r fun d => r.free i = true ∧ D.nx (r.set i (.val d))
  | .setO i e, r, D => wpE G e r fun d => flat d = false ∧ r.free i = true ∧ D.nx (r.set i (.own d))
  | .setT is e, r, D => wpE G e r fun d => r.freeAll is = true ∧ ∃ ds, d = .tuple ds ∧ ds.length = is.length ∧ D.nx (setAll r is ds)
  | .par2 i j a b, r, D => wpE G a r fun x => wpE G b r fun y => r.free i = true ∧ r.free j = true ∧ D.nx ((r.set i (.val x)).set j (.val y))
  | .swp i a b, r, D => ownL (r.get i) fun xs => ∃ (n m : Int) (jn jm : Nat) (dn dm : PyData), r.get a = .val (.int n) ∧ r.get b = .val (.int m) ∧ ixN xs.length n = some jn ∧ ixN xs.length m = some jm ∧ xs[jn]? = some dn ∧ xs[jm]? = some dm ∧ D.nx (r.set i (.own (.list ((xs.set jn dm).set jm dn))))
  | .mcal i A E f es m, r, D => wpE G A r fun a => ∃ ai, a = .int ai ∧ wpE G E r fun e => ∃ ei, e = .int ei ∧ noOwn es r = true ∧ wpEs G es r fun ds => ∃ l, r.get m = .mem l ∧ G f (ds ++ [.dict (dL l)]) fun d => ∃ v l', d = .tuple [.int v, .dict (dL l')] ∧ r.free i = true ∧ D.nx ((r.set m (.mem l')).set i (.val (.int (max ai (ei + v)))))
  | .mcmp i f es tg it m, r, D => wpIt G it (r.set m .un) fun items => items.length ≤ 1000000 ∧ ∃ l, r.get m = .own (.dict (dL l)) ∧ i ≠ m ∧ r.free i = true ∧ memL (fun x l K => bindT tg x (wipeE (r.set m .un) tg.slots) fun r1 => noOwn es r1 = true ∧ wpEs G es r1 fun ds => G f (ds ++ [.dict (dL l)]) fun d => ∃ v l', d = .tuple [v, .dict (dL l')] ∧ K v l') items l [] fun acc l' => D.nx ((r.set m (.own (.dict (dL l')))).set i (.val (.list acc)))
  | .setI i k e, r, D => ownL (r.get i) fun xs => wpE G e r fun d => wpE G k r fun kd => ∃ n j, kd = .int n ∧ ixN xs.length n = some j ∧ D.nx (r.set i (.own (.list (xs.set j d))))
  | .app i e, r, D => ownL (r.get i) fun xs => wpE G e r fun d => xs.length < 1000000 ∧ D.nx (r.set i (.own (.list (xs ++ [d]))))
  | .ins i k e, r, D => ownL (r.get i) fun xs => wpE G k r fun kd => wpE G e r fun d => ∃ n, kd = .int n ∧ xs.length < 1000000 ∧ 0 ≤ n ∧ n < 2 ^ 62 ∧ D.nx (r.set i (.own (.list (xs.take n.toNat ++ [d] ++ xs.drop n.toNat))))
  | .dput i k e, r, D => ownD (r.get i) fun l => wpE G e r fun d => wpE G k r fun kd => ∃ n, kd = .int n ∧ ∃ m, d = .int m ∧ l.length < 1000000 ∧ D.nx (r.set i (.own (.dict (dL (dputL l n m)))))
  | .rse, r, D => False
  | .rsx f, r, D => G f [] D.rt
  | .drx f es, r, D => wpEs G es r fun ds => G f ds fun d => (isExcD d = true → D.rt d) ∧ (isExcD d = false → D.nx r)
  | .drop e, r, D => wpE G e r fun _ => D.nx r
  | .ife c a b, r, D => wpE G c r (tr fun t => if t = true then wpSs G a r D else wpSs G b r D)
  | .fors tg it b, r, D => wpIt G it r fun items => forL (fun x r1 D1 => bindT tg x r1 fun r2 => wpSs G b r2 D1) items { D with nx := fun r' => D.nx (unlockIt it r r') } (lockIt it r)
  | .whl c b, r, D => ∃ I : Nat → Ev → Prop, (∃ m, I m r) ∧ ∀ m r, I m r → wpE G c r (tr fun t => if t = true then
      wpSs G b r { nx := fun r' => ∃ m', m' < m ∧ I m' r', ct := fun r' => ∃ m', m' < m ∧ I m' r', bk := D.nx, rt := D.rt } else D.nx r)
  | .ret e, r, D => pk e r (wpE G e r) D.rt
  | .retO e, r, D => (match e with | .var i => (match r.get i with | .own d => D.rt d | _ => False) | _ => wpE G e r fun d => flat d = false ∧ D.rt d)
  | .retN, r, D => D.rt .none
def wpSs (G : Nat → Pm) : ISs → Ev → Kt → Prop
  | .nil, r, D => D.nx r
  | .cons s ss, r, D => wpS G s r { D with nx := fun r' => wpSs G ss r' D }
  | .fgt is ss, r, D => r.freeAll is = true ∧ wpSs G ss (wipeE r is) D
end
end CF
namespace CF
open PySem PySem.Spec PyProof.Rows L2

/-! ### values' rules, over plain data -/
def SemR (K : PySem.W.Frag) (r : R2) (P : PyData → PyData → (PyData → Prop) → Prop) : Prop :=
  ∀ (Hf H : Hp) (d1 d2 : PyData) (v1 v2 : V) (Q : PyData → Prop) (Qv : VK), Same Hf H → PRep K Hf H d1 v1 → PRep K Hf H d2 v2 → P d1 d2 Q →
    (∀ d v Hf' H', Ext Hf H Hf' H' → Rep K Hf' d v → Q d → Qv v H') → r v1 v2 H Qv
section
variable {K : PySem.W.Frag}
theorem SemR.inl {r r' : R2} {P} (h : SemR K r P) : SemR K (fun x y H Q => r x y H Q ∨ r' x y H Q) P := fun Hf H d1 d2 v1 v2 Q Qv s h1 h2 p k => .inl (h Hf H d1 d2 v1 v2 Q Qv s h1 h2 p k)
theorem SemR.inr {r r' : R2} {P} (h : SemR K r' P) : SemR K (fun x y H Q => r x y H Q ∨ r' x y H Q) P := fun Hf H d1 d2 v1 v2 Q Qv s h1 h2 p k => .inr (h Hf H d1 d2 v1 v2 Q Qv s h1 h2 p k)
/-- list + list, as they are read -/
def rCatQ (K : PySem.W.Frag) : R2 := fun x y H Q => ∃ l b xs zs, x = .ref l ∧ y = .ref b ∧ SqL K H l xs ∧ SqL K H b zs ∧ xs.length + zs.length ≤ sizeLine ∧ ∀ p, H p = none → Q (.ref p) (upd H p (.lst (xs ++ zs)))
theorem op_catQ {X : Cx} : OpR X (binaryOp .Add) (rCatQ X.K) := by
  intro pins s σ H x y v u Q I rx ry h
  obtain ⟨l, b, xs, zs, rfl, rfl, hH, hB, hz, q⟩ := h
  cases rx
  cases ry
  obtain ⟨its, r, pl, z⟩ := I.list hH
  obtain ⟨its2, r2, pl2, z2⟩ := I.list hB
  obtain ⟨⟨cls, dd, data, sl⟩, ho, hc, n, hd⟩ := pl.isList
  obtain ⟨⟨cls2, dd2, data2, sl2⟩, ho2, hc2, n2, hd2⟩ := pl2.isList
  simp only at hc hd hc2 hd2
  subst hc hd hc2 hd2
  have e : its.toArray ++ its2.toArray = (its ++ its2).toArray := by simp
  have hl := r.length
  have hl2 := r2.length
  refine concat_meets ⟨_, ho, rfl⟩ ⟨_, ho2, rfl⟩ noFill_list_add seq_list_add PySem.F.slot_list_add PySem.F.entry_list_add (PySem.F.args_list_add_2 _ _) (PyProof.Rows.list_addW l b its.toArray its2.toArray n n2 dd dd2 sl sl2 (by rw [List.size_toArray, List.size_toArray]; omega)) ⟨ho, ho2, ?_⟩
  rw [e]
  exact ⟨.ref _, _, I.lnew (t' := s.toks) (r.append r2) (by rw [List.length_append]; omega), rfl, q _ I.fresh⟩
theorem mil_line {n : Nat} (h : n ≤ 1000000) : n ≤ sizeLine := by rw [sizeLine_eq]; omega
def addP (x y : PyData) (Q : PyData → Prop) : Prop := binP .Add x y Q
def rAddAll (K : PySem.W.Frag) : R2 := fun x y H Q => rI0 (fun i j => .int (i + j)) x y H Q ∨ ((∃ i j, x = .str i ∧ y = .str j ∧ i.length + j.length ≤ sizeLine ∧ Q (.str (i ++ j)) H) ∨ (rCatQ K x y H Q ∨ rCatA K x y H Q))
theorem op_addAll {X : Cx} : OpR X (binaryOp .Add) (rAddAll X.K) := op_add.or (op_add_str.or (op_catQ.or op_catA))
theorem sem_addAll : SemR K (rAddAll K) (binP .Add) := by
  intro Hf H d1 d2 v1 v2 Q Qv s h1 h2 p k
  cases d1 <;> cases d2 <;> simp only [binP] at p <;> try exact p.elim
  · rename_i i j
    exact .inl ⟨i, j, h1.int, h2.int, k _ _ _ _ (Ext.refl s) rep_int p⟩
  · rename_i i j
    exact .inr (.inl ⟨i, j, h1.str, h2.str, mil_line p.1, k _ _ _ _ (Ext.refl s) rep_str p.2⟩)
  · rename_i a b
    obtain ⟨l, vs, rfl, q1, r1⟩ := h1.list s
    obtain ⟨l2, vs2, rfl, q2, r2⟩ := h2.list s
    have e1 := r1.length
    have e2 := r2.length
    refine .inr (.inr (.inl ⟨l, l2, vs, vs2, rfl, rfl, q1, q2, mil_line (by have := p.1; omega), fun q hq => ?_⟩))
    exact k _ _ _ _ (Ext.new s hq) (rep_newL (s.free hq) (r1.append r2)) p.2
  · rename_i a b
    have h1' := h1
    have h2' := h2
    obtain ⟨l, vs, rfl, q1, r1⟩ := h1.tuple s
    obtain ⟨l2, vs2, rfl, q2, r2⟩ := h2.tuple s
    have e1 := r1.length
    have e2 := r2.length
    refine .inr (.inr (.inr ⟨l, l2, vs, vs2, rfl, rfl, SqT.of q1, SqT.of q2, mil_line (by have := p.1; omega), fun z => ?_, fun z z2 => ?_, fun z z2 q hq => ?_⟩))
    · subst z
      have : a = [] := List.eq_nil_of_length_eq_zero (by rw [e1]; rfl)
      subst this
      rcases h2' with h | h
      · exact k _ _ _ _ (Ext.refl s) h (by simpa using p.2)
      · exact h.elim
    · subst z2
      have : b = [] := List.eq_nil_of_length_eq_zero (by rw [e2]; rfl)
      subst this
      rcases h1' with h | h
      · exact k _ _ _ _ (Ext.refl s) h (by simpa using p.2)
      · exact h.elim
    · exact k _ _ _ _ (Ext.new s hq) (rep_newT (s.free hq) (r1.append r2)) p.2
theorem tuple_mul1 (l : Addr) (items : Array Value) (n : Nat) (dd : Option Addr) (sl : Array (Option Value)) (u : Tok) :
    Meets (Builtin.«tuple.__mul__» ⟨[.ref l, .int 1 u], []⟩) (fun _ R s => s.heap.get? l = some { cls := .type "tuple", dict := dd, data := .seq items n, slots := sl } ∧
      R (.ok (.ret (Value.ref l))) s) :=
  .of_wp fun prog w A R s h => by
    obtain ⟨hp, g, d, tk, os⟩ := s
    obtain ⟨hl, h⟩ := h
    have f1 := AutoSeq1.idx_int
    wp_walk using wpAny_loadPart' hl
    exact ⟨_, rfl, h⟩
theorem tuple_mul0 (l : Addr) (items : Array Value) (n : Nat) (dd : Option Addr) (sl : Array (Option Value)) (u : Tok) (hi : items.isEmpty = false) :
    Meets (Builtin.«tuple.__mul__» ⟨[.ref l, .int 0 u], []⟩) (fun _ R s => s.heap.get? l = some { cls := .type "tuple", dict := dd, data := .seq items n, slots := sl } ∧
      R (.ok (.ret (Value.ref s.heap.objs.size))) { s with heap := s.heap.push { cls := Value.type "tuple", data := Data.seq #[] }, toks := s.toks }) :=
  .of_wp fun prog w A R s h => by
    obtain ⟨hp, g, d, tk, os⟩ := s
    obtain ⟨hl, h⟩ := h
    have f1 := AutoSeq1.idx_int
    wp_walk using wpAny_loadPart' hl
    exact ⟨_, rfl, h⟩
/-- tuple * 1, tuple * 0 -/
def rRep01 (K : PySem.W.Frag) : R2 := fun x y H Q => ∃ l k xs, x = .ref l ∧ y = .int k ∧ SqT K H l xs ∧ xs ≠ [] ∧ (k = 1 ∧ Q (.ref l) H ∨ k = 0 ∧ ∀ p, H p = none → Q (.ref p) (upd H p (.tup [])))
theorem op_rep01 {X : Cx} : OpR X (binaryOp .Mult) (rRep01 X.K) := by
  intro pins s σ H x y v u Q I rx ry h
  obtain ⟨l, k, xs, rfl, rfl, hT, hne, h⟩ := h
  cases rx
  obtain ⟨t, rfl⟩ := ry
  obtain ⟨its, r, ⟨⟨cls, dd, data, sl⟩, ho, hc, n, hd⟩, hs⟩ := I.tuple hT
  simp only at hc hd
  subst hc hd
  have hle : its.length = xs.length := r.length.symm
  have hi : its.toArray.isEmpty = false := by
    cases its with
    | nil => exact absurd (List.eq_nil_of_length_eq_zero hle.symm) hne
    | cons a b => rfl
  rcases h with ⟨rfl, q⟩ | ⟨rfl, q⟩
  · refine wpAny_binaryOp_repeat_ref (T := "tuple") (U := "int") (by decide) ⟨_, ho, rfl⟩ (fun s' => typeIs_int s' 1 t) noFill_tuple_mul F.fills_int_mul F.slot_int_rmul repeat_tuple F.slot_int_index.lookup
      (call_meets F.slot_int_rmul (typeIs_int s 1 t) F.entry_int_rmul (F.args_int_rmul_2 _ _) (int_rmul_tuple 1 t l its.toArray n dd sl)
        ⟨ho, rfl, ⟨_, ho, rfl⟩, call_meets F.slot_tuple_mul ⟨_, ho, rfl⟩ F.entry_tuple_mul (F.args_tuple_mul_2 _ _) (tuple_mul1 l its.toArray n dd sl t) ⟨ho, ?_⟩⟩)
    exact ⟨.ref l, H, I, rfl, q⟩
  · refine wpAny_binaryOp_repeat_ref (T := "tuple") (U := "int") (by decide) ⟨_, ho, rfl⟩ (fun s' => typeIs_int s' 0 t) noFill_tuple_mul F.fills_int_mul F.slot_int_rmul repeat_tuple F.slot_int_index.lookup
      (call_meets F.slot_int_rmul (typeIs_int s 0 t) F.entry_int_rmul (F.args_int_rmul_2 _ _) (int_rmul_tuple 0 t l its.toArray n dd sl)
        ⟨ho, rfl, ⟨_, ho, rfl⟩, call_meets F.slot_tuple_mul ⟨_, ho, rfl⟩ F.entry_tuple_mul (F.args_tuple_mul_2 _ _) (tuple_mul0 l its.toArray n dd sl t hi) ⟨ho, ?_⟩⟩)
    refine ⟨.ref s.heap.objs.size, _, I.laid (t' := s.toks) (o := .tup []) (fun b ob q => Heap.get?_push_of_some _ q) (Nat.le_refl _) ?_, rfl, q _ (I.hok.fresh (Nat.le_refl _))⟩
    exact ⟨by show 0 ≤ sizeLine; exact Nat.zero_le _, [], .nil, IsTup.new _ _⟩
def rMulAll (K : PySem.W.Frag) : R2 := fun x y H Q => rI CMul (fun i j => .int (i * j)) x y H Q ∨ (rRepT K x y H Q ∨ rRep01 K x y H Q)
theorem op_mulAll {X : Cx} : OpR X (binaryOp .Mult) (rMulAll X.K) := op_mul.or (op_repT.or op_rep01)
theorem sem_mulAll : SemR K (rMulAll K) (binP .Mult) := by
  intro Hf H d1 d2 v1 v2 Q Qv s h1 h2 p k
  cases d1 <;> cases d2 <;> simp only [binP] at p <;> try exact p.elim
  · rename_i i j
    exact .inl ⟨i, j, h1.int, h2.int, p.1, k _ _ _ _ (Ext.refl s) rep_int p.2⟩
  · rename_i a j
    have h1' := h1
    obtain ⟨l, vs, rfl, q1, r1⟩ := h1.tuple s
    obtain ⟨p0, p1, p2, p3, p4⟩ := p
    have e1 := r1.length
    have hne : vs ≠ [] := fun z => by
      subst z
      exact p0 (List.eq_nil_of_length_eq_zero (by rw [e1]; rfl))
    rcases (by omega : 2 ≤ j ∨ j = 1 ∨ j = 0) with p1 | rfl | rfl
    · exact .inr (.inl ⟨l, j, vs, rfl, h2.int, SqT.of q1, hne, p1, p2, by omega, fun q hq => k _ _ _ _ (Ext.new s hq) (rep_newT (s.free hq) (r1.rep _)) p4⟩)
    · refine .inr (.inr ⟨l, 1, vs, rfl, h2.int, SqT.of q1, hne, .inl ⟨rfl, ?_⟩⟩)
      have e : (List.replicate (1 : Int).toNat a).flatten = a := by simp
      rw [e] at p4
      rcases h1' with h | h
      · exact k _ _ _ _ (Ext.refl s) h p4
      · exact h.elim
    · refine .inr (.inr ⟨l, 0, vs, rfl, h2.int, SqT.of q1, hne, .inr ⟨rfl, fun q hq => ?_⟩⟩)
      have e : (List.replicate (0 : Int).toNat a).flatten = [] := by simp
      rw [e] at p4
      exact k _ _ _ _ (Ext.new s hq) (rep_newT (s.free hq) RepL.nil) p4
theorem sem_sub : SemR K (rI0 (fun i j => .int (i - j))) (binP .Sub) := by
  intro Hf H d1 d2 v1 v2 Q Qv s h1 h2 p k
  cases d1 <;> cases d2 <;> simp only [binP] at p <;> try exact p.elim
  exact ⟨_, _, h1.int, h2.int, k _ _ _ _ (Ext.refl s) rep_int p⟩
theorem sem_fdiv : SemR K (rI CDiv (fun i j => .int (i / j))) (binP .FloorDiv) := by
  intro Hf H d1 d2 v1 v2 Q Qv s h1 h2 p k
  cases d1 <;> cases d2 <;> simp only [binP] at p <;> try exact p.elim
  exact ⟨_, _, h1.int, h2.int, p.1, k _ _ _ _ (Ext.refl s) rep_int p.2⟩
theorem sem_mod : SemR K (rI (fun _ j => 0 < j) (fun i j => .int (i % j))) (binP .Mod) := by
  intro Hf H d1 d2 v1 v2 Q Qv s h1 h2 p k
  cases d1 <;> cases d2 <;> simp only [binP] at p <;> try exact p.elim
  exact ⟨_, _, h1.int, h2.int, p.1, k _ _ _ _ (Ext.refl s) rep_int p.2⟩
theorem sem_pow : SemR K (rI CPow (fun i j => .int (i ^ j.toNat))) (binP .Pow) := by
  intro Hf H d1 d2 v1 v2 Q Qv s h1 h2 p k
  cases d1 <;> cases d2 <;> simp only [binP] at p <;> try exact p.elim
  exact ⟨_, _, h1.int, h2.int, p.1, k _ _ _ _ (Ext.refl s) rep_int p.2⟩
/-- every binary operator of the small language -/
theorem bin_ok {K : PySem.W.Frag} (op : Operator) : (∃ r, (∀ X : Cx, X.K = K → OpR X (binaryOp op) r) ∧ SemR K r (binP op)) ∨ ∀ x y Q, ¬ binP op x y Q := by
  cases op
  · exact .inl ⟨rAddAll K, fun X e => by rw [← e]; exact op_addAll, sem_addAll⟩
  · exact .inl ⟨_, fun X e => op_sub, sem_sub⟩
  · exact .inl ⟨rMulAll K, fun X e => by rw [← e]; exact op_mulAll, sem_mulAll⟩
  · exact .inr fun x y Q h => by cases x <;> cases y <;> exact h
  · exact .inr fun x y Q h => by cases x <;> cases y <;> exact h
  · exact .inl ⟨_, fun X e => op_mod, sem_mod⟩
  · exact .inl ⟨_, fun X e => op_pow, sem_pow⟩
  · exact .inr fun x y Q h => by cases x <;> cases y <;> exact h
  · exact .inr fun x y Q h => by cases x <;> cases y <;> exact h
  · exact .inr fun x y Q h => by cases x <;> cases y <;> exact h
  · exact .inr fun x y Q h => by cases x <;> cases y <;> exact h
  · exact .inr fun x y Q h => by cases x <;> cases y <;> exact h
  · exact .inl ⟨_, fun X e => op_fdiv, sem_fdiv⟩

/-! ### comparisons -/
def cmpD (op : CmpOp) (x y : PyData) (Q : PyData → Prop) : Prop := cmpP op x y fun t => Q (.bool t)
def rInT (K : PySem.W.Frag) : R2 := fun x y H Q => ∃ d ds, Dp K H x d ∧ Dp K H y (.tuple ds) ∧ SeqAt.shaped d = true ∧ SeqAt.shaped (.tuple ds) = true ∧ Q (.bl (ds.any fun z => PyData.eqv z d)) H
def rNotInT (K : PySem.W.Frag) : R2 := fun x y H Q => ∃ d ds, Dp K H x d ∧ Dp K H y (.tuple ds) ∧ SeqAt.shaped d = true ∧ SeqAt.shaped (.tuple ds) = true ∧ Q (.bl (!ds.any fun z => PyData.eqv z d)) H
theorem op_inT {X : Cx} (hu : X.A.units + 65 < cLine) : OpR X (compareOp .In) (rInT X.K) := by
  intro pins s σ H x y v u Q I rx ry h
  obtain ⟨d, ds, hd, he, sd, se, q⟩ := h
  obtain ⟨as, r1⟩ := Dp.reads I d x v hd rx
  obtain ⟨bs, r2⟩ := Dp.reads I (.tuple ds) y u he ry
  exact SeqAt.in_tuple_reads r2 r1 (SeqAt.canLay_of_shaped se) (SeqAt.canLay_of_shaped sd) (room_in_shaped sd hu) ⟨.bl _, H, I, rfl, q⟩
theorem op_notInT {X : Cx} (hu : X.A.units + 65 < cLine) : OpR X (compareOp .NotIn) (rNotInT X.K) := by
  intro pins s σ H x y v u Q I rx ry h
  obtain ⟨d, ds, hd, he, sd, se, q⟩ := h
  obtain ⟨as, r1⟩ := Dp.reads I d x v hd rx
  obtain ⟨bs, r2⟩ := Dp.reads I (.tuple ds) y u he ry
  exact SeqAt.notIn_tuple_reads r2 r1 (SeqAt.canLay_of_shaped se) (SeqAt.canLay_of_shaped sd) (room_in_shaped sd hu) ⟨.bl _, H, I, rfl, q⟩
theorem PRep.isNone {Hf H : Hp} {d : PyData} {v : V} (s : Same Hf H) (h1 : PRep K Hf H d v) : decide (v = V.non) = isNoneD d := by
  cases d with
  | none => rw [h1.none]; rfl
  | bool b => rw [h1.bool]; rfl
  | int i => rw [h1.int]; rfl
  | str i => rw [h1.str]; rfl
  | list xs => obtain ⟨a, vs, rfl, _⟩ := h1.list s; rfl
  | tuple xs => obtain ⟨a, vs, rfl, _⟩ := h1.tuple s; rfl
  | dict kvs =>
    have h := h1.full s
    unfold Rep at h
    obtain ⟨a, vs, rfl, _⟩ := h
    rfl
theorem cmp_ok {K : PySem.W.Frag} (op : CmpOp) : ∃ r, (∀ X : Cx, X.K = K → X.A.units + 66 < cLine → OpR X (compareOp op) r) ∧ SemR K r (cmpD op) := by
  cases op
  case Eq =>
    refine ⟨rEqD K, fun X e hu => by rw [← e]; exact op_eqD (by omega), fun Hf H d1 d2 v1 v2 Q Qv s h1 h2 p k => ?_⟩
    obtain ⟨p1, p2, p3⟩ : SeqAt.shaped d1 = true ∧ SeqAt.shaped d2 = true ∧ Q (.bool (PyData.eqv d1 d2)) := p
    exact ⟨d1, d2, Rep.shp p1 (h1.full s), Rep.shp p2 (h2.full s), p1, p2, k _ _ _ _ (Ext.refl s) rep_bool p3⟩
  case NotEq =>
    refine ⟨rNeD K, fun X e hu => by rw [← e]; exact op_neD (by omega), fun Hf H d1 d2 v1 v2 Q Qv s h1 h2 p k => ?_⟩
    obtain ⟨p1, p2, p3⟩ : SeqAt.shaped d1 = true ∧ SeqAt.shaped d2 = true ∧ Q (.bool (!PyData.eqv d1 d2)) := p
    exact ⟨d1, d2, Rep.shp p1 (h1.full s), Rep.shp p2 (h2.full s), p1, p2, k _ _ _ _ (Ext.refl s) rep_bool p3⟩
  case Lt =>
    refine ⟨_, fun X e hu => op_lt, fun Hf H d1 d2 v1 v2 Q Qv s h1 h2 p k => ?_⟩
    unfold cmpD at p
    cases d1 <;> cases d2 <;> simp only [cmpP] at p
    exact ⟨_, _, h1.int, h2.int, k _ _ _ _ (Ext.refl s) rep_bool p⟩
  case LtE =>
    refine ⟨_, fun X e hu => op_le, fun Hf H d1 d2 v1 v2 Q Qv s h1 h2 p k => ?_⟩
    unfold cmpD at p
    cases d1 <;> cases d2 <;> simp only [cmpP] at p
    exact ⟨_, _, h1.int, h2.int, k _ _ _ _ (Ext.refl s) rep_bool p⟩
  case Gt =>
    refine ⟨_, fun X e hu => op_gt, fun Hf H d1 d2 v1 v2 Q Qv s h1 h2 p k => ?_⟩
    unfold cmpD at p
    cases d1 <;> cases d2 <;> simp only [cmpP] at p
    exact ⟨_, _, h1.int, h2.int, k _ _ _ _ (Ext.refl s) rep_bool p⟩
  case GtE =>
    refine ⟨_, fun X e hu => op_ge, fun Hf H d1 d2 v1 v2 Q Qv s h1 h2 p k => ?_⟩
    unfold cmpD at p
    cases d1 <;> cases d2 <;> simp only [cmpP] at p
    exact ⟨_, _, h1.int, h2.int, k _ _ _ _ (Ext.refl s) rep_bool p⟩
  case Is =>
    refine ⟨_, fun X e hu => op_isN.or op_isBl, fun Hf H d1 d2 v1 v2 Q Qv s h1 h2 p k => ?_⟩
    unfold cmpD at p
    cases d2 <;> simp only [cmpP] at p
    · have e2 := h2.none
      subst e2
      refine .inl ⟨rfl, ?_⟩
      rw [PRep.isNone s h1]
      exact k _ _ _ _ (Ext.refl s) rep_bool p
    · cases d1 <;> simp only [cmpP] at p
      exact .inr ⟨_, _, h1.bool, h2.bool, k _ _ _ _ (Ext.refl s) rep_bool p⟩
  case IsNot =>
    refine ⟨_, fun X e hu => op_notN.or op_notBl, fun Hf H d1 d2 v1 v2 Q Qv s h1 h2 p k => ?_⟩
    unfold cmpD at p
    cases d2 <;> simp only [cmpP] at p
    · have e2 := h2.none
      subst e2
      refine .inl ⟨rfl, ?_⟩
      rw [PRep.isNone s h1]
      exact k _ _ _ _ (Ext.refl s) rep_bool p
    · cases d1 <;> simp only [cmpP] at p
      exact .inr ⟨_, _, h1.bool, h2.bool, k _ _ _ _ (Ext.refl s) rep_bool p⟩
  case In =>
    refine ⟨fun x y H Q => rInD K x y H Q ∨ rInT K x y H Q, fun X e hu => by rw [← e]; exact (op_inD (by omega)).or (op_inT (by omega)), fun Hf H d1 d2 v1 v2 Q Qv s h1 h2 p k => ?_⟩
    unfold cmpD at p
    cases d2 <;> simp only [cmpP] at p
    · obtain ⟨p1, p2, p3⟩ := p
      exact .inl ⟨d1, _, Rep.shp p1 (h1.full s), Rep.shp p2 (h2.full s), p1, p2, k _ _ _ _ (Ext.refl s) rep_bool p3⟩
    · obtain ⟨p1, p2, p3⟩ := p
      exact .inr ⟨d1, _, Rep.shp p1 (h1.full s), Rep.shp p2 (h2.full s), p1, p2, k _ _ _ _ (Ext.refl s) rep_bool p3⟩
  case NotIn =>
    refine ⟨fun x y H Q => rNotInD K x y H Q ∨ rNotInT K x y H Q, fun X e hu => by rw [← e]; exact (op_notInD (by omega)).or (op_notInT (by omega)), fun Hf H d1 d2 v1 v2 Q Qv s h1 h2 p k => ?_⟩
    unfold cmpD at p
    cases d2 <;> simp only [cmpP] at p
    · obtain ⟨p1, p2, p3⟩ := p
      exact .inl ⟨d1, _, Rep.shp p1 (h1.full s), Rep.shp p2 (h2.full s), p1, p2, k _ _ _ _ (Ext.refl s) rep_bool p3⟩
    · obtain ⟨p1, p2, p3⟩ := p
      exact .inr ⟨d1, _, Rep.shp p1 (h1.full s), Rep.shp p2 (h2.full s), p1, p2, k _ _ _ _ (Ext.refl s) rep_bool p3⟩
end
end CF
namespace CF
open PySem PySem.Spec PyProof.Rows L2 HT
section
variable {prog : Program} {w : World} {A : Around} {E : Value → Shared → Prop} {s : Shared}
theorem sliceApplied_rev {sl : Addr} {vs : Value} {n : Nat} {Q : Int × Int × Nat → Shared → Prop} (hs : s.heap.IsSliceOf sl .none .none vs) (ps : IsPart vs (some (-1)))
    (h : Q ((n : Int) - 1, -1, n) s) : wpAny (model prog w) A (Builtin.Slice.sliceApplied (.ref sl) (pure (n : Int))) Q E s := by
  obtain ⟨os, hos, hcs, hds⟩ := id hs
  unfold Builtin.Slice.sliceApplied Builtin.Slice.sliceFields
  refine wpAny_bind (wpAny_bind (wpAny_field hos hds (x := .none) rfl (wpAny_bind (wpAny_field hos hds (x := .none) rfl (wpAny_bind (wpAny_field hos hds (x := vs) rfl (wpAny_pure ?_)))))))
  refine wpAny_bind (slicePart_ ps ?_)
  show wpAny _ _ (if ((-1 : Int) == 0) = true then _ else _) _ _ s
  rw [if_neg (by decide)]
  refine wpAny_bind (slicePart_none (wpAny_bind (slicePart_none (wpAny_bind (wpAny_pure ?_)))))
  have ha : Builtin.Slice.sliceAdjust none none (-1) (n : Int) = ((n : Int) - 1, -1) := by
    unfold Builtin.Slice.sliceAdjust
    first | rfl | simp
  have hp : Builtin.Slice.slicePlaces ((n : Int) - 1) (-1) (-1) = n := by
    unfold Builtin.Slice.slicePlaces
    simp
    try omega
  show wpAny _ _ (match Builtin.Slice.sliceAdjust none none (-1) (n : Int) with | (lo, hi) => pure (lo, (-1 : Int), Builtin.Slice.slicePlaces lo hi (-1))) _ _ s
  rw [ha]
  show wpAny _ _ (pure ((n : Int) - 1, (-1 : Int), Builtin.Slice.slicePlaces ((n : Int) - 1) (-1) (-1))) _ _ s
  rw [hp]
  exact wpAny_pure h
theorem fm_some {α β : Type} {f : α → Option β} {g : α → β} : ∀ {l : List α}, (∀ x ∈ l, f x = some (g x)) → l.filterMap f = l.map g
  | [], _ => rfl
  | a :: l, h => by rw [List.filterMap_cons, h a List.mem_cons_self, List.map_cons, fm_some fun x hx => h x (List.mem_cons_of_mem _ hx)]
theorem pick_rev (xs : Array Value) : ((List.range xs.size).filterMap fun (m : Nat) => xs[((xs.size : Int) - 1 + (m : Int) * -1).toNat]?).toArray = xs.toList.reverse.toArray := by
  congr 1
  have : ∀ m ∈ List.range xs.size, xs[((xs.size : Int) - 1 + (m : Int) * -1).toNat]? = some (xs.toList.reverse.getD m .none) := fun m hm => by
    have hm := List.mem_range.mp hm
    have e : ((xs.size : Int) - 1 + (m : Int) * -1).toNat = xs.size - 1 - m := by omega
    rw [e, List.getD_eq_getElem?_getD, List.getElem?_reverse (by simpa using hm)]
    simp
    rw [Array.getElem?_eq_getElem (by omega)]
    simp
  rw [fm_some this]
  refine List.ext_getElem? fun i => ?_
  rw [List.getElem?_map]
  by_cases hi : i < xs.size
  · rw [List.getElem?_range hi]
    simp [hi]
  · rw [List.getElem?_eq_none (by simp; omega), List.getElem?_eq_none (by simp; omega)]
    rfl
theorem getItem_tuple_rev {t sl : Addr} {items : Array Value} {vs : Value} {Q : Value → Shared → Prop} (ht : IsTup s.heap t items) (hs : s.heap.IsSliceOf sl .none .none vs) (ps : IsPart vs (some (-1)))
    (h : Q (.ref s.heap.objs.size) { s with heap := s.heap.push { cls := .type "tuple", data := .seq items.toList.reverse.toArray } })
    (hsz : items.size ≤ sizeLine) : wpAny (model prog w) A (getItem (.ref t) (.ref sl)) Q E s := by
  have htake : sizeOk (.seq items.toList.reverse.toArray) := by
    show items.toList.reverse.toArray.size ≤ sizeLine
    simpa using hsz
  obtain ⟨os, hos, hcs, hds⟩ := id hs
  have hTs : s.TypeIs (.ref sl) "slice" := ⟨os, hos, hcs⟩
  unfold getItem
  try with_reducible refine wpAny_holding ?_
  first | refine wpAny_bind (wpAny_pure ?_) | skip
  refine wpAny_bind (wpAny_sequenceKey ht.typeIs (by decide) ?_)
  refine wpAny_bind (wpAny_callSpecial?_slot (name := Str.ofString "__getitem__") ht.typeIs PyProof.Rows.slot_tuple_getitem
    (wpAny_call_entry PyProof.Rows.slot_tuple_getitem ht.typeIs entry_tuple_getitem ?_ (args_tuple_getitem _ _)))
  show wpAny _ _ (Builtin.Tuple.tupleItemsOf (.ref t) >>= _) _ _ s
  refine wpAny_bind (tupleItemsOf_ ht ?_)
  refine wpAny_bind (wpAny_typeOf hTs ?_)
  rw [if_pos (by decide)]
  refine wpAny_bind (sliceApplied_rev hs ps ?_)
  have hno : ¬ ((((items.size : Int) - 1) == 0 && (-1 : Int) == 1 && items.size == items.size) = true) := by
    intro q
    rw [Bool.and_eq_true, Bool.and_eq_true] at q
    exact absurd q.1.2 (by decide)
  show wpAny _ _ (if (((items.size : Int) - 1) == 0 && (-1 : Int) == 1 && items.size == items.size) = true then _ else _) _ _ s
  rw [if_neg hno, pick_rev]
  first
    | exact wpAny_bind (m := Builtin.Tuple.tupleExact _) (wpAny_newObj_type (wpAny_pure ⟨_, rfl, wpAny_pure h⟩) htake)
    | exact wpAny_bind (m := Builtin.Tuple.tupleExact _) (wpAny_newObj_type (wpAny_bind (wpAny_pure (wpAny_pure ⟨_, rfl, wpAny_pure h⟩))) htake)
    | exact wpAny_bind (wpAny_bind (m := Builtin.Tuple.tupleExact _) (wpAny_newObj_type (wpAny_pure (wpAny_pure ⟨_, rfl, wpAny_pure h⟩)) htake))
    | exact wpAny_bind (wpAny_bind (m := Builtin.Tuple.tupleExact _) (wpAny_newObj_type (wpAny_pure ⟨_, rfl, wpAny_pure h⟩) htake))
end
section
variable {X : Cx}
def tRevA (K : PySem.W.Frag) (te : TE) : TE := fun σ H Q => te σ H fun x H1 => (∃ a xs, x = .ref a ∧ SqL K H1 a xs ∧ ∀ p, H1 p = none → Q (.ref p) (upd H1 p (.lst xs.reverse))) ∨ (∃ a xs, x = .ref a ∧ SqT K H1 a xs ∧ ∀ p, H1 p = none → Q (.ref p) (upd H1 p (.tup xs.reverse)))
theorem pe_revAny {e : Expr} {te : TE} {k : Nat} {p1 p2 p3 pos : Pos} (he : PE X e te) : PE X (.Subscript e (.Slice none none (some (.UnaryOp .USub (.Constant (.int 1) k p1) p2)) p3) pos) (tRevA X.K te) := by
  refine ⟨fun pins s σ H Q I h => ?_⟩
  refine Subscript_ (thn (he.run pins s σ H _ I h) fun v s1 ⟨x, H1, I1, r1, q1⟩ => ?_)
  have hst : PO X (some (.UnaryOp .USub (.Constant (.int 1) k p1) p2)) (tPart (tUn (rU fun i => .int (-i)) (tC (.int 1)))) := po_some (pe_un un_neg pe_int)
  refine wpAny_Slice (thn (po_none.run pins s1 σ H1 (fun o H2 => o = none ∧ H2 = H1) I1 ⟨rfl, rfl⟩) fun vl s2 ⟨l, H2, I2, pl, el, e2⟩ => ?_)
  subst el e2
  refine thn (po_none.run pins s2 σ H2 (fun o H3 => o = none ∧ H3 = H2) I2 ⟨rfl, rfl⟩) fun vu s3 ⟨u, H3, I3, pu, eu, e3⟩ => ?_
  subst eu e3
  refine thn (hst.run pins s3 σ H3 (fun o H4 => o = some (-1) ∧ H4 = H3) I3 ⟨1, rfl, -1, rfl, rfl, rfl⟩) fun vs s4 ⟨o, H4, I4, ps, eo, e4⟩ => ?_
  subst eo e4
  have I5 : Inv X pins σ H4 { s4 with heap := s4.heap.push { cls := .type "slice", data := .fields #[vl, vu, vs] } } := I4.kept (t' := s4.toks) fun b ob q => Heap.get?_push_of_some _ q
  rcases q1 with ⟨a, xs, ex, hx, q⟩ | ⟨a, xs, ex, hx, q⟩
  · subst ex
    cases r1
    obtain ⟨its, r, ht, hz⟩ := I5.list hx
    have hlen := r.length
    show wpAny (model X.prog X.w) X.A (subscriptTail e (.Slice none none (some (.UnaryOp .USub (.Constant (.int 1) k p1) p2)) p3) (.ref a) (.ref s4.heap.objs.size)) (EP X pins σ Q) X.xe { s4 with heap := s4.heap.push { cls := .type "slice", data := .fields #[vl, vu, vs] } }
    refine tail_any (ops := [.ref a, .ref s4.heap.objs.size]) ht.isList.typeIs (PySem.slot_list_getitem.lookup) ?_ (by with_unfolding_all rfl)
    refine wpAny_getItem_list_slice ht.isList (Heap.IsSliceOf.new _ vl vu vs) pl pu ps (by decide) ?_ (by rw [List.size_toArray]; omega)
    rw [PySem.W.krv_pick]
    refine ⟨.ref _, _, I5.laid (t' := s4.toks) (o := .lst xs.reverse) (fun b ob q => Heap.get?_push_of_some _ q) (Nat.le_refl _) ?_, rfl, q _ (I5.hok.fresh (Nat.le_refl _))⟩
    exact ⟨by rw [List.length_reverse]; exact hz, _, 0, r.reverse, Heap.get?_push_size _ rfl⟩
  · subst ex
    cases r1
    obtain ⟨its, r, ht, hz⟩ := I5.tuple hx
    have hlen := r.length
    cases pl
    cases pu
    show wpAny (model X.prog X.w) X.A (subscriptTail e (.Slice none none (some (.UnaryOp .USub (.Constant (.int 1) k p1) p2)) p3) (.ref a) (.ref s4.heap.objs.size)) (EP X pins σ Q) X.xe { s4 with heap := s4.heap.push { cls := .type "slice", data := .fields #[.none, .none, vs] } }
    refine tail_any (ops := [.ref a, .ref s4.heap.objs.size]) ht.typeIs (PyProof.Rows.slot_tuple_getitem.lookup) ?_ (by with_unfolding_all rfl)
    refine getItem_tuple_rev ht (Heap.IsSliceOf.new _ .none .none vs) ps ?_ (by rw [List.size_toArray]; omega)
    refine ⟨.ref _, _, I5.laid (t' := s4.toks) (o := .tup xs.reverse) (fun b ob q => Heap.get?_push_of_some _ q) (Nat.le_refl _) ?_, rfl, q _ (I5.hok.fresh (Nat.le_refl _))⟩
    exact ⟨by rw [List.length_reverse]; exact hz, _, r.reverse, IsTup.new _ _⟩
end
end CF
namespace CF
open PySem PySem.Spec PyProof.Rows L2

/-! ### defs by a room of one's own: one frame a level -/
structure Rm (d : Nat) (A : Around) : Prop where
  hd : A.handled = none
  dp : A.depth + d < 990
  un : A.units + 4 * d + 300 < 9900
theorem Rm.mono {c d : Nat} {A : Around} (r : Rm d A) (h : c ≤ d) : Rm c A := ⟨r.hd, by have := r.dp; omega, by have := r.un; omega⟩
theorem Rm.deeper {d : Nat} {A : Around} (r : Rm (d + 1) A) (env : PySem.Env) : Rm d (A.deeper env) :=
  ⟨r.hd, by have := r.dp; show A.depth + 1 + d < _; omega, by have := r.un; show A.units + 3 + 4 * d + 300 < _; omega⟩
abbrev SpM := List V → Hp → VK → Prop
abbrev CE0 (P : Program) (w : World) (outer : List PySem.Env) (H : Hp) (s : Shared) (Q : VK) (r : Result) (s' : Shared) : Prop := CR CX0 outer P w H s Q E0 r s'
structure FnM (P : Program) (w : World) (K : PySem.W.Frag) (mg : Str → Option Value) (base : Heap) (d : Nat) (f : Addr) (fd : FuncData) (ps : List Str) (sp : SpM) : Prop where
  len : ∀ vs H Q, sp vs H Q → vs.length = ps.length
  run : ∀ (A : Around) (outer : List PySem.Env) (s : Shared) (H : Hp) (args : Args) (us : List Value) (vs : List V) (Q : VK), Rm d A → Env0 P w K mg base A outer s H → BindsTo s fd args (ps.zip us) → Vals vs us → sp vs H Q →
    codeAny (model P w) A (.call (.ref f) args) (CE0 P w outer H s Q) s
theorem FnM.mono {P : Program} {w : World} {K : PySem.W.Frag} {mg : Str → Option Value} {base : Heap} {c d : Nat} {f : Addr} {fd : FuncData} {ps : List Str} {sp : SpM} (F : FnM P w K mg base c f fd ps sp) (h : c ≤ d) : FnM P w K mg base d f fd ps sp :=
  ⟨F.len, fun A outer s H args us vs Q hr => F.run A outer s H args us vs Q (hr.mono h)⟩
theorem FnM.imp {P : Program} {w : World} {K : PySem.W.Frag} {mg : Str → Option Value} {base : Heap} {d : Nat} {f : Addr} {fd : FuncData} {ps : List Str} {sp sp' : SpM} (F : FnM P w K mg base d f fd ps sp) (h : ∀ vs H Q, sp' vs H Q → sp vs H Q) : FnM P w K mg base d f fd ps sp' :=
  ⟨fun vs H Q x => F.len vs H Q (h _ _ _ x), fun A outer s H args us vs Q hr he hb hv hs => F.run A outer s H args us vs Q hr he hb hv (h _ _ _ hs)⟩
section
variable {X : Cx} {d : Nat} {f : Addr} {fd : FuncData} {ps : List Str} {sp : SpM} {x : Str} {p pos : Pos} {e : Expr} {es : List Expr} {t : TA}
theorem run_fnM {pins : List (Addr × Obj)} {σ : L2.St} {H : Hp} {s : Shared} {Q : VK} {us : List Value} {vs : List V} (F : FnM X.prog X.w X.K X.mg X.base d f fd ps sp) (hr : Rm d X.A) (hb : Binds X.K fd ps [])
    (I : Inv X pins σ H s) (r : Vals vs us) (h : sp vs H Q) : wpAny (model X.prog X.w) X.A (call (.ref f) us) (EP X pins σ Q) X.xe s := by
  have hl : (us ++ []).length = ps.length := by rw [List.append_nil, ← r.length]; exact F.len _ _ _ h
  have hb' := hb s us I.kIn hl
  rw [List.append_nil] at hb'
  refine wpAny_call (codeAny_mono (F.run X.A X.stack s H ⟨us, []⟩ us vs Q hr I.env0 hb' r h) fun r s' hq => ?_)
  cases r with
  | error e => exact False.elim hq
  | ok fl =>
    cases fl with
    | ret u => exact I.after hq
    | next => exact False.elim hq
    | brk => exact False.elim hq
    | cont => exact False.elim hq
def tCallM (sp : SpM) (t : TA) : TE := fun σ H Q => t σ H fun vs H1 => sp vs H1 Q
theorem pe_callM (F : FnM X.prog X.w X.K X.mg X.base d f fd ps sp) (hr : Rm d X.A) (hg : Gl X x) (hm : X.mg x = some (.ref f)) (hk : PySem.W.keepIn X.K (.ref f) = true) (hb : Binds X.K fd ps [])
    (ha : PA X (e :: es) t) (hdb : (x == ("__debug__" : Str)) = false) (he : starEach (e :: es) X.env = (false, eval e X.env) :: starEach es X.env) (hpl : (backTo pos (starEach es X.env)).any (·.1) = false) :
    PE X (.Call (.Name x p) (e :: es) [] pos) (tCallM sp t) := by
  refine ⟨fun pins s σ H Q I h => ?_⟩
  refine wpAny_Call_Name_kw (ld_glob I hg hm ?_ hdb)
  refine PySem.W.callWith_K (h₀ := X.base) I.ok.mod.kin hk (thn (ha.run pos pins s σ H _ I h) fun us s1 ⟨vs, H1, I1, r, q⟩ => ⟨I1.kIn, ?_⟩) he hpl
  exact run_fnM F hr hb I1 r q
end
/-- a def of the text by its body -/
theorem fn_ofM {P : Program} {w : World} {K : PySem.W.Frag} {mg : Str → Option Value} {base : Heap} {d : Nat} {f : Addr} {name qual : Str} {params : Arguments} {body : List Stmt} {scope : Scope} {dV kV doc pm cdv ct oc : Value} {an od : Option Addr}
    {osl : Array (Option Value)} {N ps : List Str} {sp : SpM} (lk : K.lookup f = some ⟨oc, od, .func (PySem.W.fnOf name qual params body scope dV kV doc pm an cdv ct), osl⟩) (hcd : PySem.W.codeIn K cdv qual = true) (S : FnScope N ps scope)
    (len : ∀ vs H Q, sp vs H Q → vs.length = ps.length)
    (hbody : ∀ (A : Around) (outer : List PySem.Env) (s : Shared) (H : Hp) (vs : List V) (Q : VK), Rm d (A.deeper (envOfC qual scope s.heap.objs.size f cdv)) → sp vs H Q →
      ∃ t, PSs (cxOf CX0 P w K mg base N qual scope f cdv A outer s H E0).nox body t ∧ t { nx := fun _ H' => Q .non H', rt := Q } (start N vs) H) :
    FnM P w K mg base (d + 1) f (PySem.W.fnOf name qual params body scope dV kV doc pm an cdv ct) ps sp := by
  refine ⟨len, fun A outer s H args us vs Q hr e0 hb r hsp => ?_⟩
  have hl := len _ _ _ hsp
  have KX : K.In s.heap := e0.mod.kin.keeps fun b o e => (e0.bs b o e).1
  have lim : s.heap.NoLimit := e0.mod.nolimit.keeps fun b o e => (e0.bs b o e).1
  have hkind : ∀ y ∈ ps.zip us, scope.names.lookup y.1 = some .local ∨ (scope.names.lookup y.1 = some .cell ∧ ((cellsFrom (s.heap.objs.size + 1) scope.names []).lookup y.1).isSome = true) := fun ⟨n, v⟩ hy => by
    rcases S.par n (List.of_mem_zip hy).1 with q | q
    · exact .inl q
    · exact .inr ⟨q, PySem.W.cellsFrom_some _ _ _ (.inl q)⟩
  refine codeAny_call_function (by have := hr.dp; show A.depth < 1000; omega) (KX _ _ lk) rfl S.co S.gen rfl (PySem.W.codeRec_of KX hcd) (hb _ _ _ _ ?_)
  refine wpAny_newFunctionEnv_cells S.kind hkind fun env he s1 x => ?_
  subst he
  refine ⟨lim.keeps x.toInCall.keep, codeAny_func ?_⟩
  obtain ⟨t, ht, hq⟩ := hbody A outer s H vs Q (hr.deeper _) hsp
  have I : Inv (cxOf CX0 P w K mg base N qual scope f cdv A outer s H E0) [] (start N vs) H s1 := inv_start S hr.hd e0 hl r x
  refine wpAny_mono (ht.nox.run [] s1 (start N vs) H _ I hq) (fun fl s' hs => ?_) fun e s' hs => hs
  have fin : ∀ {σ' : L2.St} {H' : Hp} {v : V} {u : Value}, Inv (cxOf CX0 P w K mg base N qual scope f cdv A outer s H E0) [] σ' H' s' → RelV v u → Q v H' → CE outer P w H s Q u s' :=
    fun {σ' H' v u} J rv q => ⟨v, H', J.os, J.bare, J.base, J.hok, rv, q⟩
  cases fl with
  | ret u =>
    obtain ⟨v, σ', H', J, rv, q⟩ := hs
    exact fin J rv q
  | next =>
    obtain ⟨σ', H', J, q⟩ := hs
    exact fin (v := V.non) (u := Value.none) J rfl q
  | brk =>
    obtain ⟨_, _, _, q⟩ := hs
    exact False.elim q
  | cont =>
    obtain ⟨_, _, _, q⟩ := hs
    exact False.elim q

/-! ### a def's promise over plain data -/
/-- fresh: the answer is a new list that nobody else holds -/
def spD (K : PySem.W.Frag) (n : Nat) (fresh : Bool) (G : Pm) : SpM := fun vs H Q => vs.length = n ∧ ∃ (Hf : Hp) (ds : List PyData) (P : PyData → Prop), Same Hf H ∧ RepL K Hf ds vs ∧ G ds P ∧
  ∀ d v Hf' H', Ext Hf H Hf' H' → (if fresh = true then ORep K Hf' H' d v ∧ (∀ p, v = .ref p → H p = none) else Rep K Hf' d v) → P d → Q v H'

/-! ### defs that may raise -/
structure FnX (P : Program) (w : World) (K : PySem.W.Frag) (mg : Str → Option Value) (base : Heap) (d : Nat) (f : Addr) (fd : FuncData) (ps : List Str) (sp : Sp) : Prop where
  len : ∀ vs H Q E, sp vs H Q E → vs.length = ps.length
  run : ∀ (A : Around) (outer : List PySem.Env) (s : Shared) (H : Hp) (args : Args) (us : List Value) (vs : List V) (Q : VK) (E : XK), Rm d A → Env0 P w K mg base A outer s H → BindsTo s fd args (ps.zip us) → Vals vs us → sp vs H Q E →
    codeAny (model P w) A (.call (.ref f) args) (CR (L2.CX P w) outer P w H s Q E) s
theorem FnX.mono {P : Program} {w : World} {K : PySem.W.Frag} {mg : Str → Option Value} {base : Heap} {c d : Nat} {f : Addr} {fd : FuncData} {ps : List Str} {sp : Sp} (F : FnX P w K mg base c f fd ps sp) (h : c ≤ d) : FnX P w K mg base d f fd ps sp :=
  ⟨F.len, fun A outer s H args us vs Q E hr => F.run A outer s H args us vs Q E (hr.mono h)⟩
/-- an answer, or an exception of a class of the text -/
def spX (K : PySem.W.Frag) (mg : Str → Option Value) (n : Nat) (G : Pm) : Sp := fun vs H Q E => vs.length = n ∧ ∃ (Hf : Hp) (ds : List PyData) (P : PyData → Prop), Same Hf H ∧ RepL K Hf ds vs ∧ G ds P ∧
  (∀ d v Hf' H', Ext Hf H Hf' H' → Rep K Hf' d v → P d → Q v H') ∧ ∀ x C H', Same H H' → mg x = some (.ref C) → P (excD x) → E (.ref C) none H'
/-- an exception class of the text without own __init__ -/
structure ExcOk (K : PySem.W.Frag) (C : Addr) : Prop where
  q : PySem.W.excIn K C [.type "ValueError", .type "Exception", .type "BaseException", .type "object"] "ValueError.__new__" = true
  b : PySem.W.subIn K (.ref C) (.type "BaseException") = some true
  t : PySem.W.typeIn K (.ref C) = some (.type "type")
section
variable {X : Cx} {W : WX} {d : Nat} {f : Addr} {fd : FuncData} {ps : List Str} {sp : Sp} {x : Str} {p pos : Pos} {e : Expr} {es : List Expr} {t : TA}
theorem run_fnX {pins : List (Addr × Obj)} {σ : L2.St} {H : Hp} {s : Shared} {Q : VK} {us : List Value} {vs : List V} (F : FnX X.prog X.w X.K X.mg X.base d f fd ps sp) (hr : Rm d X.A) (hb : Binds X.K fd ps []) (tk : Takes X W)
    (I : Inv X pins σ H s) (r : Vals vs us) (h : sp vs H Q (WE W σ)) : wpAny (model X.prog X.w) X.A (call (.ref f) us) (EP X pins σ Q) X.xe s := by
  have hl : (us ++ []).length = ps.length := by rw [List.append_nil, ← r.length]; exact F.len _ _ _ _ h
  have hb' := hb s us I.kIn hl
  rw [List.append_nil] at hb'
  refine wpAny_call (codeAny_mono (F.run X.A X.stack s H ⟨us, []⟩ us vs Q (WE W σ) hr I.env0 hb' r h) fun r s' hq => ?_)
  cases r with
  | error e => exact passAt tk σ pins H s e s' I hq
  | ok fl =>
    cases fl with
    | ret u => exact I.after hq
    | next => exact False.elim hq
    | brk => exact False.elim hq
    | cont => exact False.elim hq
def tCallX (W : WX) (sp : Sp) (t : TA) : TE := fun σ H Q => t σ H fun vs H1 => sp vs H1 Q (WE W σ)
theorem pe_callX (F : FnX X.prog X.w X.K X.mg X.base d f fd ps sp) (hr : Rm d X.A) (hg : Gl X x) (hm : X.mg x = some (.ref f)) (hk : PySem.W.keepIn X.K (.ref f) = true) (hb : Binds X.K fd ps []) (tk : Takes X W)
    (ha : PA X (e :: es) t) (hdb : (x == ("__debug__" : Str)) = false) (he : starEach (e :: es) X.env = (false, eval e X.env) :: starEach es X.env) (hpl : (backTo pos (starEach es X.env)).any (·.1) = false) :
    PE X (.Call (.Name x p) (e :: es) [] pos) (tCallX W sp t) := by
  refine ⟨fun pins s σ H Q I h => ?_⟩
  refine wpAny_Call_Name_kw (ld_glob I hg hm ?_ hdb)
  refine PySem.W.callWith_K (h₀ := X.base) I.ok.mod.kin hk (thn (ha.run pos pins s σ H _ I h) fun us s1 ⟨vs, H1, I1, r, q⟩ => ⟨I1.kIn, ?_⟩) he hpl
  exact run_fnX F hr hb tk I1 r q
end
/-- a def of the text by its body; it may raise -/
theorem fn_ofX {P : Program} {w : World} {K : PySem.W.Frag} {mg : Str → Option Value} {base : Heap} {d : Nat} {f : Addr} {name qual : Str} {params : Arguments} {body : List Stmt} {scope : Scope} {dV kV doc pm cdv ct oc : Value} {an od : Option Addr}
    {osl : Array (Option Value)} {N ps : List Str} {sp : Sp} (lk : K.lookup f = some ⟨oc, od, .func (PySem.W.fnOf name qual params body scope dV kV doc pm an cdv ct), osl⟩) (hcd : PySem.W.codeIn K cdv qual = true) (S : FnScope N ps scope)
    (len : ∀ vs H Q E, sp vs H Q E → vs.length = ps.length)
    (hbody : ∀ (A : Around) (outer : List PySem.Env) (s : Shared) (H : Hp) (vs : List V) (Q : VK) (E : XK), Rm d (A.deeper (envOfC qual scope s.heap.objs.size f cdv)) → sp vs H Q E →
      ∃ t, PSs (cxOf (L2.CX P w) P w K mg base N qual scope f cdv A outer s H E) body t ∧ t { nx := fun _ H' => Q .non H', rt := Q } (start N vs) H) :
    FnX P w K mg base (d + 1) f (PySem.W.fnOf name qual params body scope dV kV doc pm an cdv ct) ps sp := by
  refine ⟨len, fun A outer s H args us vs Q E hr e0 hb r hsp => ?_⟩
  have hl := len _ _ _ _ hsp
  have KX : K.In s.heap := e0.mod.kin.keeps fun b o e => (e0.bs b o e).1
  have lim : s.heap.NoLimit := e0.mod.nolimit.keeps fun b o e => (e0.bs b o e).1
  have hkind : ∀ y ∈ ps.zip us, scope.names.lookup y.1 = some .local ∨ (scope.names.lookup y.1 = some .cell ∧ ((cellsFrom (s.heap.objs.size + 1) scope.names []).lookup y.1).isSome = true) := fun ⟨n, v⟩ hy => by
    rcases S.par n (List.of_mem_zip hy).1 with q | q
    · exact .inl q
    · exact .inr ⟨q, PySem.W.cellsFrom_some _ _ _ (.inl q)⟩
  refine codeAny_call_function (by have := hr.dp; show A.depth < 1000; omega) (KX _ _ lk) rfl S.co S.gen rfl (PySem.W.codeRec_of KX hcd) (hb _ _ _ _ ?_)
  refine wpAny_newFunctionEnv_cells S.kind hkind fun env he s1 x => ?_
  subst he
  refine ⟨lim.keeps x.toInCall.keep, codeAny_func ?_⟩
  obtain ⟨t, ht, hq⟩ := hbody A outer s H vs Q E (hr.deeper _) hsp
  have I : Inv (cxOf (L2.CX P w) P w K mg base N qual scope f cdv A outer s H E) [] (start N vs) H s1 := inv_start S hr.hd e0 hl r x
  refine wpAny_mono (ht.run [] s1 (start N vs) H _ I hq) (fun fl s' hs => ?_) fun e s' hs => hs
  have fin : ∀ {σ' : L2.St} {H' : Hp} {v : V} {u : Value}, Inv (cxOf (L2.CX P w) P w K mg base N qual scope f cdv A outer s H E) [] σ' H' s' → RelV v u → Q v H' → CE outer P w H s Q u s' :=
    fun {σ' H' v u} J rv q => ⟨v, H', J.os, J.bare, J.base, J.hok, rv, q⟩
  cases fl with
  | ret u =>
    obtain ⟨v, σ', H', J, rv, q⟩ := hs
    exact fin J rv q
  | next =>
    obtain ⟨σ', H', J, q⟩ := hs
    exact fin (v := V.non) (u := Value.none) J rfl q
  | brk =>
    obtain ⟨_, _, _, q⟩ := hs
    exact False.elim q
  | cont =>
    obtain ⟨_, _, _, q⟩ := hs
    exact False.elim q

/-- the heap without an object -/
def ers (H : Hp) (p : Addr) : Hp := fun b => if b = p then none else H b
/-- a function whose last argument is a dict that it fills -/
def spMm (K : PySem.W.Frag) (n : Nat) (G : Pm) : SpM := fun vs H Q => vs.length = n ∧ ∃ (Hf : Hp) (ds : List PyData) (l : List (Int × Int)) (p : Addr) (vs0 : List V) (P : PyData → Prop), vs = vs0 ++ [.ref p] ∧ H p = some (.dK (dV l)) ∧ Hf p = none ∧ Same Hf H ∧ RepL K Hf ds vs0 ∧ G (ds ++ [.dict (dL l)]) P ∧
  ∀ d v l' Hf' H', Ext Hf (ers H p) Hf' H' → H' p = some (.dK (dV l')) → Hf' p = none → Rep K Hf' d v → P (.tuple [d, .dict (dL l')]) → Q v H'
/-- the functions that a text calls: the name, how many parameters, the promise;
    1000 more parameters: it may raise; 2000: an exception class of that name; 3000 more: the last is a dict that it fills -/
structure FnE where
  name : Str
  ar : Nat
  fresh : Bool
  G : Pm
/-- a function stands in the module -/
structure FnAt (P : Program) (w : World) (K : PySem.W.Frag) (mg : Str → Option Value) (base : Heap) (d : Nat) (g : FnE) (f : Addr) : Prop where
  glob : mg g.name = some (.ref f)
  kp : PySem.W.keepIn K (.ref f) = true
  fn : g.ar < 1000 → ∃ fd ps, ps.length = g.ar ∧ Binds K fd ps [] ∧ FnM P w K mg base d f fd ps (spD K g.ar g.fresh g.G)
  fx : 1000 ≤ g.ar → g.ar < 2000 → ∃ fd ps, ps.length + 1000 = g.ar ∧ Binds K fd ps [] ∧ FnX P w K mg base d f fd ps (spX K mg (g.ar - 1000) g.G)
  fc : 2000 ≤ g.ar → g.ar < 3000 → g.G = (fun _ R => R (excD g.name)) ∧ ExcOk K f
  fm : 3000 ≤ g.ar → ∃ fd ps, ps.length + 3000 = g.ar ∧ Binds K fd ps [] ∧ FnM P w K mg base d f fd ps (spMm K (g.ar - 3000) g.G)
theorem FnAt.mono {P : Program} {w : World} {K : PySem.W.Frag} {mg : Str → Option Value} {base : Heap} {c d : Nat} {g : FnE} {f : Addr} (F : FnAt P w K mg base c g f) (h : c ≤ d) : FnAt P w K mg base d g f := by
  obtain ⟨h1, h2, h3, h4, h5, h6⟩ := F
  refine ⟨h1, h2, fun z => ?_, fun z z' => ?_, h5, fun z => ?_⟩
  · obtain ⟨fd, ps, h3, h4, h5⟩ := h3 z
    exact ⟨fd, ps, h3, h4, h5.mono h⟩
  · obtain ⟨fd, ps, h3, h4, h5⟩ := h4 z z'
    exact ⟨fd, ps, h3, h4, h5.mono h⟩
  · obtain ⟨fd, ps, h3, h4, h5⟩ := h6 z
    exact ⟨fd, ps, h3, h4, h5.mono h⟩

/-! ### where one stands -/
def bnames : List Str := ["len", "max", "min", "sum", "all", "list", "tuple", "int", "bool", "str", "sorted", "isinstance", "range", "set", "enumerate", "repr"]
/-- the parts of a context that differ within one body -/
structure Vr where
  s_0 : Shared
  H_0 : Hp
  env : PySem.Env
  outer : List PySem.Env
  stack : List PySem.Env
  ex : List Addr
  fn : Str → Bool
  pn : List (Addr × Obj)
  xe : Value → Shared → Prop
abbrev at' (X : Cx) (q : Vr) : Cx := { X with s_0 := q.s_0, H_0 := q.H_0, env := q.env, outer := q.outer, stack := q.stack, ex := q.ex, fn := q.fn, pn := q.pn, xe := q.xe }
structure XOk (N : List Str) (T : List FnE) (cs : List (Str × Int)) (d : Nat) (X : Cx) : Prop where
  n : X.N = N
  nd : N.Nodup
  calm : X.calm = true
  rm : Rm d X.A
  mb : ∀ x ∈ bnames, X.mg x = none
  cs : ∀ x i, (x, i) ∈ cs → ∃ t, X.mg x = some (.int i t)
  fn : ∀ (i : Nat) g, T[i]? = some g → ∃ f, FnAt X.prog X.w X.K X.mg X.base d g f
theorem XOk.un {N T cs d X} (h : XOk N T cs d X) : X.A.units + 66 < cLine := by
  have := h.rm.un
  show _ < 9900
  omega
end CF
namespace CF
open PySem PySem.Spec PyProof.Rows L2

/-! ### the checker: a text of the small language against the written one -/
def Bf.nm : Bf → Str × Nat
  | .len => ("len", 1) | .max2 => ("max", 2) | .min2 => ("min", 2) | .maxL => ("max", 1) | .minL => ("min", 1) | .sum => ("sum", 1) | .all => ("all", 1)
  | .list1 => ("list", 1) | .tuple1 => ("tuple", 1) | .int1 => ("int", 1) | .str1 => ("str", 1) | .sortI => ("sorted", 1) | .sortP => ("sorted", 1)
def gl (sc : Scope) (x : Str) : Bool := decide (sc.names.lookup x = some .globalImplicit) && !(x == ("__debug__" : Str)) && decide (x ≠ "__name__")
def visB (sc : Scope) (x : Str) : Bool := (match sc.names.lookup x with | some .local => true | some .cell => true | some .free => true | _ => false) && !(x == ("__debug__" : Str)) && !(x == ("__classdict__" : Str))
def locB (sc : Scope) (x : Str) : Bool := match sc.names.lookup x with | some .local => true | some .cell => true | _ => false
def nmOk (N : List Str) (i : Nat) (x : Str) : Bool := decide (N[i]? = some x)
structure Ck where
  N : List Str
  T : List (Str × Nat)
  cs : List (Str × Int)
def ownOf (N : List Str) (is : List Nat) : List (Str × Nat) := is.map fun i => (N.getD i "", i)
/-- a target; outside a comprehension (b) a cell is the def's own, within one only locals are stored -/
def chkN (c : Ck) (sc : Scope) (b : Bool) (i : Nat) (e : Expr) : Bool := match e with
  | .Name x _ => nmOk c.N i x && (if b then locB sc x else decide (sc.names.lookup x = some .local))
  | _ => false
def chkNs (c : Ck) (sc : Scope) (b : Bool) : List Nat → List Expr → Bool
  | [], [] => true
  | i :: is, e :: es => chkN c sc b i e && chkNs c sc b is es
  | _, _ => false
def chkT (c : Ck) (sc : Scope) (b : Bool) (tg : Tg) (e : Expr) : Bool := match tg, e with
  | .one i, e => chkN c sc b i e
  | .many is, .Tuple es _ _ => chkNs c sc b is es
  | _, _ => false
def isNm (e : Expr) : Bool := match e with | .Name _ _ => true | _ => false
def binB : Operator → Bool
  | .Add => true | .Sub => true | .Mult => true | .Mod => true | .Pow => true | .FloorDiv => true
  | _ => false
mutual
def chkE (c : Ck) (sc : Scope) : IE → Expr → Bool
  | .var i, e => (match e with | .Name x _ => nmOk c.N i x && visB sc x | _ => false)
  | .kint i, e => (match e with | .Constant (.int j) _ _ => decide (i = j) | _ => false)
  | .kstr x, e => (match e with | .Constant (.str y) _ _ => decide (x = y) | _ => false)
  | .kbool x, e => (match e with | .Constant (.bool y) _ _ => decide (x = y) | _ => false)
  | .knone, e => (match e with | .Constant .none _ _ => true | _ => false)
  | .gint y i, e => (match e with | .Name x _ => decide (x = y) && gl sc x && decide ((y, i) ∈ c.cs) | _ => false)
  | .bin op a b, e => (match e with | .BinOp ea op' eb _ => decide (op = op') && binB op && chkE c sc a ea && chkE c sc b eb | _ => false)
  | .neg a, e => (match e with | .UnaryOp .USub ea _ => chkE c sc a ea | _ => false)
  | .no a, e => (match e with | .UnaryOp .Not ea _ => chkE c sc a ea | _ => false)
  | .cmp op a b, e => (match e with | .Compare ea [op'] [eb] _ => decide (op = op') && chkE c sc a ea && chkE c sc b eb | _ => false)
  | .chain o1 o2 a b d, e => (match e with | .Compare ea [p1, p2] [eb, ed] _ => decide (o1 = p1) && decide (o2 = p2) && chkE c sc a ea && chkE c sc b eb && chkE c sc d ed | _ => false)
  | .bop op es, e => (match e with | .BoolOp op' vs _ => decide (op = op') && decide (1 ≤ es.len) && chkEs c sc es vs | _ => false)
  | .call f es, e => (match e with | .Call (.Name x _) (a :: as) [] _ => decide (c.T[f]? = some (x, es.len)) && gl sc x && chkEs c sc es (a :: as) && decide (es.len < 1000) | _ => false)
  | .blt f es, e => (match e with | .Call (.Name x _) (a :: as) [] _ => decide (f.nm = (x, es.len)) && gl sc x && chkEs c sc es (a :: as) | _ => false)
  | .isi a t, e => (match e with | .Call (.Name x _) [ea, .Name y _] [] _ => decide (x = "isinstance") && gl sc x && decide (y = (t.nm : Str)) && gl sc y && chkE c sc a ea | _ => false)
  | .tup es, e => (match e with | .Tuple as _ _ => chkEs c sc es as | _ => false)
  | .lst es, e => (match e with | .List as _ => chkEs c sc es as | _ => false)
  | .ix a i, e => (match e with | .Subscript ea ei _ => chkE c sc a ea && chkE c sc i ei | _ => false)
  | .dic0, e => (match e with | .Dict [] [] _ => true | _ => false)
  | .kix j i, e => (match e with | .Subscript (.Name y py) ei _ => nmOk c.N j y && visB sc y && chkE c sc i ei | _ => false)
  | .sl a lo hi, e => (match e with | .Subscript ea (.Slice l h none _) _ => chkE c sc a ea && chkO c sc lo l && chkO c sc hi h | _ => false)
  | .rev a, e => (match e with | .Subscript ea (.Slice none none (some (.UnaryOp .USub (.Constant (.int 1) _ _) _)) _) _ => chkE c sc a ea | _ => false)
  | .comp elt tg it ifs, e => (match e with | .ListComp e [⟨t, i, fs, 0⟩] csc _ => chkIt c sc it i && blkC c.N sc csc (ownOf c.N tg.slots) && chkT c (relS csc sc) false tg t && decide (ifs.len ≤ 1) && chkEs c (relS csc sc) ifs fs && chkE c (relS csc sc) elt e | _ => false)
  | .lrng es, e => (match e with | .Call (.Name x _) [.Call (.Name y _) [a] [] _] [] _ => decide (x = "list") && gl sc x && decide (y = "range") && gl sc y && chkEs c sc es [a] | _ => false)
  | .sset a, e => (match e with | .Call (.Name x _) [.Call (.Name y _) [ea] [] _] [] _ => decide (x = "sorted") && gl sc x && decide (y = "set") && gl sc y && chkE c sc a ea | _ => false)
  | .lset a, e => (match e with | .Call (.Name x _) [.Call (.Name y _) [ea] [] _] [] _ => decide (x = "len") && gl sc x && decide (y = "set") && gl sc y && chkE c sc a ea | _ => false)
  | .index a x, e => (match e with | .Call (.Attribute ea m p) [ex] [] q => decide (m = "index") && (p.endLine == q.line) && isNm ea && chkE c sc a ea && chkE c sc x ex | _ => false)
def chkEs (c : Ck) (sc : Scope) : IEs → List Expr → Bool
  | .nil, [] => true
  | .cons a as, e :: es => chkE c sc a e && chkEs c sc as es
  | _, _ => false
def chkO (c : Ck) (sc : Scope) : IEs → Option Expr → Bool
  | .nil, none => true
  | .cons a as, some e => chkE c sc a e && (match as with | .nil => true | _ => false)
  | _, _ => false
def chkIt (c : Ck) (sc : Scope) : IIt → Expr → Bool
  | .keys j, e => (match e with | .Name y _ => nmOk c.N j y && visB sc y | _ => false)
  | .seq a, e => chkE c sc a e
  | .rng es, e => (match e with | .Call (.Name x _) as [] _ => decide (x = "range") && gl sc x && (decide (as.length = 1) || decide (as.length = 2) || decide (as.length = 3)) && chkEs c sc es as | _ => false)
end
end CF
namespace CF
open PySem PySem.Spec PyProof.Rows L2

def okE (e : Expr) : Bool := match e with | .Starred _ _ => false | .Slice _ _ _ _ => false | .Set _ _ _ => false | _ => true
theorem okE.star {e : Expr} (h : okE e = true) (es : List Expr) (env : PySem.Env) : starEach (e :: es) env = (false, eval e env) :: starEach es env := by
  cases e <;> first | rfl | (exact absurd h (by simp [okE]))
theorem okE.plain {e : Expr} (h : okE e = true) : PlainIx e := by
  intro o i
  cases e <;> first | rfl | (exact absurd h (by simp [okE]))
theorem okE.fold {e : Expr} (h : okE e = true) (env : PySem.Env) (x : Value) : foldedSetIterable e env x = pure x := by
  cases e <;> first | rfl | (exact absurd h (by simp [okE]))
theorem okE.mark {e : Expr} (h : okE e = true) (op : CmpOp) : behindInMarks op e = false := by
  cases e <;> first | rfl | (exact absurd h (by simp [okE]))
theorem chkE_ok {c : Ck} {sc : Scope} {ie : IE} {e : Expr} (h : chkE c sc ie e = true) : okE e = true := by
  cases ie <;> (unfold chkE at h; first | (cases h; done) | (split at h <;> first | rfl | cases h))

def PRepL (K : PySem.W.Frag) (Hf H : Hp) : List PyData → List V → Prop
  | [], vs => vs = []
  | d :: ds, vs => ∃ v r, vs = v :: r ∧ PRep K Hf H d v ∧ PRepL K Hf H ds r
section
variable {K : PySem.W.Frag} {Hf H Hf' H' : Hp}
theorem PRepL.ext (z : Ext Hf H Hf' H') : ∀ {ds : List PyData} {vs : List V}, PRepL K Hf H ds vs → PRepL K Hf' H' ds vs
  | [], _, h => h
  | d :: ds, _, h => by
    obtain ⟨v, r, rfl, h1, h2⟩ := h
    exact ⟨v, r, rfl, h1.ext z, PRepL.ext z h2⟩
theorem PRepL.full (s : Same Hf H) : ∀ {ds : List PyData} {vs : List V}, PRepL K Hf H ds vs → RepL K H ds vs
  | [], _, h => by unfold RepL; exact h
  | d :: ds, _, h => by
    obtain ⟨v, r, rfl, h1, h2⟩ := h
    exact RepL.cons (h1.full s) (PRepL.full s h2)
end
/-! ### what a reading means over plain data -/
def SemE (X : Cx) (G : Nat → Pm) (ie : IE) (t : TE) : Prop := ∀ (Bf B Hf H : Hp) (r : Ev) (σ : L2.St) (Q : PyData → Prop) (Qv : VK), StR X.K X.N.length Bf B Hf H r σ → wpE G ie r Q →
  (∀ d v Hf' H', Ext Hf H Hf' H' → Rep X.K Hf' d v → Q d → Qv v H') → t σ H Qv
/-- more of a value that is looked at: whether it is frozen, where it stands -/
structure NoI (K : PySem.W.Frag) (Hf : Hp) (ie : IE) (r : Ev) (σ : L2.St) (d : PyData) (v : V) : Prop where
  no : isOwnE ie r = false → Rep K Hf d v
  sl : ∀ j, ie = .var j → σ[j]? = some (some v)
def SemP (X : Cx) (G : Nat → Pm) (ie : IE) (t : TE) : Prop := ∀ (Bf B Hf H : Hp) (r : Ev) (σ : L2.St) (Q : PyData → Prop) (Qv : VK), StR X.K X.N.length Bf B Hf H r σ → pk ie r (wpE G ie r) Q →
  (∀ d v Hf' H', Ext Hf H Hf' H' → PRep X.K Hf' H' d v → NoI X.K Hf' ie r σ d v → Q d → Qv v H') → t σ H Qv
def SemT (X : Cx) (G : Nat → Pm) (ie : IE) (t : TT) : Prop := ∀ (Bf B Hf H : Hp) (r : Ev) (σ : L2.St) (Q : Bool → Prop) (Qv : Bool → Hp → Prop), StR X.K X.N.length Bf B Hf H r σ → wpE G ie r (tr Q) →
  (∀ b Hf' H', Ext Hf H Hf' H' → Q b → Qv b H') → t σ H Qv
def SemA (X : Cx) (G : Nat → Pm) (es : IEs) (t : TA) : Prop := ∀ (Bf B Hf H : Hp) (r : Ev) (σ : L2.St) (Q : List PyData → Prop) (Qv : List V → Hp → Prop), StR X.K X.N.length Bf B Hf H r σ → wpEs G es r Q →
  (∀ ds vs Hf' H', Ext Hf H Hf' H' → PRepL X.K Hf' H' ds vs → (noOwn es r = true → RepL X.K Hf' ds vs) → ds.length = es.len → Q ds → Qv vs H') → t σ H Qv
abbrev AllE (X : Cx) (sc : Scope) (e : Expr) (t : TE) : Prop := ∀ q : Vr, q.env.scope = sc → PE (at' X q) e t
abbrev AllT (X : Cx) (sc : Scope) (e : Expr) (t : TT) : Prop := ∀ q : Vr, q.env.scope = sc → PT (at' X q) e t
abbrev AllA (X : Cx) (sc : Scope) (e : List Expr) (t : TA) : Prop := ∀ q : Vr, q.env.scope = sc → PA (at' X q) e t
def Jd (X : Cx) (sc : Scope) (G : Nat → Pm) (ie : IE) (e : Expr) : Prop := (∃ t, AllE X sc e t ∧ SemE X G ie t ∧ SemP X G ie t) ∧ ∃ t, AllT X sc e t ∧ SemT X G ie t
def JdA (X : Cx) (sc : Scope) (G : Nat → Pm) (es : IEs) (e : List Expr) : Prop := ∃ t, AllA X sc e t ∧ SemA X G es t

section
variable {X : Cx} {sc : Scope} {G : Nat → Pm} {ie : IE} {e : Expr} {t : TE}
theorem isOwnE_var {a : IE} {r : Ev} (h : ∀ i, a ≠ .var i) : isOwnE a r = false := by
  cases a <;> first | rfl | (rename_i i; exact absurd rfl (h i))
theorem SemE.p (hv : ∀ i, ie ≠ .var i) (h : SemE X G ie t) : SemP X G ie t := by
  intro Bf B Hf H r σ Q Qv R w k
  have w' : wpE G ie r Q := by
    cases ie <;> first
      | exact w
      | (rename_i i; exact absurd rfl (hv i))
  exact h Bf B Hf H r σ Q Qv R w' fun d v Hf' H' z rep q => k d v Hf' H' z (.inl rep) ⟨fun _ => rep, fun j e => absurd e (hv j)⟩ q
theorem SemE.tt (h : SemE X G ie t) : SemT X G ie (tB t) := by
  intro Bf B Hf H r σ Q Qv R w k
  refine h Bf B Hf H r σ _ _ R w fun d v Hf' H' z rep q => ?_
  obtain ⟨b, rfl, q⟩ := q
  unfold Rep at rep
  exact ⟨b, rep, k b Hf' H' z q⟩
/-- from an expression whose test is its value's truth -/
theorem jd_mk (hv : ∀ i, ie ≠ .var i) (h : AllE X sc e t) (hs : SemE X G ie t) (he : ∀ env whole, isTrue e env whole = (do let v ← whole; standAt e.pos; holding [v] (truthy v))) : Jd X sc G ie e :=
  ⟨⟨t, h, hs, hs.p hv⟩, _, fun q hq => pt_val (h q hq) (he _), hs.tt⟩
theorem jd_var {N : List Str} {T cs d} (x : XOk N T cs d X) {c : Ck} (hc : c.N = N) {i : Nat} (h : chkE c sc (.var i) e = true) : Jd X sc G (.var i) e := by
  obtain ⟨y, pos, rfl⟩ : ∃ y pos, e = .Name y pos := by
    unfold chkE at h
    split at h
    · exact ⟨_, _, rfl⟩
    · cases h
  simp only [chkE, nmOk, visB, Bool.and_eq_true, decide_eq_true_eq, Bool.not_eq_true'] at h
  obtain ⟨h1, ⟨h2, h3⟩, h4⟩ := h
  have hN : X.N[i]? = some y := by rw [x.n, ← hc]; exact h1
  have hv : Vis sc y := by
    unfold Vis
    split at h2
    · exact .inl (by assumption)
    · exact .inr (.inl (by assumption))
    · exact .inr (.inr (by assumption))
    · cases h2
  have hp : AllE X sc (.Name y pos) (tVar i) := fun q hq => pe_var (X := at' X q) hN (by show Vis q.env.scope y; rw [hq]; exact hv) h3 h4
  have hs : SemE X G (.var i) (tVar i) := by
    intro Bf B Hf H r σ Q Qv R w k
    have w' : (match r.get i with | .val d => Q d | _ => False) := by rw [wpE] at w; exact w
    have q := R.sl i
    cases e : r.get i with
    | val d =>
      rw [e] at w' q
      obtain ⟨v, e1, rep⟩ := q
      exact ⟨v, e1, k d v Hf H (Ext.refl R.e.c) rep w'⟩
    | _ => rw [e] at w'; exact w'.elim
  refine ⟨⟨_, hp, hs, ?_⟩, _, fun q hq => pt_val (hp q hq), hs.tt⟩
  intro Bf B Hf H r σ Q Qv R w k
  have w' : (match r.get i with | .val d => Q d | .own d => Q d | .lck d => Q d | _ => False) := w
  have q := R.sl i
  cases e : r.get i with
  | val d =>
    rw [e] at w' q
    obtain ⟨v, e1, rep⟩ := q
    exact ⟨v, e1, k d v Hf H (Ext.refl R.e.c) (.inl rep) ⟨fun _ => rep, fun j ej => by cases ej; exact e1⟩ w'⟩
  | own d =>
    rw [e] at w' q
    obtain ⟨p, e1, rep, _⟩ := q
    refine ⟨_, e1, k d _ Hf H (Ext.refl R.e.c) (.inr rep) ⟨fun z => ?_, fun j ej => by cases ej; exact e1⟩ w'⟩
    have z' : (r.get i).isO = false := z
    rw [e] at z'
    cases z'
  | lck d =>
    rw [e] at w' q
    obtain ⟨p, e1, rep, _⟩ := q
    refine ⟨_, e1, k d _ Hf H (Ext.refl R.e.c) (.inr rep) ⟨fun z => ?_, fun j ej => by cases ej; exact e1⟩ w'⟩
    have z' : (r.get i).isO = false := z
    rw [e] at z'
    cases z'
  | un => rw [e] at w'; exact w'.elim
  | kyd l => rw [e] at w'; exact w'.elim
  | mem l => rw [e] at w'; exact w'.elim

/-! ### arguments -/
theorem ja_nil : JdA X sc G .nil [] := ⟨_, fun q hq => pa_nil, fun Bf B Hf H r σ Q Qv R w k => by
  rw [wpEs] at w
  exact k [] [] Hf H (Ext.refl R.e.c) rfl (fun _ => RepL.nil) rfl w⟩
theorem ja_cons {es : IEs} {as : List Expr} (h : Jd X sc G ie e) (ok : okE e = true) (h' : JdA X sc G es as) : JdA X sc G (.cons ie es) (e :: as) := by
  obtain ⟨⟨t, p, _, sp⟩, _⟩ := h
  obtain ⟨ta, pa, sa⟩ := h'
  refine ⟨_, fun q hq => pa_cons (p q hq) (pa q hq) (okE.star ok _ _), fun Bf B Hf H r σ Q Qv R w k => ?_⟩
  rw [wpEs] at w
  refine sp Bf B Hf H r σ _ _ R w fun d v H1f H1 z1 rep1 rr1 w1 => ?_
  refine sa Bf B H1f H1 r σ _ _ (R.ext z1) w1 fun ds vs H2f H2 z2 rep2 rr2 hl q => ?_
  refine k (d :: ds) (v :: vs) H2f H2 (z1.trans z2) ⟨v, vs, rfl, rep1.ext z2, rep2⟩ (fun no => ?_) (by rw [List.length_cons, hl]; rfl) q
  have no' : (!isOwnE ie r && noOwn es r) = true := no
  rw [Bool.and_eq_true, Bool.not_eq_true'] at no'
  exact RepL.cons (Rep.mono z2.b _ _ (rr1.no no'.1)) (rr2 no'.2)

theorem cmp_okA (hu : X.A.units + 66 < cLine) (op : CmpOp) : ∃ r, (∀ q, OpR (at' X q) (compareOp op) r) ∧ SemR X.K r (cmpD op) := by
  obtain ⟨r, h1, h2⟩ := cmp_ok (K := X.K) op
  exact ⟨r, fun q => h1 (at' X q) rfl hu, h2⟩
/-! ### the constructs -/
theorem jd_kint {i : Int} {k pos} : Jd X sc G (.kint i) (.Constant (.int i) k pos) :=
  jd_mk (fun _ z => by cases z) (fun q hq => pe_int) (fun Bf B Hf H r σ Q Qv R w k => by rw [wpE] at w; exact k _ _ _ _ (Ext.refl R.e.c) rep_int w) (fun _ _ => rfl)
theorem jd_kstr {i : Str} {k pos} : Jd X sc G (.kstr i) (.Constant (.str i) k pos) :=
  jd_mk (fun _ z => by cases z) (fun q hq => pe_str) (fun Bf B Hf H r σ Q Qv R w k => by rw [wpE] at w; exact k _ _ _ _ (Ext.refl R.e.c) rep_str w) (fun _ _ => rfl)
theorem jd_kbool {i : Bool} {k pos} : Jd X sc G (.kbool i) (.Constant (.bool i) k pos) :=
  jd_mk (fun _ z => by cases z) (fun q hq => pe_bl) (fun Bf B Hf H r σ Q Qv R w k => by rw [wpE] at w; exact k _ _ _ _ (Ext.refl R.e.c) rep_bool w) (fun _ _ => rfl)
theorem jd_knone {k pos} : Jd X sc G .knone (.Constant .none k pos) :=
  jd_mk (fun _ z => by cases z) (fun q hq => pe_non) (fun Bf B Hf H r σ Q Qv R w k => by rw [wpE] at w; exact k _ _ _ _ (Ext.refl R.e.c) rep_none w) (fun _ _ => rfl)
theorem gl_of {x : Str} (h : gl sc x = true) : (∀ q : Vr, q.env.scope = sc → Gl (at' X q) x) ∧ (x == ("__debug__" : Str)) = false ∧ x ≠ "__name__" := by
  simp only [gl, Bool.and_eq_true, decide_eq_true_eq, Bool.not_eq_true'] at h
  obtain ⟨⟨h1, h2⟩, h3⟩ := h
  refine ⟨fun q hs => ?_, h2, h3⟩
  show q.env.scope.names.lookup x = _
  rw [hs]
  exact h1
theorem jd_gint {N : List Str} {T cs d} (x : XOk N T cs d X) {y : Str} {i : Int} {pos} (h : gl sc y = true) (hm : (y, i) ∈ cs) : Jd X sc G (.gint y i) (.Name y pos) := by
  obtain ⟨g1, g2, g3⟩ := gl_of (X := X) h
  obtain ⟨t, e⟩ := x.cs y i hm
  exact jd_mk (fun _ z => by cases z) (fun q hq => pe_glob (v := .int i) (g1 q hq) e ⟨t, rfl⟩ g2) (fun Bf B Hf H r σ Q Qv R w k => by rw [wpE] at w; exact k _ _ _ _ (Ext.refl R.e.c) rep_int w) (fun _ _ => rfl)
theorem jd_bin {op : Operator} {a b : IE} {ea eb : Expr} {pos : Pos} (ha : Jd X sc G a ea) (hb : Jd X sc G b eb) (hr : ∃ r, (∀ q, OpR (at' X q) (binaryOp op) r) ∧ SemR X.K r (binP op)) : Jd X sc G (.bin op a b) (.BinOp ea op eb pos) := by
  obtain ⟨⟨ta, pa, _, sa⟩, _⟩ := ha
  obtain ⟨⟨tb, pb, _, sb⟩, _⟩ := hb
  obtain ⟨rr, ho, hs⟩ := hr
  refine jd_mk (fun _ z => by cases z) (fun q hq => pe_op (ho q) (pa q hq) (pb q hq)) (fun Bf B Hf H r σ Q Qv R w k => ?_) (fun _ _ => rfl)
  rw [wpE] at w
  refine sa Bf B Hf H r σ _ _ R w fun x v H1f H1 z1 rep1 _ w1 => ?_
  refine sb Bf B H1f H1 r σ _ _ (R.ext z1) w1 fun y u H2f H2 z2 rep2 _ w2 => ?_
  exact hs H2f H2 x y v u Q Qv z2.c (rep1.ext z2) rep2 w2 fun d v' Hf' H' z3 rep q => k d v' Hf' H' ((z1.trans z2).trans z3) rep q
theorem jd_neg {a : IE} {ea : Expr} {pos : Pos} (ha : Jd X sc G a ea) : Jd X sc G (.neg a) (.UnaryOp .USub ea pos) := by
  obtain ⟨⟨ta, pa, sa, _⟩, _⟩ := ha
  refine jd_mk (fun _ z => by cases z) (fun q hq => pe_un un_neg (pa q hq)) (fun Bf B Hf H r σ Q Qv R w k => ?_) (fun _ _ => rfl)
  rw [wpE] at w
  refine sa Bf B Hf H r σ _ _ R w fun x v H1f H1 z1 rep1 w1 => ?_
  obtain ⟨i, rfl, q⟩ := w1
  unfold Rep at rep1
  exact ⟨i, rep1, k _ _ _ _ z1 rep_int q⟩
theorem jd_no {a : IE} {ea : Expr} {pos : Pos} (ha : Jd X sc G a ea) : Jd X sc G (.no a) (.UnaryOp .Not ea pos) := by
  obtain ⟨⟨ta, pa, sa, _⟩, tt, pt, st⟩ := ha
  have hs : SemE X G (.no a) (tNotV ta) := fun Bf B Hf H r σ Q Qv R w k => by
    rw [wpE] at w
    refine sa Bf B Hf H r σ _ _ R w fun x v H1f H1 z1 rep1 w1 => ?_
    obtain ⟨b, rfl, q⟩ := w1
    unfold Rep at rep1
    exact ⟨b, rep1, k _ _ _ _ z1 rep_bool q⟩
  refine ⟨⟨_, fun q hq => pe_not (pa q hq), hs, hs.p fun _ z => by cases z⟩, _, fun q hq => pt_not (pt q hq), fun Bf B Hf H r σ Q Qv R w k => ?_⟩
  rw [wpE] at w
  refine st Bf B Hf H r σ (fun b => Q (!b)) _ R (?_ : wpE G a r (tr fun b => Q (!b))) fun b Hf' H' z q => k _ _ _ z q
  have e : (tr fun b => tr Q (.bool (!b))) = tr fun b => Q (!b) := by
    funext d
    apply propext
    constructor
    · rintro ⟨b, e, b', e', q⟩
      cases e'
      exact ⟨b, e, q⟩
    · rintro ⟨b, e, q⟩
      exact ⟨b, e, _, rfl, q⟩
  rw [e] at w
  exact w
theorem jd_cmp {op : CmpOp} {a b : IE} {ea eb : Expr} {pos : Pos} (hu : X.A.units + 66 < cLine) (ha : Jd X sc G a ea) (hb : Jd X sc G b eb) (ok : okE eb = true) : Jd X sc G (.cmp op a b) (.Compare ea [op] [eb] pos) := by
  obtain ⟨⟨ta, pa, _, sa⟩, _⟩ := ha
  obtain ⟨⟨tb, pb, _, sb⟩, _⟩ := hb
  obtain ⟨rr, ho, hs⟩ := cmp_okA hu op
  have hE : SemE X G (.cmp op a b) (tOp rr ta tb) := fun Bf B Hf H r σ Q Qv R w k => by
    rw [wpE] at w
    refine sa Bf B Hf H r σ _ _ R w fun x v H1f H1 z1 rep1 _ w1 => ?_
    refine sb Bf B H1f H1 r σ _ _ (R.ext z1) w1 fun y u H2f H2 z2 rep2 _ w2 => ?_
    exact hs H2f H2 x y v u Q Qv z2.c (rep1.ext z2) rep2 w2 fun d v' Hf' H' z3 rep q => k d v' Hf' H' ((z1.trans z2).trans z3) rep q
  exact ⟨⟨_, fun q hq => pe_cmpR (ho q) (pa q hq) (pb q hq) (okE.mark ok _), hE, hE.p fun _ z => by cases z⟩, _, fun q hq => pt_cmpR (ho q) (pa q hq) (pb q hq) (okE.mark ok _), hE.tt⟩
theorem jd_chain {o1 o2 : CmpOp} {a b c : IE} {ea eb ec : Expr} {pos : Pos} (hu : X.A.units + 66 < cLine) (ha : Jd X sc G a ea) (hb : Jd X sc G b eb) (hc : Jd X sc G c ec) (ok : okE ec = true) : Jd X sc G (.chain o1 o2 a b c) (.Compare ea [o1, o2] [eb, ec] pos) := by
  obtain ⟨⟨ta, pa, sa, _⟩, _⟩ := ha
  obtain ⟨⟨tb, pb, sb, _⟩, _⟩ := hb
  obtain ⟨⟨tc, pc, sc, _⟩, _⟩ := hc
  obtain ⟨rr, ho, hs⟩ := cmp_okA hu o1
  obtain ⟨rr2, ho2, hs2⟩ := cmp_okA hu o2
  have hm : lastMarks [o1, o2] [eb, ec] = false := by
    show behindInMarks o2 ec = false
    exact okE.mark ok _
  have hE : SemE X G (.chain o1 o2 a b c) (tChain rr rr2 ta tb tc) := fun Bf B Hf H r σ Q Qv R w k => by
    rw [wpE] at w
    refine sa Bf B Hf H r σ _ _ R w fun x v H1f H1 z1 rep1 w1 => ?_
    refine sb Bf B H1f H1 r σ _ _ (R.ext z1) w1 fun y u H2f H2 z2 rep2 w2 => ?_
    refine hs H2f H2 x y v u (tr fun t => if t = true then wpE G c r fun z => cmpP o2 y z fun t => Q (.bool t) else Q (.bool false)) _ z2.c (.inl (Rep.mono z2.b _ _ rep1)) (.inl rep2) ?_ fun d v' H3f H3 z3 rep3 q => ?_
    · unfold cmpD
      have e : (fun t => tr (fun t => if t = true then wpE G c r fun z => cmpP o2 y z fun t => Q (.bool t) else Q (.bool false)) (.bool t)) = fun t => if t = true then wpE G c r fun z => cmpP o2 y z fun t => Q (.bool t) else Q (.bool false) := by
        funext t
        apply propext
        constructor
        · rintro ⟨b, e, q⟩
          cases e
          exact q
        · exact fun q => ⟨t, rfl, q⟩
      rw [e]
      exact w2
    · obtain ⟨t, rfl, q⟩ := q
      unfold Rep at rep3
      refine ⟨t, rep3, ?_⟩
      cases t with
      | false => exact iteF (k _ _ _ _ ((z1.trans z2).trans z3) rep_bool (by simpa using q))
      | true =>
        refine iteT ?_
        rw [if_pos rfl] at q
        refine sc Bf B H3f H3 r σ _ _ (R.ext ((z1.trans z2).trans z3)) q fun z w' H4f H4 z4 rep4 q4 => ?_
        exact hs2 H4f H4 y z u w' Q Qv z4.c (.inl (Rep.mono z4.b _ _ (Rep.mono z3.b _ _ rep2))) (.inl rep4) q4 fun d v' Hf' H' z5 rep q => k d v' Hf' H' ((((z1.trans z2).trans z3).trans z4).trans z5) rep q
  exact ⟨⟨_, fun q hq => pe_chain (ho q) (ho2 q) (pa q hq) (pb q hq) (pc q hq) hm, hE, hE.p fun _ z => by cases z⟩, _, fun q hq => pt_chain (ho q) (ho2 q) (pa q hq) (pb q hq) (pc q hq) hm, hE.tt⟩
end
end CF
namespace CF
open PySem PySem.Spec PyProof.Rows L2
section
variable {X : Cx} {sc : Scope} {G : Nat → Pm}

/-! ### and, or -/
/-- the parts of an and, an or: all but the last tests -/
def JdB (X : Cx) (sc : Scope) (G : Nat → Pm) (op : BoolOp) (es : IEs) (vs : List Expr) : Prop := ∀ pos,
  (∃ t, AllE X sc (.BoolOp op vs pos) t ∧ ∀ (Bf B Hf H : Hp) (r : Ev) (σ : L2.St) (Q : PyData → Prop) (Qv : VK), StR X.K X.N.length Bf B Hf H r σ → wpBop G op es r Q → (∀ d v Hf' H', Ext Hf H Hf' H' → Rep X.K Hf' d v → Q d → Qv v H') → t σ H Qv) ∧
  ∃ t, (∀ q : Vr, q.env.scope = sc → PW (at' X q) (.BoolOp op vs pos) t) ∧ ∀ (Bf B Hf H : Hp) (r : Ev) (σ : L2.St) (Q : Bool → Prop) (Qv : Bool → Hp → Prop), StR X.K X.N.length Bf B Hf H r σ → wpBop G op es r (tr Q) → (∀ b Hf' H', Ext Hf H Hf' H' → Q b → Qv b H') → t σ H Qv
theorem tr_bool {Q : Bool → Prop} {b : Bool} (h : tr Q (.bool b)) : Q b := by
  obtain ⟨c, e, q⟩ := h
  cases e
  exact q
theorem jb_one {op : BoolOp} {a : IE} {ea : Expr} (ha : Jd X sc G a ea) : JdB X sc G op (.cons a .nil) [ea] := by
  intro pos
  obtain ⟨⟨ta, pa, sa, _⟩, tt, pt, st⟩ := ha
  refine ⟨⟨ta, fun q hq => pe_one (pa q hq), fun Bf B Hf H r σ Q Qv R w k => ?_⟩, tt, ?_, fun Bf B Hf H r σ Q Qv R w k => ?_⟩
  · rw [wpBop] at w
    exact sa Bf B Hf H r σ Q Qv R w k
  · cases op
    · exact fun q hq => pw_and1 (pt q hq)
    · exact fun q hq => pw_or1 (pt q hq)
  · rw [wpBop] at w
    exact st Bf B Hf H r σ Q Qv R w k
theorem jb_cons {op : BoolOp} {a b : IE} {es : IEs} {ea eb : Expr} {vs : List Expr} (ha : Jd X sc G a ea) (hb : JdB X sc G op (.cons b es) (eb :: vs)) : JdB X sc G op (.cons a (.cons b es)) (ea :: eb :: vs) := by
  intro pos
  obtain ⟨⟨ta, pa, sa, _⟩, tt, pt, st⟩ := ha
  obtain ⟨⟨tb, pb, sb⟩, tw, pw, sw⟩ := hb pos
  cases op
  · refine ⟨⟨_, fun q hq => pe_and (pa q hq) (pb q hq), fun Bf B Hf H r σ Q Qv R w k => ?_⟩, _, fun q hq => pw_and (pt q hq) (pw q hq), fun Bf B Hf H r σ Q Qv R w k => ?_⟩
    · rw [wpBop] at w
      refine sa Bf B Hf H r σ _ _ R w fun x v H1f H1 z1 rep1 w1 => ?_
      obtain ⟨c, rfl, w1⟩ := w1
      unfold Rep at rep1
      refine ⟨c, rep1, ?_⟩
      cases c with
      | false => exact iteF (k _ _ _ _ z1 rep_bool (by simpa using w1))
      | true => exact iteT (sb Bf B H1f H1 r σ Q Qv (R.ext z1) (by simpa using w1) fun d v Hf' H' z2 => k d v Hf' H' (z1.trans z2))
    · rw [wpBop] at w
      refine st Bf B Hf H r σ _ _ R w fun c H1f H1 z1 w1 => ?_
      cases c with
      | false => exact iteF (k _ _ _ z1 (tr_bool (by simpa using w1)))
      | true => exact iteT (sw Bf B H1f H1 r σ Q Qv (R.ext z1) (by simpa using w1) fun d Hf' H' z2 => k d Hf' H' (z1.trans z2))
  · refine ⟨⟨_, fun q hq => pe_or (pa q hq) (pb q hq), fun Bf B Hf H r σ Q Qv R w k => ?_⟩, _, fun q hq => pw_or (pt q hq) (pw q hq), fun Bf B Hf H r σ Q Qv R w k => ?_⟩
    · rw [wpBop] at w
      refine sa Bf B Hf H r σ _ _ R w fun x v H1f H1 z1 rep1 w1 => ?_
      obtain ⟨c, rfl, w1⟩ := w1
      unfold Rep at rep1
      refine ⟨c, rep1, ?_⟩
      cases c with
      | true => exact iteT (k _ _ _ _ z1 rep_bool (by simpa using w1))
      | false => exact iteF (sb Bf B H1f H1 r σ Q Qv (R.ext z1) (by simpa using w1) fun d v Hf' H' z2 => k d v Hf' H' (z1.trans z2))
    · rw [wpBop] at w
      refine st Bf B Hf H r σ _ _ R w fun c H1f H1 z1 w1 => ?_
      cases c with
      | true => exact iteT (k _ _ _ z1 (tr_bool (by simpa using w1)))
      | false => exact iteF (sw Bf B H1f H1 r σ Q Qv (R.ext z1) (by simpa using w1) fun d Hf' H' z2 => k d Hf' H' (z1.trans z2))
theorem jd_bop {op : BoolOp} {es : IEs} {vs : List Expr} {pos : Pos} (h : JdB X sc G op es vs) : Jd X sc G (.bop op es) (.BoolOp op vs pos) := by
  obtain ⟨⟨t, p, s⟩, tt, pw, sw⟩ := h pos
  have hs : SemE X G (.bop op es) t := fun Bf B Hf H r σ Q Qv R w k => by
    rw [wpE] at w
    exact s Bf B Hf H r σ Q Qv R w k
  refine ⟨⟨t, p, hs, hs.p fun _ z => by cases z⟩, tt, fun q hq => (pw q hq).pt, fun Bf B Hf H r σ Q Qv R w k => ?_⟩
  rw [wpE] at w
  exact sw Bf B Hf H r σ Q Qv R w k

/-! ### calls -/
theorem ja_plain {es : IEs} {as : List Expr} {c : Ck} {sc : Scope} (h : chkEs c sc es as = true) (pos : Pos) (env : PySem.Env) : (backTo pos (starEach as env)).any (·.1) = false := by
  induction as generalizing es with
  | nil => rfl
  | cons a as ih =>
    cases es with
    | nil => exact absurd h (by simp [chkEs])
    | cons e es =>
      have h' : (chkE c sc e a && chkEs c sc es as) = true := by simpa [chkEs] using h
      rw [Bool.and_eq_true] at h'
      rw [okE.star (chkE_ok h'.1)]
      exact ih h'.2
theorem flat_rep {K : PySem.W.Frag} {H H' : Hp} {d : PyData} {v : V} (f : flat d = true) (h : Rep K H d v) : Rep K H' d v := Rep.flat f h
/-- a call of a function of the table; for a fresh one also as a list of one's own -/
theorem call_sem {f : Nat} {g : FnE} {es : IEs} {ta : TA} (hG : G f = g.G) (sa : SemA X G es ta) (he : es.len = g.ar) (Bf B Hf H : Hp) (r : Ev) (σ : L2.St) (Q : PyData → Prop) (Qv : VK) (R : StR X.K X.N.length Bf B Hf H r σ) (w : wpE G (.call f es) r Q)
    (k : ∀ d v Hf' H', Ext Hf H Hf' H' → (if g.fresh = true then (ORep X.K Hf' H' d v ∧ (∀ p, v = .ref p → H p = none)) ∨ (flat d = true ∧ Rep X.K Hf' d v) else Rep X.K Hf' d v) → Q d → Qv v H') : tCallM (spD X.K g.ar g.fresh g.G) ta σ H Qv := by
  rw [wpE] at w
  refine sa Bf B Hf H r σ _ _ R w fun ds vs H1f H1 z1 rep1 rr1 hl w1 => ?_
  rw [hG] at w1
  have lenV : vs.length = g.ar := by rw [← (PRepL.full z1.c rep1).length, hl, he]
  refine ⟨lenV, ?_⟩
  by_cases no : noOwn es r = true
  · refine ⟨H1f, ds, _, z1.c, rr1 no, w1, fun d v H2f H2 z2 rep q => ?_⟩
    refine k d v H2f H2 (z1.trans z2) ?_ q.2
    by_cases fr : g.fresh = true
    · rw [if_pos fr] at rep ⊢
      refine .inl ⟨rep.1, fun p e => ?_⟩
      exact z1.a.free (rep.2 p e)
    · rw [if_neg fr] at rep ⊢
      exact rep
  · refine ⟨H1, ds, _, Same.refl _, PRepL.full z1.c rep1, w1, fun d v H2f H2 z2 rep q => ?_⟩
    have fl : flat d = true := by
      rcases q.1 with q | q
      · exact q
      · exact absurd q no
    have rp : ∀ H', Rep X.K H' d v := fun H' => by
      by_cases fr : g.fresh = true
      · rw [if_pos fr] at rep
        cases d <;> first
          | exact (rep.1 : False).elim
          | exact absurd fl (by simp [flat])
      · rw [if_neg fr] at rep
        exact flat_rep fl rep
    refine k d v H1f H2 ⟨z1.a.trans z2.a, z1.b, z1.c.trans z2.a, z1.d⟩ ?_ q.2
    by_cases fr : g.fresh = true
    · rw [if_pos fr]
      exact .inr ⟨fl, rp _⟩
    · rw [if_neg fr]
      exact rp _
theorem ORep.fr {K : PySem.W.Frag} {Hf H Hf' H' : Hp} {d : PyData} {v : V} (z : Ext Hf H Hf' H') (h : ORep K Hf' H' d v) (hn : ∀ p, v = .ref p → H p = none) : ∃ Hf2, Ext Hf H Hf2 H' ∧ Rep K Hf2 d v := by
  obtain ⟨p, o, rfl, h1, h2⟩ := h.ref
  have hp := hn p rfl
  refine ⟨upd Hf' p o, ⟨z.a, z.b.trans (Same.frz z.c h1 h2).1, (Same.frz z.c h1 h2).2, fun q hq => ?_⟩, h.freeze h2⟩
  rw [upd_ne (fun e => hq (by rw [e]; exact hp))]
  exact z.d q hq
theorem call_pe {N : List Str} {T cs d} (x : XOk N T cs d X) {f : Nat} {g : FnE} {ea : Expr} {as : List Expr} {ta : TA} {y : Str} {p pos : Pos} (hlt : g.ar < 1000) (hT : T[f]? = some g) (hy : g.name = y) (hg : gl sc y = true) (pa : AllA X sc (ea :: as) ta)
    (ok : okE ea = true) (hpl : ∀ env, (backTo pos (starEach as env)).any (·.1) = false) : AllE X sc (.Call (.Name y p) (ea :: as) [] pos) (tCallM (spD X.K g.ar g.fresh g.G) ta) := by
  obtain ⟨a, F⟩ := x.fn f g hT
  obtain ⟨h1, h2, hfn, _, _⟩ := F
  obtain ⟨fd, ps, h3, h4, h5⟩ := hfn hlt
  obtain ⟨g1, g2, g3⟩ := gl_of (X := X) hg
  exact fun q hq => pe_callM (X := at' X q) h5 x.rm (g1 q hq) (by rw [← hy]; exact h1) h2 h4 (pa q hq) g2 (okE.star ok _ _) (hpl _)
theorem jd_call {N : List Str} {T cs d} (x : XOk N T cs d X) {f : Nat} {g : FnE} {es : IEs} {ea : Expr} {as : List Expr} {y : Str} {p pos : Pos} (hT : T[f]? = some g) (hG : G f = g.G) (hy : g.name = y) (hg : gl sc y = true) (ha : JdA X sc G es (ea :: as))
    (ok : okE ea = true) (hpl : ∀ env, (backTo pos (starEach as env)).any (·.1) = false) (he : es.len = g.ar) (hlt : es.len < 1000) : Jd X sc G (.call f es) (.Call (.Name y p) (ea :: as) [] pos) := by
  obtain ⟨ta, pa, sa⟩ := ha
  refine jd_mk (fun _ z => by cases z) (call_pe x (by omega) hT hy hg pa ok hpl) (fun Bf B Hf H r σ Q Qv R w k => ?_) (fun _ _ => rfl)
  refine call_sem hG sa he Bf B Hf H r σ Q Qv R w fun d v Hf' H' z rep q => ?_
  by_cases fr : g.fresh = true
  · rw [if_pos fr] at rep
    rcases rep with ⟨rep, hn⟩ | ⟨_, rep⟩
    · obtain ⟨Hf2, z2, rep2⟩ := rep.fr z hn
      exact k d v Hf2 H' z2 rep2 q
    · exact k d v Hf' H' z rep q
  · rw [if_neg fr] at rep
    exact k d v Hf' H' z rep q
end
end CF
namespace CF
open PySem PySem.Spec PyProof.Rows L2

/-! ### built-in functions -/
def SemC (K : PySem.W.Frag) (r : List V → Hp → VK → Prop) (P : List PyData → (PyData → Prop) → Prop) : Prop :=
  ∀ (Hf H : Hp) (ds : List PyData) (vs : List V) (Q : PyData → Prop) (Qv : VK), Same Hf H → PRepL K Hf H ds vs → P ds Q →
    (∀ d v Hf' H', Ext Hf H Hf' H' → Rep K Hf' d v → Q d → Qv v H') → r vs H Qv
section
variable {K : PySem.W.Frag} {Hf H : Hp}
theorem one_of {ds : List PyData} {vs : List V} {P : PyData → Prop} (h : PRepL K Hf H ds vs) (e : ∃ d, ds = [d] ∧ P d) : ∃ d v, ds = [d] ∧ vs = [v] ∧ PRep K Hf H d v ∧ P d := by
  obtain ⟨d, rfl, p⟩ := e
  obtain ⟨v, r, rfl, h1, h2⟩ := h
  have h2' : r = [] := h2
  subst h2'
  exact ⟨d, v, rfl, rfl, h1, p⟩
theorem prep1 {d : PyData} {vs : List V} (h : PRepL K Hf H [d] vs) : ∃ v, vs = [v] ∧ PRep K Hf H d v := by
  obtain ⟨v, r, rfl, h1, h2⟩ := h
  have h2' : r = [] := h2
  subst h2'
  exact ⟨v, rfl, h1⟩
theorem prep2 {d e : PyData} {vs : List V} (h : PRepL K Hf H [d, e] vs) : ∃ v u, vs = [v, u] ∧ PRep K Hf H d v ∧ PRep K Hf H e u := by
  obtain ⟨v, r, rfl, h1, h2⟩ := h
  obtain ⟨u, rfl, h3⟩ := prep1 h2
  exact ⟨v, u, rfl, h1, h3⟩
theorem max_ite (i j : Int) : (if j > i then j else i) = max i j := by
  rw [Int.max_def]
  split <;> split <;> omega
theorem min_ite (i j : Int) : (if j < i then j else i) = min i j := by
  rw [Int.min_def]
  split <;> split <;> omega
/-- the pair that stands at a place -/
def pairAt (H : Hp) (v : V) : Int × Int := match v with
  | .ref t => (match H t with | some (.tup [.int i, .int j]) => (i, j) | _ => (0, 0))
  | _ => (0, 0)
def pairD (p : Int × Int) : PyData := .tuple [.int p.1, .int p.2]
theorem pair_of {i j : Int} {v : V} (s : Same Hf H) (h : Rep K Hf (.tuple [.int i, .int j]) v) : ∃ t, v = .ref t ∧ H t = some (.tup [.int i, .int j]) ∧ pairAt H v = (i, j) := by
  unfold Rep at h
  obtain ⟨t, vs, rfl, h1, h2⟩ := h
  have e : vs = [i, j].map V.int := RepL.ints (ns := [i, j]) h2
  subst e
  have h3 := s _ _ h1
  refine ⟨t, rfl, h3, ?_⟩
  unfold pairAt
  show (match H t with | some (.tup [.int i, .int j]) => (i, j) | _ => (0, 0)) = (i, j)
  rw [h3]
  rfl
theorem pairs_of (s : Same Hf H) : ∀ {xs : List PyData} {vs : List V}, RepL K Hf xs vs → (∀ x ∈ xs, ∃ i j, x = .tuple [.int i, .int j]) →
    xs = vs.map (fun v => pairD (pairAt H v)) ∧ ∀ v ∈ vs, Rep K Hf (pairD (pairAt H v)) v ∧ ∃ t, v = .ref t ∧ H t = some (.tup [.int (pairAt H v).1, .int (pairAt H v).2])
  | [], vs, h, _ => by unfold RepL at h; subst h; exact ⟨rfl, fun v hv => absurd hv (by simp)⟩
  | x :: xs, vs, h, hx => by
    unfold RepL at h
    obtain ⟨v, r, rfl, h1, h2⟩ := h
    obtain ⟨i, j, rfl⟩ := hx x List.mem_cons_self
    obtain ⟨t, e1, e2, e3⟩ := pair_of s h1
    obtain ⟨q1, q2⟩ := pairs_of s h2 fun y hy => hx y (List.mem_cons_of_mem _ hy)
    refine ⟨?_, fun u hu => ?_⟩
    · rw [List.map_cons, ← q1, e3]
      rfl
    · rcases List.mem_cons.mp hu with e | hu
      · subst e
        rw [e3]
        exact ⟨h1, t, e1, e2⟩
      · exact q2 u hu
theorem repL_map {f : V → PyData} : ∀ {vs : List V}, (∀ v ∈ vs, Rep K Hf (f v) v) → RepL K Hf (vs.map f) vs
  | [], _ => RepL.nil
  | v :: vs, h => RepL.cons (h v List.mem_cons_self) (repL_map fun u hu => h u (List.mem_cons_of_mem _ hu))
end
/-- the call of one of these -/
def BtOk (X : Cx) (f : Bf) : Prop := ∃ r : List V → Hp → VK → Prop, SemC X.K r (bltP f) ∧
  ((∃ id, bootBuiltins f.nm.1 = some (.builtin id) ∧ ∀ q, CallR (at' X q) (.builtin id) r) ∨ ∃ T, bootBuiltins f.nm.1 = some (.type T) ∧ ∀ q, CallR (at' X q) (.type T) r)
section
variable {X : Cx}
theorem bt_len : BtOk X .len := by
  refine ⟨fun xs H Q => ∃ p ys, xs = [.ref p] ∧ (SqL X.K H p ys ∨ SqT X.K H p ys) ∧ Q (.int ys.length) H, ?_, .inl ⟨_, PySem.boot_len, fun q => call_len_seq (X := at' X q)⟩⟩
  intro Hf H ds vs Q Qv s rep p k
  unfold bltP at p
  split at p <;> first | exact p.elim | contradiction | skip
  · obtain ⟨v, rfl, q⟩ := prep1 rep
    obtain ⟨a, ws, rfl, h1, h2⟩ := q.list s
    refine ⟨a, ws, rfl, .inl h1, ?_⟩
    rw [← h2.length]
    exact k _ _ _ _ (Ext.refl s) rep_int p
  · obtain ⟨v, rfl, q⟩ := prep1 rep
    obtain ⟨a, ws, rfl, h1, h2⟩ := q.tuple s
    refine ⟨a, ws, rfl, .inr (SqT.of h1), ?_⟩
    rw [← h2.length]
    exact k _ _ _ _ (Ext.refl s) rep_int p
theorem bt_max2 (hc : X.calm = true) : BtOk X .max2 := by
  refine ⟨_, ?_, .inl ⟨_, boot_max, fun q => call_max2 hc⟩⟩
  intro Hf H ds vs Q Qv s rep p k
  unfold bltP at p
  split at p <;> first | exact p.elim | contradiction | skip
  obtain ⟨v, u, rfl, q1, q2⟩ := prep2 rep
  refine ⟨_, _, by rw [q1.int, q2.int], ?_⟩
  rw [max_ite]
  exact k _ _ _ _ (Ext.refl s) rep_int p
theorem bt_min2 (hc : X.calm = true) : BtOk X .min2 := by
  refine ⟨_, ?_, .inl ⟨_, boot_min, fun q => call_min2 hc⟩⟩
  intro Hf H ds vs Q Qv s rep p k
  unfold bltP at p
  split at p <;> first | exact p.elim | contradiction | skip
  obtain ⟨v, u, rfl, q1, q2⟩ := prep2 rep
  refine ⟨_, _, by rw [q1.int, q2.int], ?_⟩
  rw [min_ite]
  exact k _ _ _ _ (Ext.refl s) rep_int p
theorem bt_maxL (hc : X.calm = true) : BtOk X .maxL := by
  refine ⟨rMax X.K, ?_, .inl ⟨_, boot_max, fun q => cr_max (X := at' X q) hc⟩⟩
  intro Hf H ds vs Q Qv s rep p k
  unfold bltP at p
  split at p <;> first | exact p.elim | contradiction | skip
  obtain ⟨v, rfl, q⟩ := prep1 rep
  obtain ⟨a, ws, rfl, h1, h2⟩ := q.list s
  obtain ⟨ns, rfl, p1, p2⟩ := p
  have e := h2.ints
  subst e
  exact ⟨a, ns, rfl, h1, p1, fun m hm hy => k _ _ _ _ (Ext.refl s) rep_int (p2 m hm hy)⟩
theorem bt_minL (hc : X.calm = true) : BtOk X .minL := by
  refine ⟨rMin X.K, ?_, .inl ⟨_, boot_min, fun q => cr_min (X := at' X q) hc⟩⟩
  intro Hf H ds vs Q Qv s rep p k
  unfold bltP at p
  split at p <;> first | exact p.elim | contradiction | skip
  obtain ⟨v, rfl, q⟩ := prep1 rep
  obtain ⟨a, ws, rfl, h1, h2⟩ := q.list s
  obtain ⟨ns, rfl, p1, p2⟩ := p
  have e := h2.ints
  subst e
  exact ⟨a, ns, rfl, h1, p1, fun m hm hy => k _ _ _ _ (Ext.refl s) rep_int (p2 m hm hy)⟩
theorem bt_sum (hc : X.calm = true) : BtOk X .sum := by
  refine ⟨rSum X.K, ?_, .inl ⟨_, boot_sum, fun q => cr_sum (X := at' X q) hc⟩⟩
  intro Hf H ds vs Q Qv s rep p k
  unfold bltP at p
  split at p <;> first | exact p.elim | contradiction | skip
  obtain ⟨v, rfl, q⟩ := prep1 rep
  obtain ⟨a, ws, rfl, h1, h2⟩ := q.list s
  obtain ⟨ns, rfl, p1⟩ := p
  have e := h2.ints
  subst e
  exact ⟨a, ns, rfl, h1, k _ _ _ _ (Ext.refl s) rep_int p1⟩
theorem bt_all (hc : X.calm = true) : BtOk X .all := by
  refine ⟨rAll X.K, ?_, .inl ⟨_, boot_all, fun q => cr_all (X := at' X q) hc⟩⟩
  intro Hf H ds vs Q Qv s rep p k
  unfold bltP at p
  split at p <;> first | exact p.elim | contradiction | skip
  obtain ⟨v, rfl, q⟩ := prep1 rep
  obtain ⟨a, ws, rfl, h1, h2⟩ := q.list s
  obtain ⟨ns, rfl, p1⟩ := p
  have e := h2.bools
  subst e
  exact ⟨a, ns, rfl, h1, k _ _ _ _ (Ext.refl s) rep_bool p1⟩
theorem bt_list1 : BtOk X .list1 := by
  refine ⟨fun xs H Q => ∃ p ys, xs = [.ref p] ∧ (SqL X.K H p ys ∨ SqT X.K H p ys) ∧ ∀ l, H l = none → Q (.ref l) (upd H l (.lst ys)), ?_, .inr ⟨_, boot_list, fun q => call_list_of (X := at' X q)⟩⟩
  intro Hf H ds vs Q Qv s rep p k
  unfold bltP at p
  split at p <;> first | exact p.elim | contradiction | skip
  · obtain ⟨v, rfl, q⟩ := prep1 rep
    obtain ⟨a, ws, rfl, h1, h2⟩ := q.list s
    exact ⟨a, ws, rfl, .inl h1, fun l hl => k _ _ _ _ (Ext.new s hl) (rep_newL (s.free hl) h2) p⟩
  · obtain ⟨v, rfl, q⟩ := prep1 rep
    obtain ⟨a, ws, rfl, h1, h2⟩ := q.tuple s
    exact ⟨a, ws, rfl, .inr (SqT.of h1), fun l hl => k _ _ _ _ (Ext.new s hl) (rep_newL (s.free hl) h2) p⟩
theorem bt_tuple1 : BtOk X .tuple1 := by
  refine ⟨fun xs H Q => ∃ p ys, xs = [.ref p] ∧ ((SqL X.K H p ys ∧ ∀ l, H l = none → Q (.ref l) (upd H l (.tup ys))) ∨ (SqT X.K H p ys ∧ Q (.ref p) H)), ?_, .inr ⟨_, boot_tuple, fun q => call_tuple_of (X := at' X q)⟩⟩
  intro Hf H ds vs Q Qv s rep p k
  unfold bltP at p
  split at p <;> first | exact p.elim | contradiction | skip
  · obtain ⟨v, rfl, q⟩ := prep1 rep
    obtain ⟨a, ws, rfl, h1, h2⟩ := q.list s
    exact ⟨a, ws, rfl, .inl ⟨h1, fun l hl => k _ _ _ _ (Ext.new s hl) (rep_newT (s.free hl) h2) p⟩⟩
  · obtain ⟨v, rfl, q⟩ := prep1 rep
    have q' := q
    obtain ⟨a, ws, rfl, h1, h2⟩ := q.tuple s
    rcases q' with q' | q'
    · exact ⟨a, ws, rfl, .inr ⟨SqT.of h1, k _ _ _ _ (Ext.refl s) q' p⟩⟩
    · exact q'.elim
theorem bt_int1 : BtOk X .int1 := by
  refine ⟨_, ?_, .inr ⟨_, boot_int, fun q => call_int1⟩⟩
  intro Hf H ds vs Q Qv s rep p k
  unfold bltP at p
  split at p <;> first | exact p.elim | contradiction | skip
  · obtain ⟨v, rfl, q⟩ := prep1 rep
    exact .inl ⟨_, by rw [q.int], k _ _ _ _ (Ext.refl s) rep_int p⟩
  · obtain ⟨v, rfl, q⟩ := prep1 rep
    exact .inr ⟨_, by rw [q.bool], k _ _ _ _ (Ext.refl s) rep_int p⟩
theorem bt_str1 : BtOk X .str1 := by
  refine ⟨_, ?_, .inr ⟨_, boot_str, fun q => call_str_int⟩⟩
  intro Hf H ds vs Q Qv s rep p k
  unfold bltP at p
  split at p <;> first | exact p.elim | contradiction | skip
  obtain ⟨v, rfl, q⟩ := prep1 rep
  exact ⟨_, by rw [q.int], p.1, k _ _ _ _ (Ext.refl s) rep_str p.2⟩
theorem bt_sortI : BtOk X .sortI := by
  refine ⟨rSorted X.K, ?_, .inl ⟨_, boot_sorted, fun q => cr_sorted (X := at' X q)⟩⟩
  intro Hf H ds vs Q Qv s rep p k
  unfold bltP at p
  split at p <;> first | exact p.elim | contradiction | skip
  obtain ⟨v, rfl, q⟩ := prep1 rep
  obtain ⟨a, ws, rfl, h1, h2⟩ := q.list s
  obtain ⟨ns, rfl, p1, p2⟩ := p
  have e := h2.ints
  subst e
  exact ⟨a, ns, rfl, h1, p1, fun ns' l hp hs hl => k _ _ _ _ (Ext.new s hl) (rep_newL (s.free hl) (repL_ints ns')) (p2 ns' hp hs)⟩
theorem bt_sortP : BtOk X .sortP := by
  refine ⟨rSortedPO X.K, ?_, .inl ⟨_, boot_sorted, fun q => cr_sortedPO (X := at' X q)⟩⟩
  intro Hf H ds vs Q Qv s rep p k
  unfold bltP at p
  split at p <;> first | exact p.elim | contradiction | skip
  rename_i xs
  obtain ⟨v, rfl, q⟩ := prep1 rep
  obtain ⟨a, ws, rfl, h1, h2⟩ := q.list s
  obtain ⟨p1, p2⟩ := p
  obtain ⟨e1, e2⟩ := pairs_of s h2 p1
  refine ⟨a, ws, pairAt H, rfl, h1, fun x hx => (e2 x hx).2, fun ys l hs hp hl => ?_⟩
  refine k _ _ _ _ (Ext.new s hl) (rep_newL (s.free hl) (repL_map (f := fun v => pairD (pairAt H v)) fun v hv => (e2 v (hp.perm.mem_iff.mp hv)).1)) (p2 _ ?_ ?_)
  · rw [e1]
    exact hp.perm.map _
  · refine List.pairwise_map.mpr (List.Pairwise.imp (fun {x y} h => ?_) hs)
    have h' := SrtO.lexB_no.mp h
    show (pairAt H x).1 < (pairAt H y).1 ∨ ((pairAt H x).1 = (pairAt H y).1 ∧ (pairAt H x).2 ≤ (pairAt H y).2)
    omega
theorem bt_ok (hc : X.calm = true) (f : Bf) : BtOk X f := by
  cases f
  · exact bt_len
  · exact bt_max2 hc
  · exact bt_min2 hc
  · exact bt_maxL hc
  · exact bt_minL hc
  · exact bt_sum hc
  · exact bt_all hc
  · exact bt_list1
  · exact bt_tuple1
  · exact bt_int1
  · exact bt_str1
  · exact bt_sortI
  · exact bt_sortP
end
end CF
namespace CF
open PySem PySem.Spec PyProof.Rows L2
section
variable {X : Cx} {sc : Scope} {G : Nat → Pm}
theorem jd_blt {N : List Str} {T cs d} (x : XOk N T cs d X) {f : Bf} {es : IEs} {ea : Expr} {as : List Expr} {y : Str} {p pos : Pos} (hy : f.nm.1 = y) (hmem : y ∈ bnames) (hg : gl sc y = true) (ha : JdA X sc G es (ea :: as))
    (ok : okE ea = true) (hpl : ∀ env, (backTo pos (starEach as env)).any (·.1) = false) : Jd X sc G (.blt f es) (.Call (.Name y p) (ea :: as) [] pos) := by
  obtain ⟨ta, pa, sa⟩ := ha
  obtain ⟨r, sem, hcall⟩ := bt_ok x.calm f
  obtain ⟨g1, g2, g3⟩ := gl_of (X := X) hg
  have hm := x.mb y hmem
  have hp : AllE X sc (.Call (.Name y p) (ea :: as) [] pos) (tCB r ta) := by
    rcases hcall with ⟨id, hb, hc⟩ | ⟨T, hb, hc⟩
    · rw [hy] at hb
      exact fun q hq => pe_callB (hc q) (g1 q hq) hm hb (pa q hq) g3 g2 (okE.star ok _ _) (hpl _)
    · rw [hy] at hb
      exact fun q hq => pe_callTy (hc q) (g1 q hq) hm hb (pa q hq) g3 g2 (okE.star ok _ _) (hpl _)
  refine jd_mk (fun _ z => by cases z) hp (fun Bf B Hf H r' σ Q Qv R w k => ?_) (fun _ _ => rfl)
  rw [wpE] at w
  refine sa Bf B Hf H r' σ _ _ R w fun ds vs H1f H1 z1 rep1 _ _ w1 => ?_
  exact sem H1f H1 ds vs Q Qv z1.c rep1 w1 fun d v Hf' H' z2 rep q => k d v Hf' H' (z1.trans z2) rep q

/-! ### isinstance -/
def dTy : PyData → String
  | .none => "NoneType" | .bool _ => "bool" | .int _ => "int" | .str _ => "str" | .list _ => "list" | .tuple _ => "tuple" | .dict _ => "dict"
theorem isi_ty {K : PySem.W.Frag} {Hf H : Hp} {d : PyData} {v : V} (s : Same Hf H) (h : PRep K Hf H d v) : TyX K H v (.type (dTy d)) := by
  cases d with
  | none => cases h.none; exact .base .non
  | bool b => cases h.bool; exact .base (.bl b)
  | int b => cases h.int; exact .base (.int b)
  | str b => cases h.str; exact .base (.str b)
  | list xs =>
    obtain ⟨a, vs, e, h1, _⟩ := h.list s
    subst e
    rcases h1 with (h1 | ⟨o, h1⟩) | ⟨o, its, n, h1, h2, _⟩
    · exact .base (.lst h1)
    · exact .base (.frz h1)
    · exact .kList h1 h2
  | tuple xs =>
    obtain ⟨a, vs, e, h1, _⟩ := h.tuple s
    subst e
    exact .base (.tup h1)
  | dict kvs =>
    have h' := h.full s
    unfold Rep at h'
    obtain ⟨a, ks, e, h1 | ⟨o, h1⟩, _⟩ := h'
    · subst e
      exact .base (.dK h1)
    · subst e
      exact .fDict h1
theorem isi_kit (d : PyData) (t : Ty) : kitB (dTy d) t.nm = some (isT d t) := by
  cases d <;> cases t <;> (simp only [dTy, Ty.nm, isT]; decide +kernel)
theorem boot_ty (t : Ty) : bootBuiltins (t.nm : Str) = some (.type t.nm) := by
  cases t
  · exact boot_int
  · exact boot_bool
  · exact boot_str
  · exact boot_list
  · exact boot_tuple
theorem ty_mem (t : Ty) : (t.nm : Str) ∈ bnames := by
  cases t <;> decide +kernel
theorem jd_isi {N : List Str} {T cs d} (x : XOk N T cs d X) {a : IE} {t : Ty} {ea : Expr} {y z : Str} {p p2 pos : Pos} (hy : y = "isinstance") (hg : gl sc y = true) (hz : z = (t.nm : Str)) (hg2 : gl sc z = true) (ha : Jd X sc G a ea) (ok : okE ea = true) :
    Jd X sc G (.isi a t) (.Call (.Name y p) [ea, .Name z p2] [] pos) := by
  subst hy hz
  obtain ⟨⟨ta, pa, _, sa⟩, _⟩ := ha
  obtain ⟨g1, g2, g3⟩ := gl_of (X := X) hg
  obtain ⟨k1, k2, k3⟩ := gl_of (X := X) hg2
  have pz : AllE X sc (.Name (t.nm : Str) p2) (tC (.ty t.nm)) := fun q hq => pe_bltn (X := at' X q) (v := .ty t.nm) (k1 q hq) (x.mb _ (ty_mem t)) (boot_ty t) rfl k3 k2
  have pas : AllA X sc [ea, .Name (t.nm : Str) p2] (tCons ta (tCons (tC (.ty t.nm)) tNil)) := fun q hq => pa_cons (pa q hq) (pa_cons (pz q hq) pa_nil) (okE.star ok _ _)
  have hp : AllE X sc (.Call (.Name "isinstance" p) [ea, .Name (t.nm : Str) p2] [] pos) (tCB (rIsi X.K) (tCons ta (tCons (tC (.ty t.nm)) tNil))) := fun q hq => pe_callB (X := at' X q) (p := p) (pos := pos) call_isi (g1 q hq) (x.mb _ (by decide +kernel)) boot_isinstance (pas q hq) g3 g2 (okE.star ok _ _) rfl
  refine jd_mk (fun _ z => by cases z) hp (fun Bf B Hf H r σ Q Qv R w k => ?_) (fun _ _ => rfl)
  rw [wpE] at w
  refine sa Bf B Hf H r σ _ _ R w fun d v H1f H1 z1 rep1 _ w1 => ?_
  exact ⟨v, .ty t.nm, _, _, _, rfl, .ty _, isi_ty z1.c rep1, kit_ty (isi_kit d t), k _ _ _ _ z1 rep_bool w1⟩
end
end CF
namespace CF
open PySem PySem.Spec PyProof.Rows L2
/-- an expression that makes a new list -/
def SemO (X : Cx) (G : Nat → Pm) (ie : IE) (t : TE) : Prop := ∀ (Bf B Hf H : Hp) (r : Ev) (σ : L2.St) (Q : PyData → Prop) (Qv : VK), StR X.K X.N.length Bf B Hf H r σ → wpE G ie r Q →
  (∀ d v Hf' H', Ext Hf H Hf' H' → ((ORep X.K Hf' H' d v ∧ (∀ p, v = .ref p → H p = none)) ∨ (flat d = true ∧ Rep X.K Hf' d v)) → Q d → Qv v H') → t σ H Qv
section
variable {X : Cx} {sc : Scope} {G : Nat → Pm} {ie : IE} {t : TE}
theorem SemO.e (h : SemO X G ie t) : SemE X G ie t := fun Bf B Hf H r σ Q Qv R w k =>
  h Bf B Hf H r σ Q Qv R w fun d v Hf' H' z rep q => by
    rcases rep with ⟨rep, hn⟩ | ⟨_, rep⟩
    · obtain ⟨Hf2, z2, rep2⟩ := rep.fr z hn
      exact k d v Hf2 H' z2 rep2 q
    · exact k d v Hf' H' z rep q
theorem fine_of {es : IEs} {r : Ev} (h : es.fine r = true) : noOwn es r = true ∧ es.len ≤ 1000 := by
  unfold IEs.fine at h
  rw [Bool.and_eq_true, decide_eq_true_eq] at h
  exact h
theorem jd_tup {es : IEs} {as : List Expr} {k pos} (ha : JdA X sc G es as) : Jd X sc G (.tup es) (.Tuple as k pos) := by
  obtain ⟨ta, pa, sa⟩ := ha
  refine jd_mk (fun _ z => by cases z) (fun q hq => pe_tup (pa q hq)) (fun Bf B Hf H r σ Q Qv R w k => ?_) (fun _ _ => rfl)
  rw [wpE] at w
  refine sa Bf B Hf H r σ _ _ R w fun ds vs H1f H1 z1 rep1 rr1 hl w1 => ?_
  obtain ⟨f1, f2⟩ := fine_of w1.1
  have hv : vs.length = es.len := by rw [← (PRepL.full z1.c rep1).length, hl]
  exact ⟨mil_line (by omega), fun p hp => k _ _ _ _ (z1.trans (Ext.new z1.c hp)) (rep_newT (z1.c.free hp) (rr1 f1)) w1.2⟩
theorem ext_newO {Hf H Hf' H' : Hp} {p : Addr} {o : HO} (z : Ext Hf H Hf' H') (hp : H' p = none) : Ext Hf H Hf' (upd H' p o) := z.trans (Ext.newO z.c hp)
theorem sem_lst {es : IEs} {ta : TA} (sa : SemA X G es ta) : SemO X G (.lst es) (tLst ta) := fun Bf B Hf H r σ Q Qv R w k => by
  rw [wpE] at w
  refine sa Bf B Hf H r σ _ _ R w fun ds vs H1f H1 z1 rep1 rr1 hl w1 => ?_
  obtain ⟨f1, f2⟩ := fine_of w1.1
  have hv : vs.length = es.len := by rw [← (PRepL.full z1.c rep1).length, hl]
  refine ⟨mil_line (by omega), fun p hp => k (.list ds) _ _ _ (ext_newO z1 hp) (.inl ⟨⟨p, vs, rfl, z1.c.free hp, upd_same, rr1 f1⟩, fun q e => ?_⟩) w1.2⟩
  cases e
  exact z1.a.free hp
theorem jd_lst {es : IEs} {as : List Expr} {pos} (ha : JdA X sc G es as) : Jd X sc G (.lst es) (.List as pos) := by
  obtain ⟨ta, pa, sa⟩ := ha
  exact jd_mk (fun _ z => by cases z) (fun q hq => pe_lst (pa q hq)) (sem_lst sa).e (fun _ _ => rfl)
theorem jd_ix {a i : IE} {ea ei : Expr} {pos} (ha : Jd X sc G a ea) (hi : Jd X sc G i ei) (ok : okE ei = true) : Jd X sc G (.ix a i) (.Subscript ea ei pos) := by
  obtain ⟨⟨ta, pa, _, sa⟩, _⟩ := ha
  obtain ⟨⟨ti, pi, si, _⟩, _⟩ := hi
  refine jd_mk (fun _ z => by cases z) (t := tOp (fun x y H Q => rIxL X.K x y H Q ∨ rIxT X.K x y H Q) ta ti) (fun q hq => pe_ix ((ix_list (X := at' X q)).or ix_tup) (pa q hq) (pi q hq) (okE.plain ok)) (fun Bf B Hf H r σ Q Qv R w k => ?_) (fun _ _ => rfl)
  rw [wpE] at w
  refine sa Bf B Hf H r σ _ _ R w fun d v H1f H1 z1 rep1 no w1 => ?_
  clear no
  refine si Bf B H1f H1 r σ _ _ (R.ext z1) w1 fun y u H2f H2 z2 rep2 w2 => ?_
  have rep1' := rep1.ext z2
  cases d <;> cases y <;> simp only [ixP] at w2
  · rename_i xs i
    obtain ⟨e, he, q⟩ := w2
    obtain ⟨p, vs, rfl, h1, h2⟩ := rep1'.list z2.c
    unfold Rep at rep2
    obtain ⟨j, hj1, hj2, _⟩ := atI_get he
    obtain ⟨v, hv, rv⟩ := h2.get hj2
    refine .inl ⟨p, vs, i, v, rfl, rep2, h1, ?_, k _ _ _ _ (z1.trans z2) rv q⟩
    unfold atI at he ⊢
    rw [← h2.length]
    cases hx : ixN xs.length i with
    | none => rw [hx] at he; cases he
    | some j' =>
      rw [hx] at he
      have he' : xs[j']? = some e := he
      obtain ⟨v', hv', rv'⟩ := h2.get he'
      have ej : j' = j := by
        obtain ⟨q1, q2, q3, q4⟩ := ixN_seq hx
        rw [hj1] at q1
        exact (Option.some.inj q1).symm
      subst ej
      exact hv
  · rename_i xs i
    obtain ⟨e, he, q⟩ := w2
    obtain ⟨p, vs, rfl, h1, h2⟩ := rep1'.tuple z2.c
    unfold Rep at rep2
    obtain ⟨j, hj1, hj2, _⟩ := atI_get he
    obtain ⟨v, hv, rv⟩ := h2.get hj2
    refine .inr ⟨p, vs, i, v, rfl, rep2, SqT.of h1, ?_, k _ _ _ _ (z1.trans z2) rv q⟩
    unfold atI at he ⊢
    rw [← h2.length]
    cases hx : ixN xs.length i with
    | none => rw [hx] at he; cases he
    | some j' =>
      rw [hx] at he
      have he' : xs[j']? = some e := he
      have ej : j' = j := by
        obtain ⟨q1, q2, q3, q4⟩ := ixN_seq hx
        rw [hj1] at q1
        exact (Option.some.inj q1).symm
      subst ej
      exact hv

/-! ### dicts -/
theorem valV_dV : ∀ {l : List (Int × Int)} {i : Int}, valV (dV l) (Sum.inl i : Key) = (dgetL l i).map V.int
  | [], i => rfl
  | p :: l, i => by
    unfold valV dgetL dV
    rw [List.map_cons, List.find?_cons, List.find?_cons]
    by_cases h : p.1 = i
    · have h' : ((Sum.inl p.1 : Key) = Sum.inl i) := by rw [h]
      simp only [decide_eq_true h, decide_eq_true h']
      rfl
    · have h' : ¬ ((Sum.inl p.1 : Key) = Sum.inl i) := fun e => h (Sum.inl.inj e)
      simp only [decide_eq_false h, decide_eq_false h']
      exact valV_dV (l := l) (i := i)
theorem any_dV {l : List (Int × Int)} {k : Int} : ((dV l).any fun kv => decide (kv.1 = (Sum.inl k : Key))) = l.any fun p => decide (p.1 = k) := by
  unfold dV
  rw [List.any_map]
  congr 1
  funext p
  show decide ((Sum.inl p.1 : Key) = Sum.inl k) = decide (p.1 = k)
  by_cases h : p.1 = k
  · rw [decide_eq_true h, decide_eq_true (by rw [h])]
  · rw [decide_eq_false h, decide_eq_false (fun e => h (Sum.inl.inj e))]
theorem putK_dV {l : List (Int × Int)} {k v : Int} : putK (dV l) (Sum.inl k : Key) (V.int v) = dV (dputL l k v) := by
  unfold putK dputL
  rw [any_dV]
  by_cases h : (l.any fun p => decide (p.1 = k)) = true
  · rw [if_pos h, if_pos h]
    unfold dV
    rw [List.map_map, List.map_map]
    refine List.map_congr_left fun p _ => ?_
    show (if (Sum.inl p.1 : Key) = Sum.inl k then (Sum.inl p.1, V.int v) else (Sum.inl p.1, V.int p.2)) = _
    by_cases e : p.1 = k
    · rw [if_pos (by rw [e])]
      simp [e]
    · rw [if_neg (fun z => e (Sum.inl.inj z))]
      simp [e]
  · rw [if_neg h, if_neg h]
    unfold dV
    rw [List.map_append]
    rfl
theorem pe_nm {N : List Str} {T cs d} (x : XOk N T cs d X) {c : Ck} (hc : c.N = N) {i : Nat} {y : Str} {py : Pos} (h1 : nmOk c.N i y = true) (hv : visB sc y = true) : AllE X sc (.Name y py) (tVar i) := by
  simp only [nmOk, visB, Bool.and_eq_true, decide_eq_true_eq, Bool.not_eq_true'] at h1 hv
  obtain ⟨⟨h2, h3⟩, h4⟩ := hv
  have hN : X.N[i]? = some y := by rw [x.n, ← hc]; exact h1
  have hv : Vis sc y := by
    unfold Vis
    split at h2
    · exact .inl (by assumption)
    · exact .inr (.inl (by assumption))
    · exact .inr (.inr (by assumption))
    · cases h2
  exact fun q hq => pe_var (X := at' X q) hN (by show Vis q.env.scope y; rw [hq]; exact hv) h3 h4
theorem StR.dict {K : PySem.W.Frag} {n : Nat} {Bf B Hf H : Hp} {r : Ev} {σ : L2.St} {j : Nat} {l : List (Int × Int)} (R : StR K n Bf B Hf H r σ) (hl : r.get j = .kyd l ∨ r.get j = .own (.dict (dL l))) : ∃ p, σ[j]? = some (some (.ref p)) ∧ Rd H p (.dK (dV l)) := by
  have q := R.sl j
  rcases hl with hl | hl
  · rw [hl] at q
    obtain ⟨p, o, e, h⟩ := q
    exact ⟨p, e, .inr ⟨o, R.e.c _ _ h⟩⟩
  · rw [hl] at q
    obtain ⟨p, e, ⟨p', ks, e', _, h, l', e1, e2⟩, _⟩ := q
    cases e'
    obtain rfl := dL_inj e1
    subst e2
    exact ⟨p, e, .inl h⟩
theorem jd_kix {N : List Str} {T cs d} (x : XOk N T cs d X) {c : Ck} (hc : c.N = N) {j : Nat} {i : IE} {y : Str} {py pos : Pos} {ei : Expr} (h1 : nmOk c.N j y = true) (h2 : visB sc y = true) (hi : Jd X sc G i ei) (ok : okE ei = true) : Jd X sc G (.kix j i) (.Subscript (.Name y py) ei pos) := by
  obtain ⟨⟨ti, pi, si, _⟩, _⟩ := hi
  refine jd_mk (fun _ z => by cases z) (t := tDGet (tVar j) ti) (fun q hq => pe_dget (X := at' X q) (by have := x.un; show X.A.units + 1 < cLine; omega) (pe_nm x hc h1 h2 q hq) (pi q hq) (okE.plain ok)) (fun Bf B Hf H r σ Q Qv R w k => ?_) (fun _ _ => rfl)
  rw [wpE] at w
  obtain ⟨l, hl, w⟩ := w
  obtain ⟨p, hs, hd⟩ := R.dict hl
  refine ⟨_, hs, ?_⟩
  refine si Bf B Hf H r σ _ _ R w fun d v H1f H1 z1 rep w1 => ?_
  obtain ⟨i, rfl, n, hn, q⟩ := w1
  unfold Rep at rep
  subst rep
  exact ⟨p, .int n, rfl, .inl ⟨dV l, Sum.inl i, Rd.same z1.a hd, rfl, by rw [valV_dV, hn]; rfl⟩, k _ _ _ _ z1 rep_int q⟩
theorem sem_dic0 : SemO X G .dic0 tDNewK := fun Bf B Hf H r σ Q Qv R w k => by
  rw [wpE] at w
  intro p hp
  refine k (.dict (dL [])) _ _ _ (ext_newO (Ext.refl R.e.c) hp) (.inl ⟨⟨p, [], rfl, R.e.c.free hp, upd_same, [], rfl, rfl⟩, fun q e => ?_⟩) w
  cases e
  exact hp
theorem jd_dic0 {pos : Pos} : Jd X sc G .dic0 (.Dict [] [] pos) := jd_mk (fun _ z => by cases z) (fun q hq => pe_dnewK) (sem_dic0).e (fun _ _ => rfl)

/-! ### slices -/
def JdO (X : Cx) (sc : Scope) (G : Nat → Pm) (es : IEs) (e : Option Expr) : Prop := ∃ t, (∀ q : Vr, q.env.scope = sc → PO (at' X q) e t) ∧ ∀ (Bf B Hf H : Hp) (r : Ev) (σ : L2.St) (Q : Option Int → Prop) (Qv : Option Int → Hp → Prop), StR X.K X.N.length Bf B Hf H r σ →
  (wpEs G es r fun ds => partP ds Q) → (∀ o Hf' H', Ext Hf H Hf' H' → Q o → Qv o H') → t σ H Qv
theorem jo_none : JdO X sc G .nil none := ⟨_, fun q hq => po_none, fun Bf B Hf H r σ Q Qv R w k => by
  rw [wpEs] at w
  exact k none _ _ (Ext.refl R.e.c) w⟩
theorem jo_some {a : IE} {ea : Expr} (ha : Jd X sc G a ea) : JdO X sc G (.cons a .nil) (some ea) := by
  obtain ⟨⟨ta, pa, _, sa⟩, _⟩ := ha
  refine ⟨_, fun q hq => po_some (pa q hq), fun Bf B Hf H r σ Q Qv R w k => ?_⟩
  rw [wpEs] at w
  refine sa Bf B Hf H r σ _ _ R w fun d v H1f H1 z1 rep1 _ w1 => ?_
  rw [wpEs] at w1
  cases d <;> simp only [partP] at w1
  exact ⟨_, rep1.int, k _ _ _ z1 w1⟩
theorem cut_rep {K : PySem.W.Frag} {H : Hp} {xs : List PyData} {vs : List V} {lo hi : Option Int} (h : RepL K H xs vs) : RepL K H (cutP xs lo hi) (cutV vs lo hi) := by
  unfold cutP cutV
  rw [h.length]
  exact (h.drop _).take _
theorem cut_all {α : Type} {xs : List α} {lo hi : Option Int} (h : HT.sIx xs.length 0 lo = 0 ∧ HT.sIx xs.length xs.length hi = xs.length) : (xs.drop (HT.sIx xs.length 0 lo)).take (HT.sIx xs.length xs.length hi - HT.sIx xs.length 0 lo) = xs := by
  rw [h.1, h.2, List.drop_zero, Nat.sub_zero, List.take_length]
theorem jd_sl {a : IE} {lo hi : IEs} {ea : Expr} {l h : Option Expr} {p2 pos} (ha : Jd X sc G a ea) (hl : JdO X sc G lo l) (hh : JdO X sc G hi h) : Jd X sc G (.sl a lo hi) (.Subscript ea (.Slice l h none p2) pos) := by
  obtain ⟨⟨ta, pa, _, sa⟩, _⟩ := ha
  obtain ⟨tl, pl, sl⟩ := hl
  obtain ⟨th, ph, sh⟩ := hh
  refine jd_mk (fun _ z => by cases z) (t := tSl (fun x lo hi H Q => rSlL X.K x lo hi H Q ∨ rSlA X.K x lo hi H Q) ta tl th) (fun q hq => pe_slice ((sl_list (X := at' X q)).or sl_tupA) (pa q hq) (pl q hq) (ph q hq)) (fun Bf B Hf H r σ Q Qv R w k => ?_) (fun _ _ => rfl)
  rw [wpE] at w
  refine sa Bf B Hf H r σ _ _ R w fun d v H1f H1 z1 rep1 _ w1 => ?_
  refine sl Bf B H1f H1 r σ _ _ (R.ext z1) w1 fun o H2f H2 z2 w2 => ?_
  refine sh Bf B H2f H2 r σ _ _ (R.ext (z1.trans z2)) w2 fun o2 H3f H3 z3 w3 => ?_
  have rep1' := rep1.ext (z2.trans z3)
  cases d <;> simp only [slP] at w3
  · obtain ⟨p, vs, rfl, h1, h2⟩ := rep1'.list z3.c
    exact .inl ⟨p, vs, rfl, h1, fun q hq => k _ _ _ _ (((z1.trans z2).trans z3).trans (Ext.new z3.c hq)) (rep_newL (z3.c.free hq) (cut_rep h2)) w3⟩
  · have rr := rep1'
    obtain ⟨p, vs, e, h1, h2⟩ := rep1'.tuple z3.c
    subst e
    refine .inr ⟨p, vs, rfl, SqT.of h1, fun hw => ?_, fun hw q hq => k _ _ _ _ (((z1.trans z2).trans z3).trans (Ext.new z3.c hq)) (rep_newT (z3.c.free hq) (cut_rep h2)) w3⟩
    rw [← h2.length] at hw
    have e : cutP _ o o2 = _ := cut_all hw
    rw [e] at w3
    rcases rr with rr | rr
    · exact k _ _ _ _ ((z1.trans z2).trans z3) rr w3
    · exact rr.elim
end
end CF
namespace CF
open PySem PySem.Spec PyProof.Rows L2
section
variable {X : Cx} {sc : Scope} {G : Nat → Pm}
/-! ### list(range(..)), len(set(..)), xs.index(x) -/
theorem sem_lrng1 {ie : IE} {e : Expr} {N : List Str} {T cs d} (x : XOk N T cs d X) {y z : Str} {p p2 pos pos2 : Pos} (hy : y = "list") (hg : gl sc y = true) (hz : z = "range") (hg2 : gl sc z = true) (ha : Jd X sc G ie e) (ok : okE e = true) :
    Jd X sc G (.lrng (.cons ie .nil)) (.Call (.Name y p) [.Call (.Name z p2) [e] [] pos2] [] pos) := by
  subst hy hz
  obtain ⟨⟨ta, pa, _, sa⟩, _⟩ := ha
  obtain ⟨g1, g2, g3⟩ := gl_of (X := X) hg
  obtain ⟨k1, k2, k3⟩ := gl_of (X := X) hg2
  have hp : AllE X sc (.Call (.Name "list" p) [.Call (.Name "range" p2) [e] [] pos2] [] pos) (tLstRg (tRg1 ta)) := fun q hq => pe_listRg (X := at' X q) (p := p) (pos := pos) x.calm (g1 q hq) (x.mb _ (by decide +kernel)) (prg_1 (p := p2) (pos := pos2) (k1 q hq) (x.mb _ (by decide +kernel)) (pa q hq) (okE.star ok _ _)) (rfl : starEach [Expr.Call (.Name "range" p2) [e] [] pos2] q.env = _)
  refine jd_mk (fun _ z => by cases z) hp (fun Bf B Hf H r σ Q Qv R w k => ?_) (fun _ _ => rfl)
  rw [wpE, wpEs] at w
  refine sa Bf B Hf H r σ _ _ R w fun d v H1f H1 z1 rep1 no w1 => ?_
  clear no
  rw [wpEs] at w1
  cases d <;> simp only [lrngP] at w1
  rename_i b
  obtain ⟨⟨b1, b2⟩, q⟩ := w1
  refine ⟨b, rep1.int, ⟨by omega, by omega, by omega, by omega, by omega⟩, fun l hl => ?_⟩
  refine k _ _ _ _ (z1.trans (Ext.new z1.c hl)) (rep_newL (z1.c.free hl) ?_) q
  have e1 : rgV 0 b = ((List.range b.toNat).map fun i => ((i : Nat) : Int)).map V.int := by
    unfold rgV
    rw [List.map_map, Int.sub_zero]
    refine List.map_congr_left fun i _ => ?_
    show V.int (0 + (i : Int)) = V.int (i : Int)
    rw [Int.zero_add]
  have e2 : ((List.range b.toNat).map fun (i : Nat) => PyData.int (i : Nat)) = ((List.range b.toNat).map fun i => ((i : Nat) : Int)).map PyData.int := by
    rw [List.map_map]
    rfl
  rw [e1, e2]
  exact repL_ints _
theorem jd_lset {ie : IE} {e : Expr} {N : List Str} {T cs d} (x : XOk N T cs d X) {y z : Str} {p p2 pos pos2 : Pos} (hy : y = "len") (hg : gl sc y = true) (hz : z = "set") (hg2 : gl sc z = true) (ha : Jd X sc G ie e) (ok : okE e = true) :
    Jd X sc G (.lset ie) (.Call (.Name y p) [.Call (.Name z p2) [e] [] pos2] [] pos) := by
  subst hy hz
  obtain ⟨⟨ta, pa, _, sa⟩, _⟩ := ha
  obtain ⟨g1, g2, g3⟩ := gl_of (X := X) hg
  obtain ⟨k1, k2, k3⟩ := gl_of (X := X) hg2
  have hp : AllE X sc (.Call (.Name "len" p) [.Call (.Name "set" p2) [e] [] pos2] [] pos) (tLenSetI X.K ta) := fun q hq => L2.pe_lenSetI (X := at' X q) (p := p) (p2 := p2) (q := pos2) (pos := pos) x.calm (g1 q hq) (x.mb _ (by decide +kernel)) (k1 q hq) (x.mb _ (by decide +kernel)) (pa q hq) (okE.star ok _ _)
  refine jd_mk (fun _ z => by cases z) hp (fun Bf B Hf H r σ Q Qv R w k => ?_) (fun _ _ => rfl)
  rw [wpE] at w
  refine sa Bf B Hf H r σ _ _ R w fun d v H1f H1 z1 rep1 _ w1 => ?_
  obtain ⟨ns, rfl, h1, h2, q⟩ := w1
  obtain ⟨a, ws, rfl, q1, q2⟩ := rep1.list z1.c
  have e := q2.ints
  subst e
  exact ⟨a, ns, rfl, q1, h1, h2, k _ _ _ _ z1 rep_int q⟩
theorem jd_index {a x : IE} {ea ex : Expr} {m : Str} {apos pos : Pos} (hu : X.A.units + 66 < cLine) (hm : m = "index") (hl : (apos.endLine == pos.line) = true) (hnm : isNm ea = true) (ha : Jd X sc G a ea) (hx : Jd X sc G x ex) (ok : okE ex = true) :
    Jd X sc G (.index a x) (.Call (.Attribute ea m apos) [ex] [] pos) := by
  subst hm
  obtain ⟨y, py, rfl⟩ : ∃ y py, ea = .Name y py := by
    cases ea <;> first | exact ⟨_, _, rfl⟩ | (exact absurd hnm (by simp [isNm]))
  obtain ⟨⟨ta, pa, _, sa⟩, _⟩ := ha
  obtain ⟨⟨tx, px, sx, _⟩, _⟩ := hx
  have hs : ∀ env, starEach [ex] env = (false, eval ex env) :: starEach [] env := fun env => okE.star ok _ _
  have hp : AllE X sc (.Call (.Attribute (.Name y py) "index" apos) [ex] [] pos) (tBM X.K "list" (rIndexD X.K) ta (tCons tx tNil)) := fun q hq => pe_bm (X := at' X q) (cpos := pos) (apos := apos) PySem.F.plainAttrs_list PySem.F.slot_list_index PySem.F.type_list_index (mt_indexD (X := at' X q) (by show X.A.units + 65 < cLine; omega)) (pa q hq) (pa_cons (px q hq) pa_nil (hs _)) rfl (by rw [hs]; rfl) hl (hs _) rfl
  refine jd_mk (fun _ z => by cases z) hp (fun Bf B Hf H r σ Q Qv R w k => ?_) (fun _ _ => rfl)
  rw [wpE] at w
  refine sa Bf B Hf H r σ _ _ R w fun d v H1f H1 z1 rep1 _ w1 => ?_
  have w1' : ∃ ys, d = .list ys ∧ wpE G x r fun x => ∃ j z, SeqAt.shaped d = true ∧ SeqAt.shaped x = true ∧ ys[j]? = some z ∧ PyData.eqv z x = true ∧ (∀ (m : Nat) z', m < j → ys[m]? = some z' → PyData.eqv z' x = false) ∧ Q (.int (j : Nat)) := w1
  obtain ⟨ys, rfl, w1⟩ := w1'
  have pl : PRep X.K H1f H1 (.list ys) v := rep1
  obtain ⟨p, vs, rfl, h1, h2⟩ := rep1.list z1.c
  refine ⟨.inl ⟨rfl, vs, h1⟩, ?_⟩
  refine sx Bf B H1f H1 r σ _ _ (R.ext z1) w1 fun e u H2f H2 z2 rep2 w2 => ?_
  obtain ⟨j, z, s1, s2, e1, e2, e3, q⟩ := w2
  exact ⟨p, u, e, ys, j, z, rfl, rfl, Rep.shp s1 ((pl.ext z2).full z2.c), Rep.shp s2 (Rep.mono z2.c _ _ rep2), s1, s2, e1, e2, e3, k _ _ _ _ (z1.trans z2) rep_int q⟩

/-! ### what is walked -/
structure Wk (K : PySem.W.Frag) (J : It) (items : List PyData) (Hf H : Hp) (S : List Addr) : Prop where
  there : ∀ p ∈ S, H p ≠ none
  go : ∀ (i : Nat) (H' : Hp), (∀ p ∈ S, H' p = H p) → i < items.length → J.go i H'
  yld : ∀ (i : Nat) (H' : Hp) (x : V) (H2 : Hp), (∀ p ∈ S, H' p = H p) → i < items.length → J.yld i H' x H2 → H2 = H' ∧ ∃ d, items[i]? = some d ∧ Rep K Hf d x
  stop : ∀ (i : Nat) (H' : Hp), (∀ p ∈ S, H' p = H p) → items.length ≤ i → J.stop i H'
theorem sql_at {K : PySem.W.Frag} {H : Hp} {a : Addr} {vs : List V} (h : SqL K H a vs) : ∃ S : List Addr, (∀ p ∈ S, p = a ∧ H p ≠ none) ∧ ∀ H' : Hp, (∀ p ∈ S, H' p = H p) → SqL K H' a vs := by
  rcases h with (h | ⟨o, h⟩) | h
  · exact ⟨[a], fun p hp => by rw [List.mem_singleton.mp hp]; exact ⟨rfl, by rw [h]; exact (fun z => nomatch z)⟩, fun H' hS => .inl (.inl ((hS a (List.mem_singleton.mpr rfl)).trans h))⟩
  · exact ⟨[a], fun p hp => by rw [List.mem_singleton.mp hp]; exact ⟨rfl, by rw [h]; exact (fun z => nomatch z)⟩, fun H' hS => .inl (.inr ⟨o, (hS a (List.mem_singleton.mpr rfl)).trans h⟩)⟩
  · exact ⟨[], fun p hp => absurd hp (by simp), fun H' _ => .inr h⟩
theorem wk_list {K : PySem.W.Frag} {Hf H : Hp} {a : Addr} {xs : List PyData} {vs : List V} (h : SqL K H a vs) (r : RepL K Hf xs vs) : ∃ S, (∀ p ∈ S, p = a ∧ H p ≠ none) ∧ Wk K (Itl K a) xs Hf H S := by
  obtain ⟨S, hS, st⟩ := sql_at h
  refine ⟨S, hS, fun p hp => (hS p hp).2, fun i H' e hi => ?_, fun i H' x H2 e hi y => ?_, fun i H' e hi => ⟨vs, st H' e, by rw [← r.length]; exact hi⟩⟩
  · have hi' : i < vs.length := by rw [← r.length]; exact hi
    exact ⟨vs, vs[i], st H' e, List.getElem?_eq_getElem hi'⟩
  · obtain ⟨y1, y2⟩ := y
    have q := y2 vs (st H' e)
    obtain ⟨d, hd, rep⟩ := r.get' q
    exact ⟨y1, d, hd, rep⟩
theorem wk_tup {K : PySem.W.Frag} {Hf H : Hp} {a : Addr} {xs : List PyData} {vs : List V} (h : H a = some (.tup vs)) (r : RepL K Hf xs vs) : Wk K (Itt K a) xs Hf H [a] := by
  have st : ∀ H' : Hp, (∀ p ∈ [a], H' p = H p) → SqT K H' a vs := fun H' e => SqT.of ((e a (List.mem_singleton.mpr rfl)).trans h)
  refine ⟨fun p hp => by rw [List.mem_singleton.mp hp, h]; exact (fun z => nomatch z), fun i H' e hi => ?_, fun i H' x H2 e hi y => ?_, fun i H' e hi => ⟨vs, st H' e, by rw [← r.length]; exact hi⟩⟩
  · have hi' : i < vs.length := by rw [← r.length]; exact hi
    exact ⟨vs, vs[i], st H' e, List.getElem?_eq_getElem hi'⟩
  · obtain ⟨y1, y2⟩ := y
    have q := y2 vs (st H' e)
    obtain ⟨d, hd, rep⟩ := r.get' q
    exact ⟨y1, d, hd, rep⟩
theorem wk_rng {K : PySem.W.Frag} {Hf H : Hp} {lo : Int} {n : Nat} : Wk K (Itr lo n) ((List.range n).map fun i => .int (lo + (i : Nat))) Hf H [] := by
  refine ⟨fun p hp => absurd hp (by simp), fun i H' e hi => ?_, fun i H' x H2 e hi y => ?_, fun i H' e hi => ?_⟩
  · rw [List.length_map, List.length_range] at hi
    exact hi
  · rw [List.length_map, List.length_range] at hi
    obtain ⟨y1, y2⟩ := y
    subst y2
    refine ⟨y1, .int (lo + (i : Nat)), ?_, rep_int⟩
    rw [List.getElem?_map, List.getElem?_range hi]
    rfl
  · rw [List.length_map, List.length_range] at hi
    exact hi
theorem wk_rngC {K : PySem.W.Frag} {Hf H : Hp} {lo c : Int} {n : Nat} : Wk K (Itc lo c n) ((List.range n).map fun i => .int (lo + (i : Nat) * c)) Hf H [] := by
  refine ⟨fun p hp => absurd hp (by simp), fun i H' e hi => ?_, fun i H' x H2 e hi y => ?_, fun i H' e hi => ?_⟩
  · rw [List.length_map, List.length_range] at hi
    exact hi
  · rw [List.length_map, List.length_range] at hi
    obtain ⟨y1, y2⟩ := y
    subst y2
    refine ⟨y1, .int (lo + (i : Nat) * c), ?_, rep_int⟩
    rw [List.getElem?_map, List.getElem?_range hi]
    rfl
  · rw [List.length_map, List.length_range] at hi
    exact hi
/-- an iterable: where its container stands -/
def WkAt (it : IIt) (r : Ev) (σ : L2.St) (Hf : Hp) (S : List Addr) : Prop :=
  (∀ p ∈ S, Hf p ≠ none) ∨ ∃ j p d, it = .seq (.var j) ∧ (r.get j = .own d ∨ r.get j = .lck d) ∧ σ[j]? = some (some (.ref p)) ∧ ∀ q ∈ S, q = p
def JdI (X : Cx) (sc : Scope) (G : Nat → Pm) (it : IIt) (e : Expr) : Prop := ∃ wi, (∀ (q : Vr) tg, q.env.scope = sc → PI (at' X q) tg e wi) ∧ ∀ (Bf B Hf H : Hp) (r : Ev) (σ : L2.St) (Q : List PyData → Prop) (Rv : It → Hp → Prop), StR X.K X.N.length Bf B Hf H r σ →
  wpIt G it r Q → (∀ items J Hf' H' S, Ext Hf H Hf' H' → Wk X.K J items Hf' H' S → WkAt it r σ Hf' S → Q items → Rv J H') → wi σ H Rv
end
end CF
namespace CF
open PySem PySem.Spec PyProof.Rows L2 HT
section
variable {P : Program} {w : World} {A : Around} {E : Value → Shared → Prop} {s : Shared}
/-- set(l) of a list of whole numbers, with all that is known of the set -/
theorem call_set_lstI {l : Addr} {items : Array Value} (ns : List Int) {Q : Value → Shared → Prop} (hh : A.handled = none) (hl : s.heap.IsList l items) (hit : IntsAre items.toList ns) (hb : ns.length + 1 < scanBound)
    (h : ∀ (h' : Heap) (tk c : Nat), SetR w h' s.heap.objs.size (fun j => decide (j ∈ ns)) c → c ≤ ns.length → (∀ b o, s.heap.get? b = some o → h'.get? b = some o) → Q (.ref s.heap.objs.size) { s with heap := h', toks := tk }) :
    wpAny (model P w) A (call (.type "set") [.ref l]) Q E s := by
  have hisz : items.size = ns.length := by
    have q := IntsAre.length hit
    rw [Array.length_toList] at q
    exact q
  obtain ⟨c, tl, hmro⟩ := F.called_set.mro
  have hmade := F.called_set.made
  have hsub := F.called_set.sub
  refine wpAny_call (codeAny_of_tree ?_)
  show wpAny _ _ (callAny (.type "set") _) _ _ _
  refine wpAny_pure ⟨Code.quiet_builtin _ (by decide +kernel), codeAny_builtin F.entry_type_call ?_⟩
  rw [Around.under_plain (weight_type_call_type "set" [.ref l] []) rfl]
  have h1 := F.called_set.notType
  have h2 := F.called_set.canCreate
  have hct := F.typeCall_set_1 (.ref l)
  repeat (any_goals (first | assumption | wp_step))
  refine codeAny_mono (code_set_led1 (.ref l) (E := E) (Q₁ := fun obj s₁ => obj = .ref s.heap.objs.size ∧ s₁ = { s with heap := s.heap.push { cls := .type "set", dict := none, data := .set #[] 0 (.fresh 0 0 (!w.params.followText "set-order")) } }) ⟨rfl, rfl⟩) fun r s₁ hr => ?_
  cases r with
  | error e => exact hr
  | ok fl =>
    cases fl with
    | ret obj =>
      obtain ⟨rfl, rfl⟩ := hr
      have hS : (s.heap.push { cls := .type "set", dict := none, data := .set #[] 0 (.fresh 0 0 (!w.params.followText "set-order")) }).get? s.heap.objs.size = some { cls := .type "set", dict := none, data := .set #[] 0 (.fresh 0 0 (!w.params.followText "set-order")) } := Heap.get?_push_size _ rfl
      have hT : Shared.TypeIs { s with heap := s.heap.push { cls := .type "set", dict := none, data := .set #[] 0 (.fresh 0 0 (!w.params.followText "set-order")) } } (.ref s.heap.objs.size) "set" := ⟨_, hS, rfl⟩
      have hli := F.called_set.init.lookup
      have hbi := F.called_set.init.bind (.ref s.heap.objs.size)
      repeat (any_goals (first | assumption | wp_step))
      refine codeAny_mono (codeAny_call_builtin (R := wants (fun r s₂ => r = .none ∧ ∃ h' tk c, s₂ = { s with heap := h', toks := tk } ∧ SetR w h' s.heap.objs.size (fun j => decide (j ∈ ns)) c ∧ c ≤ ns.length ∧
          (∀ b o, s.heap.get? b = some o → h'.get? b = some o)) E) F.called_set.init.plain F.entry_set_init (check_set_init_1 hT ?_)) fun r₂ s₂ hr₂ => ?_
      · obtain ⟨ol, hol, hcl, nl, hdl⟩ := hl
        obtain ⟨ocls, odict, odata, oslots⟩ := ol
        simp only at hcl hdl
        subst hcl; subst hdl
        have hol' : (s.heap.push { cls := .type "set", dict := none, data := .set #[] 0 (.fresh 0 0 (!w.params.followText "set-order")) }).get? l = some { cls := .type "list", dict := odict, data := .seq items nl, slots := oslots } := Heap.get?_push_of_some _ hol
        have hsls := F.sub_list_set
        have hslf := F.sub_list_frozenset
        have hne : (Value.type "list" == Value.type "dict") = false := by decide
        have hl1 : (s.heap.push { cls := .type "set", dict := none, data := .set #[] 0 (.fresh 0 0 (!w.params.followText "set-order")) }).IsList l items := ⟨_, hol', rfl, nl, rfl⟩
        unfold Builtin.«set.__init__» noKeywords Builtin.Frozenset.updateFrom
        generalize hPI : pyIter = PI
        wp_walk
        subst hPI
        refine wpAny_pyIter_list hl1 ?_
        refine wpAny_bind (wpAny_runValue ?_)
        have hlS : l < s.heap.objs.size := Heap.lt_size hol
        have hh3 : A.in1.in1.in1.handled = none := by simp [hh]
        have hneI : l ≠ (s.heap.push { cls := .type "set", dict := none, data := .set #[] 0 (.fresh 0 0 (!w.params.followText "set-order")) }).objs.size := by
          rw [Heap.size_push]; exact Nat.ne_of_lt (Nat.lt_succ_of_lt hlS)
        have hSf : s.heap.objs.size ∉ [(s.heap.push { cls := .type "set", dict := none, data := .set #[] 0 (.fresh 0 0 (!w.params.followText "set-order")) }).objs.size, l] := by
          rw [Heap.size_push]; simp only [List.mem_cons, List.mem_singleton, List.not_mem_nil, or_false, not_or]
          exact ⟨Nat.ne_of_lt (Nat.lt_succ_self _), Nat.ne_of_gt hlS⟩
        have hval : ∀ (i : Nat) (v : Value), items[i]? = some v → ∃ k t, ns[i]? = some k ∧ v = .int k t := fun i v hv => by
          have hi : i < ns.length := by rw [← hisz]; exact (Array.getElem?_eq_some_iff.mp hv).1
          obtain ⟨t, e⟩ := PyProof.Rows.IntsAre.int_at hit i v (by rw [Array.getElem?_toList]; exact hv)
          refine ⟨ns[i], t, List.getElem?_eq_getElem hi, ?_⟩
          rw [e, List.getD_eq_getElem?_getD, List.getElem?_eq_getElem hi] <;> rfl
        refine set_update_ints ((Walks.list hh3 _ l hneI items).toS) s.heap.objs.size
          hSf ns hisz hb hval (items.size - 0) 0 _ (by omega) (Nat.zero_le _)
          ⟨⟨_, Heap.get?_push_size _ rfl, rfl, rfl⟩, (hl1.push _)⟩ ?hS0 ?hR
        case hS0 =>
          have hget : ((s.heap.push { cls := .type "set", dict := none, data := .set #[] 0 (.fresh 0 0 (!w.params.followText "set-order")) }).push { cls := .type "list_iterator", data := .fields #[.ref l, .int 0 0] }).get? s.heap.objs.size
              = some { cls := .type "set", dict := none, data := .set #[] 0 (.fresh 0 0 (!w.params.followText "set-order")) } := Heap.get?_push_of_some _ hS
          exact ⟨0, Nat.le_refl 0, setR_new_at hget⟩
        case hR =>
          intro s' c' hm hc' hS'
          obtain ⟨h', g2, d', tk', os'⟩ := s'
          have eg : g2 = s.gens := hm.gens
          have ed : d' = s.drawn := hm.drawn
          have eo : os' = s.os := hm.os
          subst eg; subst ed; subst eo
          show wpAny _ _ _ _ _ _
          refine wpAny_pure ?_
          show wpAny _ _ (ret Value.none) _ _ _
          rw [hisz] at hc'
          refine wpAny_pure ⟨rfl, h', tk', c', rfl, hS', hc', fun b o e => ?_⟩
          have hb0 : b < s.heap.objs.size := Heap.lt_size e
          have hb1 : b ≠ s.heap.objs.size := Nat.ne_of_lt hb0
          have hb2 : b ≠ (s.heap.push { cls := .type "set", dict := none, data := .set #[] 0 (.fresh 0 0 (!w.params.followText "set-order")) }).objs.size := by
            rw [Heap.size_push]; exact Nat.ne_of_lt (Nat.lt_succ_of_lt hb0)
          exact hm.heap b o (by simp only [List.mem_cons, List.mem_singleton, List.not_mem_nil, or_false, not_or]; exact ⟨hb1, hb2⟩) (Heap.get?_push_of_some _ (Heap.get?_push_of_some _ e))
      · cases r₂ with
        | error e => exact hr₂
        | ok fl₂ =>
          cases fl₂ with
          | ret r =>
            obtain ⟨rfl, h', tk, c', rfl, hS', hc', hk'⟩ := hr₂
            repeat (any_goals (first | assumption | wp_step))
            exact h _ _ _ hS' hc' hk'
          | _ => exact hr₂.elim
    | _ => exact hr.elim
end
end CF
namespace CF
open PySem PySem.Spec PyProof.Rows L2
section
variable {X : Cx}
def rSetL (K : PySem.W.Frag) (w : World) : List V → Hp → VK → Prop := fun xs H Q => ∃ (l : Addr) (ns : List Int), xs = [V.ref l] ∧ SqL K H l (ns.map V.int) ∧ ns.length < 4000 ∧ ∀ p c, H p = none → c ≤ ns.length → Q (.ref p) (upd H p (SetO w p (fun j => decide (j ∈ ns)) c))
theorem cr_setL (hc : X.calm = true) : CallR X (.type "set") (rSetL X.K X.w) := by
  intro pins s σ H xs us Q I r h
  obtain ⟨l, ns, rfl, hq, hl, q⟩ := h
  rw [Vals.ref1 r]
  obtain ⟨its, rv, pl, hz⟩ := I.list hq
  refine call_set_lstI (items := its.toArray) ns (I.ok.hd hc) pl.isList (by simpa using rv.ints) (by unfold scanBound; omega) fun h' tk c hR hcl hk => ?_
  exact ⟨.ref _, _, I.laid (t' := tk) hk (Nat.le_refl _) (setO_new hR), rfl, q _ c (I.hok.fresh (Nat.le_refl _)) hcl⟩
end
end CF
namespace CF
open PySem PySem.Spec PyProof.Rows L2
section
variable {X : Cx} {sc : Scope} {G : Nat → Pm}
theorem bootSorted : bootBuiltins "sorted" = some (.builtin "sorted") := by decide +kernel
theorem bootSet : bootBuiltins "set" = some (.type "set") := by decide +kernel
theorem jd_sset {ie : IE} {e : Expr} {N : List Str} {T cs d} (x : XOk N T cs d X) {y z : Str} {p p2 pos pos2 : Pos} (hy : y = "sorted") (hg : gl sc y = true) (hz : z = "set") (hg2 : gl sc z = true) (ha : Jd X sc G ie e) (ok : okE e = true) :
    Jd X sc G (.sset ie) (.Call (.Name y p) [.Call (.Name z p2) [e] [] pos2] [] pos) := by
  subst hy hz
  obtain ⟨⟨ta, pa, _, sa⟩, _⟩ := ha
  obtain ⟨g1, g2, g3⟩ := gl_of (X := X) hg
  obtain ⟨k1, k2, k3⟩ := gl_of (X := X) hg2
  have hin : AllE X sc (.Call (.Name "set" p2) [e] [] pos2) (tCB (rSetL X.K X.w) (tCons ta tNil)) := fun q hq => pe_callTy (X := at' X q) (cr_setL (X := at' X q) x.calm) (k1 q hq) (x.mb _ (by decide +kernel)) bootSet (pa_cons (pa q hq) pa_nil (okE.star ok _ _)) k3 k2 (okE.star ok _ _) rfl
  have hp : AllE X sc (.Call (.Name "sorted" p) [.Call (.Name "set" p2) [e] [] pos2] [] pos) (tCB (rSortedSet X.w) (tCons (tCB (rSetL X.K X.w) (tCons ta tNil)) tNil)) := fun q hq => pe_callB (X := at' X q) (cr_sortedSet (X := at' X q) x.calm) (g1 q hq) (x.mb _ (by decide +kernel)) bootSorted (pa_cons (hin q hq) pa_nil rfl) g3 g2 rfl rfl
  refine jd_mk (fun _ z => by cases z) hp (fun Bf B Hf H r σ Q Qv R w k => ?_) (fun _ _ => rfl)
  rw [wpE] at w
  refine sa Bf B Hf H r σ _ _ R w fun d v H1f H1 z1 rep1 _ w1 => ?_
  obtain ⟨ns, rfl, h1, q⟩ := w1
  obtain ⟨a, ws, rfl, q1, q2⟩ := rep1.list z1.c
  have e := q2.ints
  subst e
  refine ⟨a, ns, rfl, q1, by omega, fun p' c hp' hc => ?_⟩
  refine ⟨p', _, c, rfl, upd_same, by omega, fun ns' q' hs hm hl hq' => ?_⟩
  have zz := Ext.newO (o := SetO X.w p' (fun j => decide (j ∈ ns)) c) z1.c hp'
  refine k _ _ _ _ (z1.trans (zz.trans (Ext.new zz.c hq'))) (rep_newL (zz.c.free hq') (repL_ints ns')) (q ns' ?_ (fun n => ?_) ?_)
  · exact hs.imp fun {a b} h => by omega
  · rw [hm n, decide_eq_true_eq]
  · exact hs.imp fun {a b} h => by omega
end
end CF
namespace CF
open PySem PySem.Spec PyProof.Rows L2
section
variable {X : Cx} {sc : Scope} {G : Nat → Pm}
/-- walking a list or a tuple -/
def iSeq (K : PySem.W.Frag) (t : TE) : TI := fun σ H R => t σ H fun x H1 => ∃ a, x = .ref a ∧ (((∃ xs, SqL K H1 a xs) ∧ R (Itl K a) H1) ∨ ((∃ xs, SqT K H1 a xs) ∧ R (Itt K a) H1))
theorem pi_seq {tg l : Expr} {tl : TE} (hl : PE X l tl) : PI X tg l (iSeq X.K tl) := by
  refine ⟨fun pins s σ H R I h => ?_⟩
  refine thn (hl.run pins s σ H _ I h) fun v s1 ⟨x, H1, I1, r1, q1⟩ => ?_
  obtain ⟨a, e, q1⟩ := q1
  subst e
  cases r1
  rcases q1 with ⟨⟨xs, hq⟩, q⟩ | ⟨⟨xs, hq⟩, q⟩
  · obtain ⟨its, rv, p, hz⟩ := I1.list hq
    refine wpAny_pyIter_list p.isList ?_
    refine ⟨s1.heap.objs.size, [s1.heap.objs.size], _, _, H1, rfl, I1.kept (t' := s1.toks) fun b o e => Heap.get?_push_of_some _ e, turn_list a _, ⟨_, Heap.get?_push_size _ rfl, rfl, rfl⟩, fun b hb => ?_, q⟩
    have e : b = s1.heap.objs.size := by simpa using hb
    subst e
    exact I1.fpOk (Nat.le_refl _) (I1.hok.fresh (Nat.le_refl _))
  · obtain ⟨its, rv, p, hz⟩ := I1.tuple hq
    refine wpAny_pyIter_tuple (show s1.heap.IsTuple a its.toArray from p) ?_
    refine ⟨s1.heap.objs.size, [s1.heap.objs.size], _, _, H1, rfl, I1.kept (t' := s1.toks) fun b o e => Heap.get?_push_of_some _ e, turn_tuple a _, ⟨_, Heap.get?_push_size _ rfl, rfl, rfl⟩, fun b hb => ?_, q⟩
    have e : b = s1.heap.objs.size := by simpa using hb
    subst e
    exact I1.fpOk (Nat.le_refl _) (I1.hok.fresh (Nat.le_refl _))
theorem wk_listF {K : PySem.W.Frag} {Hf H : Hp} {a : Addr} {xs : List PyData} {vs : List V} (s : Same Hf H) (h : SqL K Hf a vs) (r : RepL K Hf xs vs) : ∃ S, (∀ p ∈ S, Hf p ≠ none) ∧ Wk K (Itl K a) xs Hf H S := by
  obtain ⟨S, hS, st⟩ := sql_at h
  have st' : ∀ H' : Hp, (∀ p ∈ S, H' p = H p) → SqL K H' a vs := fun H' e => st H' fun p hp => by
    rw [e p hp]
    cases q : Hf p with
    | none => exact absurd q (hS p hp).2
    | some o => exact s _ _ q
  refine ⟨S, fun p hp => (hS p hp).2, fun p hp z => ?_, fun i H' e hi => ?_, fun i H' x H2 e hi y => ?_, fun i H' e hi => ⟨vs, st' H' e, by rw [← r.length]; exact hi⟩⟩
  · cases q : Hf p with
    | none => exact (hS p hp).2 q
    | some o => rw [s _ _ q] at z; cases z
  · have hi' : i < vs.length := by rw [← r.length]; exact hi
    exact ⟨vs, vs[i], st' H' e, List.getElem?_eq_getElem hi'⟩
  · obtain ⟨y1, y2⟩ := y
    have q := y2 vs (st' H' e)
    obtain ⟨d, hd, rep⟩ := r.get' q
    exact ⟨y1, d, hd, rep⟩
theorem wk_listO {K : PySem.W.Frag} {Hf H : Hp} {a : Addr} {xs : List PyData} {vs : List V} (h : H a = some (.lst vs)) (r : RepL K Hf xs vs) : Wk K (Itl K a) xs Hf H [a] := by
  have st : ∀ H' : Hp, (∀ p ∈ [a], H' p = H p) → SqL K H' a vs := fun H' e => SqL.of ((e a (List.mem_singleton.mpr rfl)).trans h)
  refine ⟨fun p hp => by rw [List.mem_singleton.mp hp, h]; exact (fun z => nomatch z), fun i H' e hi => ?_, fun i H' x H2 e hi y => ?_, fun i H' e hi => ⟨vs, st H' e, by rw [← r.length]; exact hi⟩⟩
  · have hi' : i < vs.length := by rw [← r.length]; exact hi
    exact ⟨vs, vs[i], st H' e, List.getElem?_eq_getElem hi'⟩
  · obtain ⟨y1, y2⟩ := y
    have q := y2 vs (st H' e)
    obtain ⟨d, hd, rep⟩ := r.get' q
    exact ⟨y1, d, hd, rep⟩
theorem isOwnE_cases {a : IE} {r : Ev} (h : ¬ isOwnE a r = false) : ∃ j d, a = .var j ∧ (r.get j = .own d ∨ r.get j = .lck d) ∨ ∃ j l, a = .var j ∧ r.get j = .mem l := by
  cases a <;> try exact absurd rfl h
  rename_i j
  have h' : ¬ (r.get j).isO = false := h
  cases e : r.get j with
  | own d => exact ⟨j, d, .inl ⟨rfl, .inl e⟩⟩
  | lck d => exact ⟨j, d, .inl ⟨rfl, .inr e⟩⟩
  | mem l => exact ⟨j, .none, .inr ⟨j, l, rfl, e⟩⟩
  | _ => rw [e] at h'; exact absurd rfl h'
theorem pk_mem {j : Nat} {r : Ev} {l : List (Int × Int)} {w : (PyData → Prop) → Prop} {Q : PyData → Prop} (e : r.get j = .mem l) (h : pk (.var j) r w Q) : False := by
  have h' : (match r.get j with | .val d => Q d | .own d => Q d | .lck d => Q d | _ => False) := h
  rw [e] at h'
  exact h'
theorem ji_seq {a : IE} {ea : Expr} (ha : Jd X sc G a ea) : JdI X sc G (.seq a) ea := by
  obtain ⟨⟨ta, pa, _, sa⟩, _⟩ := ha
  refine ⟨iSeq X.K ta, fun q tg hq => pi_seq (X := at' X q) (pa q hq), fun Bf B Hf H r σ Q Rv R w k => ?_⟩
  rw [wpIt] at w
  refine sa Bf B Hf H r σ _ _ R w fun d v H1f H1 z1 rep1 no w1 => ?_
  by_cases ho : isOwnE a r = false
  · have rep := no.no ho
    cases d <;> simp only [itP] at w1
    · rename_i xs
      unfold Rep at rep
      obtain ⟨p, vs, rfl, h1, h2⟩ := rep
      obtain ⟨S, hS, wk⟩ := wk_listF z1.c h1 h2
      exact ⟨p, rfl, .inl ⟨⟨vs, z1.c.seq h1⟩, k _ _ _ _ S z1 wk (.inl hS) w1⟩⟩
    · rename_i xs
      unfold Rep at rep
      obtain ⟨p, vs, rfl, h1, h2⟩ := rep
      refine ⟨p, rfl, .inr ⟨⟨vs, SqT.of (z1.c _ _ h1)⟩, k _ _ _ _ [p] z1 (wk_tup (z1.c _ _ h1) h2) (.inl fun q hq => ?_) w1⟩⟩
      rw [List.mem_singleton.mp hq, h1]
      exact (fun z => nomatch z)
  · obtain ⟨j, d', ⟨rfl, hj⟩ | ⟨j2, l2, rfl, hm⟩⟩ := isOwnE_cases ho
    rotate_left
    · exact (pk_mem hm w).elim
    have hs := no.sl j rfl
    rcases rep1 with rep | rep
    · cases d <;> simp only [itP] at w1
      · rename_i xs
        unfold Rep at rep
        obtain ⟨p, vs, rfl, h1, h2⟩ := rep
        obtain ⟨S, hS, wk⟩ := wk_listF z1.c h1 h2
        exact ⟨p, rfl, .inl ⟨⟨vs, z1.c.seq h1⟩, k _ _ _ _ S z1 wk (.inl hS) w1⟩⟩
      · rename_i xs
        unfold Rep at rep
        obtain ⟨p, vs, rfl, h1, h2⟩ := rep
        refine ⟨p, rfl, .inr ⟨⟨vs, SqT.of (z1.c _ _ h1)⟩, k _ _ _ _ [p] z1 (wk_tup (z1.c _ _ h1) h2) (.inl fun q hq => ?_) w1⟩⟩
        rw [List.mem_singleton.mp hq, h1]
        exact (fun z => nomatch z)
    · cases d <;> simp only [itP] at w1
      · rename_i xs
        obtain ⟨p, vs, rfl, h0, h1, h2⟩ := rep
        refine ⟨p, rfl, .inl ⟨⟨vs, SqL.of h1⟩, k _ _ _ _ [p] z1 (wk_listO h1 h2) (.inr ⟨j, p, d', rfl, hj, hs, fun q hq => List.mem_singleton.mp hq⟩) w1⟩⟩
      · exact rep.elim
theorem wk_keys {K : PySem.W.Frag} {Hf H : Hp} {p : Addr} {o : Obj} {l : List (Int × Int)} (h : H p = some (.frz o (.dK (dV l)))) : Wk K (Itk p o (dV l)) (l.map fun p => .int p.1) Hf H [p] := by
  have st : ∀ H' : Hp, (∀ q ∈ [p], H' q = H q) → H' p = some (.frz o (.dK (dV l))) := fun H' e => (e p (List.mem_singleton.mpr rfl)).trans h
  have hl : (dV l).length = l.length := by unfold dV; rw [List.length_map]
  refine ⟨fun q hq => by rw [List.mem_singleton.mp hq, h]; exact (fun z => nomatch z), fun i H' e hi => ⟨st H' e, ?_⟩, fun i H' x H2 e hi y => ?_, fun i H' e hi => ⟨st H' e, ?_⟩⟩
  · rw [List.length_map] at hi
    omega
  · obtain ⟨y1, k, v, y2, y3⟩ := y
    unfold dV at y2
    rw [List.getElem?_map] at y2
    cases q : l[i]? with
    | none => rw [q] at y2; cases y2
    | some z =>
      rw [q] at y2
      have y2' : (Sum.inl z.1, V.int z.2) = (k, v) := Option.some.inj y2
      cases y2'
      refine ⟨y1, .int z.1, by rw [List.getElem?_map, q]; rfl, ?_⟩
      subst y3
      exact rep_int
  · rw [List.length_map] at hi
    omega
theorem ji_keys {N : List Str} {T cs d} (x : XOk N T cs d X) {c : Ck} (hc : c.N = N) {j : Nat} {y : Str} {py : Pos} (h1 : nmOk c.N j y = true) (h2 : visB sc y = true) : JdI X sc G (.keys j) (.Name y py) := by
  refine ⟨iKeys (tVar j), fun q tg hq => pi_keys (X := at' X q) (pe_nm x hc h1 h2 q hq), fun Bf B Hf H r σ Q Rv R w k => ?_⟩
  rw [wpIt] at w
  obtain ⟨l, hl, w⟩ := w
  have q := R.sl j
  rw [hl] at q
  obtain ⟨p, o, e, h⟩ := q
  have hH := R.e.c _ _ h
  exact ⟨_, e, p, o, rfl, .inl ⟨dV l, hH, k _ _ _ _ [p] (Ext.refl R.e.c) (wk_keys hH) (.inl fun q hq => by rw [List.mem_singleton.mp hq, h]; exact (fun z => nomatch z)) w⟩⟩
theorem chkEs_len {c : Ck} {sc : Scope} : ∀ {es : IEs} {as : List Expr}, chkEs c sc es as = true → es.len = as.length
  | .nil, [], _ => rfl
  | .nil, _ :: _, h => absurd h (by simp [chkEs])
  | .cons e es, [], h => absurd h (by simp [chkEs])
  | .cons e es, a :: as, h => by
    have h' : (chkE c sc e a && chkEs c sc es as) = true := by simpa [chkEs] using h
    rw [Bool.and_eq_true] at h'
    show es.len + 1 = as.length + 1
    rw [chkEs_len h'.2]
theorem chkEs_cons {c : Ck} {sc : Scope} {es : IEs} {a : Expr} {as : List Expr} (h : chkEs c sc es (a :: as) = true) : okE a = true ∧ ∃ es', chkEs c sc es' as = true := by
  cases es with
  | nil => exact absurd h (by simp [chkEs])
  | cons e es =>
    have h' : (chkE c sc e a && chkEs c sc es as) = true := by simpa [chkEs] using h
    rw [Bool.and_eq_true] at h'
    exact ⟨chkE_ok h'.1, es, h'.2⟩
theorem prep3 {K : PySem.W.Frag} {Hf H : Hp} {d e f : PyData} {vs : List V} (h : PRepL K Hf H [d, e, f] vs) : ∃ v u w, vs = [v, u, w] ∧ PRep K Hf H d v ∧ PRep K Hf H e u ∧ PRep K Hf H f w := by
  obtain ⟨v, r, rfl, h1, h2⟩ := h
  obtain ⟨u, w, rfl, h3, h4⟩ := prep2 h2
  exact ⟨v, u, w, rfl, h1, h3, h4⟩
theorem ji_rng {es : IEs} {as : List Expr} {N : List Str} {T cs d} (x : XOk N T cs d X) {c : Ck} {y : Str} {p pos : Pos} (hy : y = "range") (hg : gl sc y = true) (hch : chkEs c sc es as = true) (ha : JdA X sc G es as) (hn : as.length = 1 ∨ as.length = 2 ∨ as.length = 3) :
    JdI X sc G (.rng es) (.Call (.Name y p) as [] pos) := by
  subst hy
  obtain ⟨ta, pa, sa⟩ := ha
  obtain ⟨g1, g2, g3⟩ := gl_of (X := X) hg
  have hm := x.mb "range" (by decide +kernel)
  have hlen := chkEs_len hch
  match as, hn with
  | [a], _ =>
    obtain ⟨ok, _⟩ := chkEs_cons hch
    refine ⟨_, fun q tg hq => pi_range1 (g1 q hq) hm (pa q hq) (okE.star ok _ _), fun Bf B Hf H r σ Q Rv R w k => ?_⟩
    rw [wpIt] at w
    refine sa Bf B Hf H r σ _ _ R w fun ds vs H1f H1 z1 rep1 _ hl w1 => ?_
    rw [hlen] at hl
    match ds, hl with
    | [e], _ =>
      cases e <;> simp only [rngP] at w1
      obtain ⟨v, rfl, q⟩ := prep1 rep1
      refine ⟨_, by rw [q.int], w1.1.1, w1.1.2, ?_⟩
      exact k _ _ _ _ [] z1 wk_rng (.inl fun p hp => absurd hp (by simp)) w1.2
  | [a, b], _ =>
    obtain ⟨ok, es2, h2⟩ := chkEs_cons hch
    obtain ⟨ok2, _⟩ := chkEs_cons h2
    refine ⟨_, fun q tg hq => pi_range2 (g1 q hq) hm (pa q hq) (by rw [okE.star ok, okE.star ok2]; rfl) (okE.star ok2 _ _), fun Bf B Hf H r σ Q Rv R w k => ?_⟩
    rw [wpIt] at w
    refine sa Bf B Hf H r σ _ _ R w fun ds vs H1f H1 z1 rep1 _ hl w1 => ?_
    rw [hlen] at hl
    match ds, hl with
    | [e, f], _ =>
      cases e <;> cases f <;> simp only [rngP] at w1
      obtain ⟨v, u, rfl, q, q2⟩ := prep2 rep1
      refine ⟨_, _, by rw [q.int, q2.int], w1.1, ?_⟩
      exact k _ _ _ _ [] z1 wk_rng (.inl fun p hp => absurd hp (by simp)) w1.2
  | [a, b, e], _ =>
    obtain ⟨ok, es2, h2⟩ := chkEs_cons hch
    obtain ⟨ok2, es3, h3⟩ := chkEs_cons h2
    obtain ⟨ok3, _⟩ := chkEs_cons h3
    refine ⟨_, fun q tg hq => pi_range3 (g1 q hq) hm (pa q hq) (okE.star ok _ _) (by rw [okE.star ok2, okE.star ok3]; rfl), fun Bf B Hf H r σ Q Rv R w k => ?_⟩
    rw [wpIt] at w
    refine sa Bf B Hf H r σ _ _ R w fun ds vs H1f H1 z1 rep1 _ hl w1 => ?_
    rw [hlen] at hl
    match ds, hl with
    | [e, f, g], _ =>
      cases e <;> cases f <;> cases g <;> simp only [rngP] at w1
      obtain ⟨v, u, w', rfl, q, q2, q3⟩ := prep3 rep1
      obtain ⟨n, hn, w1⟩ := w1
      refine ⟨_, _, _, n, by rw [q.int, q2.int, q3.int], hn, ?_⟩
      exact k _ _ _ _ [] z1 wk_rngC (.inl fun p hp => absurd hp (by simp)) w1

/-! ### targets -/
/-- b: what is stored may be a cell (in a def's body), or a local alone -/
abbrev FnQ (b : Bool) (q : Vr) : Prop := b = true → q.fn = fun _ => true
def JdG (X : Cx) (sc : Scope) (b : Bool) (tg : Tg) (e : Expr) : Prop := ∃ g, (∀ q : Vr, q.env.scope = sc → FnQ b q → PG (at' X q) e g) ∧ ∀ (Bf B Hf H : Hp) (r : Ev) (σ : L2.St) (d : PyData) (v : V) (Q : Ev → Prop) (Qv : L2.St → Hp → Prop), StR X.K X.N.length Bf B Hf H r σ → Rep X.K Hf d v → bindT tg d r Q →
  (∀ r' σ', StR X.K X.N.length Bf B Hf H r' σ' → (∀ i, i ∉ tg.slots → σ'[i]? = σ[i]? ∧ r'.get i = r.get i) → (∀ i ∈ tg.slots, r.free i = true) → Q r' → Qv σ' H) → g v σ H Qv
theorem free_of_set {r : Ev} {i : Nat} (d : PyData) (j : Nat) (h : r.free j = true) : Ev.free (r.set i (.val d)) j = true := by
  unfold Ev.free at h ⊢
  by_cases e : i = j
  · subst e
    by_cases hi : i < r.length
    · rw [Ev.get_set_same hi]
    · rw [List.set_eq_of_length_le (by omega)]
      exact h
  · rw [Ev.get_set_ne e]
    exact h
theorem jg_one {b : Bool} {i : Nat} {y : Str} {py : Pos} (nd : X.N.Nodup) (hi : X.N[i]? = some y) (hx : L2.Loc sc y) (hf : ∀ q : Vr, q.env.scope = sc → FnQ b q → q.fn y = true ∨ q.env.scope.names.lookup y = some .local) : JdG X sc b (.one i) (.Name y py) := by
  refine ⟨_, fun q hq hb => pg_name (X := at' X q) nd hi (by show L2.Loc q.env.scope y; rw [hq]; exact hx) (hf q hq hb), fun Bf B Hf H r σ d v Q Qv R rep w k => ?_⟩
  have hlt : i < X.N.length := (List.getElem?_eq_some_iff.mp hi).1
  refine k _ _ (R.setV rep hlt) (fun j hj => ?_) (fun j hj => ?_) w.2
  · have hne : i ≠ j := fun e => hj (by rw [e]; exact List.mem_singleton.mpr rfl)
    exact ⟨List.getElem?_set_ne hne, Ev.get_set_ne hne⟩
  · rw [List.mem_singleton.mp hj]
    exact w.1
/-- several names -/
def JdGs (X : Cx) (sc : Scope) (b : Bool) (is : List Nat) (es : List Expr) : Prop := ∃ g, (∀ q : Vr, q.env.scope = sc → FnQ b q → PGs (at' X q) es g) ∧ (∀ env, (assignEach es env).length = is.length ∧ (assignEach es env).findIdx? (·.1) = none) ∧ ∀ (Bf B Hf H : Hp) (r : Ev) (σ : L2.St) (ds : List PyData) (vs : List V) (Q : Ev → Prop) (Qv : L2.St → Hp → Prop), StR X.K X.N.length Bf B Hf H r σ → RepL X.K Hf ds vs → r.freeAll is = true → ds.length = is.length → Q (setAll r is ds) →
  (∀ r' σ', StR X.K X.N.length Bf B Hf H r' σ' → (∀ i, i ∉ is → σ'[i]? = σ[i]? ∧ r'.get i = r.get i) → Q r' → Qv σ' H) → g vs σ H Qv
theorem jgs_nil {b : Bool} : JdGs X sc b [] [] := ⟨_, fun q hq hb => pgs_nil, fun env => ⟨rfl, rfl⟩, fun Bf B Hf H r σ ds vs Q Qv R rep f hl w k => by
  have e : ds = [] := List.eq_nil_of_length_eq_zero hl
  subst e
  unfold RepL at rep
  subst rep
  exact ⟨rfl, k r σ R (fun i _ => ⟨rfl, rfl⟩) w⟩⟩
theorem jgs_cons {b : Bool} {i : Nat} {is : List Nat} {y : Str} {py : Pos} {es : List Expr} (nd : X.N.Nodup) (hi : X.N[i]? = some y) (hx : L2.Loc sc y) (hf : ∀ q : Vr, q.env.scope = sc → FnQ b q → q.fn y = true ∨ q.env.scope.names.lookup y = some .local) (h : JdGs X sc b is es) : JdGs X sc b (i :: is) (.Name y py :: es) := by
  obtain ⟨g, pg, ha, sg⟩ := h
  have hlt : i < X.N.length := (List.getElem?_eq_some_iff.mp hi).1
  refine ⟨_, fun q hq hb => pgs_cons (pg_name (X := at' X q) nd hi (by show L2.Loc q.env.scope y; rw [hq]; exact hx) (hf q hq hb)) (pg q hq hb) rfl, fun env => ?_, fun Bf B Hf H r σ ds vs Q Qv R rep f hl w k => ?_⟩
  · obtain ⟨h1, h2⟩ := ha env
    constructor
    · show (assignEach es env).length + 1 = is.length + 1
      rw [h1]
    · show List.findIdx? (·.1) ((false, _) :: assignEach es env) = none
      rw [List.findIdx?_cons]
      simp [h2]
  · match ds, hl with
    | d :: ds, hl =>
      unfold RepL at rep
      obtain ⟨v, r1, rfl, h1, h2⟩ := rep
      have f' : (r.free i && Ev.freeAll r is) = true := f
      rw [Bool.and_eq_true] at f'
      refine ⟨v, r1, rfl, ?_⟩
      refine sg Bf B Hf H (r.set i (.val d)) (σ.set i (some v)) ds r1 Q Qv (R.setV h1 hlt) h2 ?_ (by simpa using hl) w fun r' σ' R' hk q => ?_
      · unfold Ev.freeAll at f' ⊢
        rw [List.all_eq_true] at f' ⊢
        exact fun j hj => free_of_set d j (f'.2 j hj)
      · refine k r' σ' R' (fun j hj => ?_) q
        have hne : i ≠ j := fun e => hj (by rw [e]; exact List.mem_cons_self)
        obtain ⟨e1, e2⟩ := hk j fun z => hj (List.mem_cons_of_mem _ z)
        exact ⟨e1.trans (List.getElem?_set_ne hne), e2.trans (Ev.get_set_ne hne)⟩
theorem jg_many {b : Bool} {is : List Nat} {es : List Expr} {k pos} (hc : X.calm = true) (h : JdGs X sc b is es) : JdG X sc b (.many is) (.Tuple es k pos) := by
  obtain ⟨g, pg, ha, sg⟩ := h
  refine ⟨gTup X.K is.length g, fun q hq hb => pg_tup (X := at' X q) (n := is.length) hc (pg q hq hb) (ha _).1 (ha _).2, fun Bf B Hf H r σ d v Q Qv R rep w kk => ?_⟩
  obtain ⟨f, ds, rfl, hl, q⟩ := w
  unfold Rep at rep
  obtain ⟨a, vs, rfl, h1, h2⟩ := rep
  refine ⟨a, vs, rfl, SqT.of (R.e.c _ _ h1), by rw [← h2.length]; exact hl, ?_⟩
  refine sg Bf B Hf H r σ ds vs Q Qv R h2 f hl q fun r' σ' R' hk q' => kk r' σ' R' hk (fun i hi => ?_) q'
  unfold Ev.freeAll at f
  rw [List.all_eq_true] at f
  exact f i hi
/-- from the checker -/
theorem jg_of {N : List Str} {T cs d} (x : XOk N T cs d X) {c : Ck} (hN : c.N = N) {b : Bool} {tg : Tg} {e : Expr} (h : chkT c sc b tg e = true) : JdG X sc b tg e := by
  have one : ∀ {i : Nat} {e : Expr}, chkN c sc b i e = true → ∃ y py, e = .Name y py ∧ X.N[i]? = some y ∧ L2.Loc sc y ∧ ∀ q : Vr, q.env.scope = sc → FnQ b q → (q.fn y = true ∨ q.env.scope.names.lookup y = some .local) := fun {i e} h => by
    unfold chkN at h
    split at h
    · rename_i y py
      rw [Bool.and_eq_true] at h
      obtain ⟨h1, h2⟩ := h
      unfold nmOk at h1
      rw [decide_eq_true_eq] at h1
      refine ⟨y, py, rfl, by rw [x.n, ← hN]; exact h1, ?_⟩
      cases b with
      | true =>
        rw [if_pos rfl] at h2
        refine ⟨?_, fun q hq hb => .inl (by rw [hb rfl])⟩
        unfold locB at h2
        unfold L2.Loc
        split at h2
        · exact .inl (by assumption)
        · exact .inr (by assumption)
        · cases h2
      | false =>
        rw [if_neg Bool.false_ne_true, decide_eq_true_eq] at h2
        exact ⟨.inl h2, fun q hq hb => .inr (by rw [hq]; exact h2)⟩
    · cases h
  have many : ∀ (is : List Nat) (es : List Expr), chkNs c sc b is es = true → JdGs X sc b is es := by
    intro is
    induction is with
    | nil =>
      intro es h
      cases es with
      | nil => exact jgs_nil
      | cons => cases h
    | cons i is ih =>
      intro es h
      cases es with
      | nil => cases h
      | cons e es =>
        have h' : (chkN c sc b i e && chkNs c sc b is es) = true := h
        rw [Bool.and_eq_true] at h'
        obtain ⟨y, py, rfl, h1, h2, h3⟩ := one h'.1
        exact jgs_cons (by rw [x.n]; exact x.nd) h1 h2 h3 (ih es h'.2)
  cases tg with
  | one i =>
    obtain ⟨y, py, rfl, h1, h2, h3⟩ := one (i := i) (e := e) h
    exact jg_one (by rw [x.n]; exact x.nd) h1 h2 h3
  | many is =>
    unfold chkT at h
    cases e <;> try (exact absurd h Bool.false_ne_true)
    exact jg_many x.calm (many is _ h)
end
end CF
namespace CF
open PySem PySem.Spec PyProof.Rows L2
section
variable {K : PySem.W.Frag} {n : Nat} {Bf B H H' Hf Hf' : Hp} {r : Ev} {σ : L2.St}
theorem StR.setU {i : Nat} (R : StR K n Bf B Hf H r σ) : StR K n Bf B Hf H (r.set i .un) (σ.set i none) := by
  have key : ∀ j, (j ≠ i ∧ Ev.get (r.set i .un) j = r.get j ∧ (σ.set i none)[j]? = σ[j]?) ∨ Ev.get (r.set i .un) j = .un := fun j => by
    by_cases e : i = j
    · subst e
      refine .inr ?_
      by_cases hi : i < r.length
      · exact Ev.get_set_same hi
      · rw [List.set_eq_of_length_le (by omega)]
        exact Ev.get_out (by omega)
    · exact .inl ⟨Ne.symm e, Ev.get_set_ne e, List.getElem?_set_ne e⟩
  refine ⟨by rw [List.length_set]; exact R.ln, by rw [List.length_set, List.length_set]; exact R.len, fun j => ?_, fun j k p hjk h1 h2 e1 e2 => ?_, R.e⟩
  · rcases key j with ⟨_, e1, e2⟩ | e
    · rw [e1, e2]
      exact R.sl j
    · rw [e]
      exact trivial
  · rcases key j with ⟨_, a1, a2⟩ | a
    · rcases key k with ⟨_, b1, b2⟩ | b
      · rw [a1] at h1
        rw [b1] at h2
        rw [a2] at e1
        rw [b2] at e2
        exact R.sep j k p hjk h1 h2 e1 e2
      · rw [b] at h2
        cases h2
    · rw [a] at h1
      cases h1
theorem StR.wipe (R : StR K n Bf B Hf H r σ) : ∀ is : List Nat, StR K n Bf B Hf H (wipeE r is) (L2.wipe σ is)
  | [] => R
  | i :: is => (StR.wipe R is).setU
theorem wipe_get (σ : L2.St) (i : Nat) : ∀ vs : List Nat, (L2.wipe σ vs)[i]? = if i ∈ vs then (if i < σ.length then some none else none) else σ[i]?
  | [] => by simp [L2.wipe]
  | v :: vs => by
    have ih := wipe_get σ i vs
    show ((L2.wipe σ vs).set v none)[i]? = _
    by_cases e : v = i
    · subst e
      rw [if_pos List.mem_cons_self]
      by_cases hv : v < σ.length
      · rw [if_pos hv, List.getElem?_set_self (by rw [wipe_length]; exact hv)]
      · rw [if_neg hv, List.getElem?_eq_none (by rw [List.length_set, wipe_length]; omega)]
    · rw [List.getElem?_set_ne e, ih]
      by_cases hm : i ∈ vs
      · rw [if_pos hm, if_pos (List.mem_cons_of_mem _ hm)]
      · rw [if_neg hm, if_neg (fun z => (List.mem_cons.mp z).elim (fun z => e z.symm) hm)]
theorem wipe_same {σ σ2 : L2.St} {vs : List Nat} (hl : σ2.length = σ.length) (h : ∀ i, i ∉ vs → σ2[i]? = (L2.wipe σ vs)[i]?) : L2.wipe σ2 vs = L2.wipe σ vs := by
  refine List.ext_getElem? fun i => ?_
  rw [wipe_get, wipe_get, hl]
  by_cases hm : i ∈ vs
  · rw [if_pos hm, if_pos hm]
  · rw [if_neg hm, if_neg hm, h i hm, wipe_get, if_neg hm]
/-- a list that is not frozen grows -/
theorem Ext.put {p : Addr} {o : HO} (z : Ext Hf H Hf' H') (hp : H p = none) (hf : Hf' p = none) : Ext Hf H Hf' (upd H' p o) := by
  refine ⟨fun b u e => ?_, z.b, fun b u e => ?_, z.d⟩
  · rw [upd_ne (ne_of_none e hp)]
    exact z.a _ _ e
  · rw [upd_ne (ne_of_none e hf)]
    exact z.c _ _ e
end
section
variable {X : Cx} {sc : Scope} {G : Nat → Pm}
def JdF (X : Cx) (sc : Scope) (G : Nat → Pm) (es : IEs) (e : List Expr) : Prop := ∃ t, (∀ q : Vr, q.env.scope = sc → PTs (at' X q) e t) ∧ ∀ (Bf B Hf H : Hp) (r : Ev) (σ : L2.St) (Q : Bool → Prop) (Qv : Bool → Hp → Prop), StR X.K X.N.length Bf B Hf H r σ →
  wpIfs G es r Q → (∀ b Hf' H', Ext Hf H Hf' H' → Q b → Qv b H') → t σ H Qv
theorem jf_nil : JdF X sc G .nil [] := ⟨_, fun q hq => pts_nil, fun Bf B Hf H r σ Q Qv R w k => by
  rw [wpIfs] at w
  exact k true _ _ (Ext.refl R.e.c) w⟩
theorem jf_one {a : IE} {ea : Expr} (ha : Jd X sc G a ea) : JdF X sc G (.cons a .nil) [ea] := by
  obtain ⟨_, tt, pt, st⟩ := ha
  refine ⟨_, fun q hq => pts_one (pt q hq), fun Bf B Hf H r σ Q Qv R w k => ?_⟩
  rw [wpIfs] at w
  exact st Bf B Hf H r σ Q Qv R w k
theorem comp_pe {elt : IE} {tg : Tg} {it : IIt} {ifs : IEs} {e t i : Expr} {fs : List Expr} {csc : Scope} {N : List Str} {T cs d} (x : XOk N T cs d X) {c : Ck} (hN : c.N = N)
    (ok : okE i = true) (hb : blkC c.N sc csc (ownOf c.N tg.slots) = true) (hit : JdI X sc G it i) (htg : JdG X (relS csc sc) false tg t) (hif : JdF X (relS csc sc) G ifs fs) (he : Jd X (relS csc sc) G elt e) :
    ∃ tt : TI × TG × TT × TE, (∀ q : Vr, q.env.scope = sc → PI (at' X q) t i tt.1 ∧ BlkOk (at' X q).N (at' X q).env.scope csc (ownOf c.N tg.slots) ∧
      (∀ (s : Shared) (H : Hp) (C : Addr) (cl : List (Str × Addr)) (fp : List Addr), PG ((at' X q).blk s H csc (compEnvC csc cl C (at' X q).env) fp) t tt.2.1) ∧
      (∀ (s : Shared) (H : Hp) (C : Addr) (cl : List (Str × Addr)) (fp : List Addr), PTs ((at' X q).blk s H csc (compEnvC csc cl C (at' X q).env) fp) fs tt.2.2.1) ∧
      (∀ (s : Shared) (H : Hp) (C : Addr) (cl : List (Str × Addr)) (fp : List Addr), PE ((at' X q).blk s H csc (compEnvC csc cl C (at' X q).env) fp) e tt.2.2.2)) ∧
    SemO X G (.comp elt tg it ifs) (tLc tt.1 tt.2.1 tt.2.2.1 tt.2.2.2 ((ownOf c.N tg.slots).map (·.2))) := by
  obtain ⟨wi, pit, sit⟩ := hit
  obtain ⟨g, pg, sg⟩ := htg
  obtain ⟨tf, pf, sf⟩ := hif
  obtain ⟨⟨te, pe, se, _⟩, _⟩ := he
  refine ⟨(wi, g, tf, te), fun q hq => ⟨pit q t hq, ?_, fun s H C cl fp => ?_, fun s H C cl fp => ?_, fun s H C cl fp => ?_⟩, ?_⟩
  · have h := blkOk_by hb
    show BlkOk X.N q.env.scope csc _
    rw [x.n, ← hN, hq]
    exact h
  · exact pg ⟨s, H, compEnvC csc cl C q.env, q.stack, q.stack, fp, fun x => csc.names.lookup x == some .cell, [], fun _ _ => False⟩ (by rw [← hq]; rfl) (fun z => nomatch z)
  · exact pf ⟨s, H, compEnvC csc cl C q.env, q.stack, q.stack, fp, fun x => csc.names.lookup x == some .cell, [], fun _ _ => False⟩ (by rw [← hq]; rfl)
  · exact pe ⟨s, H, compEnvC csc cl C q.env, q.stack, q.stack, fp, fun x => csc.names.lookup x == some .cell, [], fun _ _ => False⟩ (by rw [← hq]; rfl)
  have hown : (ownOf c.N tg.slots).map (·.2) = tg.slots := by
    unfold ownOf
    rw [List.map_map]
    exact List.map_id _
  rw [hown]
  intro Bf B Hf H r σ Q Qv R w k
  rw [wpE] at w
  refine sit Bf B Hf H r σ _ _ R w fun items J H1f H1 S z1 wk wat w1 => ?_
  obtain ⟨hlen, w1⟩ := w1
  intro D hD
  have R1 := R.ext z1
  refine ⟨fun i m Hc => m + i = items.length ∧ ∃ (Hfc : Hp) (acc : List PyData) (accV : List V), Ext H1f H1 Hfc Hc ∧ Hfc D = none ∧ Hc D = some (.lst accV) ∧ RepL X.K Hfc acc accV ∧ acc.length ≤ i ∧
      compL (fun x k => bindT tg x (wipeE r tg.slots) fun r1 => wpIfs G ifs r1 fun b => if b = true then wpE G elt r1 fun y => k (some y) else k none) (items.drop i) (fun ys => Q (.list (acc ++ ys))),
    ⟨items.length, rfl, H1f, [], [], Ext.newO z1.c hD, z1.c.free hD, upd_same, RepL.nil, Nat.zero_le _, ?_⟩, ?_⟩
  · simpa using w1
  rintro i m Hc ⟨hm, Hfc, acc, accV, zc, hfD, hcD, rep, hacc, w2⟩
  have stay : ∀ p ∈ S, Hc p = H1 p := fun p hp => by
    cases q : H1 p with
    | none => exact absurd q (wk.there p hp)
    | some o => exact zc.a _ _ q
  by_cases hi : i < items.length
  · refine .inr ⟨wk.go i Hc stay hi, fun Hn => ∃ (Hfc : Hp) (acc : List PyData) (accV : List V), Ext H1f H1 Hfc Hn ∧ Hfc D = none ∧ Hn D = some (.lst accV) ∧ RepL X.K Hfc acc accV ∧ acc.length ≤ i + 1 ∧
      compL (fun x k => bindT tg x (wipeE r tg.slots) fun r1 => wpIfs G ifs r1 fun b => if b = true then wpE G elt r1 fun y => k (some y) else k none) (items.drop (i + 1)) (fun ys => Q (.list (acc ++ ys))), ?_, ?_⟩
    · intro H' h
      exact ⟨m - 1, by omega, by omega, h⟩
    · intro v H' hy
      obtain ⟨eH, dt, hd, rv⟩ := wk.yld i Hc v H' stay hi hy
      rw [eH]
      have hdr : items.drop i = dt :: items.drop (i + 1) := by
        rw [List.drop_eq_getElem_cons hi]
        have := (List.getElem?_eq_some_iff.mp hd).2
        rw [this]
      rw [hdr, compL] at w2
      have Rw := (R1.ext zc).wipe tg.slots
      refine sg Bf B Hfc Hc (wipeE r tg.slots) (L2.wipe σ tg.slots) dt v _ _ Rw (Rep.mono zc.b _ _ rv) w2 fun r' σ' R' hk hfree w3 => ?_
      refine ⟨wipe_same (by rw [← R'.len, R'.ln, ← R.len, R.ln]) fun j hj => (hk j hj).1, ?_⟩
      refine sf Bf B Hfc Hc r' σ' _ _ R' w3 fun b H3f H3 z3 w4 => ?_
      cases b with
      | false =>
        refine iteF ⟨H3f, acc, accV, zc.trans z3, z3.frozen hcD hfD, z3.a _ _ hcD, RepL.mono z3.b _ _ rep, by omega, ?_⟩
        simpa using w4
      | true =>
        refine iteT ?_
        rw [if_pos rfl] at w4
        refine se Bf B H3f H3 r' σ' _ _ (R'.ext z3) w4 fun y u H4f H4 z4 rep4 w5 => ?_
        have h4 : H4 D = some (.lst accV) := z4.a _ _ (z3.a _ _ hcD)
        have h4f : H4f D = none := z4.frozen (z3.a _ _ hcD) (z3.frozen hcD hfD)
        have lv := rep.length
        refine ⟨accV, h4, ?_, H4f, acc ++ [y], accV ++ [u], ((zc.trans z3).trans z4).put hD h4f, h4f, upd_same, RepL.append (RepL.mono z4.b _ _ (RepL.mono z3.b _ _ rep)) (RepL.cons rep4 RepL.nil), ?_, ?_⟩
        · show accV.length < sizeLine
          rw [sizeLine_eq]
          omega
        · rw [List.length_append, List.length_singleton]
          omega
        · simpa using w5
  · refine .inl ⟨wk.stop i Hc stay (by omega), ?_⟩
    rw [List.drop_eq_nil_of_le (by omega)] at w2
    have w3 : Q (.list acc) := by simpa [compL] using w2
    refine k (.list acc) (.ref D) Hfc Hc (z1.trans zc) (.inl ⟨⟨D, accV, rfl, hfD, hcD, rep⟩, fun p e => ?_⟩) w3
    cases e
    exact z1.a.free hD
theorem jd_comp {elt : IE} {tg : Tg} {it : IIt} {ifs : IEs} {e t i : Expr} {fs : List Expr} {csc : Scope} {pos : Pos} {N : List Str} {T cs d} (x : XOk N T cs d X) {c : Ck} (hN : c.N = N)
    (ok : okE i = true) (hb : blkC c.N sc csc (ownOf c.N tg.slots) = true) (hit : JdI X sc G it i) (htg : JdG X (relS csc sc) false tg t) (hif : JdF X (relS csc sc) G ifs fs) (he : Jd X (relS csc sc) G elt e) :
    Jd X sc G (.comp elt tg it ifs) (.ListComp e [⟨t, i, fs, 0⟩] csc pos) := by
  obtain ⟨tt, p, s⟩ := comp_pe x hN ok hb hit htg hif he
  refine jd_mk (fun _ z => by cases z) (fun q hq => ?_) s.e (fun _ _ => rfl)
  obtain ⟨p1, p2, p3, p4, p5⟩ := p q hq
  exact pe_lc (X := at' X q) x.calm (by show X.N.Nodup; rw [x.n]; exact x.nd) p1 p2 p3 p4 p5 (fun v => okE.fold ok _ _)
end
end CF
namespace CF
open PySem PySem.Spec PyProof.Rows L2
def Gof (T : List FnE) : Nat → Pm := fun f => match T[f]? with | some g => g.G | none => fun _ _ => False
def ckOf (N : List Str) (T : List FnE) (cs : List (Str × Int)) : Ck := ⟨N, T.map fun g => (g.name, g.ar), cs⟩
theorem bin_okB {K : PySem.W.Frag} {op : Operator} (h : binB op = true) : ∃ r, (∀ X : Cx, X.K = K → OpR X (binaryOp op) r) ∧ SemR K r (binP op) := by
  rcases bin_ok (K := K) op with q | q
  · exact q
  · exfalso
    cases op <;> first
      | exact q (.int 0) (.int 0) (fun _ => True) trivial
      | exact q (.int 0) (.int 0) (fun _ => True) ⟨.inl ⟨by omega, by omega⟩, trivial⟩
      | exact q (.int 0) (.int 1) (fun _ => True) ⟨by omega, trivial⟩
      | exact q (.int 0) (.int 1) (fun _ => True) ⟨⟨by omega, by omega⟩, trivial⟩
      | exact q (.int 0) (.int 1) (fun _ => True) ⟨⟨by omega, by omega, by decide⟩, trivial⟩
      | exact absurd h (by simp [binB])
section
variable {X : Cx} {N : List Str} {T : List FnE} {cs : List (Str × Int)} {d : Nat}
mutual
theorem sndE (x : XOk N T cs d X) : ∀ (ie : IE) (sc : Scope) (e : Expr), chkE (ckOf N T cs) sc ie e = true → Jd X sc (Gof T) ie e
  | .var i, sc, e, h => jd_var x rfl h
  | .kint i, sc, e, h => by
    unfold chkE at h
    split at h
    · obtain rfl := of_decide_eq_true h
      exact jd_kint
    · cases h
  | .kstr i, sc, e, h => by
    unfold chkE at h
    split at h
    · obtain rfl := of_decide_eq_true h
      exact jd_kstr
    · cases h
  | .kbool i, sc, e, h => by
    unfold chkE at h
    split at h
    · obtain rfl := of_decide_eq_true h
      exact jd_kbool
    · cases h
  | .knone, sc, e, h => by
    unfold chkE at h
    split at h
    · exact jd_knone
    · cases h
  | .gint y i, sc, e, h => by
    unfold chkE at h
    split at h
    · simp only [Bool.and_eq_true, decide_eq_true_eq] at h
      obtain ⟨⟨rfl, h1⟩, h2⟩ := h
      exact jd_gint x h1 h2
    · cases h
  | .bin op a b, sc, e, h => by
    unfold chkE at h
    split at h
    · simp only [Bool.and_eq_true, decide_eq_true_eq] at h
      obtain ⟨⟨⟨rfl, h0⟩, h1⟩, h2⟩ := h
      obtain ⟨r, q1, q2⟩ := bin_okB (K := X.K) h0
      exact jd_bin (sndE x a sc _ h1) (sndE x b sc _ h2) ⟨r, fun q => q1 (at' X q) rfl, q2⟩
    · cases h
  | .neg a, sc, e, h => by
    unfold chkE at h
    split at h
    · exact jd_neg (sndE x a sc _ h)
    · cases h
  | .no a, sc, e, h => by
    unfold chkE at h
    split at h
    · exact jd_no (sndE x a sc _ h)
    · cases h
  | .cmp op a b, sc, e, h => by
    unfold chkE at h
    split at h
    · simp only [Bool.and_eq_true, decide_eq_true_eq] at h
      obtain ⟨⟨rfl, h1⟩, h2⟩ := h
      exact jd_cmp x.un (sndE x a sc _ h1) (sndE x b sc _ h2) (chkE_ok h2)
    · cases h
  | .chain o1 o2 a b c, sc, e, h => by
    unfold chkE at h
    split at h
    · simp only [Bool.and_eq_true, decide_eq_true_eq] at h
      obtain ⟨⟨⟨⟨rfl, rfl⟩, h1⟩, h2⟩, h3⟩ := h
      exact jd_chain x.un (sndE x a sc _ h1) (sndE x b sc _ h2) (sndE x c sc _ h3) (chkE_ok h3)
    · cases h
  | .bop op es, sc, e, h => by
    unfold chkE at h
    split at h
    · simp only [Bool.and_eq_true, decide_eq_true_eq] at h
      obtain ⟨⟨rfl, h1⟩, h2⟩ := h
      exact jd_bop (sndB x op es sc _ h1 h2)
    · cases h
  | .call f es, sc, e, h => by
    unfold chkE at h
    split at h
    · simp only [Bool.and_eq_true, decide_eq_true_eq] at h
      obtain ⟨⟨⟨h1, h2⟩, h3⟩, h4⟩ := h
      obtain ⟨g, hg, e1⟩ : ∃ g, T[f]? = some g ∧ _ := by
        have q : (T.map fun g => (g.name, g.ar))[f]? = some _ := h1
        rw [List.getElem?_map] at q
        exact Option.map_eq_some_iff.mp q
      have hG : Gof T f = g.G := by unfold Gof; rw [hg]
      have e2 := congrArg Prod.fst e1
      have e3 := congrArg Prod.snd e1
      simp only at e2 e3
      obtain ⟨ok, es', hes⟩ := chkEs_cons h3
      exact jd_call x hg hG e2 h2 (sndEs x es sc _ h3) ok (fun env => ja_plain hes _ env) e3.symm h4
    · cases h
  | .blt f es, sc, e, h => by
    unfold chkE at h
    split at h
    · simp only [Bool.and_eq_true, decide_eq_true_eq] at h
      obtain ⟨⟨h1, h2⟩, h3⟩ := h
      obtain ⟨ok, es', hes⟩ := chkEs_cons h3
      have e1 := congrArg Prod.fst h1
      simp only at e1
      exact jd_blt x e1 (by rw [← e1]; cases f <;> decide +kernel) h2 (sndEs x es sc _ h3) ok (fun env => ja_plain hes _ env)
    · cases h
  | .isi a t, sc, e, h => by
    unfold chkE at h
    split at h
    · simp only [Bool.and_eq_true, decide_eq_true_eq] at h
      obtain ⟨⟨⟨⟨h1, h2⟩, h3⟩, h4⟩, h5⟩ := h
      exact jd_isi x h1 h2 h3 h4 (sndE x a sc _ h5) (chkE_ok h5)
    · cases h
  | .tup es, sc, e, h => by
    unfold chkE at h
    split at h
    · exact jd_tup (sndEs x es sc _ h)
    · cases h
  | .lst es, sc, e, h => by
    unfold chkE at h
    split at h
    · exact jd_lst (sndEs x es sc _ h)
    · cases h
  | .ix a i, sc, e, h => by
    unfold chkE at h
    split at h
    · simp only [Bool.and_eq_true] at h
      exact jd_ix (sndE x a sc _ h.1) (sndE x i sc _ h.2) (chkE_ok h.2)
    · cases h
  | .sl a lo hi, sc, e, h => by
    unfold chkE at h
    split at h
    · simp only [Bool.and_eq_true] at h
      exact jd_sl (sndE x a sc _ h.1.1) (sndO x lo sc _ h.1.2) (sndO x hi sc _ h.2)
    · cases h
  | .rev a, sc, e, h => by
    unfold chkE at h
    split at h
    · obtain ⟨⟨ta, pa, _, sa⟩, _⟩ := sndE x a sc _ h
      refine jd_mk (fun _ z => by cases z) (t := tRevA X.K ta) (fun q hq => pe_revAny (X := at' X q) (pa q hq)) (fun Bf B Hf H r σ Q Qv R w k => ?_) (fun _ _ => rfl)
      rw [wpE] at w
      refine sa Bf B Hf H r σ _ _ R w fun d v H1f H1 z1 rep1 no w1 => ?_
      cases d <;> try exact w1.elim
      · obtain ⟨p, vs, rfl, h1, h2⟩ := rep1.list z1.c
        exact .inl ⟨p, vs, rfl, h1, fun q hq => k _ _ _ _ (z1.trans (Ext.new z1.c hq)) (rep_newL (z1.c.free hq) h2.rev) w1⟩
      · obtain ⟨p, vs, rfl, h1, h2⟩ := rep1.tuple z1.c
        exact .inr ⟨p, vs, rfl, SqT.of h1, fun q hq => k _ _ _ _ (z1.trans (Ext.new z1.c hq)) (rep_newT (z1.c.free hq) h2.rev) w1⟩
    · cases h
  | .comp elt tg it ifs, sc, e, h => by
    unfold chkE at h
    split at h
    · simp only [Bool.and_eq_true, decide_eq_true_eq] at h
      obtain ⟨⟨⟨⟨⟨h1, h2⟩, h3⟩, h4⟩, h5⟩, h6⟩ := h
      obtain ⟨ji, ok⟩ := sndIt x it sc _ h1
      exact jd_comp x rfl ok h2 ji (jg_of x rfl h3) (sndF x ifs _ _ h4 h5) (sndE x elt _ _ h6)
    · cases h
  | .lrng es, sc, e, h => by
    unfold chkE at h
    split at h
    · simp only [Bool.and_eq_true, decide_eq_true_eq] at h
      obtain ⟨⟨⟨⟨h1, h2⟩, h3⟩, h4⟩, h5⟩ := h
      match es, h5 with
      | .cons ie .nil, h5 =>
        rw [chkEs, Bool.and_eq_true] at h5
        exact sem_lrng1 x h1 h2 h3 h4 (sndE x ie sc _ h5.1) (chkE_ok h5.1)
      | .nil, h5 => exact absurd h5 (by simp [chkEs])
      | .cons ie (.cons b c), h5 => exact absurd h5 (by simp [chkEs])
    · cases h
  | .sset a, sc, e, h => by
    unfold chkE at h
    split at h
    · simp only [Bool.and_eq_true, decide_eq_true_eq] at h
      obtain ⟨⟨⟨⟨h1, h2⟩, h3⟩, h4⟩, h5⟩ := h
      exact jd_sset x h1 h2 h3 h4 (sndE x a sc _ h5) (chkE_ok h5)
    · cases h
  | .dic0, sc, e, h => by
    unfold chkE at h
    split at h
    · exact jd_dic0
    · cases h
  | .kix j i, sc, e, h => by
    unfold chkE at h
    split at h
    · simp only [Bool.and_eq_true] at h
      exact jd_kix x rfl h.1.1 h.1.2 (sndE x i sc _ h.2) (chkE_ok h.2)
    · cases h
  | .lset a, sc, e, h => by
    unfold chkE at h
    split at h
    · simp only [Bool.and_eq_true, decide_eq_true_eq] at h
      obtain ⟨⟨⟨⟨h1, h2⟩, h3⟩, h4⟩, h5⟩ := h
      exact jd_lset x h1 h2 h3 h4 (sndE x a sc _ h5) (chkE_ok h5)
    · cases h
  | .index a y, sc, e, h => by
    unfold chkE at h
    split at h
    · simp only [Bool.and_eq_true, decide_eq_true_eq] at h
      obtain ⟨⟨⟨⟨h1, h2⟩, h3⟩, h4⟩, h5⟩ := h
      exact jd_index x.un h1 h2 h3 (sndE x a sc _ h4) (sndE x y sc _ h5) (chkE_ok h5)
    · cases h
theorem sndEs (x : XOk N T cs d X) : ∀ (es : IEs) (sc : Scope) (as : List Expr), chkEs (ckOf N T cs) sc es as = true → JdA X sc (Gof T) es as
  | .nil, sc, as, h => by
    cases as with
    | nil => exact ja_nil
    | cons a as => exact absurd h (by simp [chkEs])
  | .cons e es, sc, as, h => by
    cases as with
    | nil => exact absurd h (by simp [chkEs])
    | cons a as =>
      have h' : chkE (ckOf N T cs) sc e a = true ∧ chkEs (ckOf N T cs) sc es as = true := by simpa [chkEs] using h
      exact ja_cons (sndE x e sc _ h'.1) (chkE_ok h'.1) (sndEs x es sc _ h'.2)
theorem sndO (x : XOk N T cs d X) : ∀ (es : IEs) (sc : Scope) (o : Option Expr), chkO (ckOf N T cs) sc es o = true → JdO X sc (Gof T) es o
  | .nil, sc, o, h => by
    cases o with
    | none => exact jo_none
    | some a => exact absurd h (by simp [chkO])
  | .cons e es, sc, o, h => by
    cases o with
    | none => exact absurd h (by simp [chkO])
    | some a =>
      cases es with
      | nil =>
        have h' : chkE (ckOf N T cs) sc e a = true := by simpa [chkO] using h
        exact jo_some (sndE x e sc _ h')
      | cons b c => exact absurd h (by simp [chkO])
theorem sndIt (x : XOk N T cs d X) : ∀ (it : IIt) (sc : Scope) (e : Expr), chkIt (ckOf N T cs) sc it e = true → JdI X sc (Gof T) it e ∧ okE e = true
  | .keys j, sc, e, h => by
    unfold chkIt at h
    split at h
    · rw [Bool.and_eq_true] at h
      exact ⟨ji_keys x rfl h.1 h.2, rfl⟩
    · cases h
  | .seq a, sc, e, h => by
    unfold chkIt at h
    exact ⟨ji_seq (sndE x a sc _ h), chkE_ok h⟩
  | .rng es, sc, e, h => by
    unfold chkIt at h
    split at h
    · simp only [Bool.and_eq_true, Bool.or_eq_true, decide_eq_true_eq] at h
      obtain ⟨⟨⟨h1, h2⟩, h3⟩, h4⟩ := h
      exact ⟨ji_rng x h1 h2 h4 (sndEs x es sc _ h4) (by rcases h3 with (h3 | h3) | h3 <;> omega), rfl⟩
    · cases h
theorem sndB (x : XOk N T cs d X) (op : BoolOp) : ∀ (es : IEs) (sc : Scope) (vs : List Expr), 1 ≤ es.len → chkEs (ckOf N T cs) sc es vs = true → JdB X sc (Gof T) op es vs
  | .nil, sc, vs, h1, h => absurd h1 (by simp [IEs.len])
  | .cons a .nil, sc, vs, h1, h => by
    cases vs with
    | nil => exact absurd h (by simp [chkEs])
    | cons v vs =>
      cases vs with
      | nil =>
        have h' : chkE (ckOf N T cs) sc a v = true := by simpa [chkEs] using h
        exact jb_one (sndE x a sc _ h')
      | cons u vs => exact absurd h (by simp [chkEs])
  | .cons a (.cons b es), sc, vs, h1, h => by
    cases vs with
    | nil => exact absurd h (by simp [chkEs])
    | cons v vs =>
      have h' : chkE (ckOf N T cs) sc a v = true ∧ chkEs (ckOf N T cs) sc (.cons b es) vs = true := by
        rw [chkEs, Bool.and_eq_true] at h
        exact h
      cases vs with
      | nil => exact absurd h'.2 (by simp [chkEs])
      | cons u vs => exact jb_cons (sndE x a sc _ h'.1) (sndB x op (.cons b es) sc _ (by simp [IEs.len]) h'.2)
theorem sndF (x : XOk N T cs d X) : ∀ (es : IEs) (sc : Scope) (vs : List Expr), es.len ≤ 1 → chkEs (ckOf N T cs) sc es vs = true → JdF X sc (Gof T) es vs
  | .nil, sc, vs, h1, h => by
    cases vs with
    | nil => exact jf_nil
    | cons v vs => exact absurd h (by simp [chkEs])
  | .cons a .nil, sc, vs, h1, h => by
    cases vs with
    | nil => exact absurd h (by simp [chkEs])
    | cons v vs =>
      cases vs with
      | nil =>
        have h' : chkE (ckOf N T cs) sc a v = true := by simpa [chkEs] using h
        exact jf_one (sndE x a sc _ h')
      | cons u vs => exact absurd h (by simp [chkEs])
  | .cons a (.cons b es), sc, vs, h1, h => absurd h1 (by simp [IEs.len])
end
end
end CF
namespace CF
open PySem PySem.Spec PyProof.Rows L2

/-! ### the checker of statements -/
def isFr (fr : List Bool) : IE → Bool
  | .comp _ _ _ _ => true
  | .lst _ => true
  | .dic0 => true
  | .call f _ => decide (fr[f]? = some true)
  | .blt .list1 _ => true
  | _ => false
def notTup (e : Expr) : Bool := match e with | .Tuple _ _ _ => false | _ => true
def noComp (e : Expr) : Bool := match e with | .ListComp _ _ _ _ => false | .SetComp _ _ _ _ => false | .DictComp _ _ _ _ _ => false | _ => true
mutual
def chkSz (rz : Bool) (c : Ck) (fr : List Bool) (fresh : Bool) (sc : Scope) : IS → Stmt → Bool
  | .skip, st => (match st with | .Expr (.Constant (.str _) _ _) _ => true | .Pass _ => true | _ => false)
  | .brk, st => (match st with | .Break _ => true | _ => false)
  | .cont, st => (match st with | .Continue _ => true | _ => false)
  | .set i e, st => (match st with | .Assign [.Name y py] ea _ => chkN c sc true i (.Name y py) && chkE c sc e ea | _ => false)
  | .setO i e, st => (match st with | .Assign [.Name y py] ea _ => chkN c sc true i (.Name y py) && isFr fr e && chkE c sc e ea | _ => false)
  | .setT is e, st => (match st with | .Assign [.Tuple es _ _] ea _ => chkNs c sc true is es && notTup ea && chkE c sc e ea | _ => false)
  | .par2 i j a b, st => (match st with | .Assign [.Tuple [.Name x px, .Name y py] _ _] (.Tuple [ea, eb] _ _) _ => nmOk c.N i x && nmOk c.N j y && decide (sc.names.lookup x = some .local) && decide (sc.names.lookup y = some .local) && decide (x ≠ y) && (py.line == px.line) && !([ea, eb].all (foldedForSure 8)) && !([ea, eb].all (constantsAlone 8)) && chkE c sc a ea && chkE c sc b eb | _ => false)
  | .swp i a b, st => (match st with | .Assign [.Tuple [.Subscript (.Name y py) (.Name u pu) _, .Subscript (.Name y2 py2) (.Name w pw) _] _ _] (.Tuple [.Subscript (.Name y3 py3) (.Name w2 pw2) _, .Subscript (.Name y4 py4) (.Name u2 pu2) _] _ _) _ => chkE c sc (.var i) (.Name y py) && chkE c sc (.var i) (.Name y2 py2) && chkE c sc (.var i) (.Name y3 py3) && chkE c sc (.var i) (.Name y4 py4) && chkE c sc (.var a) (.Name u pu) && chkE c sc (.var a) (.Name u2 pu2) && chkE c sc (.var b) (.Name w pw) && chkE c sc (.var b) (.Name w2 pw2) | _ => false)
  | .mcal i A E f es m, st => (match st, es with
    | .Assign [.Name y py] (.Call (.Name mx _) [aA, .BinOp aE .Add (.Call (.Name g _) [b1, b2, b3, .Name k pk] [] _) _] [] _) _, .cons e1 (.cons e2 (.cons e3 .nil)) =>
      chkN c sc true i (.Name y py) && decide (mx = "max") && gl sc mx && chkE c sc A aA && chkE c sc E aE && decide (c.T[f]? = some (g, 3004)) && gl sc g && chkE c sc e1 b1 && chkE c sc e2 b2 && chkE c sc e3 b3 && chkE c sc (.var m) (.Name k pk) && decide (i ≠ m)
    | _, _ => false)
  | .mcmp i f es tg it m, st => (match st, es with
    | .Assign [.Name y py] (.ListComp (.Call (.Name g _) [b1, b2, b3, .Name k pk] [] _) [⟨t, it', [], 0⟩] csc _) _, .cons e1 (.cons e2 (.cons e3 .nil)) =>
      chkN c sc true i (.Name y py) && decide (c.T[f]? = some (g, 3004)) && gl (relS csc sc) g && chkIt c sc it it' && blkC c.N sc csc (ownOf c.N tg.slots) && chkT c (relS csc sc) false tg t && chkE c (relS csc sc) e1 b1 && chkE c (relS csc sc) e2 b2 && chkE c (relS csc sc) e3 b3 && chkE c (relS csc sc) (.var m) (.Name k pk) && decide (m ∉ tg.slots) && decide (i ≠ m)
    | _, _ => false)
  | .setI i k e, st => (match st with | .Assign [.Subscript (.Name y py) ki _] ea _ => chkE c sc (.var i) (.Name y py) && chkE c sc k ki && chkE c sc e ea | _ => false)
  | .dput i k e, st => (match st with | .Assign [.Subscript (.Name y py) ki _] ea _ => chkE c sc (.var i) (.Name y py) && noComp ea && chkE c sc k ki && chkE c sc e ea | _ => false)
  | .rse, st => (match st with | .Raise _ _ _ => true | _ => false)
  | .rsx f, st => (match st with | .Raise (some (.Call (.Name y _) [.Constant (.str _) _ _] [] _)) none _ => rz && decide (c.T[f]? = some (y, 2000)) && gl sc y | _ => false)
  | .drx f es, st => (match st with | .Expr (.Call (.Name y _) (a :: as) [] _) _ => rz && decide (c.T[f]? = some (y, es.len + 1000)) && gl sc y && chkEs c sc es (a :: as) && decide (es.len < 1000) | _ => false)
  | .app i e, st => (match st with | .Expr (.Call (.Attribute (.Name y py) m apos) [ea] [] cpos) _ => chkE c sc (.var i) (.Name y py) && decide (m = "append") && (apos.endLine == cpos.line) && chkE c sc e ea | _ => false)
  | .ins i k e, st => (match st with | .Expr (.Call (.Attribute (.Name y py) m apos) [ki, ea] [] cpos) _ => chkE c sc (.var i) (.Name y py) && decide (m = "insert") && (apos.endLine == cpos.line) && chkE c sc k ki && chkE c sc e ea | _ => false)
  | .drop e, st => (match st with | .Expr ea _ => noComp ea && chkE c sc e ea | _ => false)
  | .ife e a b, st => (match st with | .If ea sa sb _ => chkE c sc e ea && chkSsz rz c fr fresh sc a sa && chkSsz rz c fr fresh sc b sb | _ => false)
  | .fors tg it b, st => (match st with | .For t i sb [] _ => chkT c sc true tg t && chkIt c sc it i && chkSsz rz c fr fresh sc b sb | _ => false)
  | .whl e b, st => (match st with | .While ea sb [] _ => chkE c sc e ea && chkSsz rz c fr fresh sc b sb | _ => false)
  | .ret e, st => (match st with | .Return (some ea) _ => !fresh && chkE c sc e ea | _ => false)
  | .retO e, st => (match st with | .Return (some ea) _ => fresh && (match e with | .var _ => true | _ => isFr fr e) && chkE c sc e ea | _ => false)
  | .retN, st => (match st with | .Return none _ => !fresh | _ => false)
def chkSsz (rz : Bool) (c : Ck) (fr : List Bool) (fresh : Bool) (sc : Scope) : ISs → List Stmt → Bool
  | .nil, sts => (match sts with | [] => true | _ => false)
  | .cons s ss, sts => (match sts with | st :: sts => chkSz rz c fr fresh sc s st && chkSsz rz c fr fresh sc ss sts | [] => false)
  | .fgt is ss, sts => chkSsz rz c fr fresh sc ss sts
end

abbrev chkSs (c : Ck) (fr : List Bool) (fresh : Bool) (sc : Scope) (s : ISs) (st : List Stmt) : Bool := chkSsz false c fr fresh sc s st
/-! ### what a statement's reading means -/
structure Keep (r : Ev) (σ : L2.St) (Hf H : Hp) (r' : Ev) (σ' : L2.St) (Hf' H' : Hp) : Prop where
  f : Same Hf Hf'
  l : ∀ j d, r.get j = .lck d → r'.get j = .lck d ∧ σ'[j]? = σ[j]? ∧ ∀ p, σ[j]? = some (some (.ref p)) → H' p = H p
  m : ∀ j l, r.get j = .mem l → (∃ l', r'.get j = .mem l') ∧ σ'[j]? = σ[j]?
theorem Keep.refl (r : Ev) (σ : L2.St) (Hf H : Hp) : Keep r σ Hf H r σ Hf H := ⟨Same.refl _, fun j d h => ⟨h, rfl, fun _ _ => rfl⟩, fun j l h => ⟨⟨l, h⟩, rfl⟩⟩
theorem Keep.trans {r r1 r2 : Ev} {σ σ1 σ2 : L2.St} {Hf H H1f H1 H2f H2 : Hp} (a : Keep r σ Hf H r1 σ1 H1f H1) (b : Keep r1 σ1 H1f H1 r2 σ2 H2f H2) : Keep r σ Hf H r2 σ2 H2f H2 :=
  ⟨a.f.trans b.f, fun j d h => by
    obtain ⟨h1, h2, h3⟩ := a.l j d h
    obtain ⟨k1, k2, k3⟩ := b.l j d h1
    exact ⟨k1, k2.trans h2, fun p e => (k3 p (by rw [h2]; exact e)).trans (h3 p e)⟩, fun j l h => by
    obtain ⟨⟨l1, h1⟩, h2⟩ := a.m j l h
    obtain ⟨k1, k2⟩ := b.m j l1 h1
    exact ⟨k1, k2.trans h2⟩⟩
theorem StR.lckAt {K : PySem.W.Frag} {n : Nat} {Bf B Hf H : Hp} {r : Ev} {σ : L2.St} (R : StR K n Bf B Hf H r σ) {j : Nat} {d : PyData} (h : r.get j = .lck d ∨ r.get j = .own d) : ∃ p o, σ[j]? = some (some (.ref p)) ∧ ORep K Hf H d (.ref p) ∧ B p = none ∧ H p = some o ∧ Hf p = none := by
  have q := R.sl j
  rcases h with h | h
  · rw [h] at q
    obtain ⟨p, e, o, b⟩ := q
    obtain ⟨p', ob, e1, e2, e3⟩ := o.ref
    cases e1
    exact ⟨p, ob, e, o, b, e3, e2⟩
  · rw [h] at q
    obtain ⟨p, e, o, b⟩ := q
    obtain ⟨p', ob, e1, e2, e3⟩ := o.ref
    cases e1
    exact ⟨p, ob, e, o, b, e3, e2⟩
theorem StR.isoAt {K : PySem.W.Frag} {n : Nat} {Bf B Hf H : Hp} {r : Ev} {σ : L2.St} (R : StR K n Bf B Hf H r σ) {j : Nat} (h : (r.get j).isO = true) : ∃ p o, σ[j]? = some (some (.ref p)) ∧ B p = none ∧ H p = some o ∧ Hf p = none := by
  have q := R.sl j
  cases e : r.get j with
  | own d =>
    rw [e] at q
    obtain ⟨p, e, o, b⟩ := q
    obtain ⟨p', ob, e1, e2, e3⟩ := o.ref
    cases e1
    exact ⟨p, ob, e, b, e3, e2⟩
  | lck d =>
    rw [e] at q
    obtain ⟨p, e, o, b⟩ := q
    obtain ⟨p', ob, e1, e2, e3⟩ := o.ref
    cases e1
    exact ⟨p, ob, e, b, e3, e2⟩
  | mem l =>
    rw [e] at q
    obtain ⟨p, e, o, b⟩ := q
    obtain ⟨p', ob, e1, e2, e3⟩ := o.ref
    cases e1
    exact ⟨p, ob, e, b, e3, e2⟩
  | _ => rw [e] at h; cases h
theorem keep_ext {K : PySem.W.Frag} {n : Nat} {Bf B Hf H Hf' H' : Hp} {r : Ev} {σ : L2.St} (R : StR K n Bf B Hf H r σ) (z : Ext Hf H Hf' H') : Keep r σ Hf H r σ Hf' H' :=
  ⟨z.b, fun j d h => ⟨h, rfl, fun p e => by
    obtain ⟨p', o, e1, _, _, e2, _⟩ := R.lckAt (.inl h)
    rw [e] at e1
    cases e1
    rw [e2, z.a _ _ e2]⟩, fun j l h => ⟨⟨l, h⟩, rfl⟩⟩
/-- slots that are no walked lists are stored -/
theorem keep_set {r r' : Ev} {σ σ' : L2.St} {Hf H : Hp} {is : List Nat} (hf : ∀ i ∈ is, r.free i = true) (hk : ∀ i, i ∉ is → σ'[i]? = σ[i]? ∧ r'.get i = r.get i) : Keep r σ Hf H r' σ' Hf H :=
  ⟨Same.refl _, fun j d h => by
    have hj : j ∉ is := fun hj => by
      have q := hf j hj
      unfold Ev.free at q
      rw [h] at q
      cases q
    obtain ⟨h1, h2⟩ := hk j hj
    exact ⟨by rw [h2]; exact h, h1, fun _ _ => rfl⟩, fun j l h => by
    have hj : j ∉ is := fun hj => by
      have q := hf j hj
      unfold Ev.free at q
      rw [h] at q
      cases q
    obtain ⟨h1, h2⟩ := hk j hj
    exact ⟨⟨l, by rw [h2]; exact h⟩, h1⟩⟩
def RetR (K : PySem.W.Frag) (fresh : Bool) (B Hf H : Hp) (d : PyData) (v : V) : Prop := if fresh = true then ORep K Hf H d v ∧ (∀ p, v = .ref p → B p = none) else Rep K Hf d v
structure KEnd (K : PySem.W.Frag) (mg : Str → Option Value) (W : WX) (rz : Bool) (n : Nat) (fresh : Bool) (Bf B : Hp) (r : Ev) (σ : L2.St) (Hf H : Hp) (D : Kt) (E : Ends) : Prop where
  nx : ∀ r' σ' Hf' H', StR K n Bf B Hf' H' r' σ' → Keep r σ Hf H r' σ' Hf' H' → D.nx r' → E.nx σ' H'
  bk : ∀ r' σ' Hf' H', StR K n Bf B Hf' H' r' σ' → Keep r σ Hf H r' σ' Hf' H' → D.bk r' → E.bk σ' H'
  ct : ∀ r' σ' Hf' H', StR K n Bf B Hf' H' r' σ' → Keep r σ Hf H r' σ' Hf' H' → D.ct r' → E.ct σ' H'
  rt : ∀ d v Hf' H', Ext Bf B Hf' H' → RetR K fresh B Hf' H' d v → D.rt d → E.rt v H'
  wx : rz = true → ∀ x σ' Hf' H' C, Ext Bf B Hf' H' → mg x = some (.ref C) → D.rt (excD x) → W (.ref C) none σ' H'
theorem KEnd.from {K : PySem.W.Frag} {mg : Str → Option Value} {W : WX} {rz : Bool} {n : Nat} {fresh : Bool} {Bf B : Hp} {r r1 : Ev} {σ σ1 : L2.St} {Hf H H1f H1 : Hp} {D : Kt} {E : Ends} (k : KEnd K mg W rz n fresh Bf B r σ Hf H D E) (a : Keep r σ Hf H r1 σ1 H1f H1) : KEnd K mg W rz n fresh Bf B r1 σ1 H1f H1 D E :=
  ⟨fun r' σ' Hf' H' R b q => k.nx r' σ' Hf' H' R (a.trans b) q, fun r' σ' Hf' H' R b q => k.bk r' σ' Hf' H' R (a.trans b) q, fun r' σ' Hf' H' R b q => k.ct r' σ' Hf' H' R (a.trans b) q, k.rt, k.wx⟩
/-- where a statement stands: what is done with an exception -/
def StQ (X : Cx) (W : WX) (q : Vr) : Prop := FnQ true q ∧ PassesOwn (model X.prog X.w) X.A q.env q.xe ∧ Takes (at' X q) W
def SemS (X : Cx) (W : WX) (rz : Bool) (G : Nat → Pm) (fresh : Bool) (s : IS) (t : TS) : Prop := ∀ (Bf B Hf H : Hp) (r : Ev) (σ : L2.St) (D : Kt) (E : Ends), StR X.K X.N.length Bf B Hf H r σ → wpS G s r D → KEnd X.K X.mg W rz X.N.length fresh Bf B r σ Hf H D E → t E σ H
def SemSs (X : Cx) (W : WX) (rz : Bool) (G : Nat → Pm) (fresh : Bool) (s : ISs) (t : TS) : Prop := ∀ (Bf B Hf H : Hp) (r : Ev) (σ : L2.St) (D : Kt) (E : Ends), StR X.K X.N.length Bf B Hf H r σ → wpSs G s r D → KEnd X.K X.mg W rz X.N.length fresh Bf B r σ Hf H D E → t E σ H
def JdS (X : Cx) (sc : Scope) (W : WX) (rz : Bool) (G : Nat → Pm) (fresh : Bool) (s : IS) (st : Stmt) : Prop := ∃ t, (∀ q : Vr, q.env.scope = sc → StQ X W q → PS (at' X q) st t) ∧ SemS X W rz G fresh s t
def JdSs (X : Cx) (sc : Scope) (W : WX) (rz : Bool) (G : Nat → Pm) (fresh : Bool) (s : ISs) (st : List Stmt) : Prop := ∃ t, (∀ q : Vr, q.env.scope = sc → StQ X W q → PSs (at' X q) st t) ∧ SemSs X W rz G fresh s t
section
variable {X : Cx} {sc : Scope} {G : Nat → Pm} {fresh : Bool} {W : WX} {rz : Bool}
theorem js_nil : JdSs X sc W rz G fresh .nil [] := ⟨_, fun q _ _ => pss_nil, fun Bf B Hf H r σ D E R w k => by
  rw [wpSs] at w
  exact k.nx r σ Hf H R (Keep.refl _ _ _ _) w⟩
theorem js_cons {s : IS} {ss : ISs} {st : Stmt} {sts : List Stmt} (h : JdS X sc W rz G fresh s st) (h' : JdSs X sc W rz G fresh ss sts) : JdSs X sc W rz G fresh (.cons s ss) (st :: sts) := by
  obtain ⟨t, p, st⟩ := h
  obtain ⟨u, p', su⟩ := h'
  refine ⟨_, fun q hq hf => pss_cons (p q hq hf) (p' q hq hf), fun Bf B Hf H r σ D E R w k => ?_⟩
  rw [wpSs] at w
  refine st Bf B Hf H r σ _ _ R w ⟨fun r' σ' Hf' H' R' b q => ?_, k.bk, k.ct, k.rt, k.wx⟩
  exact su Bf B Hf' H' r' σ' D E R' q (k.from b)
theorem StR.fgt {K : PySem.W.Frag} {n : Nat} {Bf B Hf H : Hp} {r : Ev} {σ : L2.St} (R : StR K n Bf B Hf H r σ) (i : Nat) : StR K n Bf B Hf H (r.set i .un) σ := by
  have g : ∀ j, Ev.get (r.set i .un) j = .un ∨ Ev.get (r.set i .un) j = r.get j := fun j => by
    by_cases hj : i = j
    · subst hj
      by_cases hi : i < r.length
      · exact .inl (Ev.get_set_same hi)
      · exact .inl (Ev.get_out (by rw [List.length_set]; omega))
    · exact .inr (Ev.get_set_ne hj)
  refine ⟨by rw [List.length_set]; exact R.ln, by rw [List.length_set]; exact R.len, fun j => ?_, fun j k p hjk h1 h2 e1 e2 => ?_, R.e⟩
  · rcases g j with e | e
    · rw [e]; exact trivial
    · rw [e]; exact R.sl j
  · rcases g j with e | e
    · rw [e] at h1; cases h1
    · rcases g k with e' | e'
      · rw [e'] at h2; cases h2
      · rw [e] at h1; rw [e'] at h2
        exact R.sep j k p hjk h1 h2 e1 e2
theorem StR.fgts {K : PySem.W.Frag} {n : Nat} {Bf B Hf H : Hp} {r : Ev} {σ : L2.St} (R : StR K n Bf B Hf H r σ) : ∀ is : List Nat, StR K n Bf B Hf H (wipeE r is) σ
  | [] => R
  | i :: is => (StR.fgts R is).fgt i
theorem wipeE_get {r : Ev} : ∀ {is : List Nat} {j : Nat}, j ∉ is → (wipeE r is).get j = r.get j
  | [], j, _ => rfl
  | i :: is, j, h => by
    have h1 : i ≠ j := fun e => h (by rw [e]; exact List.mem_cons_self)
    have h2 : j ∉ is := fun e => h (List.mem_cons_of_mem _ e)
    show Ev.get ((wipeE r is).set i .un) j = r.get j
    rw [Ev.get_set_ne h1]
    exact wipeE_get h2
theorem js_fgt {is : List Nat} {ss : ISs} {sts : List Stmt} (h : JdSs X sc W rz G fresh ss sts) : JdSs X sc W rz G fresh (.fgt is ss) sts := by
  obtain ⟨t, p, st⟩ := h
  refine ⟨t, p, fun Bf B Hf H r σ D E R w k => ?_⟩
  rw [wpSs] at w
  refine st Bf B Hf H _ σ D E (R.fgts is) w.2 (k.from (keep_set (is := is) (fun i hi => ?_) fun j hj => ⟨rfl, wipeE_get hj⟩))
  exact List.all_eq_true.mp w.1 i hi
theorem js_skip {x j pos pos'} : JdS X sc W rz G fresh .skip (.Expr (.Constant (.str x) j pos) pos') := ⟨_, fun q _ _ => ps_doc, fun Bf B Hf H r σ D E R w k => by
  rw [wpS] at w
  exact k.nx r σ Hf H R (Keep.refl _ _ _ _) w⟩
theorem js_pass {pos} : JdS X sc W rz G fresh .skip (.Pass pos) := ⟨_, fun q _ _ => ps_pass, fun Bf B Hf H r σ D E R w k => by
  rw [wpS] at w
  exact k.nx r σ Hf H R (Keep.refl _ _ _ _) w⟩
theorem js_brk {pos} : JdS X sc W rz G fresh .brk (.Break pos) := ⟨_, fun q _ _ => ps_break, fun Bf B Hf H r σ D E R w k => by
  rw [wpS] at w
  exact k.bk r σ Hf H R (Keep.refl _ _ _ _) w⟩
theorem js_cont {pos} : JdS X sc W rz G fresh .cont (.Continue pos) := ⟨_, fun q _ _ => ps_continue, fun Bf B Hf H r σ D E R w k => by
  rw [wpS] at w
  exact k.ct r σ Hf H R (Keep.refl _ _ _ _) w⟩
theorem js_ife {e : IE} {ea : Expr} {a b : ISs} {sa sb : List Stmt} {pos} (he : Jd X sc G e ea) (ha : JdSs X sc W rz G fresh a sa) (hb : JdSs X sc W rz G fresh b sb) : JdS X sc W rz G fresh (.ife e a b) (.If ea sa sb pos) := by
  obtain ⟨_, tt, pt, st⟩ := he
  obtain ⟨ta, pa, sa⟩ := ha
  obtain ⟨tb, pb, sb⟩ := hb
  refine ⟨_, fun q hq hf => ps_if (pt q hq) (pa q hq hf) (pb q hq hf), fun Bf B Hf H r σ D E R w k => ?_⟩
  rw [wpS] at w
  refine st Bf B Hf H r σ _ _ R w fun c H1f H1 z1 w1 => ?_
  cases c with
  | true => exact iteT (sa Bf B H1f H1 r σ D E (R.ext z1) (by simpa using w1) (k.from (keep_ext R z1)))
  | false => exact iteF (sb Bf B H1f H1 r σ D E (R.ext z1) (by simpa using w1) (k.from (keep_ext R z1)))
theorem swaps_no {e : Expr} (h : noComp e = true) (t : Option Expr) (l : Nat) (env : PySem.Env) : swapsWith e t l env = pure false := by
  cases e <;> first | rfl | exact absurd h (by simp [noComp])
theorem js_drop {e : IE} {ea : Expr} {pos} (hn : noComp ea = true) (he : Jd X sc G e ea) : JdS X sc W rz G fresh (.drop e) (.Expr ea pos) := by
  obtain ⟨⟨t, p, s, _⟩, _⟩ := he
  refine ⟨_, fun q hq hf => ps_expr (p q hq) (swaps_no hn _ _ _), fun Bf B Hf H r σ D E R w k => ?_⟩
  rw [wpS] at w
  exact s Bf B Hf H r σ _ _ R w fun d v H1f H1 z1 rep w1 => k.nx r σ H1f H1 (R.ext z1) (keep_ext R z1) w1
/-- a name takes a value -/
theorem set_go {i : Nat} {e : IE} {t : TE} (hi : i < X.N.length) (s : SemE X G e t) : SemS X W rz G fresh (.set i e) (tAsg t (gName i)) := fun Bf B Hf H r σ D E R w k => by
  rw [wpS] at w
  refine s Bf B Hf H r σ _ _ R w fun d v H1f H1 z1 rep w1 => ?_
  refine k.nx _ _ H1f H1 ((R.ext z1).setV rep hi) ((keep_ext R z1).trans (keep_set (is := [i]) (fun j hj => by rw [List.mem_singleton.mp hj]; exact w1.1) fun j hj => ?_)) w1.2
  have hne : i ≠ j := fun e => hj (by rw [e]; exact List.mem_singleton.mpr rfl)
  exact ⟨List.getElem?_set_ne hne, Ev.get_set_ne hne⟩
theorem setO_go {i : Nat} {e : IE} {t : TE} (hi : i < X.N.length) (s : SemO X G e t) : SemS X W rz G fresh (.setO i e) (tAsg t (gName i)) := fun Bf B Hf H r σ D E R w k => by
  rw [wpS] at w
  refine s Bf B Hf H r σ _ _ R w fun d v H1f H1 z1 rep w1 => ?_
  obtain ⟨nf, w1⟩ := w1
  obtain ⟨rep, hn⟩ : ORep X.K H1f H1 d v ∧ ∀ p, v = .ref p → H p = none := by
    rcases rep with rep | ⟨fl, _⟩
    · exact rep
    · rw [nf] at fl
      cases fl
  obtain ⟨p, o, rfl, h1, h2⟩ := rep.ref
  have hp : H p = none := hn p rfl
  have R1 := R.ext z1
  have hB : B p = none := R.e.a.free hp
  refine k.nx _ _ H1f H1 (R1.setO (.inl rfl) rep hB hi fun j hj ho e => ?_) ((keep_ext R z1).trans (keep_set (is := [i]) (fun j hj => by rw [List.mem_singleton.mp hj]; exact w1.1) fun j hj => ?_)) w1.2
  · obtain ⟨p', o', e1, _, e2, _⟩ := R.isoAt ho
    rw [e] at e1
    cases e1
    rw [hp] at e2
    cases e2
  · have hne : i ≠ j := fun e => hj (by rw [e]; exact List.mem_singleton.mpr rfl)
    exact ⟨List.getElem?_set_ne hne, Ev.get_set_ne hne⟩
end
end CF
namespace CF
open PySem PySem.Spec PyProof.Rows L2
section
variable {X : Cx} {sc : Scope} {G : Nat → Pm} {fresh : Bool} {W : WX} {rz : Bool} {N : List Str} {T : List FnE} {cs : List (Str × Int)} {d : Nat}
theorem nm_of (x : XOk N T cs d X) {i : Nat} {y : Str} {py : Pos} (h : chkN (ckOf N T cs) sc true i (.Name y py) = true) : X.N[i]? = some y ∧ L2.Loc sc y ∧ i < X.N.length := by
  unfold chkN nmOk at h
  simp only [Bool.and_eq_true, decide_eq_true_eq, if_true] at h
  obtain ⟨h1, h2⟩ := h
  have h1' : X.N[i]? = some y := by rw [x.n]; exact h1
  refine ⟨h1', ?_, (List.getElem?_eq_some_iff.mp h1').1⟩
  unfold locB at h2
  unfold L2.Loc
  split at h2
  · exact .inl (by assumption)
  · exact .inr (by assumption)
  · cases h2
/-- name = value, no comprehension -/
theorem set_ps (x : XOk N T cs d X) {i : Nat} {y : Str} {py pos : Pos} {e : Expr} {t : TE} (h : chkN (ckOf N T cs) sc true i (.Name y py) = true) (hn : ∀ q : Vr, q.env.scope = sc → swapsWith e (some (.Name y py)) pos.line q.env = pure false) (p : AllE X sc e t) :
    ∀ q : Vr, q.env.scope = sc → StQ X W q → PS (at' X q) (.Assign [.Name y py] e pos) (tAsg t (gName i)) := fun q hq hf => by
  obtain ⟨h1, h2, h3⟩ := nm_of x h
  exact ps_set (X := at' X q) (by show X.N.Nodup; rw [x.n]; exact x.nd) h1 (by show L2.Loc q.env.scope y; rw [hq]; exact h2) (p q hq) (hn q hq) (.inl (by show q.fn y = true; rw [hf.1 rfl]))
theorem swaps_comp {elt : Expr} {gs : List Comprehension} {csc : Scope} {pos py : Pos} {y : Str} {l : Nat} {env : PySem.Env} (hk : env.scope.kind = .function) :
    swapsWith (.ListComp elt gs csc pos) (some (.Name y py)) l env = pure ((env.scope.names.lookup y == some .local) && (py.line == pos.line) && !(csc.names.any fun (n, k) => n == y && (k == .local || k == .cell))) := by
  have hb : env.blockKind = .function := by unfold PySem.Env.blockKind; rw [hk]; rfl
  unfold swapsWith
  simp only [hb]
  rfl
theorem asg_ps (x : XOk N T cs d X) (hk : sc.kind = .function) {i : Nat} {y : Str} {py pos : Pos} {ie : IE} {e : Expr} (h : chkN (ckOf N T cs) sc true i (.Name y py) = true) (he : chkE (ckOf N T cs) sc ie e = true) :
    ∃ t, (∀ q : Vr, q.env.scope = sc → StQ X W q → PS (at' X q) (.Assign [.Name y py] e pos) (tAsg t (gName i))) ∧ SemE X (Gof T) ie t ∧ ((∃ elt tg it ifs, ie = .comp elt tg it ifs) → SemO X (Gof T) ie t) := by
  by_cases hc : ∃ elt tg it ifs, ie = .comp elt tg it ifs
  · obtain ⟨elt, tg, it, ifs, rfl⟩ := hc
    unfold chkE at he
    split at he
    · rename_i ee t i' fs csc cpos
      simp only [Bool.and_eq_true, decide_eq_true_eq] at he
      obtain ⟨⟨⟨⟨⟨h1, h2⟩, h3⟩, h4⟩, h5⟩, h6⟩ := he
      obtain ⟨ji, ok⟩ := sndIt x it sc _ h1
      obtain ⟨tt, p, s⟩ := comp_pe x rfl ok h2 ji (jg_of x rfl h3) (sndF x ifs _ _ h4 h5) (sndE x elt _ _ h6)
      refine ⟨_, fun q hq hf => ?_, s.e, fun _ => s⟩
      obtain ⟨p1, p2, p3, p4, p5⟩ := p q hq
      obtain ⟨n1, n2, n3⟩ := nm_of x h
      have hkq : q.env.scope.kind = .function := by rw [hq]; exact hk
      have hsw := swaps_comp (elt := ee) (gs := [⟨t, i', fs, 0⟩]) (csc := csc) (pos := cpos) (py := py) (y := y) (l := pos.line) hkq
      have nd : X.N.Nodup := by rw [x.n]; exact x.nd
      cases hb : ((q.env.scope.names.lookup y == some NameKind.local) && (py.line == cpos.line) && !(csc.names.any fun (n, k) => n == y && (k == .local || k == .cell))) with
      | false =>
        rw [hb] at hsw
        exact ps_set (X := at' X q) nd n1 (by show L2.Loc q.env.scope y; rw [hq]; exact n2) (pe_lc (X := at' X q) x.calm nd p1 p2 p3 p4 p5 (fun v => okE.fold ok _ _)) hsw (.inl (by show q.fn y = true; rw [hf.1 rfl]))
      | true =>
        rw [hb] at hsw
        have hyl : q.env.scope.names.lookup y = some .local := by
          rw [Bool.and_eq_true, Bool.and_eq_true] at hb
          exact beq_iff_eq.mp hb.1.1
        exact ps_setLc (X := at' X q) x.calm nd n1 hyl hsw p1 p2 p3 p4 p5 (fun v => okE.fold ok _ _)
    · cases he
  · obtain ⟨⟨t, p, s, _⟩, _⟩ := sndE x ie sc e he
    refine ⟨t, ?_, s, fun z => absurd z hc⟩
    have hnc : noComp e = true := by
      cases e <;> first
        | rfl
        | (exfalso
           cases ie <;> first
             | exact hc ⟨_, _, _, _, rfl⟩
             | (unfold chkE at he; first | (cases he; done) | (split at he <;> first | cases he | (rename_i h'; cases h'))))
    exact set_ps x h (fun q hq => swaps_no hnc _ _ _) p
theorem js_set (x : XOk N T cs d X) (hk : sc.kind = .function) {i : Nat} {y : Str} {py pos : Pos} {ie : IE} {e : Expr} (h : chkN (ckOf N T cs) sc true i (.Name y py) = true) (he : chkE (ckOf N T cs) sc ie e = true) : JdS X sc W rz (Gof T) fresh (.set i ie) (.Assign [.Name y py] e pos) := by
  obtain ⟨t, p, s, _⟩ := asg_ps x hk h he
  exact ⟨_, p, set_go (nm_of x h).2.2 s⟩
/-- what makes a new list -/
theorem fr_ok (x : XOk N T cs d X) {ie : IE} {e : Expr} (hf : isFr (T.map (·.fresh)) ie = true) (hc : ¬ ∃ elt tg it ifs, ie = .comp elt tg it ifs) (h : chkE (ckOf N T cs) sc ie e = true) : noComp e = true ∧ ∃ t, AllE X sc e t ∧ SemO X (Gof T) ie t := by
  cases ie with
  | comp elt tg it ifs => exact absurd ⟨_, _, _, _, rfl⟩ hc
  | lst es =>
    unfold chkE at h
    split at h
    · obtain ⟨ta, pa, sa⟩ := sndEs x es sc _ h
      exact ⟨rfl, _, fun q hq => pe_lst (pa q hq), sem_lst sa⟩
    · cases h
  | dic0 =>
    unfold chkE at h
    split at h
    · exact ⟨rfl, _, fun q hq => pe_dnewK, sem_dic0⟩
    · cases h
  | call f es =>
    unfold chkE at h
    split at h
    · simp only [Bool.and_eq_true, decide_eq_true_eq] at h
      obtain ⟨⟨⟨h1, h2⟩, h3⟩, h4⟩ := h
      obtain ⟨g, hg, e1⟩ : ∃ g, T[f]? = some g ∧ _ := by
        have q : (T.map fun g => (g.name, g.ar))[f]? = some _ := h1
        rw [List.getElem?_map] at q
        exact Option.map_eq_some_iff.mp q
      have hfr : g.fresh = true := by
        unfold isFr at hf
        rw [decide_eq_true_eq, List.getElem?_map, hg] at hf
        exact Option.some.inj hf
      have hG : Gof T f = g.G := by unfold Gof; rw [hg]
      have e2 := congrArg Prod.fst e1
      have e3 := congrArg Prod.snd e1
      simp only at e2 e3
      obtain ⟨ok, es', hes⟩ := chkEs_cons h3
      obtain ⟨ta, pa, sa⟩ := sndEs x es sc _ h3
      refine ⟨rfl, _, call_pe x (by omega) hg e2 h2 pa ok (fun env => ja_plain hes _ env), fun Bf B Hf H r σ Q Qv R w k => ?_⟩
      refine call_sem hG sa e3.symm Bf B Hf H r σ Q Qv R w fun d v Hf' H' z rep q => ?_
      rw [if_pos hfr] at rep
      exact k d v Hf' H' z rep q
    · cases h
  | blt f es =>
    obtain rfl : f = .list1 := by cases f <;> first | rfl | (exact absurd hf (by simp [isFr]))
    unfold chkE at h
    split at h
    · simp only [Bool.and_eq_true, decide_eq_true_eq] at h
      obtain ⟨⟨h1, h2⟩, h3⟩ := h
      obtain ⟨ok, es', hes⟩ := chkEs_cons h3
      obtain ⟨ta, pa, sa⟩ := sndEs x es sc _ h3
      have e1 := congrArg Prod.fst h1
      simp only at e1
      have e1' := e1
      rw [← e1'] at h2 ⊢
      obtain ⟨g1, g2, g3⟩ := gl_of (X := X) h2
      refine ⟨rfl, tCB (fun xs H Q => ∃ p ys, xs = [.ref p] ∧ (SqL X.K H p ys ∨ SqT X.K H p ys) ∧ ∀ l, H l = none → Q (.ref l) (upd H l (.lst ys))) ta,
        fun q hq => pe_callTy (X := at' X q) (call_list_of (X := at' X q)) (g1 q hq) (x.mb _ (by decide +kernel)) boot_list (pa q hq) g3 g2 (okE.star ok _ _) (ja_plain hes _ _), fun Bf B Hf H r σ Q Qv R w k => ?_⟩
      rw [wpE] at w
      refine sa Bf B Hf H r σ _ _ R w fun ds vs H1f H1 z1 rep1 _ _ w1 => ?_
      unfold bltP at w1
      split at w1 <;> first | exact w1.elim | contradiction | skip
      · obtain ⟨v, rfl, q⟩ := prep1 rep1
        obtain ⟨a, ws, rfl, q1, q2⟩ := q.list z1.c
        exact ⟨a, ws, rfl, .inl q1, fun l hl => k (.list _) _ _ _ (ext_newO z1 hl) (.inl ⟨⟨l, ws, rfl, z1.c.free hl, upd_same, q2⟩, fun p e => by cases e; exact z1.a.free hl⟩) w1⟩
      · obtain ⟨v, rfl, q⟩ := prep1 rep1
        obtain ⟨a, ws, rfl, q1, q2⟩ := q.tuple z1.c
        exact ⟨a, ws, rfl, .inr (SqT.of q1), fun l hl => k (.list _) _ _ _ (ext_newO z1 hl) (.inl ⟨⟨l, ws, rfl, z1.c.free hl, upd_same, q2⟩, fun p e => by cases e; exact z1.a.free hl⟩) w1⟩
    · cases h
  | _ => exact absurd hf (by simp [isFr])
theorem js_setO (x : XOk N T cs d X) (hk : sc.kind = .function) {i : Nat} {y : Str} {py pos : Pos} {ie : IE} {e : Expr} (h : chkN (ckOf N T cs) sc true i (.Name y py) = true) (hf : isFr (T.map (·.fresh)) ie = true) (he : chkE (ckOf N T cs) sc ie e = true) : JdS X sc W rz (Gof T) fresh (.setO i ie) (.Assign [.Name y py] e pos) := by
  by_cases hc : ∃ elt tg it ifs, ie = .comp elt tg it ifs
  · obtain ⟨t, p, _, s⟩ := asg_ps (pos := pos) x hk h he
    exact ⟨_, p, setO_go (nm_of x h).2.2 (s hc)⟩
  · obtain ⟨hn, t, p, s⟩ := fr_ok x hf hc he
    exact ⟨_, set_ps x h (fun q hq => swaps_no hn _ _ _) p, setO_go (nm_of x h).2.2 s⟩
/-- several names take the parts of a tuple -/
theorem js_setT (x : XOk N T cs d X) {is : List Nat} {es : List Expr} {k tp pos} {ie : IE} {e : Expr} (h : chkNs (ckOf N T cs) sc true is es = true) (hn : notTup e = true) (he : Jd X sc (Gof T) ie e) : JdS X sc W rz (Gof T) fresh (.setT is ie) (.Assign [.Tuple es k tp] e pos) := by
  obtain ⟨⟨t, p, s, _⟩, _⟩ := he
  obtain ⟨g, pg, sg⟩ : JdG X sc true (.many is) (.Tuple es k tp) := jg_of x rfl (c := ckOf N T cs) (by unfold chkT; exact h)
  refine ⟨_, fun q hq hf => ps_asg (p q hq) (pg q hq hf.1) (by cases e <;> rfl) (by cases e <;> first | rfl | exact absurd hn (by simp [notTup])) rfl, fun Bf B Hf H r σ D E R w kk => ?_⟩
  rw [wpS] at w
  refine s Bf B Hf H r σ _ _ R w fun dd v H1f H1 z1 rep w1 => ?_
  refine sg Bf B H1f H1 r σ dd v D.nx _ (R.ext z1) rep w1 fun r' σ' R' hk hfree q => ?_
  exact kk.nx r' σ' H1f H1 R' ((keep_ext R z1).trans (keep_set hfree hk)) q
end
end CF
namespace CF
open PySem PySem.Spec PyProof.Rows L2
section
variable {X : Cx} {sc : Scope} {G : Nat → Pm} {fresh : Bool} {W : WX} {rz : Bool} {N : List Str} {T : List FnE} {cs : List (Str × Int)} {d : Nat}
/-- a list of one's own is changed in its place -/
theorem own_putG {K : PySem.W.Frag} {n : Nat} {Bf B Hf H H1f H1 : Hp} {r : Ev} {σ : L2.St} {i : Nat} {dd ed : PyData} {p : Addr} {ob : HO} (R : StR K n Bf B Hf H r σ) (z : Ext Hf H H1f H1) (hi : r.get i = .own dd) (hp : σ[i]? = some (some (.ref p)))
    (new : H1f p = none → ORep K H1f (upd H1 p ob) ed (.ref p)) : StR K n Bf B H1f (upd H1 p ob) (r.set i (.own ed)) σ ∧ Keep r σ Hf H (r.set i (.own ed)) σ H1f (upd H1 p ob) := by
  have R1 := R.ext z
  obtain ⟨p', o, e1, orep, hB, e2, e3⟩ := R1.lckAt (.inr hi)
  rw [hp] at e1
  cases e1
  have hlt : i < r.length := by
    by_cases h : i < r.length
    · exact h
    · rw [Ev.get_out (by omega)] at hi
      cases hi
  have hs : σ.set i (some (.ref p)) = σ := by
    refine List.ext_getElem? fun j => ?_
    by_cases hj : i = j
    · subst hj
      rw [List.getElem?_set_self (by rw [← R.len]; exact hlt), hp]
    · rw [List.getElem?_set_ne hj]
  have other : ∀ j p', j ≠ i → (r.get j).isO = true → σ[j]? = some (some (.ref p')) → p' ≠ p := fun j p' hj ho e z => by
    subst z
    exact R1.sep j i p' hj ho (by rw [hi]; rfl) e hp
  -- the state with the changed heap
  have ext2 : Ext Bf B H1f (upd H1 p ob) := R1.e.put hB e3
  have same2 : ∀ {d : PyData} {q : Addr}, q ≠ p → ORep K H1f H1 d (.ref q) → ORep K H1f (upd H1 p ob) d (.ref q) := fun {d q} hq h => by
    cases d with
    | list xs =>
      obtain ⟨q', vs, e, h1, h2, h3⟩ := h
      cases e
      exact ⟨q, vs, rfl, h1, by rw [upd_ne hq]; exact h2, h3⟩
    | dict kvs =>
      obtain ⟨q', vs, e, h1, h2, h3⟩ := h
      cases e
      exact ⟨q, vs, rfl, h1, by rw [upd_ne hq]; exact h2, h3⟩
    | _ => exact h.elim
  refine ⟨⟨by rw [List.length_set]; exact R.ln, by rw [List.length_set]; exact R.len, fun j => ?_, fun j k q hjk h1 h2 e1 e2 => ?_, ext2⟩, ⟨z.b, fun j d' h => ?_, fun j l h => ⟨⟨l, by rw [Ev.get_set_ne (fun e => by subst e; rw [hi] at h; cases h)]; exact h⟩, rfl⟩⟩⟩
  · by_cases hj : i = j
    · subst hj
      rw [Ev.get_set_same hlt, hp]
      exact ⟨p, rfl, new e3, hB⟩
    · rw [Ev.get_set_ne hj]
      have q := R1.sl j
      cases e : r.get j with
      | un => exact trivial
      | val d =>
        rw [e] at q
        exact q
      | kyd l =>
        rw [e] at q
        exact q
      | mem l =>
        rw [e] at q
        obtain ⟨p', e1, o1, b1⟩ := q
        exact ⟨p', e1, same2 (other j p' (Ne.symm hj) (by rw [e]; rfl) e1) o1, b1⟩
      | own d =>
        rw [e] at q
        obtain ⟨p', e1, o1, b1⟩ := q
        exact ⟨p', e1, same2 (other j p' (Ne.symm hj) (by rw [e]; rfl) e1) o1, b1⟩
      | lck d =>
        rw [e] at q
        obtain ⟨p', e1, o1, b1⟩ := q
        exact ⟨p', e1, same2 (other j p' (Ne.symm hj) (by rw [e]; rfl) e1) o1, b1⟩
  · have kk : ∀ j, (Ev.get (r.set i (.own ed)) j).isO = true → (r.get j).isO = true := fun j h => by
      by_cases hj : i = j
      · subst hj
        rw [hi]
        rfl
      · rw [Ev.get_set_ne hj] at h
        exact h
    exact R1.sep j k q hjk (kk j h1) (kk k h2) e1 e2
  · have hj : i ≠ j := fun e => by
      subst e
      rw [hi] at h
      cases h
    refine ⟨by rw [Ev.get_set_ne hj]; exact h, rfl, fun q e => ?_⟩
    rw [upd_ne (other j q (Ne.symm hj) (by rw [h]; rfl) e)]
    exact ((keep_ext R z).l j d' h).2.2 q e
theorem own_put {K : PySem.W.Frag} {n : Nat} {Bf B Hf H H1f H1 : Hp} {r : Ev} {σ : L2.St} {i : Nat} {xs ys : List PyData} {p : Addr} {us ws : List V} (R : StR K n Bf B Hf H r σ) (z : Ext Hf H H1f H1) (hi : r.get i = .own (.list xs)) (hp : σ[i]? = some (some (.ref p))) (hH : H1 p = some (.lst us))
    (rep : RepL K H1f ys ws) : StR K n Bf B H1f (upd H1 p (.lst ws)) (r.set i (.own (.list ys))) σ ∧ Keep r σ Hf H (r.set i (.own (.list ys))) σ H1f (upd H1 p (.lst ws)) := own_putG R z hi hp fun e3 => ⟨p, ws, rfl, e3, upd_same, rep⟩
theorem own_at {K : PySem.W.Frag} {n : Nat} {Bf B Hf H H1f H1 : Hp} {r : Ev} {σ : L2.St} {i : Nat} {xs : List PyData} (R : StR K n Bf B Hf H r σ) (z : Ext Hf H H1f H1) (hi : r.get i = .own (.list xs)) : ∃ p vs, σ[i]? = some (some (.ref p)) ∧ H1 p = some (.lst vs) ∧ RepL K H1f xs vs := by
  obtain ⟨p, o, e1, orep, hB, e2, e3⟩ := (R.ext z).lckAt (.inr hi)
  obtain ⟨q, vs, e, h1, h2, h3⟩ := orep
  cases e
  exact ⟨p, vs, e1, h2, h3⟩
theorem ownL_of {s : Sl} {Q : List PyData → Prop} (h : ownL s Q) : ∃ xs, s = .own (.list xs) ∧ Q xs := by
  unfold ownL at h
  split at h
  · exact ⟨_, rfl, h⟩
  · exact h.elim
theorem pe_slot (x : XOk N T cs d X) {i : Nat} {y : Str} {py : Pos} (h : chkE (ckOf N T cs) sc (.var i) (.Name y py) = true) : AllE X sc (.Name y py) (tVar i) := by
  unfold chkE at h
  simp only [nmOk, visB, Bool.and_eq_true, decide_eq_true_eq, Bool.not_eq_true'] at h
  obtain ⟨h1, ⟨h2, h3⟩, h4⟩ := h
  have hN : X.N[i]? = some y := by rw [x.n]; exact h1
  have hv : Vis sc y := by
    unfold Vis
    split at h2
    · exact .inl (by assumption)
    · exact .inr (.inl (by assumption))
    · exact .inr (.inr (by assumption))
    · cases h2
  exact fun q hq => pe_var (X := at' X q) hN (by show Vis q.env.scope y; rw [hq]; exact hv) h3 h4
theorem js_app (x : XOk N T cs d X) {i : Nat} {y m : Str} {py apos cpos pos : Pos} {ie : IE} {e : Expr} (hv : chkE (ckOf N T cs) sc (.var i) (.Name y py) = true) (hm : m = "append") (hl : (apos.endLine == cpos.line) = true) (ok : okE e = true) (he : Jd X sc (Gof T) ie e) :
    JdS X sc W rz (Gof T) fresh (.app i ie) (.Expr (.Call (.Attribute (.Name y py) m apos) [e] [] cpos) pos) := by
  subst hm
  obtain ⟨⟨t, p, s, _⟩, _⟩ := he
  have hs : ∀ env, starEach [e] env = (false, eval e env) :: starEach [] env := fun env => okE.star ok _ _
  refine ⟨tDrop (tBM X.K "list" rAppend (tVar i) (tCons t tNil)), fun q hq hf => ps_expr (pe_bm (X := at' X q) (cpos := cpos) (apos := apos) PySem.F.plainAttrs_list PySem.F.slot_list_append PySem.F.type_list_append (mt_append (X := at' X q)) (pe_slot x hv q hq) (pa_cons (p q hq) pa_nil (hs _)) rfl (by rw [hs]; rfl) hl (hs _) rfl) rfl, fun Bf B Hf H r σ D E R w k => ?_⟩
  rw [wpS] at w
  obtain ⟨xs, hx, w⟩ := ownL_of w
  obtain ⟨p0, vs0, e0, h0, r0⟩ := own_at R (Ext.refl R.e.c) hx
  refine ⟨.ref p0, e0, .inl ⟨rfl, vs0, SqL.of h0⟩, ?_⟩
  refine s Bf B Hf H r σ _ _ R w fun dd v H1f H1 z1 rep w1 => ?_
  obtain ⟨hlen, w1⟩ := w1
  obtain ⟨p1, vs, e1, h1, r1⟩ := own_at R z1 hx
  rw [e0] at e1
  cases e1
  have hl1 := r1.length
  refine ⟨p0, vs, v, rfl, rfl, h1, by show vs.length < sizeLine; rw [sizeLine_eq]; omega, ?_⟩
  obtain ⟨R2, k2⟩ := own_put R z1 hx e0 h1 (r1.append (RepL.cons rep RepL.nil))
  exact k.nx _ _ _ _ R2 k2 w1
theorem js_ins (x : XOk N T cs d X) {i : Nat} {y m : Str} {py apos cpos pos : Pos} {ik ie : IE} {ek e : Expr} (hv : chkE (ckOf N T cs) sc (.var i) (.Name y py) = true) (hm : m = "insert") (hl : (apos.endLine == cpos.line) = true) (okk : okE ek = true) (ok : okE e = true) (hk : Jd X sc (Gof T) ik ek) (he : Jd X sc (Gof T) ie e) :
    JdS X sc W rz (Gof T) fresh (.ins i ik ie) (.Expr (.Call (.Attribute (.Name y py) m apos) [ek, e] [] cpos) pos) := by
  subst hm
  obtain ⟨⟨t, p, s, _⟩, _⟩ := he
  obtain ⟨⟨tk, pk, sk, _⟩, _⟩ := hk
  have hs2 : ∀ env, starEach [e] env = (false, eval e env) :: starEach [] env := fun env => okE.star ok _ _
  have hs : ∀ env, starEach [ek, e] env = (false, eval ek env) :: starEach [e] env := fun env => okE.star okk _ _
  refine ⟨tDrop (tBM X.K "list" (fun x vs H Q => ∃ (l : Addr) (xs : List V) (i : Int) (y : V), x = .ref l ∧ vs = [.int i, y] ∧ H l = some (.lst xs) ∧ xs.length < sizeLine ∧ 0 ≤ i ∧ i < 2 ^ 63 ∧ Q .non (upd H l (.lst (xs.take i.toNat ++ [y] ++ xs.drop i.toNat)))) (tVar i) (tCons tk (tCons t tNil))),
    fun q hq hf => ps_expr (pe_bm (X := at' X q) (cpos := cpos) (apos := apos) PySem.F.plainAttrs_list PySem.F.slot_list_insert PySem.F.type_list_insert (mt_insert (X := at' X q)) (pe_slot x hv q hq) (pa_cons (pk q hq) (pa_cons (p q hq) pa_nil (hs2 _)) (hs _)) rfl (by rw [hs, hs2]; rfl) hl (hs _) (by rw [hs2]; rfl)) rfl, fun Bf B Hf H r σ D E R w k => ?_⟩
  rw [wpS] at w
  obtain ⟨xs, hx, w⟩ := ownL_of w
  obtain ⟨p0, vs0, e0, h0, r0⟩ := own_at R (Ext.refl R.e.c) hx
  refine ⟨.ref p0, e0, .inl ⟨rfl, vs0, SqL.of h0⟩, ?_⟩
  refine sk Bf B Hf H r σ _ _ R w fun dk vk H0f H0 z0 repk w => ?_
  refine s Bf B H0f H0 r σ _ _ (R.ext z0) w fun dd v H1f H1 z1 rep w1 => ?_
  obtain ⟨n, rfl, hlen, hn0, hn1, w1⟩ := w1
  obtain ⟨p1, vs, e1, h1, r1⟩ := own_at R (z0.trans z1) hx
  rw [e0] at e1
  cases e1
  have hl1 := r1.length
  unfold Rep at repk
  refine ⟨p0, vs, n, v, rfl, by rw [repk], h1, by show vs.length < sizeLine; rw [sizeLine_eq]; omega, hn0, by omega, ?_⟩
  obtain ⟨R2, k2⟩ := own_put R (z0.trans z1) hx e0 h1 (((r1.take n.toNat).append (RepL.cons rep RepL.nil)).append (r1.drop n.toNat))
  exact k.nx _ _ _ _ R2 k2 w1
theorem js_setI (x : XOk N T cs d X) {i : Nat} {y : Str} {py p2 pos : Pos} {ik ie : IE} {ek e : Expr} (hv : chkE (ckOf N T cs) sc (.var i) (.Name y py) = true) (okk : okE ek = true) (hk : Jd X sc (Gof T) ik ek) (he : Jd X sc (Gof T) ie e) :
    JdS X sc W rz (Gof T) fresh (.setI i ik ie) (.Assign [.Subscript (.Name y py) ek p2] e pos) := by
  obtain ⟨⟨t, p, s, _⟩, _⟩ := he
  obtain ⟨⟨tk, pk, sk, _⟩, _⟩ := hk
  refine ⟨_, fun q hq hf => ps_asg (p q hq) (pg_sub (pe_slot x hv q hq) (pk q hq) (set_list (X := at' X q)) (by intro v; cases ek <;> first | rfl | exact absurd okk (by simp [okE]))) (by cases e <;> rfl) (by cases e <;> rfl) rfl, fun Bf B Hf H r σ D E R w k => ?_⟩
  rw [wpS] at w
  obtain ⟨xs, hx, w⟩ := ownL_of w
  refine s Bf B Hf H r σ _ _ R w fun dd v H0f H0 z0 rep w => ?_
  obtain ⟨p0, vs0, e0, h0, r0⟩ := own_at R z0 hx
  refine ⟨.ref p0, e0, ?_⟩
  refine sk Bf B H0f H0 r σ _ _ (R.ext z0) w fun dk vk H1f H1 z1 repk w1 => ?_
  obtain ⟨n, j, rfl, hix, w1⟩ := w1
  obtain ⟨p1, vs, e1, h1, r1⟩ := own_at R (z0.trans z1) hx
  rw [e0] at e1
  cases e1
  unfold Rep at repk
  refine ⟨p0, vs, n, j, rfl, repk, h1, by rw [← r1.length]; exact hix, ?_⟩
  obtain ⟨R2, k2⟩ := own_put R (z0.trans z1) hx e0 h1 (r1.set (Rep.mono z1.b _ _ rep) j)
  exact k.nx _ _ _ _ R2 k2 w1
theorem ownD_of {s : Sl} {Q : List (Int × Int) → Prop} (h : ownD s Q) : ∃ l, s = .own (.dict (dL l)) ∧ Q l := h
theorem js_dput (x : XOk N T cs d X) {i : Nat} {y : Str} {py p2 pos : Pos} {ik ie : IE} {ek e : Expr} (hv : chkE (ckOf N T cs) sc (.var i) (.Name y py) = true) (hn : noComp e = true) (okk : okE ek = true) (hk : Jd X sc (Gof T) ik ek) (he : Jd X sc (Gof T) ie e) :
    JdS X sc W rz (Gof T) fresh (.dput i ik ie) (.Assign [.Subscript (.Name y py) ek p2] e pos) := by
  obtain ⟨⟨t, p, s, _⟩, _⟩ := he
  obtain ⟨⟨tk, pk, sk, _⟩, _⟩ := hk
  refine ⟨_, fun q hq hf => ps_dput (X := at' X q) (by have := x.un; show X.A.units + 1 < cLine; omega) (pe_slot x hv q hq) (pk q hq) (p q hq) (swaps_no hn _ _ _), fun Bf B Hf H r σ D E R w k => ?_⟩
  rw [wpS] at w
  obtain ⟨l, hx, w⟩ := ownD_of w
  refine s Bf B Hf H r σ _ _ R w fun dd v H0f H0 z0 rep w => ?_
  obtain ⟨p0, e0, h0⟩ := (R.ext z0).dict (.inr hx)
  refine ⟨.ref p0, e0, ?_⟩
  refine sk Bf B H0f H0 r σ _ _ (R.ext z0) w fun dk vk H1f H1 z1 repk w1 => ?_
  obtain ⟨n, rfl, m, rfl, hl, w1⟩ := w1
  unfold Rep at repk rep
  subst repk rep
  have R1 := R.ext (z0.trans z1)
  have q := R1.sl i
  rw [hx] at q
  obtain ⟨p1, e1, ⟨p', ks, e', _, h, l', e2, e3⟩, _⟩ := q
  rw [e0] at e1
  cases e1
  cases e'
  obtain rfl := dL_inj e2
  subst e3
  refine ⟨p0, _, rfl, DPut.k (k := Sum.inl n) h ?_, ?_⟩
  · have : (dV l).length = l.length := by unfold dV; rw [List.length_map]
    rw [sizeLine_eq]
    omega
  rw [putK_dV]
  obtain ⟨R2, k2⟩ := own_putG (ed := .dict (dL (dputL l n m))) (ob := .dK (dV (dputL l n m))) R (z0.trans z1) hx e0 fun e3 => ⟨p0, _, rfl, e3, upd_same, _, rfl, rfl⟩
  exact k.nx _ _ _ _ R2 k2 w1
theorem js_rse {a b : Option Expr} {pos : Pos} : JdS X sc W rz G fresh .rse (.Raise a b pos) := ⟨tNever, fun q _ _ => ps_never, fun Bf B Hf H r σ D E R w k => by
  rw [wpS] at w
  exact w.elim⟩
theorem tab_get {f : Nat} {y : Str} {n : Nat} (h : (ckOf N T cs).T[f]? = some (y, n)) : ∃ g, T[f]? = some g ∧ g.name = y ∧ g.ar = n ∧ Gof T f = g.G := by
  have q : (T.map fun g => (g.name, g.ar))[f]? = some (y, n) := h
  rw [List.getElem?_map] at q
  obtain ⟨g, hg, e⟩ := Option.map_eq_some_iff.mp q
  exact ⟨g, hg, congrArg Prod.fst e, congrArg Prod.snd e, by unfold Gof; rw [hg]⟩
theorem js_rsx (x : XOk N T cs d X) {f : Nat} {y m : Str} {j : Nat} {p p2 pos pos' : Pos} (hz : rz = true) (hT : (ckOf N T cs).T[f]? = some (y, 2000)) (hg : gl sc y = true) :
    JdS X sc W rz (Gof T) fresh (.rsx f) (.Raise (some (.Call (.Name y p) [.Constant (.str m) j p2] [] pos)) none pos') := by
  obtain ⟨g, h1, rfl, h3, h4⟩ := tab_get hT
  obtain ⟨C, F⟩ := x.fn f g h1
  obtain ⟨e1, e2⟩ := F.fc (by omega) (by omega)
  obtain ⟨g1, g2, g3⟩ := gl_of (X := X) hg
  refine ⟨_, fun q hq hf => ps_raise (X := at' X q) x.calm hf.2.2 (pmk_own (X := at' X q) PySem.F.excBase_ValueError e2.q F.glob F.kp (raises_own e2.b e2.t) (g1 q hq) g2), fun Bf B Hf H r σ D E R w k => ?_⟩
  rw [wpS, h4, e1] at w
  exact k.wx hz _ σ Hf H C R.e F.glob w
theorem excD_no {K : PySem.W.Frag} {H : Hp} {d : PyData} {v : V} (h : Rep K H d v) : isExcD d = false := by
  cases d with
  | dict kvs =>
    unfold Rep at h
    obtain ⟨a, ks, _, _, l, e, _⟩ := h
    subst e
    cases l with
    | nil => rfl
    | cons p l => rfl
  | _ => rfl
theorem Ext.same {Hf H H' : Hp} (s : Same Hf H) (h : Same H H') : Ext Hf H Hf H' := ⟨h, Same.refl _, s.trans h, fun _ _ => rfl⟩
theorem js_drx (x : XOk N T cs d X) {f : Nat} {y : Str} {p pos pos' : Pos} {es : IEs} {ea : Expr} {as : List Expr} (hz : rz = true) (hT : (ckOf N T cs).T[f]? = some (y, es.len + 1000)) (hlt : es.len < 1000) (hg : gl sc y = true) (ha : JdA X sc (Gof T) es (ea :: as))
    (ok : okE ea = true) (hpl : ∀ env, (backTo pos (starEach as env)).any (·.1) = false) : JdS X sc W rz (Gof T) fresh (.drx f es) (.Expr (.Call (.Name y p) (ea :: as) [] pos) pos') := by
  obtain ⟨g, h1, rfl, h3, h4⟩ := tab_get hT
  obtain ⟨a, F⟩ := x.fn f g h1
  obtain ⟨fd, ps, e1, e2, e3⟩ := F.fx (by omega) (by omega)
  obtain ⟨g1, g2, g3⟩ := gl_of (X := X) hg
  obtain ⟨ta, pa, sa⟩ := ha
  refine ⟨_, fun q hq hf => ps_expr (pe_callX (X := at' X q) e3 x.rm (g1 q hq) F.glob F.kp e2 hf.2.2 (pa q hq) g2 (okE.star ok _ _) (hpl _)) rfl, fun Bf B Hf H r σ D E R w k => ?_⟩
  rw [wpS] at w
  refine sa Bf B Hf H r σ _ _ R w fun ds vs H1f H1 z1 rep1 rr1 hl w1 => ?_
  rw [h4] at w1
  have lenV : vs.length = g.ar - 1000 := by rw [← (PRepL.full z1.c rep1).length, hl]; omega
  have R1 := R.ext z1
  have kx : ∀ x C H', Same H1 H' → X.mg x = some (.ref C) → ((isExcD (excD x) = true → D.rt (excD x)) ∧ (isExcD (excD x) = false → D.nx r)) → W (.ref C) none σ H' := fun x C H' hs hm hq => k.wx hz x σ H1f H' C (R1.e.trans (Ext.same z1.c hs)) hm (hq.1 rfl)
  by_cases no : noOwn es r = true
  · refine ⟨lenV, H1f, ds, _, z1.c, rr1 no, w1, fun d v H2f H2 z2 rep q => ?_, kx⟩
    exact k.nx r σ H2f H2 (R1.ext z2) (keep_ext R (z1.trans z2)) (q.2 (excD_no rep))
  · refine ⟨lenV, H1, ds, _, Same.refl _, PRepL.full z1.c rep1, w1, fun d v H2f H2 z2 rep q => ?_, kx⟩
    have z3 := Ext.same z1.c z2.a
    exact k.nx r σ H1f H2 (R1.ext z3) (keep_ext R (z1.trans z3)) (q.2 (excD_no rep))
/-! ### a, b = x, y; xs[a], xs[b] = xs[b], xs[a] -/
theorem not_star {e : Expr} (h : okE e = true) : (fun | .Starred .. => true | _ => false : Expr → Bool) e = false := by
  cases e <;> first | rfl | exact absurd h (by simp [okE])
theorem stores_par {x y : Str} {px py pt p2 : Pos} {kt k2} {ea eb : Expr} {env : PySem.Env} (hk : env.scope.kind = .function) (hx : env.scope.names.lookup x = some .local) (hy : env.scope.names.lookup y = some .local) (hne : x ≠ y) (hl : (py.line == px.line) = true)
    (oa : okE ea = true) (ob : okE eb = true) (hf : [ea, eb].all (foldedForSure 8) = false) (hc : [ea, eb].all (constantsAlone 8) = false) :
    swappedStores [.Tuple [.Name x px, .Name y py] kt pt] (.Tuple [ea, eb] k2 p2) env = pure (some [x, y]) := by
  have hb : env.blockKind = .function := by unfold PySem.Env.blockKind; rw [hk]; rfl
  have kx : env.kindOf x = some .local := hx
  have ky : env.kindOf y = some .local := hy
  have hs : ([ea, eb].any fun | .Starred .. => true | _ => false) = false := by
    simp only [List.any_cons, List.any_nil, Bool.or_false]
    exact Bool.or_eq_false_iff.mpr ⟨not_star oa, not_star ob⟩
  have hn : ([x, y].eraseDups).length = 2 := by
    have : (x == y) = false := beq_eq_false_iff_ne.mpr hne
    have h2 : (y == x) = false := beq_eq_false_iff_ne.mpr (Ne.symm hne)
    simp [List.eraseDups_cons, h2]
  unfold swappedStores
  have hll : ((Expr.Name y py).pos.line == (Expr.Name x px).pos.line) = true := hl
  simp only [List.filterMap_cons, List.filterMap_nil, List.head?_cons, Option.map_some, Option.getD_some, kx, ky, hb, hs, hf, hc, beq_self_eq_true, Bool.and_self, List.length_cons, List.length_nil, Bool.true_and, Bool.and_true]
  have e1 : ((Expr.Name x px).pos.line) = px.line := rfl
  simp only [e1, beq_self_eq_true, hl, if_true, hn]
  refine (if_neg fun h => Bool.false_ne_true h).trans ?_
  refine (if_neg fun h => Bool.false_ne_true (hs.symm.trans h)).trans ?_
  exact (if_neg fun h => Bool.false_ne_true h).trans ((if_neg fun h => Bool.false_ne_true h).trans (if_neg fun h => Bool.false_ne_true h))
theorem js_par2 (x : XOk N T cs d X) (hk : sc.kind = .function) {i j : Nat} {a b : IE} {y z : Str} {py pz pt p2 pos : Pos} {kt k2} {ea eb : Expr} (hi : nmOk (ckOf N T cs).N i y = true) (hj : nmOk (ckOf N T cs).N j z = true) (hx : sc.names.lookup y = some .local) (hy : sc.names.lookup z = some .local) (hne : y ≠ z) (hl : (pz.line == py.line) = true)
    (hf : [ea, eb].all (foldedForSure 8) = false) (hc : [ea, eb].all (constantsAlone 8) = false) (oa : okE ea = true) (ob : okE eb = true) (ha : Jd X sc (Gof T) a ea) (hb : Jd X sc (Gof T) b eb) : JdS X sc W rz (Gof T) fresh (.par2 i j a b) (.Assign [.Tuple [.Name y py, .Name z pz] kt pt] (.Tuple [ea, eb] k2 p2) pos) := by
  obtain ⟨⟨ta, pa, sa, _⟩, _⟩ := ha
  obtain ⟨⟨tb, pb, sb, _⟩, _⟩ := hb
  have nd : X.N.Nodup := by rw [x.n]; exact x.nd
  have h1 : X.N[i]? = some y := by rw [x.n]; exact of_decide_eq_true hi
  have h2 : X.N[j]? = some z := by rw [x.n]; exact of_decide_eq_true hj
  have hij : i ≠ j := fun e => by
    subst e
    rw [h1] at h2
    exact hne (Option.some.inj h2)
  have i1 : i < X.N.length := (List.getElem?_eq_some_iff.mp h1).1
  have j1 : j < X.N.length := (List.getElem?_eq_some_iff.mp h2).1
  refine ⟨_, fun q hq _ => ps_par (X := at' X q) x.calm nd h1 h2 hij (by show q.env.scope.names.lookup y = _; rw [hq]; exact hx) (by show q.env.scope.names.lookup z = _; rw [hq]; exact hy) (pa_cons (pa q hq) (pa_cons (pb q hq) pa_nil (okE.star ob _ _)) (okE.star oa _ _))
    (stores_par (by show q.env.scope.kind = _; rw [hq]; exact hk) (by show q.env.scope.names.lookup y = _; rw [hq]; exact hx) (by show q.env.scope.names.lookup z = _; rw [hq]; exact hy) hne hl oa ob hf hc) rfl, fun Bf B Hf H r σ D E R w k => ?_⟩
  rw [wpS] at w
  refine sa Bf B Hf H r σ _ _ R w fun d1 v1 H1f H1 z1 rep1 w1 => ?_
  refine sb Bf B H1f H1 r σ _ _ (R.ext z1) w1 fun d2 v2 H2f H2 z2 rep2 w2 => ?_
  obtain ⟨f1, f2, w3⟩ := w2
  have R2 := (R.ext z1).ext z2
  refine ⟨v1, v2, rfl, k.nx _ _ H2f H2 ((R2.setV (Rep.mono z2.b _ _ rep1) i1).setV rep2 j1) ((keep_ext R (z1.trans z2)).trans (keep_set (is := [i, j]) (fun m hm => ?_) fun m hm => ?_)) w3⟩
  · rcases List.mem_cons.mp hm with rfl | hm
    · exact f1
    · rw [List.mem_singleton.mp hm]
      exact f2
  · have n1 : i ≠ m := fun e => hm (by rw [e]; exact List.mem_cons_self)
    have n2 : j ≠ m := fun e => hm (by rw [e]; exact List.mem_cons_of_mem _ (List.mem_singleton.mpr rfl))
    exact ⟨(List.getElem?_set_ne n2).trans (List.getElem?_set_ne n1), (Ev.get_set_ne n2).trans (Ev.get_set_ne n1)⟩
theorem stores_none {o1 i1 o2 i2 ea eb : Expr} {p1 p3 pt p2 : Pos} {kt k2} {env : PySem.Env} : swappedStores [.Tuple [.Subscript o1 i1 p1, .Subscript o2 i2 p3] kt pt] (.Tuple [ea, eb] k2 p2) env = pure none := by
  unfold swappedStores
  simp only [List.filterMap_cons, List.filterMap_nil, List.length_cons, List.length_nil]
  split
  · rfl
  · split
    · rfl
    · rfl
theorem val_at {K : PySem.W.Frag} {n : Nat} {Bf B Hf H : Hp} {r : Ev} {σ : L2.St} {i : Nat} {m : Int} (R : StR K n Bf B Hf H r σ) (h : r.get i = .val (.int m)) : σ[i]? = some (some (.int m)) := by
  have q := R.sl i
  rw [h] at q
  obtain ⟨v, e, rep⟩ := q
  unfold Rep at rep
  rw [e, rep]
theorem js_swp (x : XOk N T cs d X) {i a b : Nat} {y y2 y3 y4 u u2 w w2 : Str} {py py2 py3 py4 pu pu2 pw pw2 p1 p2 p3 p4 pt pt2 pos : Pos} {kt k2}
    (h1 : chkE (ckOf N T cs) sc (.var i) (.Name y py) = true) (h2 : chkE (ckOf N T cs) sc (.var i) (.Name y2 py2) = true) (h3 : chkE (ckOf N T cs) sc (.var i) (.Name y3 py3) = true) (h4 : chkE (ckOf N T cs) sc (.var i) (.Name y4 py4) = true)
    (h5 : chkE (ckOf N T cs) sc (.var a) (.Name u pu) = true) (h6 : chkE (ckOf N T cs) sc (.var a) (.Name u2 pu2) = true) (h7 : chkE (ckOf N T cs) sc (.var b) (.Name w pw) = true) (h8 : chkE (ckOf N T cs) sc (.var b) (.Name w2 pw2) = true) :
    JdS X sc W rz (Gof T) fresh (.swp i a b) (.Assign [.Tuple [.Subscript (.Name y py) (.Name u pu) p1, .Subscript (.Name y2 py2) (.Name w pw) p2] kt pt] (.Tuple [.Subscript (.Name y3 py3) (.Name w2 pw2) p3, .Subscript (.Name y4 py4) (.Name u2 pu2) p4] k2 pt2) pos) := by
  refine ⟨_, fun q hq _ => ps_asg (X := at' X q) (te := tTup (tCons (tOp (rIxL X.K) (tVar i) (tVar b)) (tCons (tOp (rIxL X.K) (tVar i) (tVar a)) tNil))) (g := gTup X.K 2 (gCons (gSub (tVar i) (tVar a) L2.rSetL) (gCons (gSub (tVar i) (tVar b) L2.rSetL) gNil))) (pe_tup (pa_cons (pe_ix (ix_list (X := at' X q)) (pe_slot x h3 q hq) (pe_slot x h8 q hq) (fun _ _ => rfl)) (pa_cons (pe_ix (ix_list (X := at' X q)) (pe_slot x h4 q hq) (pe_slot x h6 q hq) (fun _ _ => rfl)) pa_nil rfl) rfl))
    (pg_tup (X := at' X q) (n := 2) x.calm (pgs_cons (pg_sub (pe_slot x h1 q hq) (pe_slot x h5 q hq) (set_list (X := at' X q)) (by intro v; rfl)) (pgs_cons (pg_sub (pe_slot x h2 q hq) (pe_slot x h7 q hq) (set_list (X := at' X q)) (by intro v; rfl)) pgs_nil rfl) rfl) rfl rfl)
    rfl stores_none rfl, fun Bf B Hf H r σ D E R w k => ?_⟩
  rw [wpS] at w
  obtain ⟨xs, hx, w⟩ := ownL_of w
  obtain ⟨n, m, jn, jm, dn, dm, ea, eb, in1, im1, gn, gm, w⟩ := w
  obtain ⟨p, vs, e0, hH, rep⟩ := own_at R (Ext.refl R.e.c) hx
  have sa := val_at R ea
  have sb := val_at R eb
  have hl := rep.length
  obtain ⟨vn, hvn, rn⟩ := rep.get gn
  obtain ⟨vm, hvm, rm⟩ := rep.get gm
  have at1 : atI vs m = some vm := by unfold atI; rw [← hl, im1]; exact hvm
  have at2 : atI vs n = some vn := by unfold atI; rw [← hl, in1]; exact hvn
  refine ⟨_, e0, _, sb, p, vs, m, vm, rfl, rfl, SqL.of hH, at1, ?_⟩
  refine ⟨_, e0, _, sa, p, vs, n, vn, rfl, rfl, SqL.of hH, at2, ?_⟩
  refine ⟨by show 2 ≤ sizeLine; rw [sizeLine_eq]; omega, fun tp htp => ?_⟩
  have hpt : p ≠ tp := fun e => by rw [← e, hH] at htp; cases htp
  refine ⟨tp, [vm, vn], rfl, SqT.of upd_same, rfl, vm, [vn], rfl, ?_⟩
  refine ⟨_, e0, _, sa, p, vs, n, jn, rfl, rfl, by rw [upd_ne hpt]; exact hH, by rw [← hl]; exact in1, ?_⟩
  refine ⟨vn, [], rfl, ?_⟩
  refine ⟨_, e0, _, sb, p, vs.set jn vm, m, jm, rfl, rfl, upd_same, by rw [List.length_set, ← hl]; exact im1, ?_⟩
  refine ⟨rfl, ?_⟩
  have z := Ext.newO (o := .tup [vm, vn]) R.e.c htp
  have rep2 : RepL X.K Hf ((xs.set jn dm).set jm dn) ((vs.set jn vm).set jm vn) := (rep.set rm jn).set rn jm
  have R1 := R.ext z
  have hH1 : (upd H tp (.tup [vm, vn])) p = some (.lst vs) := by rw [upd_ne hpt]; exact hH
  obtain ⟨R2, k2⟩ := own_put R z hx e0 hH1 rep2
  have eH : upd (upd (upd H tp (.tup [vm, vn])) p (.lst (vs.set jn vm))) p (.lst ((vs.set jn vm).set jm vn)) = upd (upd H tp (.tup [vm, vn])) p (.lst ((vs.set jn vm).set jm vn)) := by
    funext b
    by_cases hb : b = p
    · subst hb
      rw [upd_same, upd_same]
    · rw [upd_ne hb, upd_ne hb, upd_ne hb]
  rw [eH]
  exact k.nx _ _ _ _ R2 k2 w
/-! ### a dict that is handed on -/
theorem orep_ers {K : PySem.W.Frag} {Hf H : Hp} {d : PyData} {p q : Addr} (hq : q ≠ p) (h : ORep K Hf H d (.ref q)) : ORep K Hf (ers H p) d (.ref q) := by
  have e : ers H p q = H q := if_neg hq
  cases d with
  | list xs =>
    obtain ⟨q', vs, e1, h1, h2, h3⟩ := h
    cases e1
    exact ⟨q, vs, rfl, h1, by rw [e]; exact h2, h3⟩
  | dict kvs =>
    obtain ⟨q', vs, e1, h1, h2, h3⟩ := h
    cases e1
    exact ⟨q, vs, rfl, h1, by rw [e]; exact h2, h3⟩
  | _ => exact h.elim
theorem ers_some {H : Hp} {p b : Addr} {o : HO} (h : H b = some o) (hb : b ≠ p) : ers H p b = some o := by
  unfold ers
  rw [if_neg hb]
  exact h
theorem ers_of {H : Hp} {p b : Addr} {o : HO} (h : ers H p b = some o) : b ≠ p ∧ H b = some o := by
  unfold ers at h
  split at h
  · cases h
  · rename_i hb
    exact ⟨hb, h⟩
theorem Ext.transE {Hf H H1f H1 H2f H2 : Hp} {p : Addr} (x : Ext Hf (ers H p) H1f H1) (y : Ext H1f (ers H1 p) H2f H2) : Ext Hf (ers H p) H2f H2 :=
  ⟨fun b o e => y.a _ _ (ers_some (x.a _ _ e) (ers_of e).1), x.b.trans y.b, y.c, fun q hq => by
    obtain ⟨o, ho⟩ : ∃ o, ers H p q = some o := by
      cases e : ers H p q with
      | none => exact absurd e hq
      | some o => exact ⟨o, rfl⟩
    rw [y.d q (by rw [ers_some (x.a _ _ ho) (ers_of ho).1]; exact fun z => nomatch z), x.d q hq]⟩
theorem Ext.ers {Hf H Hf' H' : Hp} {p : Addr} (z : Ext Hf H Hf' H') (hp : H p ≠ none) (hf : Hf p = none) : Ext Hf (CF.ers H p) Hf' (CF.ers H' p) :=
  ⟨fun b o e => ers_some (z.a _ _ (ers_of e).2) (ers_of e).1, z.b, fun b o e => ers_some (z.c _ _ e) (fun h => by
    subst h
    rw [z.d b hp, hf] at e
    cases e), fun q hq => z.d q fun h => hq (by unfold CF.ers; rw [h]; split <;> rfl)⟩
theorem StR.erase {K : PySem.W.Frag} {n : Nat} {Bf B Hf H : Hp} {r : Ev} {σ : L2.St} {m : Nat} {p : Addr} (R : StR K n Bf B Hf H r σ) (ho : (r.get m).isO = true) (hp : σ[m]? = some (some (.ref p))) : StR K n Bf B Hf (ers H p) (r.set m .un) σ := by
  obtain ⟨p', o, e1, hB, hH, hf⟩ := R.isoAt ho
  rw [hp] at e1
  cases e1
  have hlt : m < r.length := by
    by_cases h : m < r.length
    · exact h
    · rw [Ev.get_out (by omega)] at ho
      cases ho
  have other : ∀ j q, m ≠ j → (r.get j).isO = true → σ[j]? = some (some (.ref q)) → q ≠ p := fun j q hj hjo e z => by
    subst z
    exact R.sep j m q (Ne.symm hj) hjo ho e hp
  refine ⟨by rw [List.length_set]; exact R.ln, by rw [List.length_set]; exact R.len, fun j => ?_, fun j k q hjk h1 h2 e1 e2 => ?_, ⟨fun b u e => ers_some (R.e.a _ _ e) (fun z => by rw [z, hB] at e; cases e), R.e.b, fun b u e => ers_some (R.e.c _ _ e) (fun z => by rw [z, hf] at e; cases e), R.e.d⟩⟩
  · by_cases hj : m = j
    · subst hj
      rw [Ev.get_set_same hlt]
      exact trivial
    · rw [Ev.get_set_ne hj]
      have q := R.sl j
      cases e : r.get j with
      | un => exact trivial
      | val d => rw [e] at q; exact q
      | kyd l => rw [e] at q; exact q
      | own d =>
        rw [e] at q
        obtain ⟨p', e1, o1, b1⟩ := q
        exact ⟨p', e1, orep_ers (other j p' hj (by rw [e]; rfl) e1) o1, b1⟩
      | lck d =>
        rw [e] at q
        obtain ⟨p', e1, o1, b1⟩ := q
        exact ⟨p', e1, orep_ers (other j p' hj (by rw [e]; rfl) e1) o1, b1⟩
      | mem l =>
        rw [e] at q
        obtain ⟨p', e1, o1, b1⟩ := q
        exact ⟨p', e1, orep_ers (other j p' hj (by rw [e]; rfl) e1) o1, b1⟩
  · have kk : ∀ j, (Ev.get (r.set m .un) j).isO = true → (r.get j).isO = true := fun j h => by
      by_cases hj : m = j
      · subst hj
        rw [Ev.get_set_same hlt] at h
        cases h
      · rw [Ev.get_set_ne hj] at h
        exact h
    exact R.sep j k q hjk (kk j h1) (kk k h2) e1 e2
theorem StR.unerase {K : PySem.W.Frag} {n : Nat} {Bf B Hf H : Hp} {r : Ev} {σ : L2.St} {m : Nat} {p : Addr} {x : Sl} {l : List (Int × Int)} (R : StR K n Bf B Hf H (r.set m .un) σ) (hlt : m < r.length) (hp : σ[m]? = some (some (.ref p))) (hB : B p = none) (hf : Hf p = none) (hH : H p = some (.dK (dV l)))
    (hx : x = .own (.dict (dL l)) ∨ x = .mem l) (other : ∀ j q, m ≠ j → (r.get j).isO = true → σ[j]? = some (some (.ref q)) → q ≠ p) : StR K n Bf B Hf H (r.set m x) σ := by
  have g : ∀ j, m ≠ j → Ev.get (r.set m x) j = Ev.get (r.set m .un) j := fun j hj => by rw [Ev.get_set_ne hj, Ev.get_set_ne hj]
  refine ⟨by rw [List.length_set]; have := R.ln; rw [List.length_set] at this; exact this, by rw [List.length_set]; have := R.len; rw [List.length_set] at this; exact this, fun j => ?_, fun j k q hjk h1 h2 e1 e2 => ?_, R.e⟩
  · by_cases hj : m = j
    · subst hj
      rw [Ev.get_set_same hlt, hp]
      rcases hx with rfl | rfl
      · exact ⟨p, rfl, ⟨p, _, rfl, hf, hH, l, rfl, rfl⟩, hB⟩
      · exact ⟨p, rfl, ⟨p, _, rfl, hf, hH, l, rfl, rfl⟩, hB⟩
    · rw [g j hj]
      exact R.sl j
  · by_cases hj : m = j
    · subst hj
      rw [hp] at e1
      cases e1
      rw [Ev.get_set_ne hjk] at h2
      exact other k _ hjk h2 e2 rfl
    · by_cases hk : m = k
      · subst hk
        rw [hp] at e2
        cases e2
        rw [Ev.get_set_ne hj] at h1
        exact other j _ hj h1 e1 rfl
      · rw [g j hj] at h1
        rw [g k hk] at h2
        exact R.sep j k q hjk h1 h2 e1 e2
theorem keep_mem {K : PySem.W.Frag} {n : Nat} {Bf B Hf H Hf' H' : Hp} {r : Ev} {σ : L2.St} {m : Nat} {p : Addr} {x : Sl} (R : StR K n Bf B Hf H r σ) (hm : (∃ d, r.get m = .own d) ∨ ∃ l l', r.get m = .mem l ∧ x = .mem l') (hp : σ[m]? = some (some (.ref p))) (z : Ext Hf (ers H p) Hf' H') : Keep r σ Hf H (r.set m x) σ Hf' H' := by
  have ho : (r.get m).isO = true := by
    rcases hm with ⟨d, e⟩ | ⟨l, l', e, _⟩ <;> rw [e] <;> rfl
  have hlt : m < r.length := by
    by_cases h : m < r.length
    · exact h
    · rw [Ev.get_out (by omega)] at ho
      cases ho
  refine ⟨z.b, fun j d h => ?_, fun j l h => ?_⟩
  · have hj : m ≠ j := fun e => by
      subst e
      rcases hm with ⟨d, e⟩ | ⟨l, l', e, _⟩ <;> rw [e] at h <;> cases h
    refine ⟨by rw [Ev.get_set_ne hj]; exact h, rfl, fun q e => ?_⟩
    obtain ⟨q', o, e1, _, _, e2, _⟩ := R.lckAt (.inl h)
    rw [e] at e1
    cases e1
    have hq : q ≠ p := fun ee => by
      subst ee
      exact R.sep j m q (Ne.symm hj) (by rw [h]; rfl) ho e hp
    rw [e2, z.a _ _ (ers_some e2 hq)]
  · refine ⟨?_, rfl⟩
    by_cases hj : m = j
    · subst hj
      rcases hm with ⟨d, e⟩ | ⟨l1, l', e, e'⟩
      · rw [e] at h
        cases h
      · exact ⟨l', by rw [Ev.get_set_same hlt]; exact e'⟩
    · exact ⟨l, by rw [Ev.get_set_ne hj]; exact h⟩
theorem mem_call {K : PySem.W.Frag} {G : Pm} {Hf H : Hp} {d1 d2 d3 : PyData} {v1 v2 v3 : V} {p : Addr} {l : List (Int × Int)} {Q : PyData → Prop} {Qv : VK} (hH : H p = some (.dK (dV l))) (hf : Hf p = none) (s : Same Hf H) (r1 : Rep K Hf d1 v1) (r2 : Rep K Hf d2 v2) (r3 : Rep K Hf d3 v3)
    (g : G ([d1, d2, d3] ++ [.dict (dL l)]) Q) (k : ∀ d v l' Hf' H', Ext Hf (ers H p) Hf' H' → H' p = some (.dK (dV l')) → Hf' p = none → Rep K Hf' d v → Q (.tuple [d, .dict (dL l')]) → Qv v H') : spMm K 4 G [v1, v2, v3, .ref p] H Qv :=
  ⟨rfl, Hf, [d1, d2, d3], l, p, [v1, v2, v3], Q, rfl, hH, hf, s, RepL.cons r1 (RepL.cons r2 (RepL.cons r3 RepL.nil)), g, k⟩
theorem js_mcal (x : XOk N T cs d X) {i f m : Nat} {A E e1 e2 e3 : IE} {y mx g k : Str} {aA aE b1 b2 b3 : Expr} {py pmx pE pg pk pc pm pos : Pos} (hi : chkN (ckOf N T cs) sc true i (.Name y py) = true) (hmx : mx = "max") (hgm : gl sc mx = true)
    (okA : okE aA = true) (hA : Jd X sc (Gof T) A aA) (hE : Jd X sc (Gof T) E aE) (hT : (ckOf N T cs).T[f]? = some (g, 3004)) (hg : gl sc g = true) (ok1 : okE b1 = true) (ok2 : okE b2 = true) (ok3 : okE b3 = true)
    (h1 : Jd X sc (Gof T) e1 b1) (h2 : Jd X sc (Gof T) e2 b2) (h3 : Jd X sc (Gof T) e3 b3) (hm : chkE (ckOf N T cs) sc (.var m) (.Name k pk) = true) (him : i ≠ m) :
    JdS X sc W rz (Gof T) fresh (.mcal i A E f (.cons e1 (.cons e2 (.cons e3 .nil))) m) (.Assign [.Name y py] (.Call (.Name mx pmx) [aA, .BinOp aE .Add (.Call (.Name g pg) [b1, b2, b3, .Name k pk] [] pc) pE] [] pm) pos) := by
  subst hmx
  obtain ⟨ge, hge, rfl, har, hG⟩ := tab_get hT
  obtain ⟨fa, F⟩ := x.fn f ge hge
  obtain ⟨fd, ps, el, hb, FM⟩ := F.fm (by omega)
  have FM' : FnM X.prog X.w X.K X.mg X.base d fa fd ps (spMm X.K 4 ge.G) := by
    have e4 : ge.ar - 3000 = 4 := by omega
    rw [e4] at FM
    exact FM
  obtain ⟨g1, g2, g3⟩ := gl_of (X := X) hg
  obtain ⟨m1, m2, m3⟩ := gl_of (X := X) hgm
  obtain ⟨n1, n2, n3⟩ := nm_of x hi
  obtain ⟨⟨tA, pA, sA, _⟩, _⟩ := hA
  obtain ⟨⟨tE, pE', sE, _⟩, _⟩ := hE
  obtain ⟨⟨t1, p1, _, s1⟩, _⟩ := h1
  obtain ⟨⟨t2, p2, _, s2⟩, _⟩ := h2
  obtain ⟨⟨t3, p3, _, s3⟩, _⟩ := h3
  have pcall : AllE X sc (.Call (.Name ge.name pg) [b1, b2, b3, .Name k pk] [] pc) (tCallM (spMm X.K 4 ge.G) (tCons t1 (tCons t2 (tCons t3 (tCons (tVar m) tNil))))) := fun q hq =>
    pe_callM (X := at' X q) FM' x.rm (g1 q hq) F.glob F.kp hb (pa_cons (p1 q hq) (pa_cons (p2 q hq) (pa_cons (p3 q hq) (pa_cons (pe_slot x hm q hq) pa_nil) (okE.star ok3 _ _)) (okE.star ok2 _ _)) (okE.star ok1 _ _)) g2 (okE.star ok1 _ _) (by
      rw [okE.star ok2, okE.star ok3]
      rfl)
  refine ⟨_, set_ps x hi (fun q hq => rfl) (fun q hq => pe_callB (X := at' X q) (call_max2 x.calm) (m1 q hq) (x.mb _ (by decide +kernel)) boot_max (pa_cons (pA q hq) (pa_cons (pe_op op_add (pE' q hq) (pcall q hq)) pa_nil) (okE.star okA _ _)) m3 m2 (okE.star okA _ _) rfl), fun Bf B Hf H r σ D E0 R w k0 => ?_⟩
  rw [wpS] at w
  refine sA Bf B Hf H r σ _ _ R w fun dA vA H1f H1 z1 repA wA => ?_
  obtain ⟨ai, rfl, wA⟩ := wA
  refine sE Bf B H1f H1 r σ _ _ (R.ext z1) wA fun dE vE H2f H2 z2 repE wE => ?_
  obtain ⟨ei, rfl, hno, wE⟩ := wE
  have hno1 : isOwnE e1 r = false ∧ isOwnE e2 r = false ∧ isOwnE e3 r = false := by
    unfold noOwn noOwn noOwn at hno
    simp only [Bool.and_eq_true, Bool.not_eq_true'] at hno
    exact ⟨hno.1, hno.2.1, hno.2.2.1⟩
  rw [wpEs] at wE
  refine s1 Bf B H2f H2 r σ _ _ ((R.ext z1).ext z2) wE fun d1 v1 H3f H3 z3 rep1 no1 w1 => ?_
  rw [wpEs] at w1
  refine s2 Bf B H3f H3 r σ _ _ (((R.ext z1).ext z2).ext z3) w1 fun d2 v2 H4f H4 z4 rep2 no2 w2 => ?_
  rw [wpEs] at w2
  refine s3 Bf B H4f H4 r σ _ _ ((((R.ext z1).ext z2).ext z3).ext z4) w2 fun d3 v3 H5f H5 z5 rep3 no3 w3 => ?_
  rw [wpEs] at w3
  obtain ⟨l, hl, w3⟩ := w3
  have zz := (((z1.trans z2).trans z3).trans z4).trans z5
  have R5 := R.ext zz
  have ho : (r.get m).isO = true := by rw [hl]; rfl
  obtain ⟨p, o, ep, hB, hH5, hf5⟩ := R5.isoAt ho
  have q := R5.sl m
  rw [hl] at q
  obtain ⟨p', ep', ⟨p'', ks, e'', _, hH, l2, e3', e4'⟩, _⟩ := q
  rw [ep] at ep'
  cases ep'
  cases e''
  obtain rfl := dL_inj e3'
  subst e4'
  refine ⟨.ref p, ep, ?_⟩
  rw [hG] at w3
  refine mem_call hH hf5 R5.e.c (Rep.mono (z4.b.trans z5.b) _ _ (no1.no hno1.1)) (Rep.mono z5.b _ _ (no2.no hno1.2.1)) (no3.no hno1.2.2) w3 fun dv v l' H6f H6 z6 hH6 hf6 rep6 w6 => ?_
  obtain ⟨vi, l'', e6, hfr, w6⟩ := w6
  injection e6 with e6
  injection e6 with ea eb
  injection eb with eb _
  injection eb with eb
  subst ea
  obtain rfl := dL_inj eb
  unfold Rep at rep6 repA repE
  subst rep6 repA repE
  refine ⟨_, _, rfl, rfl, ?_⟩
  refine ⟨_, _, rfl, ?_⟩
  rw [max_ite]
  have hlt : m < r.length := by
    by_cases h : m < r.length
    · exact h
    · rw [Ev.get_out (by omega)] at hl
      cases hl
  have other : ∀ j q, m ≠ j → (r.get j).isO = true → σ[j]? = some (some (.ref q)) → q ≠ p := fun j q hj hjo e z => by
    subst z
    exact R5.sep j m q (Ne.symm hj) hjo ho e ep
  have R6 := ((R5.erase ho ep).ext z6).unerase (x := .mem l') hlt ep hB hf6 hH6 (.inr rfl) other
  have k6 := (keep_ext R zz).trans (keep_mem (x := .mem l') R5 (.inr ⟨l, l', hl, rfl⟩) ep z6)
  refine k0.nx _ _ H6f H6 (R6.setV (show Rep X.K H6f (.int (max ai (ei + vi))) (.int (max ai (ei + vi))) by unfold Rep; rfl) n3) (k6.trans (keep_set (is := [i]) (fun j hj => ?_) fun j hj => ?_)) w6
  · rw [List.mem_singleton.mp hj]
    unfold Ev.free at hfr ⊢
    rw [Ev.get_set_ne (Ne.symm him)]
    exact hfr
  · have hne : i ≠ j := fun e => hj (by rw [e]; exact List.mem_singleton.mpr rfl)
    exact ⟨List.getElem?_set_ne hne, Ev.get_set_ne hne⟩
theorem lc_ps (x : XOk N T cs d X) (hk : sc.kind = .function) {i : Nat} {y : Str} {py pos cpos : Pos} {ee t i' : Expr} {fs : List Expr} {csc : Scope} {own : List (Str × Nat)} {wi : TI} {g : TG} {tt : TT} {te : TE} (h : chkN (ckOf N T cs) sc true i (.Name y py) = true) (ok : okE i' = true)
    (p : ∀ q : Vr, q.env.scope = sc → PI (at' X q) t i' wi ∧ BlkOk (at' X q).N (at' X q).env.scope csc own ∧
      (∀ (s : Shared) (H : Hp) (C : Addr) (cl : List (Str × Addr)) (fp : List Addr), PG ((at' X q).blk s H csc (compEnvC csc cl C (at' X q).env) fp) t g) ∧
      (∀ (s : Shared) (H : Hp) (C : Addr) (cl : List (Str × Addr)) (fp : List Addr), PTs ((at' X q).blk s H csc (compEnvC csc cl C (at' X q).env) fp) fs tt) ∧
      (∀ (s : Shared) (H : Hp) (C : Addr) (cl : List (Str × Addr)) (fp : List Addr), PE ((at' X q).blk s H csc (compEnvC csc cl C (at' X q).env) fp) ee te)) :
    ∀ q : Vr, q.env.scope = sc → StQ X W q → PS (at' X q) (.Assign [.Name y py] (.ListComp ee [⟨t, i', fs, 0⟩] csc cpos) pos) (tAsg (tLc wi g tt te (own.map (·.2))) (gName i)) := fun q hq hf => by
  obtain ⟨p1, p2, p3, p4, p5⟩ := p q hq
  obtain ⟨n1, n2, n3⟩ := nm_of x h
  have hkq : q.env.scope.kind = .function := by rw [hq]; exact hk
  have hsw := swaps_comp (elt := ee) (gs := [⟨t, i', fs, 0⟩]) (csc := csc) (pos := cpos) (py := py) (y := y) (l := pos.line) hkq
  have nd : X.N.Nodup := by rw [x.n]; exact x.nd
  cases hb : ((q.env.scope.names.lookup y == some NameKind.local) && (py.line == cpos.line) && !(csc.names.any fun (n, k) => n == y && (k == .local || k == .cell))) with
  | false =>
    rw [hb] at hsw
    exact ps_set (X := at' X q) nd n1 (by show L2.Loc q.env.scope y; rw [hq]; exact n2) (pe_lc (X := at' X q) x.calm nd p1 p2 p3 p4 p5 (fun v => okE.fold ok _ _)) hsw (.inl (by show q.fn y = true; rw [hf.1 rfl]))
  | true =>
    rw [hb] at hsw
    have hyl : q.env.scope.names.lookup y = some .local := by
      rw [Bool.and_eq_true, Bool.and_eq_true] at hb
      exact beq_iff_eq.mp hb.1.1
    exact ps_setLc (X := at' X q) x.calm nd n1 hyl hsw p1 p2 p3 p4 p5 (fun v => okE.fold ok _ _)
theorem js_mcmp (x : XOk N T cs d X) (hk : sc.kind = .function) {i f m : Nat} {tg : Tg} {it : IIt} {e1 e2 e3 : IE} {y g k : Str} {b1 b2 b3 t i' : Expr} {csc : Scope} {py pg pk pc cpos pos : Pos} (hi : chkN (ckOf N T cs) sc true i (.Name y py) = true)
    (hT : (ckOf N T cs).T[f]? = some (g, 3004)) (hg : gl (relS csc sc) g = true) (okI : okE i' = true) (hit : JdI X sc (Gof T) it i') (hb : blkC (ckOf N T cs).N sc csc (ownOf (ckOf N T cs).N tg.slots) = true) (htg : JdG X (relS csc sc) false tg t)
    (ok1 : okE b1 = true) (ok2 : okE b2 = true) (ok3 : okE b3 = true) (h1 : Jd X (relS csc sc) (Gof T) e1 b1) (h2 : Jd X (relS csc sc) (Gof T) e2 b2) (h3 : Jd X (relS csc sc) (Gof T) e3 b3) (hm : chkE (ckOf N T cs) (relS csc sc) (.var m) (.Name k pk) = true) (hmt : m ∉ tg.slots) (him : i ≠ m) :
    JdS X sc W rz (Gof T) fresh (.mcmp i f (.cons e1 (.cons e2 (.cons e3 .nil))) tg it m) (.Assign [.Name y py] (.ListComp (.Call (.Name g pg) [b1, b2, b3, .Name k pk] [] pc) [⟨t, i', [], 0⟩] csc cpos) pos) := by
  obtain ⟨ge, hge, rfl, har, hG⟩ := tab_get hT
  obtain ⟨fa, F⟩ := x.fn f ge hge
  obtain ⟨fd, ps, el, hb', FM⟩ := F.fm (by omega)
  have FM' : FnM X.prog X.w X.K X.mg X.base d fa fd ps (spMm X.K 4 ge.G) := by
    have e4 : ge.ar - 3000 = 4 := by omega
    rw [e4] at FM
    exact FM
  obtain ⟨g1, g2, g3⟩ := gl_of (X := X) hg
  obtain ⟨n1, n2, n3⟩ := nm_of x hi
  obtain ⟨⟨t1, p1, _, s1⟩, _⟩ := h1
  obtain ⟨⟨t2, p2, _, s2⟩, _⟩ := h2
  obtain ⟨⟨t3, p3, _, s3⟩, _⟩ := h3
  have pcall : AllE X (relS csc sc) (.Call (.Name ge.name pg) [b1, b2, b3, .Name k pk] [] pc) (tCallM (spMm X.K 4 ge.G) (tCons t1 (tCons t2 (tCons t3 (tCons (tVar m) tNil))))) := fun q hq =>
    pe_callM (X := at' X q) FM' x.rm (g1 q hq) F.glob F.kp hb' (pa_cons (p1 q hq) (pa_cons (p2 q hq) (pa_cons (p3 q hq) (pa_cons (pe_slot x hm q hq) pa_nil) (okE.star ok3 _ _)) (okE.star ok2 _ _)) (okE.star ok1 _ _)) g2 (okE.star ok1 _ _) (by
      rw [okE.star ok2, okE.star ok3]
      rfl)
  obtain ⟨wi, pit, sit⟩ := hit
  obtain ⟨gt, pg', sg⟩ := htg
  obtain ⟨tf, pf, sf⟩ := jf_nil (X := X) (sc := relS csc sc) (G := Gof T)
  refine ⟨_, lc_ps (own := ownOf (ckOf N T cs).N tg.slots) (g := gt) (tt := tf) (te := tCallM (spMm X.K 4 ge.G) (tCons t1 (tCons t2 (tCons t3 (tCons (tVar m) tNil))))) x hk hi okI fun q hq => ⟨pit q t hq, ?_, fun s H C cl fp => ?_, fun s H C cl fp => ?_, fun s H C cl fp => ?_⟩, ?_⟩
  · have h := blkOk_by hb
    show BlkOk X.N q.env.scope csc _
    rw [x.n, hq]
    exact h
  · exact pg' ⟨s, H, compEnvC csc cl C q.env, q.stack, q.stack, fp, fun x => csc.names.lookup x == some .cell, [], fun _ _ => False⟩ (by rw [← hq]; rfl) (fun z => nomatch z)
  · exact pf ⟨s, H, compEnvC csc cl C q.env, q.stack, q.stack, fp, fun x => csc.names.lookup x == some .cell, [], fun _ _ => False⟩ (by rw [← hq]; rfl)
  · exact pcall ⟨s, H, compEnvC csc cl C q.env, q.stack, q.stack, fp, fun x => csc.names.lookup x == some .cell, [], fun _ _ => False⟩ (by rw [← hq]; rfl)
  have hown : (ownOf (ckOf N T cs).N tg.slots).map (·.2) = tg.slots := by
    unfold ownOf
    rw [List.map_map]
    exact List.map_id _
  rw [hown]
  intro Bf B Hf H r σ D0 E0 R w k0
  rw [wpS] at w
  refine sit Bf B Hf H (r.set m .un) σ _ _ (R.fgt m) w fun items J H1f H1 S z1 wk wat w1 => ?_
  obtain ⟨hlen, l0, hl0, _, hfr, w1⟩ := w1
  have R1 := R.ext z1
  have ho : (r.get m).isO = true := by rw [hl0]; rfl
  obtain ⟨p, o, ep, hB, hH1, hf1⟩ := R1.isoAt ho
  have q := R1.sl m
  rw [hl0] at q
  obtain ⟨p', ep', ⟨p'', ks, e'', _, hH, l2, e3', e4'⟩, _⟩ := q
  rw [ep] at ep'
  cases ep'
  cases e''
  obtain rfl := dL_inj e3'
  subst e4'
  have R1e := R1.erase ho ep
  have hlt : m < r.length := by
    by_cases h : m < r.length
    · exact h
    · rw [Ev.get_out (by omega)] at hl0
      cases hl0
  have other : ∀ j q, m ≠ j → (r.get j).isO = true → σ[j]? = some (some (.ref q)) → q ≠ p := fun j q hj hjo e z => by
    subst z
    exact R1.sep j m q (Ne.symm hj) hjo ho e ep
  intro D hD
  have hDp : D ≠ p := fun e => by rw [e, hH] at hD; cases hD
  have hDe : ers H1 p D = none := by unfold ers; rw [if_neg hDp]; exact hD
  let st : PyData → List (Int × Int) → (PyData → List (Int × Int) → Prop) → Prop := fun x l K => bindT tg x (wipeE (r.set m .un) tg.slots) fun r1 => noOwn (.cons e1 (.cons e2 (.cons e3 .nil))) r1 = true ∧ wpEs (Gof T) (.cons e1 (.cons e2 (.cons e3 .nil))) r1 fun ds => Gof T f (ds ++ [.dict (dL l)]) fun d => ∃ v l', d = .tuple [v, .dict (dL l')] ∧ K v l'
  let fn : List PyData → List (Int × Int) → Prop := fun acc l' => D0.nx ((r.set m (.own (.dict (dL l')))).set i (.val (.list acc)))
  have w1 : memL st items l0 [] fn := w1
  refine ⟨fun n m' Hc => m' + n = items.length ∧ ∃ (Hfc : Hp) (acc : List PyData) (accV : List V) (l : List (Int × Int)), Ext H1f (ers H1 p) Hfc Hc ∧ Hfc D = none ∧ Hc D = some (.lst accV) ∧ RepL X.K Hfc acc accV ∧ acc.length ≤ n ∧ Hc p = some (.dK (dV l)) ∧ Hfc p = none ∧
      memL st (items.drop n) l acc fn,
    ⟨items.length, rfl, H1f, [], [], l0, ?_, z1.c.free hD, upd_same, RepL.nil, Nat.zero_le _, by rw [upd_ne (Ne.symm hDp)]; exact hH, hf1, by simpa using w1⟩, ?_⟩
  · exact Ext.put ⟨fun b u e => (ers_of e).2, Same.refl _, R1.e.c, fun _ _ => rfl⟩ hDe (z1.c.free hD)
  rintro n m' Hc ⟨hm', Hfc, acc, accV, l, zc, hfD, hcD, rep, hacc, hcp, hfp, w2⟩
  have stay : ∀ q ∈ S, Hc q = H1 q := fun q hq => by
    have hqp : q ≠ p := fun e => by
      subst e
      rcases wat with h | ⟨j, p', dd, e1, e2, e3, e4⟩
      · exact h q hq hf1
      · have hjm : m ≠ j := fun e => by
          subst e
          rw [Ev.get_set_same hlt] at e2
          rcases e2 with e2 | e2 <;> cases e2
        rw [Ev.get_set_ne hjm] at e2
        have := e4 q hq
        subst this
        exact R1.sep j m q (Ne.symm hjm) (by rcases e2 with e2 | e2 <;> rw [e2] <;> rfl) ho e3 ep
    cases e : H1 q with
    | none => exact absurd e (wk.there q hq)
    | some o => exact zc.a _ _ (ers_some e hqp)
  by_cases hn : n < items.length
  · refine .inr ⟨wk.go n Hc stay hn, fun Hn => ∃ (Hfc : Hp) (acc : List PyData) (accV : List V) (l : List (Int × Int)), Ext H1f (ers H1 p) Hfc Hn ∧ Hfc D = none ∧ Hn D = some (.lst accV) ∧ RepL X.K Hfc acc accV ∧ acc.length ≤ n + 1 ∧ Hn p = some (.dK (dV l)) ∧ Hfc p = none ∧
      memL st (items.drop (n + 1)) l acc fn, ?_, ?_⟩
    · intro H' h
      exact ⟨m' - 1, by omega, by omega, h⟩
    · intro v H' hy
      obtain ⟨eH, dt, hd, rv⟩ := wk.yld n Hc v H' stay hn hy
      rw [eH]
      have hdr : items.drop n = dt :: items.drop (n + 1) := by
        rw [List.drop_eq_getElem_cons hn]
        have := (List.getElem?_eq_some_iff.mp hd).2
        rw [this]
      rw [hdr, memL] at w2
      have Rw := (R1e.ext zc).wipe tg.slots
      refine sg Bf B Hfc Hc (wipeE (r.set m .un) tg.slots) (L2.wipe σ tg.slots) dt v _ _ Rw (Rep.mono zc.b _ _ rv) w2 fun r' σ' R' hk' hfree w3 => ?_
      refine ⟨wipe_same (by rw [← R'.len, R'.ln, ← R.len, R.ln]) fun j hj => (hk' j hj).1, ?_⟩
      have hσm : σ'[m]? = some (some (.ref p)) := by rw [(hk' m hmt).1, wipe_get, if_neg hmt]; exact ep
      obtain ⟨hno, w3⟩ := w3
      have hno1 : isOwnE e1 r' = false ∧ isOwnE e2 r' = false ∧ isOwnE e3 r' = false := by
        unfold noOwn noOwn noOwn at hno
        simp only [Bool.and_eq_true, Bool.not_eq_true'] at hno
        exact ⟨hno.1, hno.2.1, hno.2.2.1⟩
      refine sf Bf B Hfc Hc r' σ' (fun b => b = true) _ R' (by rw [wpIfs]) fun b H3f H3 z3 hbt => ?_
      subst hbt
      refine iteT ?_
      rw [wpEs] at w3
      refine s1 Bf B H3f H3 r' σ' _ _ (R'.ext z3) w3 fun d1 v1 H4f H4 z4 rep1 no1 w4 => ?_
      rw [wpEs] at w4
      refine s2 Bf B H4f H4 r' σ' _ _ ((R'.ext z3).ext z4) w4 fun d2 v2 H5f H5 z5 rep2 no2 w5 => ?_
      rw [wpEs] at w5
      refine s3 Bf B H5f H5 r' σ' _ _ (((R'.ext z3).ext z4).ext z5) w5 fun d3 v3 H6f H6 z6 rep3 no3 w6 => ?_
      rw [wpEs] at w6
      have zz := ((z3.trans z4).trans z5).trans z6
      refine ⟨.ref p, hσm, ?_⟩
      rw [hG] at w6
      have h6p := zz.a _ _ hcp
      have h6f := zz.frozen hcp hfp
      have h6D := zz.a _ _ hcD
      have h6fD := zz.frozen hcD hfD
      refine mem_call h6p h6f ((R'.ext zz).e.c) (Rep.mono (z5.b.trans z6.b) _ _ (no1.no hno1.1)) (Rep.mono z6.b _ _ (no2.no hno1.2.1)) (no3.no hno1.2.2) w6 fun dv u l' H7f H7 z7 hH7 hf7 rep7 w7 => ?_
      obtain ⟨v', l'', e7, w7⟩ := w7
      injection e7 with e7
      injection e7 with ea eb
      injection eb with eb _
      injection eb with eb
      subst ea
      obtain rfl := dL_inj eb
      have h7D : H7 D = some (.lst accV) := z7.a _ _ (ers_some h6D hDp)
      have h7fD : H7f D = none := by
        rw [z7.d D (by rw [ers_some h6D hDp]; exact fun z => nomatch z)]
        exact h6fD
      refine ⟨accV, h7D, ?_, H7f, acc ++ [dv], accV ++ [u], l', (((zc.trans zz).transE z7)).put hDe h7fD, h7fD, upd_same, RepL.append (RepL.mono (zz.b.trans z7.b) _ _ rep) (RepL.cons rep7 RepL.nil), ?_, by rw [upd_ne (Ne.symm hDp)]; exact hH7, hf7, w7⟩
      · have lv := rep.length
        show accV.length < sizeLine
        rw [sizeLine_eq]
        omega
      · rw [List.length_append, List.length_singleton]
        omega
  · refine .inl ⟨wk.stop n Hc stay (by omega), ?_⟩
    rw [List.drop_eq_nil_of_le (by omega), memL] at w2
    have zF : Ext H1f (ers H1 p) (upd Hfc D (.lst accV)) Hc := ⟨zc.a, zc.b.trans (Same.frz zc.c hfD hcD).1, (Same.frz zc.c hfD hcD).2, fun q hq => by
      rw [upd_ne (fun e => hq (by rw [e]; exact hDe))]
      exact zc.d q hq⟩
    have rep' : Rep X.K (upd Hfc D (.lst accV)) (.list acc) (.ref D) := ORep.freeze (Hf := Hfc) (H := Hc) ⟨D, accV, rfl, hfD, hcD, rep⟩ hcD
    have RF := (R1e.ext zF).unerase (x := .own (.dict (dL l))) hlt ep hB (by rw [upd_ne (Ne.symm hDp)]; exact hfp) hcp (.inl rfl) other
    have k6 := (keep_ext R z1).trans (keep_mem (x := .own (.dict (dL l))) R1 (.inl ⟨_, hl0⟩) ep zF)
    refine k0.nx _ _ (upd Hfc D (.lst accV)) Hc (RF.setV rep' n3) (k6.trans (keep_set (is := [i]) (fun j hj => ?_) fun j hj => ?_)) w2
    · rw [List.mem_singleton.mp hj]
      unfold Ev.free at hfr ⊢
      rw [Ev.get_set_ne (Ne.symm him)]
      exact hfr
    · have hne : i ≠ j := fun e => hj (by rw [e]; exact List.mem_singleton.mpr rfl)
      exact ⟨List.getElem?_set_ne hne, Ev.get_set_ne hne⟩
end
end CF
namespace CF
open PySem PySem.Spec PyProof.Rows L2
section
variable {X : Cx} {sc : Scope} {G : Nat → Pm} {fresh : Bool} {W : WX} {rz : Bool} {N : List Str} {T : List FnE} {cs : List (Str × Int)} {d : Nat}
theorem relab {K : PySem.W.Frag} {n : Nat} {Bf B Hf H : Hp} {r : Ev} {σ : L2.St} {j : Nat} {a b : Sl} (R : StR K n Bf B Hf H r σ) (ha : r.get j = a) (h : ∃ dd, (a = .own dd ∨ a = .lck dd) ∧ (b = .own dd ∨ b = .lck dd)) : StR K n Bf B Hf H (r.set j b) σ := by
  obtain ⟨dd, h1, h2⟩ := h
  have hlt : j < r.length := by
    by_cases h : j < r.length
    · exact h
    · rw [Ev.get_out (by omega)] at ha
      subst ha
      rcases h1 with h1 | h1 <;> cases h1
  have ao : a.isO = true := by rcases h1 with rfl | rfl <;> rfl
  have kk : ∀ i, (Ev.get (r.set j b) i).isO = true → (r.get i).isO = true := fun i h => by
    by_cases hj : j = i
    · subst hj
      rw [ha]
      exact ao
    · rw [Ev.get_set_ne hj] at h
      exact h
  refine ⟨by rw [List.length_set]; exact R.ln, by rw [List.length_set]; exact R.len, fun i => ?_, fun i k p hik h1 h2 e1 e2 => R.sep i k p hik (kk i h1) (kk k h2) e1 e2, R.e⟩
  by_cases hj : j = i
  · subst hj
    rw [Ev.get_set_same hlt]
    have q := R.sl j
    rw [ha] at q
    rcases h1 with rfl | rfl <;> rcases h2 with rfl | rfl <;> exact q
  · rw [Ev.get_set_ne hj]
    exact R.sl i
/-- the list that a loop walks -/
theorem lock_cases (it : IIt) (r : Ev) : (∃ j dd, it = .seq (.var j) ∧ r.get j = .own dd ∧ lockIt it r = r.set j (.lck dd) ∧ ∀ r', unlockIt it r r' = r'.set j (.own dd)) ∨ (lockIt it r = r ∧ (∀ r', unlockIt it r r' = r') ∧ ∀ j dd, it = .seq (.var j) → r.get j ≠ .own dd) := by
  cases it with
  | rng es => exact .inr ⟨rfl, fun _ => rfl, fun j dd h => by cases h⟩
  | keys j => exact .inr ⟨rfl, fun _ => rfl, fun j dd h => by cases h⟩
  | seq a =>
    cases a <;> try exact .inr ⟨rfl, fun _ => rfl, fun j dd h => by cases h⟩
    rename_i j
    cases e : r.get j with
    | own dd => exact .inl ⟨j, dd, rfl, e, by show (match r.get j with | .own d => r.set j (.lck d) | _ => r) = _; rw [e], fun r' => by show (match r.get j with | .own d => r'.set j (.own d) | _ => r') = _; rw [e]⟩
    | _ => exact .inr ⟨by show (match r.get j with | .own d => r.set j (.lck d) | _ => r) = _; rw [e], fun r' => by show (match r.get j with | .own d => r'.set j (.own d) | _ => r') = _; rw [e], fun j' dd h => by cases h; rw [e]; exact (fun z => nomatch z)⟩
theorem js_for (x : XOk N T cs d X) {tg : Tg} {it : IIt} {b : ISs} {t i : Expr} {sb : List Stmt} {pos : Pos} (ok : okE i = true) (htg : JdG X sc true tg t) (hit : JdI X sc G it i) (hb : JdSs X sc W rz G fresh b sb) : JdS X sc W rz G fresh (.fors tg it b) (.For t i sb [] pos) := by
  obtain ⟨g, pg, sg⟩ := htg
  obtain ⟨wi, pit, sit⟩ := hit
  obtain ⟨tb, pb, sb'⟩ := hb
  refine ⟨_, fun q hq hf => ps_for (X := at' X q) hf.2.1 x.calm (pit q t hq) (pg q hq hf.1) (pb q hq hf) (fun v => okE.fold ok _ _), fun Bf B Hf H r σ D E R w k => ?_⟩
  rw [wpS] at w
  refine sit Bf B Hf H r σ _ _ R w fun items J H1f H1 S z1 wk wat w1 => ?_
  -- the walked list is locked
  have R1 := R.ext z1
  obtain ⟨RL, hL, hU⟩ : StR X.K X.N.length Bf B H1f H1 (lockIt it r) σ ∧ (∀ j dd, (r.get j = .lck dd ∨ (it = .seq (.var j) ∧ r.get j = .own dd)) → (lockIt it r).get j = .lck dd) ∧
      (∀ r' σ' Hf' H', StR X.K X.N.length Bf B Hf' H' r' σ' → Keep (lockIt it r) σ H1f H1 r' σ' Hf' H' → StR X.K X.N.length Bf B Hf' H' (unlockIt it r r') σ' ∧ Keep r σ H1f H1 (unlockIt it r r') σ' Hf' H') := by
    rcases lock_cases it r with ⟨j, dd, hit', hj, e1, e2⟩ | ⟨e1, e2, e3⟩
    · rw [e1]
      have hlt : j < r.length := by
        by_cases h : j < r.length
        · exact h
        · rw [Ev.get_out (by omega)] at hj
          cases hj
      refine ⟨relab R1 hj ⟨dd, .inl rfl, .inr rfl⟩, fun j' dd' h => ?_, fun r' σ' Hf' H' R' kp => ?_⟩
      · by_cases hjj : j = j'
        · subst hjj
          rw [Ev.get_set_same hlt]
          rcases h with h | ⟨_, h⟩
          · rw [hj] at h
            cases h
          · rw [hj] at h
            cases h
            rfl
        · rw [Ev.get_set_ne hjj]
          rcases h with h | ⟨h, _⟩
          · exact h
          · rw [hit'] at h
            cases h
            exact absurd rfl hjj
      · rw [e2]
        have hr' := (kp.l j dd (Ev.get_set_same hlt)).1
        refine ⟨relab R' hr' ⟨dd, .inr rfl, .inl rfl⟩, ⟨kp.f, fun j' dd' h => ?_, fun j' l h => ?_⟩⟩
        have hjj : j ≠ j' := fun e => by
          subst e
          rw [hj] at h
          cases h
        have q := kp.l j' dd' (by rw [Ev.get_set_ne hjj]; exact h)
        exact ⟨by rw [Ev.get_set_ne hjj]; exact q.1, q.2⟩
        have hjj : j ≠ j' := fun e => by
          subst e
          rw [hj] at h
          cases h
        obtain ⟨q1, q2⟩ := kp.m j' l (by rw [Ev.get_set_ne hjj]; exact h)
        exact ⟨by rw [Ev.get_set_ne hjj]; exact q1, q2⟩
    · rw [e1]
      refine ⟨R1, fun j dd h => ?_, fun r' σ' Hf' H' R' kp => ?_⟩
      · rcases h with h | ⟨h, h'⟩
        · exact h
        · exact absurd h' (e3 j dd h)
      · rw [e2]
        exact ⟨R', kp⟩
  have stay : ∀ {rc : Ev} {σc : L2.St} {Hfc Hc : Hp}, StR X.K X.N.length Bf B Hfc Hc rc σc → Keep (lockIt it r) σ H1f H1 rc σc Hfc Hc → ∀ p ∈ S, Hc p = H1 p := fun {rc σc Hfc Hc} Rc kp p hp => by
    rcases wat with h | ⟨j, p', dd, e1, e2, e3, e4⟩
    · cases q : H1f p with
      | none => exact absurd q (h p hp)
      | some o => rw [z1.c _ _ q, Rc.e.c _ _ (kp.f _ _ q)]
    · have hl : (lockIt it r).get j = .lck dd := hL j dd (e2.elim (fun h => .inr ⟨e1, h⟩) .inl)
      rw [e4 p hp]
      exact (kp.l j dd hl).2.2 p' e3
  have kE : ∀ {rc : Ev} {σc : L2.St} {Hfc Hc : Hp}, StR X.K X.N.length Bf B Hfc Hc rc σc → Keep (lockIt it r) σ H1f H1 rc σc Hfc Hc → D.nx (unlockIt it r rc) → E.nx σc Hc := fun {rc σc Hfc Hc} Rc kp q => by
    obtain ⟨a, b⟩ := hU _ _ _ _ Rc kp
    exact k.nx _ _ _ _ a ((keep_ext R z1).trans b) q
  refine ⟨fun i m σc Hc => m + i = items.length ∧ ∃ (rc : Ev) (Hfc : Hp), StR X.K X.N.length Bf B Hfc Hc rc σc ∧ Keep (lockIt it r) σ H1f H1 rc σc Hfc Hc ∧
      forL (fun x r1 D1 => bindT tg x r1 fun r2 => wpSs G b r2 D1) (items.drop i) { D with nx := fun r' => D.nx (unlockIt it r r') } rc,
    ⟨items.length, rfl, _, H1f, RL, Keep.refl _ _ _ _, by rw [List.drop_zero]; exact w1⟩, ?_⟩
  rintro i m σc Hc ⟨hm, rc, Hfc, Rc, kp, w2⟩
  by_cases hi : i < items.length
  · refine .inr ⟨wk.go i Hc (stay Rc kp) hi, fun σn Hn => ∃ (rc : Ev) (Hfc : Hp), StR X.K X.N.length Bf B Hfc Hn rc σn ∧ Keep (lockIt it r) σ H1f H1 rc σn Hfc Hn ∧
      forL (fun x r1 D1 => bindT tg x r1 fun r2 => wpSs G b r2 D1) (items.drop (i + 1)) { D with nx := fun r' => D.nx (unlockIt it r r') } rc, fun σ' H' h => ⟨m - 1, by omega, by omega, h⟩, fun v H' hy => ?_⟩
    obtain ⟨eH, dt, hd, rv⟩ := wk.yld i Hc v H' (stay Rc kp) hi hy
    rw [eH]
    have hdr : items.drop i = dt :: items.drop (i + 1) := by
      rw [List.drop_eq_getElem_cons hi]
      have := (List.getElem?_eq_some_iff.mp hd).2
      rw [this]
    rw [hdr, forL] at w2
    refine sg Bf B Hfc Hc rc σc dt v _ _ Rc (Rep.mono kp.f _ _ rv) w2 fun r' σ' R' hk hfree w3 => ?_
    have kp' := kp.trans (keep_set hfree hk)
    refine sb' Bf B Hfc Hc r' σ' _ _ R' w3 ⟨fun r2 σ2 Hf2 H2 R2 k2 q => ⟨r2, Hf2, R2, kp'.trans k2, q⟩, fun r2 σ2 Hf2 H2 R2 k2 q => kE R2 (kp'.trans k2) q, fun r2 σ2 Hf2 H2 R2 k2 q => ⟨r2, Hf2, R2, kp'.trans k2, q⟩, k.rt, k.wx⟩
  · refine .inl ⟨wk.stop i Hc (stay Rc kp) (by omega), ?_⟩
    rw [List.drop_eq_nil_of_le (by omega)] at w2
    exact kE Rc kp w2
theorem js_whl {e : IE} {ea : Expr} {b : ISs} {sb : List Stmt} {pos} (he : Jd X sc G e ea) (hb : JdSs X sc W rz G fresh b sb) : JdS X sc W rz G fresh (.whl e b) (.While ea sb [] pos) := by
  obtain ⟨_, tt, pt, st⟩ := he
  obtain ⟨tb, pb, sb'⟩ := hb
  refine ⟨_, fun q hq hf => ps_while (X := at' X q) hf.2.1 (pt q hq) (pb q hq hf), fun Bf B Hf H r σ D E R w k => ?_⟩
  rw [wpS] at w
  obtain ⟨I, ⟨m0, i0⟩, turn⟩ := w
  refine ⟨fun m σc Hc => ∃ (rc : Ev) (Hfc : Hp), StR X.K X.N.length Bf B Hfc Hc rc σc ∧ Keep r σ Hf H rc σc Hfc Hc ∧ I m rc, ⟨m0, r, Hf, R, Keep.refl _ _ _ _, i0⟩, ?_⟩
  rintro m σc Hc ⟨rc, Hfc, Rc, kp, im⟩
  refine st Bf B Hfc Hc rc σc _ _ Rc (turn m rc im) fun c H1f H1 z1 w1 => ?_
  cases c with
  | false => exact iteF (k.nx _ _ _ _ (Rc.ext z1) (kp.trans (keep_ext Rc z1)) (by simpa using w1))
  | true =>
    refine iteT ⟨fun σn Hn => ∃ m', m' < m ∧ ∃ (rc : Ev) (Hfc : Hp), StR X.K X.N.length Bf B Hfc Hn rc σn ∧ Keep r σ Hf H rc σn Hfc Hn ∧ I m' rc, fun σ' H' h => h, ?_⟩
    have w2 : wpSs G b rc { nx := fun r' => ∃ m', m' < m ∧ I m' r', ct := fun r' => ∃ m', m' < m ∧ I m' r', bk := D.nx, rt := D.rt } := by simpa using w1
    have kp' := kp.trans (keep_ext Rc z1)
    exact sb' Bf B H1f H1 rc σc _ _ (Rc.ext z1) w2 ⟨fun r2 σ2 Hf2 H2 R2 k2 ⟨m', hm, q⟩ => ⟨m', hm, r2, Hf2, R2, kp'.trans k2, q⟩, fun r2 σ2 Hf2 H2 R2 k2 q => k.nx _ _ _ _ R2 (kp'.trans k2) q, fun r2 σ2 Hf2 H2 R2 k2 ⟨m', hm, q⟩ => ⟨m', hm, r2, Hf2, R2, kp'.trans k2, q⟩, k.rt, k.wx⟩
theorem js_retN {pos} : JdS X sc W rz G false .retN (.Return none pos) := ⟨_, fun q _ _ => ps_retN, fun Bf B Hf H r σ D E R w k => by
  rw [wpS] at w
  exact k.rt PyData.none V.non Hf H R.e (rep_none (K := X.K) (H := Hf)) w⟩
theorem js_ret {e : IE} {ea : Expr} {pos} (he : Jd X sc G e ea) : JdS X sc W rz G false (.ret e) (.Return (some ea) pos) := by
  obtain ⟨⟨t, p, _, s⟩, _⟩ := he
  refine ⟨_, fun q hq _ => ps_ret (p q hq), fun Bf B Hf H r σ D E R w k => ?_⟩
  rw [wpS] at w
  refine s Bf B Hf H r σ _ _ R w fun dd v H1f H1 z1 rep no w1 => ?_
  have R1 := R.ext z1
  by_cases ho : isOwnE e r = false
  · exact k.rt dd v H1f H1 R1.e (no.no ho) w1
  · obtain ⟨j, d', ⟨rfl, hj⟩ | ⟨j2, l2, rfl, hm⟩⟩ := isOwnE_cases ho
    rotate_left
    · exact (pk_mem hm w).elim
    rcases rep with rep | rep
    · exact k.rt dd v H1f H1 R1.e rep w1
    · obtain ⟨p', o, e1, _, hB, e2, e3⟩ := R1.lckAt (d := d') (hj.elim .inr .inl)
      have hs := no.sl j rfl
      rw [e1] at hs
      cases hs
      refine k.rt dd _ (upd H1f p' o) H1 ⟨R1.e.a, R1.e.b.trans (Same.frz R1.e.c e3 e2).1, (Same.frz R1.e.c e3 e2).2, fun q hq => ?_⟩ (rep.freeze e2) w1
      rw [upd_ne (fun e => hq (by rw [e]; exact hB))]
      exact R1.e.d q hq
theorem js_retO (x : XOk N T cs d X) (hk : sc.kind = .function) {e : IE} {ea : Expr} {pos} (hf : (match e with | .var _ => true | _ => isFr (T.map (·.fresh)) e) = true) (h : chkE (ckOf N T cs) sc e ea = true) : JdS X sc W rz (Gof T) true (.retO e) (.Return (some ea) pos) := by
  by_cases hv : ∃ i, e = .var i
  · obtain ⟨i, rfl⟩ := hv
    obtain ⟨y, py, rfl⟩ : ∃ y py, ea = .Name y py := by
      have h' := h
      unfold chkE at h'
      split at h'
      · exact ⟨_, _, rfl⟩
      · cases h'
    refine ⟨_, fun q hq _ => ps_ret (pe_slot x h q hq), fun Bf B Hf H r σ D E R w k => ?_⟩
    rw [wpS] at w
    have w' : (match r.get i with | .own d => D.rt d | _ => False) := w
    cases e : r.get i with
    | own dd =>
      rw [e] at w'
      obtain ⟨p', o, e1, orep, hB, e2, e3⟩ := R.lckAt (.inr e)
      exact ⟨_, e1, k.rt dd _ Hf H R.e ⟨orep, fun q eq => by cases eq; exact hB⟩ w'⟩
    | _ => rw [e] at w'; exact w'.elim
  · have key : ∃ t, AllE X sc ea t ∧ SemO X (Gof T) e t := by
      by_cases hc : ∃ elt tg it ifs, e = .comp elt tg it ifs
      · obtain ⟨elt, tg, it, ifs, rfl⟩ := hc
        unfold chkE at h
        split at h
        · simp only [Bool.and_eq_true, decide_eq_true_eq] at h
          obtain ⟨⟨⟨⟨⟨h1, h2⟩, h3⟩, h4⟩, h5⟩, h6⟩ := h
          obtain ⟨ji, ok⟩ := sndIt x it sc _ h1
          obtain ⟨tt, p, s⟩ := comp_pe x rfl ok h2 ji (jg_of x rfl h3) (sndF x ifs _ _ h4 h5) (sndE x elt _ _ h6)
          refine ⟨_, fun q hq => ?_, s⟩
          obtain ⟨p1, p2, p3, p4, p5⟩ := p q hq
          exact pe_lc (X := at' X q) x.calm (by show X.N.Nodup; rw [x.n]; exact x.nd) p1 p2 p3 p4 p5 (fun v => okE.fold ok _ _)
        · cases h
      · have hf' : isFr (T.map (·.fresh)) e = true := by
          cases e <;> first
            | exact hf
            | exact absurd ⟨_, rfl⟩ hv
        exact (fr_ok x hf' hc h).2
    obtain ⟨t, p, s⟩ := key
    refine ⟨_, fun q hq _ => ps_ret (p q hq), fun Bf B Hf H r σ D E R w k => ?_⟩
    have w' : wpE (Gof T) e r fun d => flat d = false ∧ D.rt d := by
      cases e <;> first
        | exact absurd ⟨_, rfl⟩ hv
        | (simp only [wpS] at w; exact w)
    refine s Bf B Hf H r σ _ _ R w' fun dd v H1f H1 z1 rep w1 => ?_
    obtain ⟨nf, w1⟩ := w1
    rcases rep with ⟨rep, hn⟩ | ⟨fl, _⟩
    · exact k.rt dd v H1f H1 (R.ext z1).e ⟨rep, fun p e => R.e.a.free (hn p e)⟩ w1
    · rw [nf] at fl
      cases fl
mutual
theorem sndS (x : XOk N T cs d X) (hk : sc.kind = .function) : ∀ (s : IS) (st : Stmt), chkSz rz (ckOf N T cs) (T.map (·.fresh)) fresh sc s st = true → JdS X sc W rz (Gof T) fresh s st
  | .skip, st, h => by
    unfold chkSz at h
    split at h
    · exact js_skip
    · exact js_pass
    · cases h
  | .brk, st, h => by
    unfold chkSz at h
    split at h
    · exact js_brk
    · cases h
  | .cont, st, h => by
    unfold chkSz at h
    split at h
    · exact js_cont
    · cases h
  | .set i e, st, h => by
    unfold chkSz at h
    split at h
    · rw [Bool.and_eq_true] at h
      exact js_set x hk h.1 h.2
    · cases h
  | .setO i e, st, h => by
    unfold chkSz at h
    split at h
    · simp only [Bool.and_eq_true] at h
      exact js_setO x hk h.1.1 h.1.2 h.2
    · cases h
  | .setT is e, st, h => by
    unfold chkSz at h
    split at h
    · simp only [Bool.and_eq_true] at h
      exact js_setT x h.1.1 h.1.2 (sndE x e sc _ h.2)
    · cases h
  | .par2 i j a b, st, h => by
    unfold chkSz at h
    split at h
    · simp only [Bool.and_eq_true, decide_eq_true_eq, Bool.not_eq_true', ne_eq, decide_not] at h
      obtain ⟨⟨⟨⟨⟨⟨⟨⟨⟨h1, h2⟩, h3⟩, h4⟩, h5⟩, h6⟩, h7⟩, h8⟩, h9⟩, h10⟩ := h
      exact js_par2 x hk h1 h2 h3 h4 (of_decide_eq_false h5) h6 h7 h8 (chkE_ok h9) (chkE_ok h10) (sndE x a sc _ h9) (sndE x b sc _ h10)
    · cases h
  | .mcal i A E f es m, st, h => by
    unfold chkSz at h
    split at h
    · simp only [Bool.and_eq_true, decide_eq_true_eq] at h
      obtain ⟨⟨⟨⟨⟨⟨⟨⟨⟨⟨⟨h1, h2⟩, h3⟩, h4⟩, h5⟩, h6⟩, h7⟩, h8⟩, h9⟩, h10⟩, h11⟩, h12⟩ := h
      exact js_mcal x h1 h2 h3 (chkE_ok h4) (sndE x A sc _ h4) (sndE x E sc _ h5) h6 h7 (chkE_ok h8) (chkE_ok h9) (chkE_ok h10) (sndE x _ sc _ h8) (sndE x _ sc _ h9) (sndE x _ sc _ h10) h11 h12
    · cases h
  | .mcmp i f es tg it m, st, h => by
    unfold chkSz at h
    split at h
    · simp only [Bool.and_eq_true, decide_eq_true_eq] at h
      obtain ⟨⟨⟨⟨⟨⟨⟨⟨⟨⟨⟨h1, h2⟩, h3⟩, h4⟩, h5⟩, h6⟩, h7⟩, h8⟩, h9⟩, h10⟩, h11⟩, h12⟩ := h
      obtain ⟨ji, ok⟩ := sndIt x it sc _ h4
      exact js_mcmp x hk h1 h2 h3 ok ji h5 (jg_of x rfl h6) (chkE_ok h7) (chkE_ok h8) (chkE_ok h9) (sndE x _ _ _ h7) (sndE x _ _ _ h8) (sndE x _ _ _ h9) h10 h11 h12
    · cases h
  | .swp i a b, st, h => by
    unfold chkSz at h
    split at h
    · simp only [Bool.and_eq_true] at h
      obtain ⟨⟨⟨⟨⟨⟨⟨h1, h2⟩, h3⟩, h4⟩, h5⟩, h6⟩, h7⟩, h8⟩ := h
      exact js_swp x h1 h2 h3 h4 h5 h6 h7 h8
    · cases h
  | .setI i k e, st, h => by
    unfold chkSz at h
    split at h
    · simp only [Bool.and_eq_true] at h
      exact js_setI x h.1.1 (chkE_ok h.1.2) (sndE x k sc _ h.1.2) (sndE x e sc _ h.2)
    · cases h
  | .dput i k e, st, h => by
    unfold chkSz at h
    split at h
    · simp only [Bool.and_eq_true] at h
      exact js_dput x h.1.1.1 h.1.1.2 (chkE_ok h.1.2) (sndE x k sc _ h.1.2) (sndE x e sc _ h.2)
    · cases h
  | .rse, st, h => by
    unfold chkSz at h
    split at h
    · exact js_rse
    · cases h
  | .rsx f, st, h => by
    unfold chkSz at h
    split at h
    · simp only [Bool.and_eq_true, decide_eq_true_eq] at h
      exact js_rsx x h.1.1 h.1.2 h.2
    · cases h
  | .drx f es, st, h => by
    unfold chkSz at h
    split at h
    · simp only [Bool.and_eq_true, decide_eq_true_eq] at h
      obtain ⟨⟨⟨⟨h1, h2⟩, h3⟩, h4⟩, h5⟩ := h
      obtain ⟨ok, es', hes⟩ := chkEs_cons h4
      exact js_drx x h1 h2 h5 h3 (sndEs x es sc _ h4) ok (fun env => ja_plain hes _ env)
    · cases h
  | .app i e, st, h => by
    unfold chkSz at h
    split at h
    · simp only [Bool.and_eq_true, decide_eq_true_eq] at h
      exact js_app x h.1.1.1 h.1.1.2 h.1.2 (chkE_ok h.2) (sndE x e sc _ h.2)
    · cases h
  | .ins i k e, st, h => by
    unfold chkSz at h
    split at h
    · simp only [Bool.and_eq_true, decide_eq_true_eq] at h
      exact js_ins x h.1.1.1.1 h.1.1.1.2 h.1.1.2 (chkE_ok h.1.2) (chkE_ok h.2) (sndE x k sc _ h.1.2) (sndE x e sc _ h.2)
    · cases h
  | .drop e, st, h => by
    unfold chkSz at h
    split at h
    · rw [Bool.and_eq_true] at h
      exact js_drop h.1 (sndE x e sc _ h.2)
    · cases h
  | .ife e a b, st, h => by
    unfold chkSz at h
    split at h
    · simp only [Bool.and_eq_true] at h
      exact js_ife (sndE x e sc _ h.1.1) (sndSs x hk a _ h.1.2) (sndSs x hk b _ h.2)
    · cases h
  | .fors tg it b, st, h => by
    unfold chkSz at h
    split at h
    · simp only [Bool.and_eq_true] at h
      obtain ⟨ji, ok⟩ := sndIt x it sc _ h.1.2
      exact js_for x ok (jg_of x rfl h.1.1) ji (sndSs x hk b _ h.2)
    · cases h
  | .whl e b, st, h => by
    unfold chkSz at h
    split at h
    · simp only [Bool.and_eq_true] at h
      exact js_whl (sndE x e sc _ h.1) (sndSs x hk b _ h.2)
    · cases h
  | .ret e, st, h => by
    unfold chkSz at h
    split at h
    · rw [Bool.and_eq_true, Bool.not_eq_true'] at h
      obtain ⟨rfl, h2⟩ := h
      exact js_ret (sndE x e sc _ h2)
    · cases h
  | .retO e, st, h => by
    unfold chkSz at h
    split at h
    · simp only [Bool.and_eq_true] at h
      obtain ⟨⟨rfl, h1⟩, h2⟩ := h
      exact js_retO x hk h1 h2
    · cases h
  | .retN, st, h => by
    unfold chkSz at h
    split at h
    · rw [Bool.not_eq_true'] at h
      subst h
      exact js_retN
    · cases h
theorem sndSs (x : XOk N T cs d X) (hk : sc.kind = .function) : ∀ (s : ISs) (st : List Stmt), chkSsz rz (ckOf N T cs) (T.map (·.fresh)) fresh sc s st = true → JdSs X sc W rz (Gof T) fresh s st
  | .nil, st, h => by
    cases st with
    | nil => exact js_nil
    | cons a as => exact absurd h (by simp [chkSsz])
  | .cons s ss, st, h => by
    cases st with
    | nil => exact absurd h (by simp [chkSsz])
    | cons a as =>
      rw [chkSsz, Bool.and_eq_true] at h
      exact js_cons (sndS x hk s a h.1) (sndSs x hk ss as h.2)
  | .fgt is ss, st, h => by
    rw [chkSsz] at h
    exact js_fgt (sndSs x hk ss st h)
end
end
end CF
namespace CF
open PySem PySem.Spec PyProof.Rows L2
def startE (n : Nat) (ds : List PyData) : Ev := ds.map .val ++ List.replicate (n - ds.length) .un
theorem start_rel {K : PySem.W.Frag} {Hf H : Hp} {N : List Str} {ds : List PyData} {vs : List V} (s : Same Hf H) (r : RepL K Hf ds vs) (hl : ds.length ≤ N.length) : StR K N.length Hf H Hf H (startE N.length ds) (L2.start N vs) := by
  have hv := r.length
  have get1 : ∀ i, (startE N.length ds).get i = (match ds[i]? with | some d => .val d | none => .un) := fun i => by
    unfold startE Ev.get
    rw [List.getD_eq_getElem?_getD]
    by_cases hi : i < ds.length
    · rw [List.getElem?_append_left (by simpa using hi), List.getElem?_map, List.getElem?_eq_getElem hi]
      rfl
    · rw [List.getElem?_append_right (by simpa using hi), List.getElem?_eq_none (l := ds) (by omega), List.getElem?_replicate]
      split <;> rfl
  refine ⟨?_, ?_, fun i => ?_, fun i j p hij h1 => ?_, Ext.refl s⟩
  · unfold startE
    rw [List.length_append, List.length_map, List.length_replicate]
    omega
  · unfold startE L2.start
    rw [List.length_append, List.length_map, List.length_replicate, List.length_append, List.length_map, List.length_replicate]
    omega
  · rw [get1]
    cases e : ds[i]? with
    | none => exact trivial
    | some d =>
      obtain ⟨v, e1, e2⟩ := r.get e
      refine ⟨v, ?_, e2⟩
      have hi : i < vs.length := (List.getElem?_eq_some_iff.mp e1).1
      unfold L2.start
      rw [List.getElem?_append_left (by simpa using hi), List.getElem?_map, e1]
      rfl
  · rw [get1] at h1
    cases e : ds[i]? with
    | none => rw [e] at h1; cases h1
    | some d => rw [e] at h1; cases h1
section
variable {P : Program} {w : World} {K : PySem.W.Frag} {mg : Str → Option Value} {base : Heap}
/-- what a module has for every def -/
structure MdOk (mg : Str → Option Value) (cs : List (Str × Int)) : Prop where
  mb : ∀ x ∈ bnames, mg x = none
  cs : ∀ x i, (x, i) ∈ cs → ∃ t, mg x = some (.int i t)
theorem takesF {X : Cx} : Takes X (fun _ _ _ _ => False) := fun u s' x => by
  obtain ⟨_, _, _, _, _, _, _, _, _, _, _, _, _, _, _, _, w⟩ := x
  exact w.elim
/-- THE RULE: a def of the text keeps a promise over plain data -/
theorem def_ok {x qual : Str} {st : Stmt} {f : Addr} {fd : FuncData} {N ps : List Str} {d : Nat} {T : List FnE} {cs : List (Str × Int)} {body : ISs} {fresh : Bool} {G : Pm}
    (M : MdOk mg cs) (F : Fun K x qual st f fd) (S : FnScope N ps (defScope st)) (hT : ∀ (i : Nat) g, T[i]? = some g → ∃ f', FnAt P w K mg base d g f')
    (hch : chkSs (ckOf N T cs) (T.map (·.fresh)) fresh (defScope st) body (defBody st) = true)
    (hsem : ∀ ds R, ds.length = ps.length → G ds R → wpSs (Gof T) body (startE N.length ds) { nx := fun _ => fresh = false ∧ R .none, rt := R }) :
    FnM P w K mg base (d + 1) f fd ps (spD K ps.length fresh G) := by
  obtain ⟨oc, od, kV, doc, pm, an, cdv, ct, osl, rfl, lk, hcd⟩ := F.ex
  refine fn_ofM lk hcd S (fun vs H Q h => h.1) fun A outer s H vs Q hr hsp => ?_
  obtain ⟨hlen, Hf, ds, R, hs, rep, hG, hQ⟩ := hsp
  have hX : XOk N T cs d (cxOf CX0 P w K mg base N qual (defScope st) f cdv A outer s H E0) := ⟨rfl, S.nd, rfl, hr, M.mb, M.cs, hT⟩
  obtain ⟨t, pt, sem⟩ := sndSs (fresh := fresh) (W := fun _ _ _ _ => False) (rz := false) hX S.kind body _ hch
  refine ⟨t, pt ⟨s, H, _, outer, _, [], fun _ => true, [], fun _ _ => False⟩ rfl ⟨fun _ => rfl, PassesOwn.never, takesF⟩, ?_⟩
  have hdl : ds.length = ps.length := by rw [rep.length]; exact hlen
  have hpl : ds.length ≤ N.length := by
    have := congrArg List.length S.pre
    rw [List.length_take] at this
    omega
  refine sem Hf H Hf H _ _ _ _ (start_rel hs rep hpl) (hsem ds R hdl hG) ⟨fun r' σ' Hf' H' R' _ q => ?_, fun _ _ _ _ _ _ q => q, fun _ _ _ _ _ _ q => q, fun dd v Hf' H' z rr q => hQ dd v Hf' H' z rr q, fun z => nomatch z⟩
  obtain ⟨q1, q2⟩ := q
  refine hQ .none .non Hf' H' R'.e ?_ q2
  rw [q1]
  exact (rep_none (K := K) (H := Hf'))
/-! ### a def that walks a dict that it is handed: it is locked while the body runs -/
theorem pss_lockOr {X : Cx} {st : List Stmt} {t : TS} (h : PSs X st t) : PSs X st (fun D σ H => t D σ H ∨ tLock t D σ H) := by
  refine ⟨fun pins s σ H D I hw => ?_⟩
  rcases hw with hw | hw
  · exact h.run pins s σ H D I hw
  obtain ⟨d, u, hd, mu, hw⟩ := hw
  obtain ⟨od, I1⟩ := I.lock hd mu
  refine thn (h.run pins s σ _ _ I1 (hw od)) fun f s1 q => ?_
  cases f with
  | next => obtain ⟨σ', H', I2, e, q⟩ := q; exact ⟨σ', _, I2.unlock e (I.nofrz hd mu), q⟩
  | brk => obtain ⟨σ', H', I2, e, q⟩ := q; exact ⟨σ', _, I2.unlock e (I.nofrz hd mu), q⟩
  | cont => obtain ⟨σ', H', I2, e, q⟩ := q; exact ⟨σ', _, I2.unlock e (I.nofrz hd mu), q⟩
  | ret v => obtain ⟨x, σ', H', I2, r, e, q⟩ := q; exact ⟨x, σ', _, I2.unlock e (I.nofrz hd mu), r, q⟩
section
variable {K : PySem.W.Frag} {H : Hp} {a : Addr} {od : Obj} {ks : List (Key × V)}
theorem SqL.lock {b : Addr} {vs : List V} (h : H a = some (.dK ks)) (q : SqL K H b vs) : SqL K (upd H a (.frz od (.dK ks))) b vs := by
  rcases q with (q | ⟨o, q⟩) | q
  · exact .inl (.inl (by rw [upd_ne (fun e => by rw [e, h] at q; cases q)]; exact q))
  · exact .inl (.inr ⟨o, by rw [upd_ne (fun e => by rw [e, h] at q; cases q)]; exact q⟩)
  · exact .inr q
mutual
theorem Rep.lock (h : H a = some (.dK ks)) : ∀ (d : PyData) (v : V), Rep K H d v → Rep K (upd H a (.frz od (.dK ks))) d v
  | .none, v, q => by unfold Rep at q ⊢; exact q
  | .bool b, v, q => by unfold Rep at q ⊢; exact q
  | .int i, v, q => by unfold Rep at q ⊢; exact q
  | .str x, v, q => by unfold Rep at q ⊢; exact q
  | .tuple xs, v, q => by
    unfold Rep at q ⊢
    obtain ⟨b, vs, e, h1, h2⟩ := q
    exact ⟨b, vs, e, by rw [upd_ne (fun e => by rw [e, h] at h1; cases h1)]; exact h1, RepL.lock h xs vs h2⟩
  | .list xs, v, q => by
    unfold Rep at q ⊢
    obtain ⟨b, vs, e, h1, h2⟩ := q
    exact ⟨b, vs, e, SqL.lock h h1, RepL.lock h xs vs h2⟩
  | .dict kvs, v, q => by
    unfold Rep at q ⊢
    obtain ⟨b, us, e, h1, h2⟩ := q
    refine ⟨b, us, e, ?_, h2⟩
    by_cases hb : b = a
    · subst hb
      rcases h1 with h1 | ⟨o, h1⟩
      · rw [h] at h1
        cases h1
        exact .inr ⟨od, upd_same⟩
      · rw [h] at h1
        cases h1
    · rcases h1 with h1 | ⟨o, h1⟩
      · exact .inl (by rw [upd_ne hb]; exact h1)
      · exact .inr ⟨o, by rw [upd_ne hb]; exact h1⟩
theorem RepL.lock (h : H a = some (.dK ks)) : ∀ (ds : List PyData) (vs : List V), RepL K H ds vs → RepL K (upd H a (.frz od (.dK ks))) ds vs
  | [], vs, q => by unfold RepL at q ⊢; exact q
  | x :: xs, vs, q => by
    unfold RepL at q ⊢
    obtain ⟨v, r, e, h1, h2⟩ := q
    exact ⟨v, r, e, Rep.lock h x v h1, RepL.lock h xs r h2⟩
end
theorem start_kyd {n : Nat} {Bf B : Hp} {r : Ev} {σ : L2.St} {j : Nat} {l : List (Int × Int)} {p : Addr} {o : Obj} (R : StR K n Bf B Bf B r σ) (hs : σ[j]? = some (some (.ref p))) (hH : Bf p = some (.frz o (.dK (dV l)))) (no : ∀ i, (r.get i).isO = false) : StR K n Bf B Bf B (r.set j (.kyd l)) σ := by
  have g : ∀ i, (Ev.get (r.set j (.kyd l)) i = .kyd l ∧ i = j) ∨ Ev.get (r.set j (.kyd l)) i = r.get i := fun i => by
    by_cases e : j = i
    · subst e
      by_cases hi : j < r.length
      · exact .inl ⟨Ev.get_set_same hi, rfl⟩
      · exact .inr (by rw [List.set_eq_of_length_le (by omega)])
    · exact .inr (Ev.get_set_ne e)
  refine ⟨by rw [List.length_set]; exact R.ln, by rw [List.length_set]; exact R.len, fun i => ?_, fun i k q hik h1 => ?_, R.e⟩
  · rcases g i with ⟨e, rfl⟩ | e
    · rw [e]
      exact ⟨p, o, hs, hH⟩
    · rw [e]
      exact R.sl i
  · rcases g i with ⟨e, rfl⟩ | e
    · rw [e] at h1
      cases h1
    · rw [e, no i] at h1
      cases h1
end
theorem startE_noO {n : Nat} {ds : List PyData} (i : Nat) : ((startE n ds).get i).isO = false := by
  unfold startE Ev.get
  rw [List.getD_eq_getElem?_getD]
  by_cases hi : i < ds.length
  · rw [List.getElem?_append_left (by simpa using hi), List.getElem?_map, List.getElem?_eq_getElem hi]
    rfl
  · rw [List.getElem?_append_right (by simpa using hi), List.getElem?_replicate]
    split <;> rfl
theorem def_okL {x qual : Str} {st : Stmt} {f : Addr} {fd : FuncData} {N ps : List Str} {d : Nat} {T : List FnE} {cs : List (Str × Int)} {body : ISs} {G : Pm} (j : Nat)
    (M : MdOk mg cs) (F : Fun K x qual st f fd) (S : FnScope N ps (defScope st)) (hT : ∀ (i : Nat) g, T[i]? = some g → ∃ f', FnAt P w K mg base d g f')
    (hch : chkSs (ckOf N T cs) (T.map (·.fresh)) false (defScope st) body (defBody st) = true)
    (hG : ∀ ds R, G ds R → ∃ l, ds[j]? = some (.dict (dL l)))
    (hsem : ∀ ds R l, ds.length = ps.length → G ds R → ds[j]? = some (.dict (dL l)) → wpSs (Gof T) body ((startE N.length ds).set j (.kyd l)) { nx := fun _ => R .none, rt := fun d => flat d = true ∧ R d }) :
    FnM P w K mg base (d + 1) f fd ps (spD K ps.length false G) := by
  obtain ⟨oc, od, kV, doc, pm, an, cdv, ct, osl, rfl, lk, hcd⟩ := F.ex
  refine fn_ofM lk hcd S (fun vs H Q h => h.1) fun A outer s H vs Q hr hsp => ?_
  obtain ⟨hlen, Hf, ds, R, hs, rep, hg, hQ⟩ := hsp
  have hX : XOk N T cs d (cxOf CX0 P w K mg base N qual (defScope st) f cdv A outer s H E0) := ⟨rfl, S.nd, rfl, hr, M.mb, M.cs, hT⟩
  obtain ⟨t, pt, sem⟩ := sndSs (fresh := false) (W := fun _ _ _ _ => False) (rz := false) hX S.kind body _ hch
  refine ⟨_, pss_lockOr (pt ⟨s, H, _, outer, _, [], fun _ => true, [], fun _ _ => False⟩ rfl ⟨fun _ => rfl, PassesOwn.never, takesF⟩), ?_⟩
  have hdl : ds.length = ps.length := by rw [rep.length]; exact hlen
  have hpl : ds.length ≤ N.length := by
    have := congrArg List.length S.pre
    rw [List.length_take] at this
    omega
  obtain ⟨l, hl⟩ := hG ds R hg
  obtain ⟨v, hv, rv⟩ := rep.get hl
  unfold Rep at rv
  obtain ⟨a, ks, rfl, hrd, l', e1, e2⟩ := rv
  obtain rfl := dL_inj e1
  subst e2
  have hsl : (L2.start N vs)[j]? = some (some (.ref a)) := by
    have hi : j < vs.length := (List.getElem?_eq_some_iff.mp hv).1
    unfold L2.start
    rw [List.getElem?_append_left (by simpa using hi), List.getElem?_map, hv]
    rfl
  have w := hsem ds R l hdl hg hl
  have fin : ∀ (H' : Hp) (d : PyData) (v : V) (Hx : Hp), Same H H' → flat d = true → Rep K Hx d v → R d → Q v H' := fun H' d v Hx hH fl rr q => hQ d v Hf H' ⟨hH, Same.refl _, hs.trans hH, fun _ _ => rfl⟩ (by rw [if_neg Bool.false_ne_true]; exact Rep.flat fl rr) q
  rcases hrd with hrd | ⟨o, hrd⟩
  · refine .inr ⟨a, _, hs _ _ hrd, trivial, fun od => ?_⟩
    have s2 : Same (upd Hf a (.frz od (.dK (dV l)))) (upd H a (.frz od (.dK (dV l)))) := fun b u e => by
      by_cases hb : b = a
      · subst hb
        rw [upd_same] at e ⊢
        exact e
      · rw [upd_ne hb] at e ⊢
        exact hs _ _ e
    have back : ∀ H' : Hp, Same (upd H a (.frz od (.dK (dV l)))) H' → H' a = some (.frz od (.dK (dV l))) ∧ Same H (upd H' a (.dK (dV l))) := fun H' h => ⟨h _ _ upd_same, fun b u e => by
      by_cases hb : b = a
      · subst hb
        rw [hs _ _ hrd] at e
        cases e
        exact upd_same
      · rw [upd_ne hb]
        exact h _ _ (by rw [upd_ne hb]; exact e)⟩
    refine sem _ _ _ _ _ _ _ _ (start_kyd (start_rel s2 (RepL.lock hrd _ _ rep) hpl) hsl upd_same startE_noO) w ⟨fun r' σ' Hf' H' R' _ q => ?_, fun _ _ _ _ _ _ q => q.elim, fun _ _ _ _ _ _ q => q.elim, fun dd v Hf' H' z rr q => ?_, fun z => nomatch z⟩
    · obtain ⟨b1, b2⟩ := back H' R'.e.a
      exact ⟨b1, fin _ .none .non Hf' b2 rfl (rep_none (K := K) (H := Hf')) q⟩
    · obtain ⟨b1, b2⟩ := back H' z.a
      exact ⟨b1, fin _ dd v Hf' b2 q.1 (by unfold RetR at rr; rw [if_neg Bool.false_ne_true] at rr; exact rr) q.2⟩
  · refine .inl (sem Hf H Hf H _ _ _ _ (start_kyd (start_rel hs rep hpl) hsl hrd startE_noO) w ⟨fun r' σ' Hf' H' R' _ q => ?_, fun _ _ _ _ _ _ q => q.elim, fun _ _ _ _ _ _ q => q.elim, fun dd v Hf' H' z rr q => ?_, fun z => nomatch z⟩)
    · exact fin _ .none .non Hf' R'.e.a rfl (rep_none (K := K) (H := Hf')) q
    · exact fin _ dd v Hf' z.a q.1 (by unfold RetR at rr; rw [if_neg Bool.false_ne_true] at rr; exact rr) q.2
/-- the same of a def that may raise -/
theorem def_okX {x qual : Str} {st : Stmt} {f : Addr} {fd : FuncData} {N ps : List Str} {d : Nat} {T : List FnE} {cs : List (Str × Int)} {body : ISs} {G : Pm}
    (M : MdOk mg cs) (F : Fun K x qual st f fd) (S : FnScope N ps (defScope st)) (hT : ∀ (i : Nat) g, T[i]? = some g → ∃ f', FnAt P w K mg base d g f')
    (hch : chkSsz true (ckOf N T cs) (T.map (·.fresh)) false (defScope st) body (defBody st) = true)
    (hsem : ∀ ds R, ds.length = ps.length → G ds R → wpSs (Gof T) body (startE N.length ds) { nx := fun _ => R .none, rt := R }) :
    FnX P w K mg base (d + 1) f fd ps (spX K mg ps.length G) := by
  obtain ⟨oc, od, kV, doc, pm, an, cdv, ct, osl, rfl, lk, hcd⟩ := F.ex
  refine fn_ofX lk hcd S (fun vs H Q E h => h.1) fun A outer s H vs Q E hr hsp => ?_
  obtain ⟨hlen, Hf, ds, R, hs, rep, hG, hQ, hE⟩ := hsp
  have hX : XOk N T cs d (cxOf (L2.CX P w) P w K mg base N qual (defScope st) f cdv A outer s H E) := ⟨rfl, S.nd, rfl, hr, M.mb, M.cs, hT⟩
  obtain ⟨t, pt, sem⟩ := sndSs (fresh := false) (W := fun cls d _ H => E cls d H) (rz := true) hX S.kind body _ hch
  refine ⟨t, pt ⟨s, H, _, outer, _, [], fun _ => true, [], _⟩ rfl ⟨fun _ => rfl, passes_of rfl, takes_of rfl rfl rfl rfl⟩, ?_⟩
  have hdl : ds.length = ps.length := by rw [rep.length]; exact hlen
  have hpl : ds.length ≤ N.length := by
    have := congrArg List.length S.pre
    rw [List.length_take] at this
    omega
  refine sem Hf H Hf H _ _ _ _ (start_rel hs rep hpl) (hsem ds R hdl hG) ⟨fun r' σ' Hf' H' R' _ q => ?_, fun _ _ _ _ _ _ q => q, fun _ _ _ _ _ _ q => q, fun dd v Hf' H' z rr q => hQ dd v Hf' H' z (by unfold RetR at rr; rw [if_neg Bool.false_ne_true] at rr; exact rr) q, fun _ x σ' Hf' H' C z hm q => hE x C H' z.a hm q⟩
  exact hQ .none .non Hf' H' R'.e (rep_none (K := K) (H := Hf')) q
theorem FnX.at {x : Str} {f : Addr} {fd : FuncData} {ps : List Str} {d : Nat} {fresh : Bool} {G : Pm} (h : FnX P w K mg base d f fd ps (spX K mg ps.length G)) (g : mg x = some (.ref f)) (k : PySem.W.keepIn K (.ref f) = true) (b : Binds K fd ps []) (hl : ps.length < 1000 := by decide) :
    FnAt P w K mg base d ⟨x, ps.length + 1000, fresh, G⟩ f := ⟨g, k, fun z => by dsimp only at z; omega, fun _ _ => ⟨fd, ps, rfl, b, by dsimp only; rw [Nat.add_sub_cancel]; exact h⟩, fun z => by dsimp only at z; omega, fun z => by dsimp only at z; omega⟩
/-- an exception class -/
def gExc (x : Str) : Pm := fun _ R => R (excD x)
theorem ExcOk.at {x : Str} {C : Addr} {d : Nat} {fresh : Bool} (h : ExcOk K C) (g : mg x = some (.ref C)) (k : PySem.W.keepIn K (.ref C) = true) : FnAt P w K mg base d ⟨x, 2000, fresh, gExc x⟩ C := ⟨g, k, fun z => by dsimp only at z; omega, fun _ z => by dsimp only at z; omega, fun _ _ => ⟨rfl, h⟩, fun z => by dsimp only at z; omega⟩
theorem FnM.at {x : Str} {f : Addr} {fd : FuncData} {ps : List Str} {d : Nat} {fresh : Bool} {G : Pm} (h : FnM P w K mg base d f fd ps (spD K ps.length fresh G)) (g : mg x = some (.ref f)) (k : PySem.W.keepIn K (.ref f) = true) (b : Binds K fd ps []) (hl : ps.length < 1000 := by decide) :
    FnAt P w K mg base d ⟨x, ps.length, fresh, G⟩ f := ⟨g, k, fun _ => ⟨fd, ps, rfl, b, h⟩, fun z => by dsimp only at z; omega, fun z => by dsimp only at z; omega, fun z => by dsimp only at z; omega⟩
theorem FnM.atM {x : Str} {f : Addr} {fd : FuncData} {ps : List Str} {d : Nat} {fresh : Bool} {G : Pm} (h : FnM P w K mg base d f fd ps (spMm K ps.length G)) (g : mg x = some (.ref f)) (k : PySem.W.keepIn K (.ref f) = true) (b : Binds K fd ps []) :
    FnAt P w K mg base d ⟨x, ps.length + 3000, fresh, G⟩ f := ⟨g, k, fun z => by dsimp only at z; omega, fun _ z => by dsimp only at z; omega, fun _ z => by dsimp only at z; omega, fun _ => ⟨fd, ps, rfl, b, by dsimp only; rw [Nat.add_sub_cancel]; exact h⟩⟩
/-- the law's own promise -/
def gLaw : Pm := fun ds R => ∃ ns : List Int, ds = [.list (ns.map PyData.int)] ∧ ns.length ≤ 63 ∧ R (.bool true)
def spLaw (K : PySem.W.Frag) : Sp := fun vs H Q _ => spD K 1 false gLaw vs H Q
theorem law_fn {x : Str} {f : Addr} {fd : FuncData} {d : Nat} (h : FnM P w K mg base d f fd [x] (spD K 1 false gLaw)) (hd : d ≤ 680) : FnOk P w K mg base CX0 230 f fd [x] (spLaw K) :=
  ⟨fun vs H Q E q => h.len vs H Q q, fun A outer s H args us vs Q E hr he hb hv hs => codeAny_mono (h.run A outer s H args us vs Q ⟨hr.hd, by
    have := hr.dp
    have e : recursionLimit = 1000 := rfl
    omega, by
    have := hr.un
    have e : cLine = 9900 := rfl
    omega⟩ he hb hv hs) fun r s' q => by
      cases r with
      | error e => exact q
      | ok fl => exact q⟩
theorem law_sp (K : PySem.W.Frag) (H : Hp) (a : Addr) (ns : List Int) (hn : ns.length ≤ 63) (_ : Only H) (hS : SqL K H a (ns.map V.int)) : spLaw K [.ref a] H (fun v _ => v = .bl true) fun _ _ _ => False := by
  refine ⟨rfl, H, [.list (ns.map PyData.int)], fun d => d = .bool true, Same.refl _, RepL.cons ?_ RepL.nil, ⟨ns, rfl, hn, rfl⟩, fun d v Hf' H' z rr q => ?_⟩
  · unfold Rep
    exact ⟨a, _, rfl, hS, repL_ints ns⟩
  · subst q
    have r' : Rep K Hf' (.bool true) v := rr
    unfold Rep at r'
    exact r'
end
end CF
namespace CF
open PySem PySem.Spec PyProof.Rows L2
section
variable {P : Program} {w : World} {K : PySem.W.Frag} {mg : Str → Option Value} {base : Heap}
abbrev TsOk (P : Program) (w : World) (K : PySem.W.Frag) (mg : Str → Option Value) (base : Heap) (d : Nat) (T : List FnE) : Prop := ∀ (i : Nat) g, T[i]? = some g → ∃ f', FnAt P w K mg base d g f'
theorem ts_nil {d : Nat} : TsOk P w K mg base d [] := fun i g h => by simp at h
theorem ts_cons {c d : Nat} {g : FnE} {f : Addr} {T : List FnE} (A : FnAt P w K mg base c g f) (r : TsOk P w K mg base d T) (h : c ≤ d := by decide) : TsOk P w K mg base d (g :: T) := fun i g' e => by
  cases i with
  | zero =>
    have e' : g = g' := by simpa using e
    subst e'
    exact ⟨f, A.mono h⟩
  | succ i => exact r i g' (by simpa using e)
theorem fnM_void {d : Nat} {f : Addr} {fd : FuncData} {ps : List Str} {fresh : Bool} {G : Pm} (hG : ∀ ds R, G ds R → False) : FnM P w K mg base d f fd ps (spD K ps.length fresh G) :=
  ⟨fun vs H Q h => h.1, fun A outer s H args us vs Q hr he hb hv hs => by
    obtain ⟨_, Hf, ds, R, _, _, h, _⟩ := hs
    exact (hG _ _ h).elim⟩
end
/-! ### reckoning -/
section
variable {G : Nat → Pm} {r : Ev} {Q : PyData → Prop} {D : Kt}
theorem get0 {x : Sl} {r : List Sl} : Ev.get (x :: r) 0 = x := rfl
theorem getS {x : Sl} {r : List Sl} {n : Nat} : Ev.get (x :: r) (n + 1) = Ev.get r n := rfl
theorem free_eq {r : Ev} {i : Nat} : Ev.free r i = (match r.get i with | .lck _ => false | .mem _ => false | _ => true) := rfl
theorem gof0 {g : FnE} {T : List FnE} : Gof (g :: T) 0 = g.G := rfl
theorem gofS {g : FnE} {T : List FnE} {n : Nat} : Gof (g :: T) (n + 1) = Gof T n := rfl
theorem pk_var_ {i : Nat} {w : (PyData → Prop) → Prop} : pk (.var i) r w Q = (match r.get i with | .val d => Q d | .own d => Q d | .lck d => Q d | _ => False) := rfl
theorem tr_bool_ {q : Bool → Prop} {b : Bool} : tr q (.bool b) = q b := propext ⟨tr_bool, fun h => ⟨b, rfl, h⟩⟩
theorem tr_lam {q : Bool → Prop} : (fun b => tr q (.bool b)) = q := funext fun b => tr_bool_
end
end CF
namespace CF
open PySem PySem.Spec PyProof.Rows L2
/-! ### rules to reckon with -/
theorem forL_idx {step : PyData → Ev → Kt → Prop} {items : List PyData} {D : Kt} {r : Ev} (I : Nat → Ev → Prop) (h0 : I 0 r) (hn : ∀ r, I items.length r → D.nx r)
    (hs : ∀ (i : Nat) x r (K : Ev → Prop), items[i]? = some x → I i r → (∀ r', I (i + 1) r' → K r') → step x r { nx := K, ct := K, bk := D.nx, rt := D.rt }) : forL step items D r := by
  have key : ∀ (l : List PyData) (i : Nat) (r : Ev), i + l.length = items.length → (∀ k, l[k]? = items[i + k]?) → I i r → forL step l D r := by
    intro l
    induction l with
    | nil =>
      intro i r e _ h
      rw [forL]
      have e' : i = items.length := by simpa using e
      subst e'
      exact hn r h
    | cons x xs ih =>
      intro i r e hk h
      rw [forL]
      refine hs i x r _ (by have := hk 0; simpa using this.symm) h fun r' h' => ih (i + 1) r' (by simp at e; omega) (fun k => ?_) h'
      have := hk (k + 1)
      rw [show i + 1 + k = i + (k + 1) by omega, ← this]
      rfl
  exact key items 0 r (by omega) (fun k => by rw [Nat.zero_add]) h0
theorem forL_rng {step : PyData → Ev → Kt → Prop} {n : Nat} {g : Nat → PyData} {D : Kt} {r : Ev} (I : Nat → Ev → Prop) (h0 : I 0 r) (hn : ∀ r, I n r → D.nx r)
    (hs : ∀ (i : Nat) r (K : Ev → Prop), i < n → I i r → (∀ r', I (i + 1) r' → K r') → step (g i) r { nx := K, ct := K, bk := D.nx, rt := D.rt }) : forL step ((List.range n).map g) D r := by
  refine forL_idx I h0 (by simpa using hn) fun i x r K hx hi hk => ?_
  rw [List.getElem?_map] at hx
  cases e : (List.range n)[i]? with
  | none => rw [e] at hx; cases hx
  | some j =>
    rw [e] at hx
    cases hx
    obtain ⟨h1, h2⟩ := List.getElem?_eq_some_iff.mp e
    simp at h1 h2
    subst h2
    exact hs _ r K h1 hi hk
theorem forL_map {α : Type} {step : PyData → Ev → Kt → Prop} {l : List α} {g : α → PyData} {D : Kt} {r : Ev} (I : Nat → Ev → Prop) (h0 : I 0 r) (hn : ∀ r, I l.length r → D.nx r)
    (hs : ∀ (i : Nat) (a : α) r (K : Ev → Prop), l[i]? = some a → I i r → (∀ r', I (i + 1) r' → K r') → step (g a) r { nx := K, ct := K, bk := D.nx, rt := D.rt }) : forL step (l.map g) D r := by
  refine forL_idx I h0 (by simpa using hn) fun i x r K hx hi hk => ?_
  rw [List.getElem?_map] at hx
  cases e : l[i]? with
  | none => rw [e] at hx; cases hx
  | some j =>
    rw [e] at hx
    cases hx
    exact hs _ _ r K e hi hk
/-- a walk that carries a value: what is done of the list, and what is left -/
theorem forL_fold {α σ : Type} {step : PyData → Ev → Kt → Prop} {g : α → PyData} {D : Kt} {r : Ev} (env : σ → Ev) (f : σ → α → σ) (P : σ → Prop) : ∀ {l : List α} {s : σ}, r = env s → P s → (hn : P (l.foldl f s) → D.nx (env (l.foldl f s))) →
    (hs : ∀ (a : α) (s : σ) (K : Ev → Prop), a ∈ l → P s → (P (f s a) → K (env (f s a))) → step (g a) (env s) { nx := K, ct := K, bk := D.nx, rt := D.rt }) → forL step (l.map g) D r := by
  intro l
  induction l generalizing r with
  | nil => intro s e p hn hs; subst e; rw [List.map_nil, forL]; exact hn p
  | cons a l ih =>
    intro s e p hn hs
    subst e
    rw [List.map_cons, forL]
    exact hs a s _ List.mem_cons_self p fun p' => ih rfl p' hn fun b s' K hb => hs b s' K (List.mem_cons_of_mem _ hb)
theorem compL_map {α : Type} {step : PyData → (Option PyData → Prop) → Prop} {g : α → PyData} (f : α → PyData) : ∀ {l : List α} {Q : List PyData → Prop}, (∀ a ∈ l, ∀ k : Option PyData → Prop, k (some (f a)) → step (g a) k) → Q (l.map f) → compL step (l.map g) Q
  | [], Q, h, q => by rw [List.map_nil, compL]; exact q
  | a :: l, Q, h, q => by
    rw [List.map_cons, compL]
    refine h a List.mem_cons_self _ ?_
    exact compL_map f (fun b hb => h b (List.mem_cons_of_mem _ hb)) q
theorem compL_filt {α : Type} {step : PyData → (Option PyData → Prop) → Prop} {g : α → PyData} (f : α → Option PyData) : ∀ {l : List α} {Q : List PyData → Prop}, (∀ a ∈ l, ∀ k : Option PyData → Prop, k (f a) → step (g a) k) → Q (l.filterMap f) → compL step (l.map g) Q
  | [], Q, h, q => by rw [List.map_nil, compL]; exact q
  | a :: l, Q, h, q => by
    rw [List.map_cons, compL]
    refine h a List.mem_cons_self _ ?_
    refine compL_filt f (fun b hb => h b (List.mem_cons_of_mem _ hb)) ?_
    rw [List.filterMap_cons] at q
    cases e : f a with
    | none => rw [e] at q; exact q
    | some y => rw [e] at q; exact q
/-- what comes of each item is known by a relation -/
theorem compL_rel {α β : Type} {step : PyData → (Option PyData → Prop) → Prop} {g : α → PyData} (R : α → β → Prop) (f : β → PyData) : ∀ {l : List α} {Q : List PyData → Prop}, (∀ a ∈ l, ∀ k : Option PyData → Prop, (∀ b, R a b → k (some (f b))) → step (g a) k) → (∀ bs : List β, bs.length = l.length → (∀ (i : Nat) a b, l[i]? = some a → bs[i]? = some b → R a b) → Q (bs.map f)) → compL step (l.map g) Q
  | [], Q, h, q => by
    rw [List.map_nil, compL]
    exact q [] rfl fun i a b e => by simp at e
  | a :: l, Q, h, q => by
    rw [List.map_cons, compL]
    refine h a List.mem_cons_self _ fun b hb => ?_
    refine compL_rel R f (fun c hc => h c (List.mem_cons_of_mem _ hc)) fun bs hl hr => ?_
    refine q (b :: bs) (by simp [hl]) fun i x y hx hy => ?_
    cases i with
    | zero =>
      simp at hx hy
      subst hx
      subst hy
      exact hb
    | succ i => exact hr i x y (by simpa using hx) (by simpa using hy)
section
variable {Q : PyData → Prop} {q : Bool → Prop}
theorem at_nat {α : Type} {xs : List α} {k : Nat} {d : α} (h : xs[k]? = some d) : atI xs (k : Int) = some d := by
  have hk : k < xs.length := (List.getElem?_eq_some_iff.mp h).1
  unfold atI ixN
  rw [if_pos (by omega), if_pos (by omega)]
  simpa using h
theorem at_int {α : Type} {xs : List α} {k : Int} {d : α} (h0 : 0 ≤ k) (h : xs[k.toNat]? = some d) : atI xs k = some d := by
  obtain ⟨n, rfl⟩ := Int.eq_ofNat_of_zero_le h0
  exact at_nat h
theorem ix_l {xs : List PyData} {i : Int} {d : PyData} (h : atI xs i = some d) (hq : Q d) : ixP (.list xs) (.int i) Q := ⟨d, h, hq⟩
theorem ix_t {xs : List PyData} {i : Int} {d : PyData} (h : atI xs i = some d) (hq : Q d) : ixP (.tuple xs) (.int i) Q := ⟨d, h, hq⟩
theorem at_lit0 {α : Type} {x : α} {xs : List α} : atI (x :: xs) 0 = some x := by
  refine at_nat (k := 0) rfl
theorem at_lit1 {α : Type} {x y : α} {xs : List α} : atI (x :: y :: xs) 1 = some y := by
  refine at_nat (k := 1) rfl
theorem at_lit2 {α : Type} {x y z : α} {xs : List α} : atI (x :: y :: z :: xs) 2 = some z := by
  refine at_nat (k := 2) rfl
theorem at_lit3 {α : Type} {x y z u : α} {xs : List α} : atI (x :: y :: z :: u :: xs) 3 = some u := by
  refine at_nat (k := 3) rfl
theorem at_lit4 {α : Type} {x y z u t : α} {xs : List α} : atI (x :: y :: z :: u :: t :: xs) 4 = some t := by
  refine at_nat (k := 4) rfl
theorem ex_some {α : Type} {a : α} {p : α → Prop} : (∃ d, some a = some d ∧ p d) ↔ p a := ⟨fun ⟨_, e, h⟩ => by cases e; exact h, fun h => ⟨a, rfl, h⟩⟩
theorem ex_eq_ {α : Type} {a : α} {p : α → Prop} : (∃ d, a = d ∧ p d) ↔ p a := ⟨fun ⟨_, e, h⟩ => by cases e; exact h, fun h => ⟨a, rfl, h⟩⟩
theorem ex_int {i : Int} {p : Int → Prop} : (∃ n, PyData.int i = .int n ∧ p n) ↔ p i := ⟨fun ⟨_, e, h⟩ => by cases e; exact h, fun h => ⟨i, rfl, h⟩⟩
theorem ex_tup {xs : List PyData} {p : List PyData → Prop} : (∃ n, PyData.tuple xs = .tuple n ∧ p n) ↔ p xs := ⟨fun ⟨_, e, h⟩ => by cases e; exact h, fun h => ⟨xs, rfl, h⟩⟩
theorem at2 {α : Type} {a b : α} {i : Int} {p : α → Prop} (h0 : 0 ≤ i) (h2 : i < 2) (ha : i = 0 → p a) (hb : i = 1 → p b) : ∃ d, atI [a, b] i = some d ∧ p d := by
  rcases (by omega : i = 0 ∨ i = 1) with rfl | rfl
  · exact ⟨a, at_lit0, ha rfl⟩
  · exact ⟨b, at_lit1, hb rfl⟩
theorem at3 {α : Type} {a b c : α} {i : Int} {p : α → Prop} (h0 : 0 ≤ i) (h2 : i < 3) (ha : i = 0 → p a) (hb : i = 1 → p b) (hc : i = 2 → p c) : ∃ d, atI [a, b, c] i = some d ∧ p d := by
  rcases (by omega : i = 0 ∨ i = 1 ∨ i = 2) with rfl | rfl | rfl
  · exact ⟨a, at_lit0, ha rfl⟩
  · exact ⟨b, at_lit1, hb rfl⟩
  · exact ⟨c, at_lit2, hc rfl⟩
theorem at_map {α β : Type} {xs : List α} {f : α → β} {k : Nat} {d : α} {p : β → Prop} (h : xs[k]? = some d) (hp : p (f d)) : ∃ e, atI (xs.map f) (k : Int) = some e ∧ p e := ⟨f d, at_nat (by rw [List.getElem?_map, h]; rfl), hp⟩
theorem at_mapI {α β : Type} {xs : List α} {f : α → β} {k : Int} {d : α} {p : β → Prop} (h0 : 0 ≤ k) (h : xs[k.toNat]? = some d) (hp : p (f d)) : ∃ e, atI (xs.map f) k = some e ∧ p e := ⟨f d, at_int h0 (by rw [List.getElem?_map, h]; rfl), hp⟩
theorem zadd {i : Nat} : (0 : Int) + (i : Nat) = (i : Int) := Int.zero_add _
theorem flat_int {i : Int} : flat (.int i) = true := rfl
theorem flat_bool {i : Bool} : flat (.bool i) = true := rfl
theorem flat_str {i : Str} : flat (.str i) = true := rfl
theorem flat_none : flat .none = true := rfl
theorem flat_list {i : List PyData} : flat (.list i) = false := rfl
theorem flat_tup {i : List PyData} : flat (.tuple i) = false := rfl
theorem mod_lt_ {a b : Int} (h : 0 < b) : 0 ≤ a % b ∧ a % b < b := ⟨Int.emod_nonneg _ (by omega), Int.emod_lt_of_pos _ h⟩
end
section
variable {Q : PyData → Prop} {q : Bool → Prop} {i j : Int} {a b : List PyData} {x y : PyData}
theorem bp_add : binP .Add (.int i) (.int j) Q = Q (.int (i + j)) := rfl
theorem bp_adds {a b : Str} : binP .Add (.str a) (.str b) Q = (a.length + b.length ≤ 1000000 ∧ Q (.str (a ++ b))) := rfl
theorem bp_addl : binP .Add (.list a) (.list b) Q = (a.length + b.length ≤ 1000000 ∧ Q (.list (a ++ b))) := rfl
theorem bp_addt : binP .Add (.tuple a) (.tuple b) Q = (a.length + b.length ≤ 1000000 ∧ Q (.tuple (a ++ b))) := rfl
theorem bp_sub : binP .Sub (.int i) (.int j) Q = Q (.int (i - j)) := rfl
theorem bp_mul : binP .Mult (.int i) (.int j) Q = (CMul i j ∧ Q (.int (i * j))) := rfl
theorem bp_mult : binP .Mult (.tuple a) (.int i) Q = (a ≠ [] ∧ 0 ≤ i ∧ i ≤ 1000 ∧ a.length ≤ 1000 ∧ Q (.tuple (List.replicate i.toNat a).flatten)) := rfl
theorem bp_div : binP .FloorDiv (.int i) (.int j) Q = (CDiv i j ∧ Q (.int (i / j))) := rfl
theorem bp_mod : binP .Mod (.int i) (.int j) Q = (0 < j ∧ Q (.int (i % j))) := rfl
theorem bp_pow : binP .Pow (.int i) (.int j) Q = (CPow i j ∧ Q (.int (i ^ j.toNat))) := rfl
theorem cp_lt : cmpP .Lt (.int i) (.int j) q = q (decide (i < j)) := rfl
theorem cp_le : cmpP .LtE (.int i) (.int j) q = q (decide (i ≤ j)) := rfl
theorem cp_gt : cmpP .Gt (.int i) (.int j) q = q (decide (j < i)) := rfl
theorem cp_ge : cmpP .GtE (.int i) (.int j) q = q (decide (j ≤ i)) := rfl
theorem cp_eq : cmpP .Eq x y q = (SeqAt.shaped x = true ∧ SeqAt.shaped y = true ∧ q (PyData.eqv x y)) := rfl
theorem cp_ne : cmpP .NotEq x y q = (SeqAt.shaped x = true ∧ SeqAt.shaped y = true ∧ q (!PyData.eqv x y)) := rfl
theorem cp_is : cmpP .Is x .none q = q (isNoneD x) := by cases x <;> rfl
theorem cp_isn : cmpP .IsNot x .none q = q (!isNoneD x) := by cases x <;> rfl
theorem cp_isb {a b : Bool} : cmpP .Is (.bool a) (.bool b) q = q (decide (a = b)) := rfl
theorem cp_isnb {a b : Bool} : cmpP .IsNot (.bool a) (.bool b) q = q (!decide (a = b)) := rfl
theorem cp_inl : cmpP .In x (.list a) q = (SeqAt.shaped x = true ∧ SeqAt.shaped (.list a) = true ∧ q (a.any fun z => PyData.eqv z x)) := rfl
theorem cp_nil_ : cmpP .NotIn x (.list a) q = (SeqAt.shaped x = true ∧ SeqAt.shaped (.list a) = true ∧ q (!a.any fun z => PyData.eqv z x)) := rfl
theorem cp_int : cmpP .In x (.tuple a) q = (SeqAt.shaped x = true ∧ SeqAt.shaped (.tuple a) = true ∧ q (a.any fun z => PyData.eqv z x)) := rfl
theorem cp_nit : cmpP .NotIn x (.tuple a) q = (SeqAt.shaped x = true ∧ SeqAt.shaped (.tuple a) = true ∧ q (!a.any fun z => PyData.eqv z x)) := rfl
theorem isn_int : isNoneD (.int i) = false := rfl
theorem isn_none : isNoneD .none = true := rfl
theorem isn_tup : isNoneD (.tuple a) = false := rfl
theorem isn_list : isNoneD (.list a) = false := rfl
theorem ip_l : ixP (.list a) (.int i) Q = (∃ d, atI a i = some d ∧ Q d) := rfl
theorem ip_t : ixP (.tuple a) (.int i) Q = (∃ d, atI a i = some d ∧ Q d) := rfl
theorem sp_l {lo hi : Option Int} : slP (.list a) lo hi Q = Q (.list (cutP a lo hi)) := rfl
theorem sp_t {lo hi : Option Int} : slP (.tuple a) lo hi Q = Q (.tuple (cutP a lo hi)) := rfl
theorem bu_lenl : bltP .len [.list a] Q = Q (.int a.length) := rfl
theorem bu_lent : bltP .len [.tuple a] Q = Q (.int a.length) := rfl
theorem bu_max : bltP .max2 [.int i, .int j] Q = Q (.int (max i j)) := rfl
theorem bu_min : bltP .min2 [.int i, .int j] Q = Q (.int (min i j)) := rfl
theorem bu_maxL : bltP .maxL [.list a] Q = (∃ ns : List Int, a = ns.map PyData.int ∧ 0 < ns.length ∧ ∀ m, m ∈ ns → (∀ y, y ∈ ns → y ≤ m) → Q (.int m)) := rfl
theorem bu_minL : bltP .minL [.list a] Q = (∃ ns : List Int, a = ns.map PyData.int ∧ 0 < ns.length ∧ ∀ m, m ∈ ns → (∀ y, y ∈ ns → m ≤ y) → Q (.int m)) := rfl
theorem bu_sum : bltP .sum [.list a] Q = (∃ ns : List Int, a = ns.map PyData.int ∧ Q (.int ns.sum)) := rfl
theorem bu_all : bltP .all [.list a] Q = (∃ bs : List Bool, a = bs.map PyData.bool ∧ Q (.bool (bs.all id))) := rfl
theorem bu_list : bltP .list1 [.list a] Q = Q (.list a) := rfl
theorem bu_listt : bltP .list1 [.tuple a] Q = Q (.list a) := rfl
theorem bu_tup : bltP .tuple1 [.list a] Q = Q (.tuple a) := rfl
theorem bu_tupt : bltP .tuple1 [.tuple a] Q = Q (.tuple a) := rfl
theorem bu_int : bltP .int1 [.int i] Q = Q (.int i) := rfl
theorem bu_intb {b : Bool} : bltP .int1 [.bool b] Q = Q (.int (if b then 1 else 0)) := rfl
theorem bu_str : bltP .str1 [.int i] Q = (i.natAbs.log2 < 1920 ∧ Q (.str (toString i))) := rfl
theorem bu_sortI : bltP .sortI [.list a] Q = (∃ ns : List Int, a = ns.map PyData.int ∧ ns.length < 64 ∧ ∀ ns' : List Int, ns'.Perm ns → ns'.Pairwise (· ≤ ·) → Q (.list (ns'.map PyData.int))) := rfl
theorem bu_sortP : bltP .sortP [.list a] Q = ((∀ x ∈ a, ∃ i j, x = .tuple [.int i, .int j]) ∧ ∀ ys : List PyData, ys.Perm a → ys.Pairwise ltD → Q (.list ys)) := rfl
theorem it_l {Q : List PyData → Prop} : itP (.list a) Q = Q a := rfl
theorem it_t {Q : List PyData → Prop} : itP (.tuple a) Q = Q a := rfl
theorem eqv_int : PyData.eqv (.int i) (.int j) = decide (i = j) := by
  by_cases h : i = j <;> simp [PyData.eqv, h]
end
/-! ### what may be compared -/
def Shp (n : Nat) (d : PyData) : Prop := d.canLay0 = true ∧ d.depth ≤ n
theorem Shp.ok {n : Nat} {d : PyData} (h : Shp n d) (hn : n ≤ 64 := by decide) : SeqAt.shaped d = true := by
  unfold SeqAt.shaped
  rw [h.1, decide_eq_true (Nat.le_trans h.2 hn)]
  rfl
theorem Shp.int {i : Int} : Shp 0 (.int i) := ⟨by simp [PyData.canLay0], by simp [PyData.depth]⟩
theorem Shp.bool {i : Bool} : Shp 0 (.bool i) := ⟨by simp [PyData.canLay0], by simp [PyData.depth]⟩
theorem Shp.non : Shp 0 .none := ⟨by simp [PyData.canLay0], by simp [PyData.depth]⟩
theorem Shp.all {n : Nat} : ∀ {xs : List PyData}, (∀ x ∈ xs, Shp n x) → PyData.canLayAll0 xs = true ∧ PyData.depthAll xs ≤ n
  | [], _ => ⟨by simp [PyData.canLayAll0], by simp [PyData.depthAll]⟩
  | x :: xs, h => by
    obtain ⟨h1, h2⟩ := h x List.mem_cons_self
    obtain ⟨h3, h4⟩ := Shp.all fun y hy => h y (List.mem_cons_of_mem _ hy)
    refine ⟨by simp [PyData.canLayAll0, h1, h3], ?_⟩
    simp only [PyData.depthAll]
    omega
theorem Shp.list {n : Nat} {xs : List PyData} (h : ∀ x ∈ xs, Shp n x) : Shp (n + 1) (.list xs) := ⟨by simp only [PyData.canLay0]; exact (Shp.all h).1, by have := (Shp.all h).2; simp only [PyData.depth]; omega⟩
theorem Shp.tup {n : Nat} {xs : List PyData} (h : ∀ x ∈ xs, Shp n x) : Shp (n + 1) (.tuple xs) := ⟨by simp only [PyData.canLay0]; exact (Shp.all h).1, by have := (Shp.all h).2; simp only [PyData.depth]; omega⟩
theorem Shp.ints (ns : List Int) : Shp 1 (.list (ns.map .int)) := Shp.list (n := 0) fun x hx => by
  obtain ⟨i, _, rfl⟩ := List.mem_map.mp hx
  exact Shp.int
theorem Shp.intt (ns : List Int) : Shp 1 (.tuple (ns.map .int)) := Shp.tup (n := 0) fun x hx => by
  obtain ⟨i, _, rfl⟩ := List.mem_map.mp hx
  exact Shp.int
theorem Shp.pair {a b : Int} : Shp 1 (.tuple [.int a, .int b]) := Shp.tup (n := 0) fun x hx => by
  simp at hx
  rcases hx with rfl | rfl
  · exact Shp.int
  · exact Shp.int
theorem shp_int {i : Int} : SeqAt.shaped (.int i) = true := Shp.int.ok
theorem shp_bool {i : Bool} : SeqAt.shaped (.bool i) = true := Shp.bool.ok
theorem shp_none : SeqAt.shaped .none = true := Shp.non.ok
theorem shp_ints {ns : List Int} : SeqAt.shaped (.list (ns.map .int)) = true := (Shp.ints ns).ok
theorem shp_nil : SeqAt.shaped (.list []) = true := (Shp.ints []).ok
theorem shp_pair {a b : Int} : SeqAt.shaped (.tuple [.int a, .int b]) = true := Shp.pair.ok
theorem eqvAll_map {α : Type} [DecidableEq α] {f : α → PyData} (h : ∀ a b, PyData.eqv (f a) (f b) = decide (a = b)) : ∀ xs ys : List α, PyData.eqvAll (xs.map f) (ys.map f) = decide (xs = ys)
  | [], [] => by simp [PyData.eqvAll]
  | [], y :: ys => by simp [PyData.eqvAll]
  | x :: xs, [] => by simp [PyData.eqvAll]
  | x :: xs, y :: ys => by
    rw [List.map_cons, List.map_cons, PyData.eqvAll, h, eqvAll_map h xs ys, Bool.eq_iff_iff]
    simp
theorem eqv_list {a b : List PyData} : PyData.eqv (.list a) (.list b) = PyData.eqvAll a b := by simp only [PyData.eqv]
theorem eqv_tup {a b : List PyData} : PyData.eqv (.tuple a) (.tuple b) = PyData.eqvAll a b := by simp only [PyData.eqv]
theorem eqv_ints {a b : List Int} : PyData.eqv (.list (a.map .int)) (.list (b.map .int)) = decide (a = b) := by rw [eqv_list, eqvAll_map fun _ _ => eqv_int]
theorem eqv_pair {a b c d : Int} : PyData.eqv (.tuple [.int a, .int b]) (.tuple [.int c, .int d]) = decide (a = c ∧ b = d) := by
  rw [eqv_tup, Bool.eq_iff_iff]
  simp [PyData.eqvAll, eqv_int]
section
variable {Q : List PyData → Prop} {q : PyData → Prop} {q1 : Option Int → Prop} {i j k : Int}
theorem rg1 : rngP [.int i] Q = ((-(2 ^ 62) ≤ i ∧ i < 2 ^ 62) ∧ Q ((List.range i.toNat).map fun i => .int (i : Nat))) := by simp only [rngP, zadd]
theorem rg2 : rngP [.int i, .int j] Q = ((-(2 ^ 62) ≤ i ∧ i < 2 ^ 62 ∧ -(2 ^ 62) ≤ j ∧ j < 2 ^ 62) ∧ Q ((List.range (j - i).toNat).map fun k => .int (i + (k : Nat)))) := rfl
theorem rg3 : rngP [.int i, .int j, .int k] Q = ∃ n, RgC i j k n ∧ Q ((List.range n).map fun m => .int (i + (m : Nat) * k)) := rfl
theorem lrg1 : lrngP [.int i] q = ((-(2 ^ 62) ≤ i ∧ i ≤ 1000000) ∧ q (.list ((List.range i.toNat).map fun i => .int (i : Nat)))) := rfl
theorem lrg2 : lrngP [.int i, .int j] q = ((0 ≤ i ∧ i ≤ 1000000 ∧ 0 ≤ j ∧ j ≤ 1000000) ∧ q (.list ((List.range (j - i).toNat).map fun k => .int (i + (k : Nat))))) := rfl
theorem pt0 : partP [] q1 = q1 none := rfl
theorem pt1 : partP [.int i] q1 = q1 (some i) := rfl
theorem cdiv_iff : CDiv i j = (0 < j ∧ j < 1073741824) := rfl
end
section
variable {p : PyData → Prop} {a b c i : Int}
theorem at2i (h0 : 0 ≤ i) (h2 : i < 2) (h : ∀ m, (m = a ∨ m = b) → p (.int m)) : ∃ d, atI [PyData.int a, .int b] i = some d ∧ p d := at2 h0 h2 (fun _ => h _ (.inl rfl)) fun _ => h _ (.inr rfl)
theorem at3i (h0 : 0 ≤ i) (h2 : i < 3) (h : ∀ m, (m = a ∨ m = b ∨ m = c) → p (.int m)) : ∃ d, atI [PyData.int a, .int b, .int c] i = some d ∧ p d := at3 h0 h2 (fun _ => h _ (.inl rfl)) (fun _ => h _ (.inr (.inl rfl))) fun _ => h _ (.inr (.inr rfl))
theorem mem_at {α : Type} {xs : List α} {k : Nat} (h : k < xs.length) : xs[k]? = some xs[k] := by simp [h]
end
/-! ### floors, orders, windows as data -/
def eJob (j : Int × List Int) : PyData := .tuple [.int j.1, .tuple (j.2.map .int)]
def eOrd (o : Nat × Nat) : PyData := .tuple [.int o.1, .int o.2]
def eP (w : Int × Int) : PyData := .tuple [.int w.1, .int w.2]
structure Fl where
  crews : List Int
  jobs : List (Int × List Int)
  orders : List (Nat × Nat)
def eFl (F : Fl) : PyData := .tuple [.tuple (F.crews.map .int), .tuple (F.jobs.map eJob), .tuple (F.orders.map eOrd)]
section
variable {Q : PyData → Prop} {F : Fl} {j : Int × List Int} {o : Nat × Nat} {w : Int × Int} {p : List PyData → Prop}
theorem fl0 : ixP (eFl F) (.int 0) Q = Q (.tuple (F.crews.map .int)) := propext (by unfold eFl; rw [ip_t, at_lit0, ex_some])
theorem fl1 : ixP (eFl F) (.int 1) Q = Q (.tuple (F.jobs.map eJob)) := propext (by unfold eFl; rw [ip_t, at_lit1, ex_some])
theorem fl2 : ixP (eFl F) (.int 2) Q = Q (.tuple (F.orders.map eOrd)) := propext (by unfold eFl; rw [ip_t, at_lit2, ex_some])
theorem jb0 : ixP (eJob j) (.int 0) Q = Q (.int j.1) := propext (by unfold eJob; rw [ip_t, at_lit0, ex_some])
theorem jb1 : ixP (eJob j) (.int 1) Q = Q (.tuple (j.2.map .int)) := propext (by unfold eJob; rw [ip_t, at_lit1, ex_some])
theorem od0 : ixP (eOrd o) (.int 0) Q = Q (.int o.1) := propext (by unfold eOrd; rw [ip_t, at_lit0, ex_some])
theorem od1 : ixP (eOrd o) (.int 1) Q = Q (.int o.2) := propext (by unfold eOrd; rw [ip_t, at_lit1, ex_some])
theorem ep0 : ixP (eP w) (.int 0) Q = Q (.int w.1) := propext (by unfold eP; rw [ip_t, at_lit0, ex_some])
theorem ep1 : ixP (eP w) (.int 1) Q = Q (.int w.2) := propext (by unfold eP; rw [ip_t, at_lit1, ex_some])
theorem ex_fl : (∃ ds, eFl F = .tuple ds ∧ p ds) ↔ p [.tuple (F.crews.map .int), .tuple (F.jobs.map eJob), .tuple (F.orders.map eOrd)] := by unfold eFl; exact ex_tup
theorem ex_job : (∃ ds, eJob j = .tuple ds ∧ p ds) ↔ p [.int j.1, .tuple (j.2.map .int)] := by unfold eJob; exact ex_tup
theorem ex_ord : (∃ ds, eOrd o = .tuple ds ∧ p ds) ↔ p [.int o.1, .int o.2] := by unfold eOrd; exact ex_tup
theorem ex_ep : (∃ ds, eP w = .tuple ds ∧ p ds) ↔ p [.int w.1, .int w.2] := by unfold eP; exact ex_tup
theorem shp_ep : SeqAt.shaped (eP w) = true := Shp.pair.ok
theorem shp_eps {W : List (Int × Int)} : SeqAt.shaped (.list (W.map eP)) = true := (Shp.list (n := 1) fun x hx => by obtain ⟨w, _, rfl⟩ := List.mem_map.mp hx; exact Shp.pair).ok
theorem eqv_ep {w u : Int × Int} : PyData.eqv (eP w) (eP u) = decide (w = u) := by
  unfold eP
  rw [eqv_pair]
  rcases w with ⟨a, b⟩
  rcases u with ⟨c, d⟩
  simp
theorem eqv_eps {W U : List (Int × Int)} : PyData.eqv (.list (W.map eP)) (.list (U.map eP)) = decide (W = U) := by rw [eqv_list, eqvAll_map fun _ _ => eqv_ep]
end
theorem ex_intN {i : Int} {p : Int → Nat → Prop} : (∃ (n : Int) (j : Nat), PyData.int i = .int n ∧ p n j) ↔ ∃ j, p i j := ⟨fun ⟨n, j, e, h⟩ => by cases e; exact ⟨j, h⟩, fun ⟨j, h⟩ => ⟨i, j, rfl, h⟩⟩
theorem rv_l {a : List PyData} {Q : PyData → Prop} : revP (.list a) Q = Q (.list a.reverse) := rfl
theorem rv_t {a : List PyData} {Q : PyData → Prop} : revP (.tuple a) Q = Q (.tuple a.reverse) := rfl
end CF
namespace CF
open PySem PySem.Spec PyProof.Rows L2
/-! ### the rules, joined -/
theorem wpl : (type_of% @bp_add) ∧ (type_of% @bp_adds) ∧ (type_of% @bp_addl) ∧ (type_of% @bp_addt) ∧ (type_of% @bp_sub) ∧ (type_of% @bp_mul) ∧ (type_of% @bp_mult) ∧ (type_of% @bp_div) ∧ (type_of% @bp_mod) ∧ (type_of% @bp_pow) ∧ (type_of% @cp_lt) ∧ (type_of% @cp_le) ∧ (type_of% @cp_gt) ∧ (type_of% @cp_ge) ∧ (type_of% @cp_eq) ∧ (type_of% @cp_ne) ∧ (type_of% @cp_is) ∧ (type_of% @cp_isn) ∧ (type_of% @cp_isb) ∧ (type_of% @cp_isnb) ∧ (type_of% @cp_inl) ∧ (type_of% @cp_nil_) ∧ (type_of% @cp_int) ∧ (type_of% @cp_nit) ∧ (type_of% @isn_int) ∧ (type_of% @isn_none) ∧ (type_of% @isn_tup) ∧ (type_of% @isn_list) ∧ (type_of% @ip_l) ∧ (type_of% @ip_t) ∧ (type_of% @sp_l) ∧ (type_of% @sp_t) ∧ (type_of% @rv_l) ∧ (type_of% @rv_t) ∧ (type_of% @bu_lenl) ∧ (type_of% @bu_lent) ∧ (type_of% @bu_max) ∧ (type_of% @bu_min) ∧ (type_of% @bu_maxL) ∧ (type_of% @bu_minL) ∧ (type_of% @bu_sum) ∧ (type_of% @bu_all) ∧ (type_of% @bu_list) ∧ (type_of% @bu_listt) ∧ (type_of% @bu_tup) ∧ (type_of% @bu_tupt) ∧ (type_of% @bu_int) ∧ (type_of% @bu_intb) ∧ (type_of% @bu_str) ∧ (type_of% @bu_sortI) ∧ (type_of% @bu_sortP) ∧ (type_of% @it_l) ∧ (type_of% @it_t) ∧ (type_of% @eqv_int) ∧ (type_of% @rg1) ∧ (type_of% @rg2) ∧ (type_of% @rg3) ∧ (type_of% @lrg1) ∧ (type_of% @lrg2) ∧ (type_of% @pt0) ∧ (type_of% @pt1) ∧ (type_of% @cdiv_iff) ∧ (type_of% @get0) ∧ (type_of% @getS) ∧ (type_of% @gof0) ∧ (type_of% @gofS) ∧ (type_of% @tr_bool_) ∧ (type_of% @List.map_cons.{0,0}) ∧ (type_of% @List.map_nil.{0,0}) ∧ (type_of% @List.cons_append.{0}) ∧ (type_of% @List.nil_append.{0}) ∧ (type_of% @List.set_cons_zero.{0}) ∧ (type_of% @List.set_cons_succ.{0}) ∧ (type_of% @List.all_cons.{0}) ∧ (type_of% @List.all_nil.{0}) ∧ (type_of% @at_lit0) ∧ (type_of% @at_lit1) ∧ (type_of% @at_lit2) ∧ (type_of% @at_lit3) ∧ (type_of% @at_lit4) ∧ (type_of% @ex_some) ∧ (type_of% @ex_eq_) ∧ (type_of% @ex_int) ∧ (type_of% @ex_intN) ∧ (type_of% @ex_tup) ∧ (type_of% @flat_int) ∧ (type_of% @flat_bool) ∧ (type_of% @flat_str) ∧ (type_of% @flat_none) ∧ (type_of% @flat_list) ∧ (type_of% @flat_tup) ∧ (type_of% @fl0) ∧ (type_of% @fl1) ∧ (type_of% @fl2) ∧ (type_of% @jb0) ∧ (type_of% @jb1) ∧ (type_of% @od0) ∧ (type_of% @od1) ∧ (type_of% @ep0) ∧ (type_of% @ep1) ∧ (type_of% @ex_fl) ∧ (type_of% @ex_job) ∧ (type_of% @ex_ord) ∧ (type_of% @ex_ep) ∧ (type_of% @shp_ep) ∧ (type_of% @shp_eps) ∧ (type_of% @eqv_ep) ∧ (type_of% @eqv_eps) ∧ (type_of% @shp_int) ∧ (type_of% @shp_bool) ∧ (type_of% @shp_none) ∧ (type_of% @shp_ints) ∧ (type_of% @shp_nil) ∧ (type_of% @shp_pair) ∧ (type_of% @eqv_ints) ∧ (type_of% @eqv_pair) :=
  ⟨@bp_add, @bp_adds, @bp_addl, @bp_addt, @bp_sub, @bp_mul, @bp_mult, @bp_div, @bp_mod, @bp_pow, @cp_lt, @cp_le, @cp_gt, @cp_ge, @cp_eq, @cp_ne, @cp_is, @cp_isn, @cp_isb, @cp_isnb, @cp_inl, @cp_nil_, @cp_int, @cp_nit, @isn_int, @isn_none, @isn_tup, @isn_list, @ip_l, @ip_t, @sp_l, @sp_t, @rv_l, @rv_t, @bu_lenl, @bu_lent, @bu_max, @bu_min, @bu_maxL, @bu_minL, @bu_sum, @bu_all, @bu_list, @bu_listt, @bu_tup, @bu_tupt, @bu_int, @bu_intb, @bu_str, @bu_sortI, @bu_sortP, @it_l, @it_t, @eqv_int, @rg1, @rg2, @rg3, @lrg1, @lrg2, @pt0, @pt1, @cdiv_iff, @get0, @getS, @gof0, @gofS, @tr_bool_, @List.map_cons.{0,0}, @List.map_nil.{0,0}, @List.cons_append.{0}, @List.nil_append.{0}, @List.set_cons_zero.{0}, @List.set_cons_succ.{0}, @List.all_cons.{0}, @List.all_nil.{0}, @at_lit0, @at_lit1, @at_lit2, @at_lit3, @at_lit4, @ex_some, @ex_eq_, @ex_int, @ex_intN, @ex_tup, @flat_int, @flat_bool, @flat_str, @flat_none, @flat_list, @flat_tup, @fl0, @fl1, @fl2, @jb0, @jb1, @od0, @od1, @ep0, @ep1, @ex_fl, @ex_job, @ex_ord, @ex_ep, @shp_ep, @shp_eps, @eqv_ep, @eqv_eps, @shp_int, @shp_bool, @shp_none, @shp_ints, @shp_nil, @shp_pair, @eqv_ints, @eqv_pair⟩
theorem wpu : (type_of% @List.length_map.{0,0}) ∧ (type_of% @List.length_range) ∧ (type_of% @free_eq) ∧ (type_of% @List.length_cons.{0}) ∧ (type_of% @List.length_nil.{0}) ∧ (type_of% @true_and) ∧ (type_of% @and_true) ∧ (type_of% @true_or) ∧ (type_of% @or_true) ∧ (type_of% @Bool.and_true) ∧ (type_of% @Bool.true_and) ∧ (type_of% @Bool.and_self) ∧ (type_of% @Bool.not_false) ∧ (type_of% @Bool.not_true) ∧ (type_of% @Int.toNat_natCast) ∧ (type_of% @decide_eq_true_eq) ∧ (type_of% @decide_true) ∧ (type_of% @decide_eq_false_iff_not) ∧ (type_of% @not_false_eq_true) ∧ (type_of% @not_true_eq_false) ∧ (type_of% @and_self) ∧ (type_of% @Bool.false_eq_true) ∧ (type_of% @zadd) :=
  ⟨@List.length_map.{0,0}, @List.length_range, @free_eq, @List.length_cons.{0}, @List.length_nil.{0}, @true_and, @and_true, @true_or, @or_true, @Bool.and_true, @Bool.true_and, @Bool.and_self, @Bool.not_false, @Bool.not_true, @Int.toNat_natCast, @decide_eq_true_eq, @decide_true, @decide_eq_false_iff_not, @not_false_eq_true, @not_true_eq_false, @and_self, @Bool.false_eq_true, @zadd⟩
end CF
namespace CF
open PySem PySem.Spec PyProof.Rows L2
-- 0 _law_script, 1 _law_k
def ir_l_cell_at_t0 : ISs :=
  (.cons (.ret (.kint 0))
  .nil)
def ir_l_cell_at : ISs :=
  (.cons (.ife (.cmp .Lt (.var 1) (.blt .len (.cons (.var 0) .nil)))
    (.cons (.ret (.bin .Mod (.ix (.var 0) (.var 1)) (.kint 1000000000000000003)))
    .nil)
    .nil)
  ir_l_cell_at_t0)
-- calls: 
-- 0 _law_cell, 1 _law_k, 2 _law_number
def ir_l_mix : ISs :=
  (.cons (.set 2 (.bin .Mod (.bin .Add (.bin .Add (.bin .Mult (.var 0) (.kint 48271)) (.bin .Mult (.var 1) (.kint 69621))) (.kint 11)) (.kint 2147483647)))
  (.cons (.ret (.bin .Mod (.bin .Add (.bin .Add (.bin .Mult (.var 2) (.var 2)) (.bin .Mult (.kint 7) (.var 2))) (.var 1)) (.kint 2147483629)))
  .nil))
-- calls: 
-- 0 _law_found
def ir_l_whole : ISs :=
  (.cons (.ret (.bop .And (.cons (.isi (.var 0) .int) (.cons (.no (.isi (.var 0) .bool)) .nil))))
  .nil)
-- calls: 
-- 0 _law_cell, 1 _law_many, 2 _law_greatest, 3 _law_k
def ir_l_crews : ISs :=
  (.cons (.set 1 (.bin .Add (.kint 1) (.ix (.lst (.cons (.bin .Mod (.var 0) (.kint 2)) (.cons (.bin .Mod (.var 0) (.kint 4)) .nil))) (.bin .FloorDiv (.bin .Mod (.bin .FloorDiv (.var 0) (.kint 4)) (.kint 3)) (.kint 2)))))
  (.cons (.set 2 (.ix (.lst (.cons (.kint 4) (.cons (.kint 4) (.cons (.kint 50) .nil)))) (.bin .Mod (.bin .FloorDiv (.var 0) (.kint 12)) (.kint 3))))
  (.cons (.ret (.blt .tuple1 (.cons (.comp (.bin .Add (.kint 1) (.bin .Mod (.call 0 (.cons (.var 0) (.cons (.var 3) .nil))) (.var 2))) (.one 3) (.rng (.cons (.var 1) .nil)) .nil) .nil)))
  .nil)))
-- calls: _law_mix
-- 0 _law_cell, 1 _law_crews_here, 2 _law_most, 3 _law_needs, 4 _law_k, 5 _law_more, 6 _law_need
def ir_l_job_t0 : ISs :=
  (.cons (.app 3 (.var 6))
  (.fgt [4, 5, 6] .nil))
def ir_l_job_b0 : ISs :=
  (.cons (.set 5 (.call 0 (.cons (.var 0) (.cons (.bin .Add (.var 4) (.kint 3)) .nil))))
  (.cons (.set 6 (.bin .Mod (.var 5) (.bin .Add (.ix (.var 1) (.var 4)) (.kint 1))))
  (.cons (.ife (.cmp .Eq (.bin .Mod (.bin .FloorDiv (.var 5) (.kint 64)) (.kint 4)) (.kint 0))
    (.cons (.set 6 (.ix (.lst (.cons (.kint 0) (.cons (.ix (.var 1) (.var 4)) .nil))) (.bin .Mod (.bin .FloorDiv (.var 5) (.kint 256)) (.kint 2))))
    .nil)
    .nil)
  ir_l_job_t0)))
def ir_l_job_t1 : ISs :=
  (.cons (.ret (.tup (.cons (.bin .Add (.kint 1) (.bin .Mod (.var 0) (.var 2))) (.cons (.blt .tuple1 (.cons (.var 3) .nil)) .nil))))
  .nil)
def ir_l_job : ISs :=
  (.cons (.setO 3 (.lst .nil))
  (.cons (.fors (.one 4) (.rng (.cons (.blt .len (.cons (.var 1) .nil)) .nil)) ir_l_job_b0)
  ir_l_job_t1))
-- calls: _law_mix
-- 0 _law_cell, 1 _law_many, 2 _law_most, 3 _law_line, 4 _law_orders_here, 5 _law_k, 6 _law_one, 7 _law_other
def ir_l_orders_b0 : ISs :=
  (.cons (.set 6 (.bin .Mod (.call 0 (.cons (.var 0) (.cons (.bin .Add (.kint 50) (.var 5)) .nil))) (.var 1)))
  (.cons (.set 7 (.bin .Mod (.call 0 (.cons (.var 0) (.cons (.bin .Add (.kint 150) (.var 5)) .nil))) (.var 1)))
  (.cons (.ife (.cmp .NotEq (.var 6) (.var 7))
    (.cons (.app 4 (.tup (.cons (.ix (.ix (.var 3) (.blt .min2 (.cons (.var 6) (.cons (.var 7) .nil)))) (.kint 1)) (.cons (.ix (.ix (.var 3) (.blt .max2 (.cons (.var 6) (.cons (.var 7) .nil)))) (.kint 1)) .nil))))
    .nil)
    .nil)
  (.fgt [5, 6, 7] .nil))))
def ir_l_orders_t0 : ISs :=
  (.cons (.ret (.blt .tuple1 (.cons (.var 4) .nil)))
  .nil)
def ir_l_orders : ISs :=
  (.cons (.set 3 (.blt .sortP (.cons (.comp (.tup (.cons (.bin .Mod (.call 0 (.cons (.var 0) (.cons (.var 5) .nil))) (.kint 997)) (.cons (.var 5) .nil))) (.one 5) (.rng (.cons (.var 1) .nil)) .nil) .nil)))
  (.cons (.setO 4 (.lst .nil))
  (.cons (.fors (.one 5) (.rng (.cons (.bin .Mod (.var 0) (.bin .Add (.var 2) (.kint 1))) .nil)) ir_l_orders_b0)
  ir_l_orders_t0)))
-- calls: _law_mix
-- 0 _law_script, 1 _law_at, 2 _law_many, 3 _law_most, 4 _law_orders_here, 5 _law_crews_here, 6 _law_jobs, 7 _law_k
def ir_l_floor_b0 : ISs :=
  (.cons (.app 6 (.call 2 (.cons (.call 3 (.cons (.call 1 (.cons (.var 0) (.cons (.bin .Add (.var 1) (.kint 1)) .nil))) (.cons (.bin .Add (.kint 70) (.var 7)) .nil))) (.cons (.var 5) (.cons (.var 3) .nil)))))
  (.fgt [7] .nil))
def ir_l_floor_t0 : ISs :=
  (.cons (.ret (.tup (.cons (.var 5) (.cons (.blt .tuple1 (.cons (.var 6) .nil)) (.cons (.call 4 (.cons (.call 1 (.cons (.var 0) (.cons (.bin .Add (.var 1) (.kint 2)) .nil))) (.cons (.var 2) (.cons (.var 4) .nil)))) .nil)))))
  .nil)
def ir_l_floor : ISs :=
  (.cons (.set 5 (.call 0 (.cons (.call 1 (.cons (.var 0) (.cons (.var 1) .nil))) .nil)))
  (.cons (.setO 6 (.lst .nil))
  (.cons (.fors (.one 7) (.rng (.cons (.var 2) .nil)) ir_l_floor_b0)
  ir_l_floor_t0)))
-- calls: _law_crews, _law_cell_at, _law_job, _law_mix, _law_orders
-- 0 _law_found, 1 _law_due, 2 _law_k
def ir_l_numbers_b0 : ISs :=
  (.cons (.ife (.bop .Or (.cons (.no (.call 0 (.cons (.ix (.var 0) (.var 2)) .nil))) (.cons (.cmp .NotEq (.ix (.var 0) (.var 2)) (.ix (.var 1) (.var 2))) .nil)))
    (.cons (.ret (.kbool false))
    .nil)
    .nil)
  (.fgt [2] .nil))
def ir_l_numbers_t0 : ISs :=
  (.cons (.ret (.kbool true))
  .nil)
def ir_l_numbers_t1 : ISs :=
  (.cons (.fors (.one 2) (.rng (.cons (.blt .len (.cons (.var 1) .nil)) .nil)) ir_l_numbers_b0)
  ir_l_numbers_t0)
def ir_l_numbers : ISs :=
  (.cons (.ife (.bop .Or (.cons (.no (.isi (.var 0) .list)) (.cons (.cmp .NotEq (.blt .len (.cons (.var 0) .nil)) (.blt .len (.cons (.var 1) .nil))) .nil)))
    (.cons (.ret (.kbool false))
    .nil)
    .nil)
  ir_l_numbers_t1)
-- calls: _law_whole
end CF
namespace CF
open PySem PySem.Spec PyProof.Rows L2
/-! ### the floor that a law draws -/
def cellAt (ns : List Int) (k : Nat) : Int := if k < ns.length then ns.getD k 0 % 1000000000000000003 else 0
theorem cell_bd (ns : List Int) (k : Nat) : 0 ≤ cellAt ns k ∧ cellAt ns k < 1000000000000000003 := by
  unfold cellAt
  split
  · exact mod_lt_ (by omega)
  · omega
def g_l_cell_at : Pm := fun ds R => ∃ (ns : List Int) (k : Int), ds = [.list (ns.map .int), .int k] ∧ 0 ≤ k ∧ R (.int (cellAt ns k.toNat))
abbrev e_l_cell_at : FnE := ⟨"_law_cell_at", 2, false, g_l_cell_at⟩
theorem sem_l_cell_at : ∀ ds R, ds.length = 2 → g_l_cell_at ds R → wpSs (Gof []) ir_l_cell_at (startE 2 ds) { nx := fun _ => false = false ∧ R .none, rt := R } := by
  rintro _ R _ ⟨ns, k, rfl, hk, q⟩
  obtain ⟨k, rfl⟩ := Int.eq_ofNat_of_zero_le hk
  (try simp only [ir_l_cell_at, ir_l_cell_at_t0, ↓wpSs, ↓wpS, ↓wpE, ↓wpEs, ↓wpBop, ↓wpIfs, ↓wpIt, ↓pk, ↓bindT, ↓ownL, ↓lockIt, ↓unlockIt, isT, ↓setAll, ↓wipeE, ↓startE, ↓Tg.slots, ↓IEs.fine, ↓IEs.len, ↓noOwn, ↓isOwnE, ↓Sl.isO, ↓Ev.freeAll, List.replicate, if_true, if_false, reduceIte, Nat.reduceLeDiff, Nat.reduceSub, Nat.reduceAdd, eq_self, reduceCtorEq, Int.reduceLT, Nat.reduceLT, ↓wpl, wpu])
  unfold cellAt at q
  split
  · rename_i h
    have h : k < ns.length := by simpa using h
    refine at_map (d := ns[k]) (by simp [h]) ?_
    (try simp only [↓wpSs, ↓wpS, ↓wpE, ↓wpEs, ↓wpBop, ↓wpIfs, ↓wpIt, ↓pk, ↓bindT, ↓ownL, ↓lockIt, ↓unlockIt, isT, ↓setAll, ↓wipeE, ↓startE, ↓Tg.slots, ↓IEs.fine, ↓IEs.len, ↓noOwn, ↓isOwnE, ↓Sl.isO, ↓Ev.freeAll, List.replicate, if_true, if_false, reduceIte, Nat.reduceLeDiff, Nat.reduceSub, Nat.reduceAdd, eq_self, reduceCtorEq, Int.reduceLT, Nat.reduceLT, ↓wpl, wpu])
    simpa [h] using q
  · rename_i h
    have h : ¬ k < ns.length := by simpa using h
    simpa [h] using q
def mix (c k : Int) : Int := (((c * 48271 + k * 69621 + 11) % 2147483647) * ((c * 48271 + k * 69621 + 11) % 2147483647) + 7 * ((c * 48271 + k * 69621 + 11) % 2147483647) + k) % 2147483629
theorem mix_bd (c k : Int) : 0 ≤ mix c k ∧ mix c k < 2147483629 := mod_lt_ (by omega)
def g_l_mix : Pm := fun ds R => ∃ c k : Int, ds = [.int c, .int k] ∧ R (.int (mix c k))
abbrev e_l_mix : FnE := ⟨"_law_mix", 2, false, g_l_mix⟩
theorem cmul_r {i j : Int} (h : -(2 ^ 64) < j ∧ j < 2 ^ 64) : CMul i j := .inr h
theorem cmul_l {i j : Int} (h : -(2 ^ 64) < i ∧ i < 2 ^ 64) : CMul i j := .inl h
theorem sem_l_mix : ∀ ds R, ds.length = 2 → g_l_mix ds R → wpSs (Gof []) ir_l_mix (startE 3 ds) { nx := fun _ => false = false ∧ R .none, rt := R } := by
  rintro _ R _ ⟨c, k, rfl, q⟩
  (try simp only [ir_l_mix, ↓wpSs, ↓wpS, ↓wpE, ↓wpEs, ↓wpBop, ↓wpIfs, ↓wpIt, ↓pk, ↓bindT, ↓ownL, ↓lockIt, ↓unlockIt, isT, ↓setAll, ↓wipeE, ↓startE, ↓Tg.slots, ↓IEs.fine, ↓IEs.len, ↓noOwn, ↓isOwnE, ↓Sl.isO, ↓Ev.freeAll, List.replicate, if_true, if_false, reduceIte, Nat.reduceLeDiff, Nat.reduceSub, Nat.reduceAdd, eq_self, reduceCtorEq, Int.reduceLT, Nat.reduceLT, ↓wpl, wpu])
  have h := mod_lt_ (a := c * 48271 + k * 69621 + 11) (b := 2147483647) (by omega)
  exact ⟨cmul_r (by omega), cmul_r (by omega), cmul_r (by omega), cmul_l (by omega), q⟩
def GoodCr (cs : List Int) : Prop := 1 ≤ cs.length ∧ cs.length ≤ 4 ∧ ∀ c ∈ cs, 1 ≤ c ∧ c ≤ 50
def g_l_crews : Pm := fun ds R => ∃ c : Int, ds = [.int c] ∧ 0 ≤ c ∧ ∀ cs, GoodCr cs → R (.tuple (cs.map .int))
abbrev e_l_crews : FnE := ⟨"_law_crews", 1, false, g_l_crews⟩
theorem mix_ap {c k : Int} {Q : PyData → Prop} : g_l_mix [.int c, .int k] Q = Q (.int (mix c k)) := by
  refine propext ⟨?_, fun h => ⟨c, k, rfl, h⟩⟩
  rintro ⟨c', k', e, h⟩
  cases e
  exact h
theorem sem_l_crews : ∀ ds R, ds.length = 1 → g_l_crews ds R → wpSs (Gof [e_l_mix]) ir_l_crews (startE 4 ds) { nx := fun _ => false = false ∧ R .none, rt := R } := by
  rintro _ R _ ⟨c, rfl, hc, q⟩
  (try simp only [ir_l_crews, ↓wpSs, ↓wpS, ↓wpE, ↓wpEs, ↓wpBop, ↓wpIfs, ↓wpIt, ↓pk, ↓bindT, ↓ownL, ↓lockIt, ↓unlockIt, isT, ↓setAll, ↓wipeE, ↓startE, ↓Tg.slots, ↓IEs.fine, ↓IEs.len, ↓noOwn, ↓isOwnE, ↓Sl.isO, ↓Ev.freeAll, List.replicate, if_true, if_false, reduceIte, Nat.reduceLeDiff, Nat.reduceSub, Nat.reduceAdd, eq_self, reduceCtorEq, Int.reduceLT, Nat.reduceLT, ↓wpl, wpu])
  refine at2i (by omega) (by omega) fun m hm => ?_
  refine at3i (by omega) (by omega) fun g hg => ?_
  (try simp only [↓wpSs, ↓wpS, ↓wpE, ↓wpEs, ↓wpBop, ↓wpIfs, ↓wpIt, ↓pk, ↓bindT, ↓ownL, ↓lockIt, ↓unlockIt, isT, ↓setAll, ↓wipeE, ↓startE, ↓Tg.slots, ↓IEs.fine, ↓IEs.len, ↓noOwn, ↓isOwnE, ↓Sl.isO, ↓Ev.freeAll, List.replicate, if_true, if_false, reduceIte, Nat.reduceLeDiff, Nat.reduceSub, Nat.reduceAdd, eq_self, reduceCtorEq, Int.reduceLT, Nat.reduceLT, ↓wpl, wpu])
  refine ⟨by omega, by omega, ?_⟩
  refine compL_map (fun k : Nat => .int (1 + mix c k % g)) (fun k _ K h => ?_) ?_
  · (try simp only [mix_ap, ↓wpSs, ↓wpS, ↓wpE, ↓wpEs, ↓wpBop, ↓wpIfs, ↓wpIt, ↓pk, ↓bindT, ↓ownL, ↓lockIt, ↓unlockIt, isT, ↓setAll, ↓wipeE, ↓startE, ↓Tg.slots, ↓IEs.fine, ↓IEs.len, ↓noOwn, ↓isOwnE, ↓Sl.isO, ↓Ev.freeAll, List.replicate, if_true, if_false, reduceIte, Nat.reduceLeDiff, Nat.reduceSub, Nat.reduceAdd, eq_self, reduceCtorEq, Int.reduceLT, Nat.reduceLT, ↓wpl, wpu])
    exact ⟨by omega, h⟩
  · have := q ((List.range (1 + m).toNat).map fun k : Nat => 1 + mix c k % g) ⟨by simp; omega, by simp; omega, fun x hx => ?_⟩
    · rw [List.map_map] at this
      exact this
    · obtain ⟨k, _, rfl⟩ := List.mem_map.mp hx
      have := mod_lt_ (a := mix c k) (b := g) (by omega)
      omega
def GoodJob (cs : List Int) (most : Int) (j : Int × List Int) : Prop := 1 ≤ j.1 ∧ j.1 ≤ most ∧ j.2.length = cs.length ∧ ∀ (k : Nat) c n, cs[k]? = some c → j.2[k]? = some n → 0 ≤ n ∧ n ≤ c
def g_l_job : Pm := fun ds R => ∃ (c : Int) (cs : List Int) (most : Int), ds = [.int c, .tuple (cs.map .int), .int most] ∧ 0 ≤ c ∧ GoodCr cs ∧ 1 ≤ most ∧ most ≤ 50 ∧ ∀ j, GoodJob cs most j → R (eJob j)
abbrev e_l_job : FnE := ⟨"_law_job", 3, false, g_l_job⟩
def drawn (c : Int) (cr : Int) (k : Nat) : Int := if mix c (k + 3) / 64 % 4 = 0 then (if mix c (k + 3) / 256 % 2 = 0 then 0 else cr) else mix c (k + 3) % (cr + 1)
theorem drawn_bd {c cr : Int} {k : Nat} (h : 1 ≤ cr) : 0 ≤ drawn c cr k ∧ drawn c cr k ≤ cr := by
  unfold drawn
  have := mod_lt_ (a := mix c (k + 3)) (b := cr + 1) (by omega)
  split
  · split <;> omega
  · omega
theorem sem_l_job : ∀ ds R, ds.length = 3 → g_l_job ds R → wpSs (Gof [e_l_mix]) ir_l_job (startE 7 ds) { nx := fun _ => false = false ∧ R .none, rt := R } := by
  rintro _ R _ ⟨c, cs, most, rfl, hc, ⟨c1, c4, hcs⟩, hm1, hm2, q⟩
  (try simp only [ir_l_job, ↓wpSs, ↓wpS, ↓wpE, ↓wpEs, ↓wpBop, ↓wpIfs, ↓wpIt, ↓pk, ↓bindT, ↓ownL, ↓lockIt, ↓unlockIt, isT, ↓setAll, ↓wipeE, ↓startE, ↓Tg.slots, ↓IEs.fine, ↓IEs.len, ↓noOwn, ↓isOwnE, ↓Sl.isO, ↓Ev.freeAll, List.replicate, if_true, if_false, reduceIte, Nat.reduceLeDiff, Nat.reduceSub, Nat.reduceAdd, eq_self, reduceCtorEq, Int.reduceLT, Nat.reduceLT, ↓wpl, wpu])
  refine ⟨by omega, ?_⟩
  refine forL_rng (fun i r => r = [.val (.int c), .val (.tuple (cs.map .int)), .val (.int most), .own (.list ((List.range i).map fun k => .int (drawn c (cs.getD k 0) k))), .un, .un, .un]) rfl ?_ ?_
  · rintro _ rfl
    (try simp only [ir_l_job_t1, ↓wpSs, ↓wpS, ↓wpE, ↓wpEs, ↓wpBop, ↓wpIfs, ↓wpIt, ↓pk, ↓bindT, ↓ownL, ↓lockIt, ↓unlockIt, isT, ↓setAll, ↓wipeE, ↓startE, ↓Tg.slots, ↓IEs.fine, ↓IEs.len, ↓noOwn, ↓isOwnE, ↓Sl.isO, ↓Ev.freeAll, List.replicate, if_true, if_false, reduceIte, Nat.reduceLeDiff, Nat.reduceSub, Nat.reduceAdd, eq_self, reduceCtorEq, Int.reduceLT, Nat.reduceLT, ↓wpl, wpu])
    refine ⟨by omega, ?_⟩
    have hb := mod_lt_ (a := c) (b := most) (by omega)
    have := q (1 + c % most, (List.range cs.length).map fun k => drawn c (cs.getD k 0) k) ⟨by show 1 ≤ 1 + c % most; omega, by show 1 + c % most ≤ most; omega, by simp, fun k x n hx hn => ?_⟩
    · rw [eJob, List.map_map] at this
      exact this
    · have hk : k < cs.length := (List.getElem?_eq_some_iff.mp hx).1
      simp [hk] at hn
      subst hn
      have hx' : cs[k] = x := by simpa [hk] using hx
      rw [hx']
      exact drawn_bd (hcs x (List.mem_of_getElem? hx)).1
  · rintro i _ K hi rfl hK
    (try simp only [ir_l_job_b0, ir_l_job_t0, mix_ap, ↓wpSs, ↓wpS, ↓wpE, ↓wpEs, ↓wpBop, ↓wpIfs, ↓wpIt, ↓pk, ↓bindT, ↓ownL, ↓lockIt, ↓unlockIt, isT, ↓setAll, ↓wipeE, ↓startE, ↓Tg.slots, ↓IEs.fine, ↓IEs.len, ↓noOwn, ↓isOwnE, ↓Sl.isO, ↓Ev.freeAll, List.replicate, if_true, if_false, reduceIte, Nat.reduceLeDiff, Nat.reduceSub, Nat.reduceAdd, eq_self, reduceCtorEq, Int.reduceLT, Nat.reduceLT, ↓wpl, wpu])
    have hi : i < cs.length := by simpa using hi
    have hx := mem_at hi
    have hcr := hcs cs[i] (List.getElem_mem hi)
    refine at_map hx ?_
    (try simp only [↓wpSs, ↓wpS, ↓wpE, ↓wpEs, ↓wpBop, ↓wpIfs, ↓wpIt, ↓pk, ↓bindT, ↓ownL, ↓lockIt, ↓unlockIt, isT, ↓setAll, ↓wipeE, ↓startE, ↓Tg.slots, ↓IEs.fine, ↓IEs.len, ↓noOwn, ↓isOwnE, ↓Sl.isO, ↓Ev.freeAll, List.replicate, if_true, if_false, reduceIte, Nat.reduceLeDiff, Nat.reduceSub, Nat.reduceAdd, eq_self, reduceCtorEq, Int.reduceLT, Nat.reduceLT, ↓wpl, wpu])
    refine ⟨by omega, ?_⟩
    have hg : cs.getD i 0 = cs[i] := by rw [List.getD_eq_getElem?_getD, hx]; rfl
    have done : K [.val (.int c), .val (.tuple (cs.map .int)), .val (.int most), .own (.list ((List.range i).map (fun k => .int (drawn c (cs.getD k 0) k)) ++ [.int (drawn c cs[i] i)])), .un, .un, .un] := by
      refine hK _ ?_
      rw [List.range_succ, List.map_append, List.map_singleton, hg]
    unfold drawn at done
    split
    · rename_i h
      rw [if_pos h] at done
      refine at_map hx ?_
      refine at2 (by omega) (by omega) (fun h0 => ⟨by omega, ?_⟩) fun h0 => ⟨by omega, ?_⟩
      · rw [if_pos h0] at done
        exact done
      · rw [if_neg (by omega)] at done
        exact done
    · rename_i h
      rw [if_neg h] at done
      exact ⟨by omega, done⟩
def GoodOr (n : Nat) (os : List (Nat × Nat)) : Prop := ∃ rank : Nat → Nat, (∀ i, i < n → rank i < n) ∧ ∀ o ∈ os, o.1 < n ∧ o.2 < n ∧ rank o.1 < rank o.2
def g_l_orders : Pm := fun ds R => ∃ (c : Int) (n : Nat) (most : Int), ds = [.int c, .int n, .int most] ∧ 0 ≤ c ∧ 1 ≤ n ∧ n ≤ 12 ∧ 0 ≤ most ∧ most ≤ 40 ∧ ∀ os : List (Nat × Nat), os.length ≤ most.toNat → GoodOr n os → R (.tuple (os.map eOrd))
abbrev e_l_orders : FnE := ⟨"_law_orders", 3, false, g_l_orders⟩
theorem sem_l_orders : ∀ ds R, ds.length = 3 → g_l_orders ds R → wpSs (Gof [e_l_mix]) ir_l_orders (startE 8 ds) { nx := fun _ => false = false ∧ R .none, rt := R } := by
  rintro _ R _ ⟨c, n, most, rfl, hc, hn1, hn12, hm1, hm2, q⟩
  (try simp only [ir_l_orders, ↓wpSs, ↓wpS, ↓wpE, ↓wpEs, ↓wpBop, ↓wpIfs, ↓wpIt, ↓pk, ↓bindT, ↓ownL, ↓lockIt, ↓unlockIt, isT, ↓setAll, ↓wipeE, ↓startE, ↓Tg.slots, ↓IEs.fine, ↓IEs.len, ↓noOwn, ↓isOwnE, ↓Sl.isO, ↓Ev.freeAll, List.replicate, if_true, if_false, reduceIte, Nat.reduceLeDiff, Nat.reduceSub, Nat.reduceAdd, eq_self, reduceCtorEq, Int.reduceLT, Nat.reduceLT, ↓wpl, wpu])
  refine ⟨by omega, by omega, ?_⟩
  refine compL_map (fun k : Nat => .tuple [.int (mix c k % 997), .int k]) (fun k _ K h => ?_) ?_
  · (try simp only [mix_ap, ↓wpSs, ↓wpS, ↓wpE, ↓wpEs, ↓wpBop, ↓wpIfs, ↓wpIt, ↓pk, ↓bindT, ↓ownL, ↓lockIt, ↓unlockIt, isT, ↓setAll, ↓wipeE, ↓startE, ↓Tg.slots, ↓IEs.fine, ↓IEs.len, ↓noOwn, ↓isOwnE, ↓Sl.isO, ↓Ev.freeAll, List.replicate, if_true, if_false, reduceIte, Nat.reduceLeDiff, Nat.reduceSub, Nat.reduceAdd, eq_self, reduceCtorEq, Int.reduceLT, Nat.reduceLT, ↓wpl, wpu])
    exact h
  · refine ⟨fun x hx => ?_, fun ys hp _ => ?_⟩
    · obtain ⟨k, _, rfl⟩ := List.mem_map.mp hx
      exact ⟨_, _, rfl⟩
    · let g : Nat → PyData := fun k => .tuple [.int (mix c k % 997), .int k]
      let pr : PyData → Nat := fun x => match x with | .tuple [_, .int j] => j.toNat | _ => 0
      have hpg : ∀ k, pr (g k) = k := fun k => by simp [pr, g]
      have hys : ys = (ys.map pr).map g := by
        rw [List.map_map]
        refine (List.map_id ys).symm.trans (List.map_congr_left fun y hy => ?_)
        obtain ⟨k, _, rfl⟩ := List.mem_map.mp (hp.mem_iff.mp hy)
        exact (congrArg g (hpg k)).symm
      have hl : (ys.map pr).Perm (List.range n) := by
        have := hp.map pr
        rw [List.map_map] at this
        have e : List.map (pr ∘ fun k : Nat => PyData.tuple [.int (mix c k % 997), .int k]) (List.range n) = List.range n := by
          refine (List.map_congr_left fun k _ => ?_).trans (List.map_id _)
          exact hpg k
        rw [e] at this
        exact this
      generalize ys.map pr = l at hys hl
      subst hys
      clear hp
      have hll : l.length = n := by simpa using hl.length_eq
      have hnd : l.Nodup := hl.nodup_iff.mpr List.nodup_range
      have hb := mod_lt_ (a := c) (b := most + 1) (by omega)
      refine ⟨by omega, by omega, ?_⟩
      have hme : ∀ {a : Nat} (h : a < l.length), l[a] < n := fun {a} h => List.mem_range.mp (hl.mem_iff.mp (List.getElem_mem h))
      refine forL_rng (fun i r => ∃ os : List (Nat × Nat), r = [.val (.int c), .val (.int n), .val (.int most), .val (.list (l.map g)), .own (.list (os.map eOrd)), .un, .un, .un] ∧ os.length ≤ i ∧ ∀ o ∈ os, o.1 < n ∧ o.2 < n ∧ l.idxOf o.1 < l.idxOf o.2) ⟨[], rfl, by simp, fun o ho => by simp at ho⟩ ?_ ?_
      · rintro _ ⟨os, rfl, h1, h2⟩
        (try simp only [ir_l_orders_t0, ↓wpSs, ↓wpS, ↓wpE, ↓wpEs, ↓wpBop, ↓wpIfs, ↓wpIt, ↓pk, ↓bindT, ↓ownL, ↓lockIt, ↓unlockIt, isT, ↓setAll, ↓wipeE, ↓startE, ↓Tg.slots, ↓IEs.fine, ↓IEs.len, ↓noOwn, ↓isOwnE, ↓Sl.isO, ↓Ev.freeAll, List.replicate, if_true, if_false, reduceIte, Nat.reduceLeDiff, Nat.reduceSub, Nat.reduceAdd, eq_self, reduceCtorEq, Int.reduceLT, Nat.reduceLT, ↓wpl, wpu])
        exact q os (by omega) ⟨fun i => l.idxOf i, fun i hi => by rw [← hll]; exact List.idxOf_lt_length_of_mem (hl.mem_iff.mpr (List.mem_range.mpr hi)), h2⟩
      · rintro i _ K hi ⟨os, rfl, h1, h2⟩ hK
        (try simp only [ir_l_orders_b0, mix_ap, ↓wpSs, ↓wpS, ↓wpE, ↓wpEs, ↓wpBop, ↓wpIfs, ↓wpIt, ↓pk, ↓bindT, ↓ownL, ↓lockIt, ↓unlockIt, isT, ↓setAll, ↓wipeE, ↓startE, ↓Tg.slots, ↓IEs.fine, ↓IEs.len, ↓noOwn, ↓isOwnE, ↓Sl.isO, ↓Ev.freeAll, List.replicate, if_true, if_false, reduceIte, Nat.reduceLeDiff, Nat.reduceSub, Nat.reduceAdd, eq_self, reduceCtorEq, Int.reduceLT, Nat.reduceLT, ↓wpl, wpu])
        have b1 := mod_lt_ (a := mix c (50 + i)) (b := n) (by omega)
        have b2 := mod_lt_ (a := mix c (150 + i)) (b := n) (by omega)
        generalize mix c (50 + i) % n = a at b1
        generalize mix c (150 + i) % n = b at b2
        refine ⟨by omega, by omega, ?_⟩
        split
        · rename_i hne
          have hne : a ≠ b := by simpa using hne
          refine at_mapI (by omega) (mem_at (by omega)) ?_
          show ixP (g _) _ _
          (try simp only [g, ↓wpSs, ↓wpS, ↓wpE, ↓wpEs, ↓wpBop, ↓wpIfs, ↓wpIt, ↓pk, ↓bindT, ↓ownL, ↓lockIt, ↓unlockIt, isT, ↓setAll, ↓wipeE, ↓startE, ↓Tg.slots, ↓IEs.fine, ↓IEs.len, ↓noOwn, ↓isOwnE, ↓Sl.isO, ↓Ev.freeAll, List.replicate, if_true, if_false, reduceIte, Nat.reduceLeDiff, Nat.reduceSub, Nat.reduceAdd, eq_self, reduceCtorEq, Int.reduceLT, Nat.reduceLT, ↓wpl, wpu])
          refine at_mapI (by omega) (mem_at (by omega)) ?_
          (try simp only [g, ↓wpSs, ↓wpS, ↓wpE, ↓wpEs, ↓wpBop, ↓wpIfs, ↓wpIt, ↓pk, ↓bindT, ↓ownL, ↓lockIt, ↓unlockIt, isT, ↓setAll, ↓wipeE, ↓startE, ↓Tg.slots, ↓IEs.fine, ↓IEs.len, ↓noOwn, ↓isOwnE, ↓Sl.isO, ↓Ev.freeAll, List.replicate, if_true, if_false, reduceIte, Nat.reduceLeDiff, Nat.reduceSub, Nat.reduceAdd, eq_self, reduceCtorEq, Int.reduceLT, Nat.reduceLT, ↓wpl, wpu])
          refine ⟨by omega, ?_⟩
          refine hK _ ⟨os ++ [(l[(min a b).toNat]'(by omega), l[(max a b).toNat]'(by omega))], by rw [List.map_append]; rfl, by simp; omega, fun o ho => ?_⟩
          rw [List.mem_append, List.mem_singleton] at ho
          rcases ho with ho | rfl
          · exact h2 o ho
          · refine ⟨hme _, hme _, ?_⟩
            show l.idxOf l[(min a b).toNat] < l.idxOf l[(max a b).toNat]
            rw [hnd.idxOf_getElem, hnd.idxOf_getElem]
            omega
        · refine hK _ ⟨os, rfl, by omega, h2⟩
structure GoodFl (most : Int) (F : Fl) : Prop where
  c : GoodCr F.crews
  j1 : 1 ≤ F.jobs.length
  j2 : F.jobs.length ≤ 12
  j : ∀ j ∈ F.jobs, GoodJob F.crews most j
  o : F.orders.length ≤ 40
  r : GoodOr F.jobs.length F.orders
def g_l_floor : Pm := fun ds R => ∃ (ns : List Int) (at_ : Int) (n : Nat) (most ol : Int), ds = [.list (ns.map .int), .int at_, .int n, .int most, .int ol] ∧ 0 ≤ at_ ∧ 1 ≤ n ∧ n ≤ 12 ∧ 1 ≤ most ∧ most ≤ 50 ∧ 0 ≤ ol ∧ ol ≤ 40 ∧ ∀ F : Fl, GoodFl most F → F.jobs.length = n → F.orders.length ≤ ol.toNat → R (eFl F)
abbrev e_l_floor : FnE := ⟨"_law_floor", 5, false, g_l_floor⟩
theorem cell_ap {ns : List Int} {k : Int} {Q : PyData → Prop} (h : 0 ≤ k) (q : Q (.int (cellAt ns k.toNat))) : g_l_cell_at [.list (ns.map .int), .int k] Q := ⟨ns, k, rfl, h, q⟩
theorem sem_l_floor : ∀ ds R, ds.length = 5 → g_l_floor ds R → wpSs (Gof [e_l_crews, e_l_cell_at, e_l_job, e_l_mix, e_l_orders]) ir_l_floor (startE 8 ds) { nx := fun _ => false = false ∧ R .none, rt := R } := by
  rintro _ R _ ⟨ns, at_, n, most, ol, rfl, ha, hn1, hn2, hm1, hm2, ho1, ho2, q⟩
  (try simp only [ir_l_floor, ↓wpSs, ↓wpS, ↓wpE, ↓wpEs, ↓wpBop, ↓wpIfs, ↓wpIt, ↓pk, ↓bindT, ↓ownL, ↓lockIt, ↓unlockIt, isT, ↓setAll, ↓wipeE, ↓startE, ↓Tg.slots, ↓IEs.fine, ↓IEs.len, ↓noOwn, ↓isOwnE, ↓Sl.isO, ↓Ev.freeAll, List.replicate, if_true, if_false, reduceIte, Nat.reduceLeDiff, Nat.reduceSub, Nat.reduceAdd, eq_self, reduceCtorEq, Int.reduceLT, Nat.reduceLT, ↓wpl, wpu])
  refine cell_ap ha ⟨_, rfl, (cell_bd _ _).1, fun cs hcs => ?_⟩
  (try simp only [↓wpSs, ↓wpS, ↓wpE, ↓wpEs, ↓wpBop, ↓wpIfs, ↓wpIt, ↓pk, ↓bindT, ↓ownL, ↓lockIt, ↓unlockIt, isT, ↓setAll, ↓wipeE, ↓startE, ↓Tg.slots, ↓IEs.fine, ↓IEs.len, ↓noOwn, ↓isOwnE, ↓Sl.isO, ↓Ev.freeAll, List.replicate, if_true, if_false, reduceIte, Nat.reduceLeDiff, Nat.reduceSub, Nat.reduceAdd, eq_self, reduceCtorEq, Int.reduceLT, Nat.reduceLT, ↓wpl, wpu])
  refine ⟨by omega, ?_⟩
  refine forL_rng (fun i r => ∃ js : List (Int × List Int), r = [.val (.list (ns.map .int)), .val (.int at_), .val (.int n), .val (.int most), .val (.int ol), .val (.tuple (cs.map .int)), .own (.list (js.map eJob)), .un] ∧ js.length = i ∧ ∀ j ∈ js, GoodJob cs most j) ⟨[], rfl, rfl, fun j hj => by simp at hj⟩ ?_ ?_
  · rintro _ ⟨js, rfl, h1, h2⟩
    (try simp only [ir_l_floor_t0, ↓wpSs, ↓wpS, ↓wpE, ↓wpEs, ↓wpBop, ↓wpIfs, ↓wpIt, ↓pk, ↓bindT, ↓ownL, ↓lockIt, ↓unlockIt, isT, ↓setAll, ↓wipeE, ↓startE, ↓Tg.slots, ↓IEs.fine, ↓IEs.len, ↓noOwn, ↓isOwnE, ↓Sl.isO, ↓Ev.freeAll, List.replicate, if_true, if_false, reduceIte, Nat.reduceLeDiff, Nat.reduceSub, Nat.reduceAdd, eq_self, reduceCtorEq, Int.reduceLT, Nat.reduceLT, ↓wpl, wpu])
    refine cell_ap (by omega) ⟨_, _, _, rfl, (cell_bd _ _).1, hn1, hn2, ho1, ho2, fun os h3 h4 => ?_⟩
    (try simp only [↓wpSs, ↓wpS, ↓wpE, ↓wpEs, ↓wpBop, ↓wpIfs, ↓wpIt, ↓pk, ↓bindT, ↓ownL, ↓lockIt, ↓unlockIt, isT, ↓setAll, ↓wipeE, ↓startE, ↓Tg.slots, ↓IEs.fine, ↓IEs.len, ↓noOwn, ↓isOwnE, ↓Sl.isO, ↓Ev.freeAll, List.replicate, if_true, if_false, reduceIte, Nat.reduceLeDiff, Nat.reduceSub, Nat.reduceAdd, eq_self, reduceCtorEq, Int.reduceLT, Nat.reduceLT, ↓wpl, wpu])
    have h5 : js.length = n := by simpa using h1
    exact q ⟨cs, js, os⟩ ⟨hcs, by show 1 ≤ js.length; omega, by show js.length ≤ 12; omega, h2, by show os.length ≤ 40; omega, by show GoodOr js.length os; rw [h5]; exact h4⟩ h5 h3
  · rintro i _ K hi ⟨js, rfl, h1, h2⟩ hK
    (try simp only [ir_l_floor_b0, mix_ap, ↓wpSs, ↓wpS, ↓wpE, ↓wpEs, ↓wpBop, ↓wpIfs, ↓wpIt, ↓pk, ↓bindT, ↓ownL, ↓lockIt, ↓unlockIt, isT, ↓setAll, ↓wipeE, ↓startE, ↓Tg.slots, ↓IEs.fine, ↓IEs.len, ↓noOwn, ↓isOwnE, ↓Sl.isO, ↓Ev.freeAll, List.replicate, if_true, if_false, reduceIte, Nat.reduceLeDiff, Nat.reduceSub, Nat.reduceAdd, eq_self, reduceCtorEq, Int.reduceLT, Nat.reduceLT, ↓wpl, wpu])
    refine cell_ap (by omega) ?_
    (try simp only [mix_ap, ↓wpSs, ↓wpS, ↓wpE, ↓wpEs, ↓wpBop, ↓wpIfs, ↓wpIt, ↓pk, ↓bindT, ↓ownL, ↓lockIt, ↓unlockIt, isT, ↓setAll, ↓wipeE, ↓startE, ↓Tg.slots, ↓IEs.fine, ↓IEs.len, ↓noOwn, ↓isOwnE, ↓Sl.isO, ↓Ev.freeAll, List.replicate, if_true, if_false, reduceIte, Nat.reduceLeDiff, Nat.reduceSub, Nat.reduceAdd, eq_self, reduceCtorEq, Int.reduceLT, Nat.reduceLT, ↓wpl, wpu])
    refine ⟨_, _, _, rfl, (mix_bd _ _).1, hcs, hm1, hm2, fun j hj => ?_⟩
    (try simp only [↓wpSs, ↓wpS, ↓wpE, ↓wpEs, ↓wpBop, ↓wpIfs, ↓wpIt, ↓pk, ↓bindT, ↓ownL, ↓lockIt, ↓unlockIt, isT, ↓setAll, ↓wipeE, ↓startE, ↓Tg.slots, ↓IEs.fine, ↓IEs.len, ↓noOwn, ↓isOwnE, ↓Sl.isO, ↓Ev.freeAll, List.replicate, if_true, if_false, reduceIte, Nat.reduceLeDiff, Nat.reduceSub, Nat.reduceAdd, eq_self, reduceCtorEq, Int.reduceLT, Nat.reduceLT, ↓wpl, wpu])
    have hi : i < n := by simpa using hi
    refine ⟨by omega, hK _ ⟨js ++ [j], by rw [List.map_append]; rfl, by simp [h1], fun x hx => ?_⟩⟩
    rw [List.mem_append, List.mem_singleton] at hx
    rcases hx with hx | rfl
    · exact h2 x hx
    · exact hj
def g_l_whole : Pm := fun ds R => ∃ d, ds = [d] ∧ R (.bool (isT d .int && !isT d .bool))
abbrev e_l_whole : FnE := ⟨"_law_whole", 1, false, g_l_whole⟩
theorem whole_int {i : Int} {Q : PyData → Prop} (q : Q (.bool true)) : g_l_whole [.int i] Q := ⟨_, rfl, q⟩
theorem sem_l_whole : ∀ ds R, ds.length = 1 → g_l_whole ds R → wpSs (Gof []) ir_l_whole (startE 1 ds) { nx := fun _ => false = false ∧ R .none, rt := R } := by
  rintro _ R _ ⟨d, rfl, q⟩
  cases d <;> ((try simp only [ir_l_whole, ↓wpSs, ↓wpS, ↓wpE, ↓wpEs, ↓wpBop, ↓wpIfs, ↓wpIt, ↓pk, ↓bindT, ↓ownL, ↓lockIt, ↓unlockIt, isT, ↓setAll, ↓wipeE, ↓startE, ↓Tg.slots, ↓IEs.fine, ↓IEs.len, ↓noOwn, ↓isOwnE, ↓Sl.isO, ↓Ev.freeAll, List.replicate, if_true, if_false, reduceIte, Nat.reduceLeDiff, Nat.reduceSub, Nat.reduceAdd, eq_self, reduceCtorEq, Int.reduceLT, Nat.reduceLT, ↓wpl, wpu]); simpa [isT] using q)
def g_l_numbers : Pm := fun ds R => ∃ ns : List Int, ds = [.list (ns.map .int), .list (ns.map .int)] ∧ ns.length ≤ 1000000 ∧ R (.bool true)
abbrev e_l_numbers : FnE := ⟨"_law_numbers", 2, false, g_l_numbers⟩
theorem sem_l_numbers : ∀ ds R, ds.length = 2 → g_l_numbers ds R → wpSs (Gof [e_l_whole]) ir_l_numbers (startE 3 ds) { nx := fun _ => false = false ∧ R .none, rt := R } := by
  rintro _ R _ ⟨ns, rfl, hl, q⟩
  (try simp only [ir_l_numbers, ir_l_numbers_t1, ↓wpSs, ↓wpS, ↓wpE, ↓wpEs, ↓wpBop, ↓wpIfs, ↓wpIt, ↓pk, ↓bindT, ↓ownL, ↓lockIt, ↓unlockIt, isT, ↓setAll, ↓wipeE, ↓startE, ↓Tg.slots, ↓IEs.fine, ↓IEs.len, ↓noOwn, ↓isOwnE, ↓Sl.isO, ↓Ev.freeAll, List.replicate, if_true, if_false, reduceIte, Nat.reduceLeDiff, Nat.reduceSub, Nat.reduceAdd, eq_self, reduceCtorEq, Int.reduceLT, Nat.reduceLT, ↓wpl, wpu])
  refine ⟨by omega, ?_⟩
  refine forL_rng (fun i r => r = [.val (.list (ns.map .int)), .val (.list (ns.map .int)), .un]) rfl ?_ ?_
  · rintro _ rfl
    (try simp only [ir_l_numbers_t0, ↓wpSs, ↓wpS, ↓wpE, ↓wpEs, ↓wpBop, ↓wpIfs, ↓wpIt, ↓pk, ↓bindT, ↓ownL, ↓lockIt, ↓unlockIt, isT, ↓setAll, ↓wipeE, ↓startE, ↓Tg.slots, ↓IEs.fine, ↓IEs.len, ↓noOwn, ↓isOwnE, ↓Sl.isO, ↓Ev.freeAll, List.replicate, if_true, if_false, reduceIte, Nat.reduceLeDiff, Nat.reduceSub, Nat.reduceAdd, eq_self, reduceCtorEq, Int.reduceLT, Nat.reduceLT, ↓wpl, wpu])
    exact q
  · rintro i _ K hi rfl hK
    (try simp only [ir_l_numbers_b0, ↓wpSs, ↓wpS, ↓wpE, ↓wpEs, ↓wpBop, ↓wpIfs, ↓wpIt, ↓pk, ↓bindT, ↓ownL, ↓lockIt, ↓unlockIt, isT, ↓setAll, ↓wipeE, ↓startE, ↓Tg.slots, ↓IEs.fine, ↓IEs.len, ↓noOwn, ↓isOwnE, ↓Sl.isO, ↓Ev.freeAll, List.replicate, if_true, if_false, reduceIte, Nat.reduceLeDiff, Nat.reduceSub, Nat.reduceAdd, eq_self, reduceCtorEq, Int.reduceLT, Nat.reduceLT, ↓wpl, wpu])
    refine at_map (mem_at hi) (whole_int ?_)
    (try simp only [↓wpSs, ↓wpS, ↓wpE, ↓wpEs, ↓wpBop, ↓wpIfs, ↓wpIt, ↓pk, ↓bindT, ↓ownL, ↓lockIt, ↓unlockIt, isT, ↓setAll, ↓wipeE, ↓startE, ↓Tg.slots, ↓IEs.fine, ↓IEs.len, ↓noOwn, ↓isOwnE, ↓Sl.isO, ↓Ev.freeAll, List.replicate, if_true, if_false, reduceIte, Nat.reduceLeDiff, Nat.reduceSub, Nat.reduceAdd, eq_self, reduceCtorEq, Int.reduceLT, Nat.reduceLT, ↓wpl, wpu])
    refine at_map (mem_at hi) ?_
    (try simp only [↓wpSs, ↓wpS, ↓wpE, ↓wpEs, ↓wpBop, ↓wpIfs, ↓wpIt, ↓pk, ↓bindT, ↓ownL, ↓lockIt, ↓unlockIt, isT, ↓setAll, ↓wipeE, ↓startE, ↓Tg.slots, ↓IEs.fine, ↓IEs.len, ↓noOwn, ↓isOwnE, ↓Sl.isO, ↓Ev.freeAll, List.replicate, if_true, if_false, reduceIte, Nat.reduceLeDiff, Nat.reduceSub, Nat.reduceAdd, eq_self, reduceCtorEq, Int.reduceLT, Nat.reduceLT, ↓wpl, wpu])
    refine at_map (mem_at hi) ?_
    (try simp only [↓wpSs, ↓wpS, ↓wpE, ↓wpEs, ↓wpBop, ↓wpIfs, ↓wpIt, ↓pk, ↓bindT, ↓ownL, ↓lockIt, ↓unlockIt, isT, ↓setAll, ↓wipeE, ↓startE, ↓Tg.slots, ↓IEs.fine, ↓IEs.len, ↓noOwn, ↓isOwnE, ↓Sl.isO, ↓Ev.freeAll, List.replicate, if_true, if_false, reduceIte, Nat.reduceLeDiff, Nat.reduceSub, Nat.reduceAdd, eq_self, reduceCtorEq, Int.reduceLT, Nat.reduceLT, ↓wpl, wpu])
    exact hK _ rfl
theorem floor_ap {ns : List Int} {at_ n most ol : Int} {Q : PyData → Prop} (ha : 0 ≤ at_) (hn1 : 1 ≤ n) (hn2 : n ≤ 12) (hm1 : 1 ≤ most) (hm2 : most ≤ 50) (ho1 : 0 ≤ ol) (ho2 : ol ≤ 40)
    (q : ∀ F : Fl, GoodFl most F → (F.jobs.length : Int) = n → F.orders.length ≤ ol.toNat → Q (eFl F)) : g_l_floor [.list (ns.map .int), .int at_, .int n, .int most, .int ol] Q := by
  obtain ⟨m, rfl⟩ := Int.eq_ofNat_of_zero_le (show 0 ≤ n by omega)
  exact ⟨ns, at_, m, most, ol, rfl, ha, by omega, by omega, hm1, hm2, ho1, ho2, fun F h1 h2 h3 => q F h1 (by rw [h2]) h3⟩
theorem good_mono {a b : Int} (h : a ≤ b) {F : Fl} (hF : GoodFl a F) : GoodFl b F := ⟨hF.c, hF.j1, hF.j2, fun j hj => ⟨(hF.j j hj).1, Int.le_trans (hF.j j hj).2.1 h, (hF.j j hj).2.2⟩, hF.o, hF.r⟩
end CF
namespace CF
open PySem PySem.Spec PyProof.Rows L2
-- 0 at, 1 hours, 2 begin, 3 end
def ir_shared : ISs :=
  (.cons (.ret (.blt .max2 (.cons (.kint 0) (.cons (.bin .Sub (.blt .min2 (.cons (.bin .Add (.var 0) (.var 1)) (.cons (.var 3) .nil))) (.blt .max2 (.cons (.var 0) (.cons (.var 2) .nil)))) .nil))))
  .nil)
-- calls: 
-- 0 window, 1 hours, 2 begin, 3 end
def ir_within : ISs :=
  (.cons (.ret (.blt .min2 (.cons (.call 0 (.cons (.ix (.var 0) (.kint 0)) (.cons (.var 1) (.cons (.var 2) (.cons (.var 3) .nil))))) (.cons (.call 0 (.cons (.ix (.var 0) (.kint 1)) (.cons (.var 1) (.cons (.var 2) (.cons (.var 3) .nil))))) .nil))))
  .nil)
-- calls: shared
-- 0 floor, 1 found, 2 crew, 3 begin, 4 end, 5 total, 6 job, 7 hours, 8 needs
def ir_asked_b0 : ISs :=
  (.cons (.setT [7, 8] (.ix (.ix (.var 0) (.kint 1)) (.var 6)))
  (.cons (.set 5 (.bin .Add (.var 5) (.bin .Mult (.ix (.var 8) (.var 2)) (.call 0 (.cons (.ix (.var 1) (.var 6)) (.cons (.var 7) (.cons (.var 3) (.cons (.var 4) .nil))))))))
  (.fgt [6, 7, 8] .nil)))
def ir_asked_t0 : ISs :=
  (.cons (.ret (.var 5))
  .nil)
def ir_asked : ISs :=
  (.cons (.set 5 (.kint 0))
  (.cons (.fors (.one 6) (.rng (.cons (.blt .len (.cons (.ix (.var 0) (.kint 1)) .nil)) .nil)) ir_asked_b0)
  ir_asked_t0))
-- calls: within
-- 0 _law_start, 1 _law_hours, 2 _law_begin, 3 _law_end, 4 _law_low, 5 _law_high
def ir_l_inside : ISs :=
  (.cons (.set 4 (.blt .max2 (.cons (.var 0) (.cons (.var 2) .nil))))
  (.cons (.set 5 (.blt .min2 (.cons (.bin .Add (.var 0) (.var 1)) (.cons (.var 3) .nil))))
  (.cons (.ret (.ix (.lst (.cons (.kint 0) (.cons (.bin .Sub (.var 5) (.var 4)) .nil))) (.blt .int1 (.cons (.cmp .Gt (.var 5) (.var 4)) .nil))))
  .nil)))
-- calls: 
-- 0 _law_window, 1 _law_hours, 2 _law_begin, 3 _law_end
def ir_l_within : ISs :=
  (.cons (.ret (.blt .min2 (.cons (.call 0 (.cons (.ix (.var 0) (.kint 0)) (.cons (.var 1) (.cons (.var 2) (.cons (.var 3) .nil))))) (.cons (.call 0 (.cons (.ix (.var 0) (.kint 1)) (.cons (.var 1) (.cons (.var 2) (.cons (.var 3) .nil))))) .nil))))
  .nil)
-- calls: _law_inside
-- 0 _law_floor_here, 1 _law_found, 2 _law_crew, 3 _law_begin, 4 _law_end, 5 _law_total, 6 _law_job_here, 7 _law_hours, 8 _law_needs
def ir_l_asked_b0 : ISs :=
  (.cons (.setT [7, 8] (.ix (.ix (.var 0) (.kint 1)) (.var 6)))
  (.cons (.set 5 (.bin .Add (.var 5) (.bin .Mult (.ix (.var 8) (.var 2)) (.call 0 (.cons (.ix (.var 1) (.var 6)) (.cons (.var 7) (.cons (.var 3) (.cons (.var 4) .nil))))))))
  (.fgt [6, 7, 8] .nil)))
def ir_l_asked_t0 : ISs :=
  (.cons (.ret (.var 5))
  .nil)
def ir_l_asked : ISs :=
  (.cons (.set 5 (.kint 0))
  (.cons (.fors (.one 6) (.rng (.cons (.blt .len (.cons (.ix (.var 0) (.kint 1)) .nil)) .nil)) ir_l_asked_b0)
  ir_l_asked_t0))
-- calls: _law_within
end CF
namespace CF
open PySem PySem.Spec PyProof.Rows L2
/-! ### hours within a stretch -/
def mShared (a h b e : Int) : Int := max 0 (min (a + h) e - max a b)
def mWithin (w : Int × Int) (h b e : Int) : Int := min (mShared w.1 h b e) (mShared w.2 h b e)
def sumTo (f : Nat → Int) : Nat → Int
  | 0 => 0
  | n + 1 => sumTo f n + f n
def Fl.h (F : Fl) (k : Nat) : Int := (F.jobs.getD k (0, [])).1
def Fl.need (F : Fl) (k c : Nat) : Int := (F.jobs.getD k (0, [])).2.getD c 0
def mAsked (F : Fl) (W : List (Int × Int)) (c : Nat) (b e : Int) : Int := sumTo (fun k => F.need k c * mWithin (W.getD k (0, 0)) (F.h k) b e) F.jobs.length
theorem getD_of {α : Type} {l : List α} {k : Nat} {d : α} (h : k < l.length) : l.getD k d = l[k] := by simp [h]
def g_shared : Pm := fun ds R => ∃ a h b e : Int, ds = [.int a, .int h, .int b, .int e] ∧ R (.int (mShared a h b e))
abbrev e_shared : FnE := ⟨"shared", 4, false, g_shared⟩
theorem shared_ap {a h b e : Int} {Q : PyData → Prop} (q : Q (.int (mShared a h b e))) : g_shared [.int a, .int h, .int b, .int e] Q := ⟨a, h, b, e, rfl, q⟩
theorem sem_shared : ∀ ds R, ds.length = 4 → g_shared ds R → wpSs (Gof []) ir_shared (startE 4 ds) { nx := fun _ => false = false ∧ R .none, rt := R } := by
  rintro _ R _ ⟨a, h, b, e, rfl, q⟩
  (try simp only [ir_shared, ↓wpSs, ↓wpS, ↓wpE, ↓wpEs, ↓wpBop, ↓wpIfs, ↓wpIt, ↓pk, ↓bindT, ↓ownL, ↓lockIt, ↓unlockIt, isT, ↓setAll, ↓wipeE, ↓startE, ↓Tg.slots, ↓IEs.fine, ↓IEs.len, ↓noOwn, ↓isOwnE, ↓Sl.isO, ↓Ev.freeAll, List.replicate, if_true, if_false, reduceIte, Nat.reduceLeDiff, Nat.reduceSub, Nat.reduceAdd, eq_self, reduceCtorEq, Int.reduceLT, Nat.reduceLT, ↓wpl, wpu])
  exact q
def g_within : Pm := fun ds R => ∃ (w : Int × Int) (h b e : Int), ds = [eP w, .int h, .int b, .int e] ∧ R (.int (mWithin w h b e))
abbrev e_within : FnE := ⟨"within", 4, false, g_within⟩
theorem within_ap {w : Int × Int} {h b e : Int} {Q : PyData → Prop} (q : Q (.int (mWithin w h b e))) : g_within [eP w, .int h, .int b, .int e] Q := ⟨w, h, b, e, rfl, q⟩
theorem sem_within : ∀ ds R, ds.length = 4 → g_within ds R → wpSs (Gof [e_shared]) ir_within (startE 4 ds) { nx := fun _ => false = false ∧ R .none, rt := R } := by
  rintro _ R _ ⟨w, h, b, e, rfl, q⟩
  (try simp only [ir_within, ↓wpSs, ↓wpS, ↓wpE, ↓wpEs, ↓wpBop, ↓wpIfs, ↓wpIt, ↓pk, ↓bindT, ↓ownL, ↓lockIt, ↓unlockIt, isT, ↓setAll, ↓wipeE, ↓startE, ↓Tg.slots, ↓IEs.fine, ↓IEs.len, ↓noOwn, ↓isOwnE, ↓Sl.isO, ↓Ev.freeAll, List.replicate, if_true, if_false, reduceIte, Nat.reduceLeDiff, Nat.reduceSub, Nat.reduceAdd, eq_self, reduceCtorEq, Int.reduceLT, Nat.reduceLT, ↓wpl, wpu])
  refine shared_ap ?_
  (try simp only [↓wpSs, ↓wpS, ↓wpE, ↓wpEs, ↓wpBop, ↓wpIfs, ↓wpIt, ↓pk, ↓bindT, ↓ownL, ↓lockIt, ↓unlockIt, isT, ↓setAll, ↓wipeE, ↓startE, ↓Tg.slots, ↓IEs.fine, ↓IEs.len, ↓noOwn, ↓isOwnE, ↓Sl.isO, ↓Ev.freeAll, List.replicate, if_true, if_false, reduceIte, Nat.reduceLeDiff, Nat.reduceSub, Nat.reduceAdd, eq_self, reduceCtorEq, Int.reduceLT, Nat.reduceLT, ↓wpl, wpu])
  refine shared_ap ?_
  (try simp only [↓wpSs, ↓wpS, ↓wpE, ↓wpEs, ↓wpBop, ↓wpIfs, ↓wpIt, ↓pk, ↓bindT, ↓ownL, ↓lockIt, ↓unlockIt, isT, ↓setAll, ↓wipeE, ↓startE, ↓Tg.slots, ↓IEs.fine, ↓IEs.len, ↓noOwn, ↓isOwnE, ↓Sl.isO, ↓Ev.freeAll, List.replicate, if_true, if_false, reduceIte, Nat.reduceLeDiff, Nat.reduceSub, Nat.reduceAdd, eq_self, reduceCtorEq, Int.reduceLT, Nat.reduceLT, ↓wpl, wpu])
  exact q
def g_asked : Pm := fun ds R => ∃ (F : Fl) (W : List (Int × Int)) (c : Nat) (b e : Int), ds = [eFl F, .list (W.map eP), .int c, .int b, .int e] ∧ GoodFl 50 F ∧ W.length = F.jobs.length ∧ c < F.crews.length ∧ R (.int (mAsked F W c b e))
abbrev e_asked : FnE := ⟨"asked", 5, false, g_asked⟩
theorem asked_ap {F : Fl} {W : List (Int × Int)} {c : Nat} {b e : Int} {Q : PyData → Prop} (hF : GoodFl 50 F) (hW : W.length = F.jobs.length) (hc : c < F.crews.length) (q : Q (.int (mAsked F W c b e))) : g_asked [eFl F, .list (W.map eP), .int c, .int b, .int e] Q := ⟨F, W, c, b, e, rfl, hF, hW, hc, q⟩
theorem need_bd {F : Fl} {most : Int} (hF : GoodFl most F) {k c : Nat} (hk : k < F.jobs.length) (hc : c < F.crews.length) : ∃ h : c < (F.jobs[k]).2.length, (F.jobs[k]).2[c] = F.need k c ∧ 0 ≤ F.need k c ∧ F.need k c ≤ F.crews[c] ∧ F.need k c ≤ 50 := by
  obtain ⟨h1, h2, h3, h4⟩ := hF.j F.jobs[k] (List.getElem_mem hk)
  have hl : c < (F.jobs[k]).2.length := by omega
  have e : (F.jobs[k]).2[c] = F.need k c := by
    unfold Fl.need
    rw [getD_of hk, getD_of hl]
  have hb := h4 c _ _ (mem_at hc) (mem_at hl)
  have hcb := hF.c.2.2 F.crews[c] (List.getElem_mem hc)
  exact ⟨hl, e, by omega, by omega, by omega⟩
theorem hours_bd {F : Fl} {most : Int} (hF : GoodFl most F) {k : Nat} (hk : k < F.jobs.length) : (F.jobs[k]).1 = F.h k ∧ 1 ≤ F.h k ∧ F.h k ≤ most := by
  obtain ⟨h1, h2, _⟩ := hF.j F.jobs[k] (List.getElem_mem hk)
  have e : (F.jobs[k]).1 = F.h k := by
    unfold Fl.h
    rw [getD_of hk]
  exact ⟨e, by omega, by omega⟩
theorem asked_gen {G : Nat → Pm} (hG : G 0 = g_within) : ∀ ds R, ds.length = 5 → g_asked ds R → wpSs G ir_asked (startE 9 ds) { nx := fun _ => false = false ∧ R .none, rt := R } := by
  rintro _ R _ ⟨F, W, c, b, e, rfl, hF, hW, hc, q⟩
  (try simp only [ir_asked, ↓wpSs, ↓wpS, ↓wpE, ↓wpEs, ↓wpBop, ↓wpIfs, ↓wpIt, ↓pk, ↓bindT, ↓ownL, ↓lockIt, ↓unlockIt, isT, ↓setAll, ↓wipeE, ↓startE, ↓Tg.slots, ↓IEs.fine, ↓IEs.len, ↓noOwn, ↓isOwnE, ↓Sl.isO, ↓Ev.freeAll, List.replicate, if_true, if_false, reduceIte, Nat.reduceLeDiff, Nat.reduceSub, Nat.reduceAdd, eq_self, reduceCtorEq, Int.reduceLT, Nat.reduceLT, ↓wpl, wpu])
  have := hF.j2
  refine ⟨by omega, ?_⟩
  refine forL_rng (fun i r => r = [.val (eFl F), .val (.list (W.map eP)), .val (.int c), .val (.int b), .val (.int e), .val (.int (sumTo (fun k => F.need k c * mWithin (W.getD k (0, 0)) (F.h k) b e) i)), .un, .un, .un]) rfl ?_ ?_
  · rintro _ rfl
    (try simp only [ir_asked_t0, ↓wpSs, ↓wpS, ↓wpE, ↓wpEs, ↓wpBop, ↓wpIfs, ↓wpIt, ↓pk, ↓bindT, ↓ownL, ↓lockIt, ↓unlockIt, isT, ↓setAll, ↓wipeE, ↓startE, ↓Tg.slots, ↓IEs.fine, ↓IEs.len, ↓noOwn, ↓isOwnE, ↓Sl.isO, ↓Ev.freeAll, List.replicate, if_true, if_false, reduceIte, Nat.reduceLeDiff, Nat.reduceSub, Nat.reduceAdd, eq_self, reduceCtorEq, Int.reduceLT, Nat.reduceLT, ↓wpl, wpu])
    exact q
  · rintro i _ K hi rfl hK
    obtain ⟨hl, e1, e2, e3, e4⟩ := need_bd hF hi hc
    (try simp only [ir_asked_b0, hG, ↓wpSs, ↓wpS, ↓wpE, ↓wpEs, ↓wpBop, ↓wpIfs, ↓wpIt, ↓pk, ↓bindT, ↓ownL, ↓lockIt, ↓unlockIt, isT, ↓setAll, ↓wipeE, ↓startE, ↓Tg.slots, ↓IEs.fine, ↓IEs.len, ↓noOwn, ↓isOwnE, ↓Sl.isO, ↓Ev.freeAll, List.replicate, if_true, if_false, reduceIte, Nat.reduceLeDiff, Nat.reduceSub, Nat.reduceAdd, eq_self, reduceCtorEq, Int.reduceLT, Nat.reduceLT, ↓wpl, wpu])
    refine at_map (mem_at hi) ?_
    (try simp only [↓wpSs, ↓wpS, ↓wpE, ↓wpEs, ↓wpBop, ↓wpIfs, ↓wpIt, ↓pk, ↓bindT, ↓ownL, ↓lockIt, ↓unlockIt, isT, ↓setAll, ↓wipeE, ↓startE, ↓Tg.slots, ↓IEs.fine, ↓IEs.len, ↓noOwn, ↓isOwnE, ↓Sl.isO, ↓Ev.freeAll, List.replicate, if_true, if_false, reduceIte, Nat.reduceLeDiff, Nat.reduceSub, Nat.reduceAdd, eq_self, reduceCtorEq, Int.reduceLT, Nat.reduceLT, ↓wpl, wpu])
    refine at_map (mem_at hl) ?_
    (try simp only [↓wpSs, ↓wpS, ↓wpE, ↓wpEs, ↓wpBop, ↓wpIfs, ↓wpIt, ↓pk, ↓bindT, ↓ownL, ↓lockIt, ↓unlockIt, isT, ↓setAll, ↓wipeE, ↓startE, ↓Tg.slots, ↓IEs.fine, ↓IEs.len, ↓noOwn, ↓isOwnE, ↓Sl.isO, ↓Ev.freeAll, List.replicate, if_true, if_false, reduceIte, Nat.reduceLeDiff, Nat.reduceSub, Nat.reduceAdd, eq_self, reduceCtorEq, Int.reduceLT, Nat.reduceLT, ↓wpl, wpu])
    refine at_map (mem_at (k := i) (by omega)) (within_ap ?_)
    (try simp only [↓wpSs, ↓wpS, ↓wpE, ↓wpEs, ↓wpBop, ↓wpIfs, ↓wpIt, ↓pk, ↓bindT, ↓ownL, ↓lockIt, ↓unlockIt, isT, ↓setAll, ↓wipeE, ↓startE, ↓Tg.slots, ↓IEs.fine, ↓IEs.len, ↓noOwn, ↓isOwnE, ↓Sl.isO, ↓Ev.freeAll, List.replicate, if_true, if_false, reduceIte, Nat.reduceLeDiff, Nat.reduceSub, Nat.reduceAdd, eq_self, reduceCtorEq, Int.reduceLT, Nat.reduceLT, ↓wpl, wpu])
    refine ⟨cmul_l (by rw [e1]; omega), hK _ ?_⟩
    rw [e1, sumTo, getD_of (show i < W.length by omega), (hours_bd hF hi).1]
theorem sem_asked : ∀ ds R, ds.length = 5 → g_asked ds R → wpSs (Gof [e_within]) ir_asked (startE 9 ds) { nx := fun _ => false = false ∧ R .none, rt := R } := asked_gen rfl
/-! ### the same, reckoned by a law -/
abbrev g_l_inside : Pm := g_shared
abbrev e_l_inside : FnE := ⟨"_law_inside", 4, false, g_l_inside⟩
theorem sem_l_inside : ∀ ds R, ds.length = 4 → g_l_inside ds R → wpSs (Gof []) ir_l_inside (startE 6 ds) { nx := fun _ => false = false ∧ R .none, rt := R } := by
  rintro _ R _ ⟨a, h, b, e, rfl, q⟩
  (try simp only [ir_l_inside, ↓wpSs, ↓wpS, ↓wpE, ↓wpEs, ↓wpBop, ↓wpIfs, ↓wpIt, ↓pk, ↓bindT, ↓ownL, ↓lockIt, ↓unlockIt, isT, ↓setAll, ↓wipeE, ↓startE, ↓Tg.slots, ↓IEs.fine, ↓IEs.len, ↓noOwn, ↓isOwnE, ↓Sl.isO, ↓Ev.freeAll, List.replicate, if_true, if_false, reduceIte, Nat.reduceLeDiff, Nat.reduceSub, Nat.reduceAdd, eq_self, reduceCtorEq, Int.reduceLT, Nat.reduceLT, ↓wpl, wpu])
  unfold mShared at q
  by_cases hc : max a b < min (a + h) e
  · rw [if_pos hc]
    (try simp only [↓wpSs, ↓wpS, ↓wpE, ↓wpEs, ↓wpBop, ↓wpIfs, ↓wpIt, ↓pk, ↓bindT, ↓ownL, ↓lockIt, ↓unlockIt, isT, ↓setAll, ↓wipeE, ↓startE, ↓Tg.slots, ↓IEs.fine, ↓IEs.len, ↓noOwn, ↓isOwnE, ↓Sl.isO, ↓Ev.freeAll, List.replicate, if_true, if_false, reduceIte, Nat.reduceLeDiff, Nat.reduceSub, Nat.reduceAdd, eq_self, reduceCtorEq, Int.reduceLT, Nat.reduceLT, ↓wpl, wpu])
    rw [Int.max_eq_right (by omega)] at q
    exact q
  · rw [if_neg hc]
    (try simp only [↓wpSs, ↓wpS, ↓wpE, ↓wpEs, ↓wpBop, ↓wpIfs, ↓wpIt, ↓pk, ↓bindT, ↓ownL, ↓lockIt, ↓unlockIt, isT, ↓setAll, ↓wipeE, ↓startE, ↓Tg.slots, ↓IEs.fine, ↓IEs.len, ↓noOwn, ↓isOwnE, ↓Sl.isO, ↓Ev.freeAll, List.replicate, if_true, if_false, reduceIte, Nat.reduceLeDiff, Nat.reduceSub, Nat.reduceAdd, eq_self, reduceCtorEq, Int.reduceLT, Nat.reduceLT, ↓wpl, wpu])
    rw [Int.max_eq_left (by omega)] at q
    exact q
abbrev g_l_within : Pm := g_within
abbrev e_l_within : FnE := ⟨"_law_within", 4, false, g_l_within⟩
theorem sem_l_within : ∀ ds R, ds.length = 4 → g_l_within ds R → wpSs (Gof [e_l_inside]) ir_l_within (startE 4 ds) { nx := fun _ => false = false ∧ R .none, rt := R } := by
  rintro _ R _ ⟨w, h, b, e, rfl, q⟩
  (try simp only [ir_l_within, ↓wpSs, ↓wpS, ↓wpE, ↓wpEs, ↓wpBop, ↓wpIfs, ↓wpIt, ↓pk, ↓bindT, ↓ownL, ↓lockIt, ↓unlockIt, isT, ↓setAll, ↓wipeE, ↓startE, ↓Tg.slots, ↓IEs.fine, ↓IEs.len, ↓noOwn, ↓isOwnE, ↓Sl.isO, ↓Ev.freeAll, List.replicate, if_true, if_false, reduceIte, Nat.reduceLeDiff, Nat.reduceSub, Nat.reduceAdd, eq_self, reduceCtorEq, Int.reduceLT, Nat.reduceLT, ↓wpl, wpu])
  refine shared_ap ?_
  (try simp only [↓wpSs, ↓wpS, ↓wpE, ↓wpEs, ↓wpBop, ↓wpIfs, ↓wpIt, ↓pk, ↓bindT, ↓ownL, ↓lockIt, ↓unlockIt, isT, ↓setAll, ↓wipeE, ↓startE, ↓Tg.slots, ↓IEs.fine, ↓IEs.len, ↓noOwn, ↓isOwnE, ↓Sl.isO, ↓Ev.freeAll, List.replicate, if_true, if_false, reduceIte, Nat.reduceLeDiff, Nat.reduceSub, Nat.reduceAdd, eq_self, reduceCtorEq, Int.reduceLT, Nat.reduceLT, ↓wpl, wpu])
  refine shared_ap ?_
  (try simp only [↓wpSs, ↓wpS, ↓wpE, ↓wpEs, ↓wpBop, ↓wpIfs, ↓wpIt, ↓pk, ↓bindT, ↓ownL, ↓lockIt, ↓unlockIt, isT, ↓setAll, ↓wipeE, ↓startE, ↓Tg.slots, ↓IEs.fine, ↓IEs.len, ↓noOwn, ↓isOwnE, ↓Sl.isO, ↓Ev.freeAll, List.replicate, if_true, if_false, reduceIte, Nat.reduceLeDiff, Nat.reduceSub, Nat.reduceAdd, eq_self, reduceCtorEq, Int.reduceLT, Nat.reduceLT, ↓wpl, wpu])
  exact q
abbrev g_l_asked : Pm := g_asked
abbrev e_l_asked : FnE := ⟨"_law_asked", 5, false, g_l_asked⟩
theorem sem_l_asked : ∀ ds R, ds.length = 5 → g_l_asked ds R → wpSs (Gof [e_l_within]) ir_l_asked (startE 9 ds) { nx := fun _ => false = false ∧ R .none, rt := R } := asked_gen rfl
end CF
namespace CF
open PySem PySem.Spec PyProof.Rows L2
/-! ### vectors by functions -/
def vec {α : Type} (n : Nat) (f : Nat → α) : List α := (List.range n).map f
theorem vec_len {α : Type} {n : Nat} {f : Nat → α} : (vec n f).length = n := by simp [vec]
theorem vec_get {α : Type} {n : Nat} {f : Nat → α} {j : Nat} (h : j < n) : (vec n f)[j]? = some (f j) := by simp [vec, h]
theorem vec_getD {α : Type} {n : Nat} {f : Nat → α} {j : Nat} {d : α} (h : j < n) : (vec n f).getD j d = f j := by rw [List.getD_eq_getElem?_getD, vec_get h]; rfl
def fset {α : Type} (f : Nat → α) (i : Nat) (v : α) : Nat → α := fun k => if k = i then v else f k
theorem fset_same {α : Type} {f : Nat → α} {i : Nat} {v : α} : fset f i v i = v := if_pos rfl
theorem fset_ne {α : Type} {f : Nat → α} {i j : Nat} {v : α} (h : j ≠ i) : fset f i v j = f j := if_neg h
theorem vec_set {α : Type} {n : Nat} {f : Nat → α} {j : Nat} {v : α} : (vec n f).set j v = vec n (fset f j v) := by
  refine List.ext_getElem? fun i => ?_
  by_cases hi : i < n
  · rw [vec_get hi]
    by_cases hj : j = i
    · subst hj
      rw [List.getElem?_set_self (by rw [vec_len]; exact hi), fset_same]
    · rw [List.getElem?_set_ne hj, vec_get hi, fset_ne (fun e => hj e.symm)]
  · rw [List.getElem?_eq_none (by rw [List.length_set, vec_len]; omega), List.getElem?_eq_none (by rw [vec_len]; omega)]
theorem vec_map {α β : Type} {n : Nat} {f : Nat → α} {g : α → β} : (vec n f).map g = vec n fun k => g (f k) := by simp [vec, Function.comp_def]
theorem vec_congr {α : Type} {n : Nat} {f g : Nat → α} (h : ∀ k, k < n → f k = g k) : vec n f = vec n g := List.map_congr_left fun k hk => h k (List.mem_range.mp hk)
theorem vec_mem {α : Type} {n : Nat} {f : Nat → α} {x : α} : x ∈ vec n f ↔ ∃ k, k < n ∧ f k = x := by simp [vec]
theorem vec_of {α : Type} {l : List α} {d : α} : l = vec l.length fun k => l.getD k d := by
  refine List.ext_getElem? fun i => ?_
  by_cases hi : i < l.length
  · rw [vec_get hi, getD_of hi]; simp [hi]
  · rw [List.getElem?_eq_none (by omega), List.getElem?_eq_none (by rw [vec_len]; omega)]
/-! ### relaxing along arcs -/
structure Arc where
  s : Nat
  t : Nat
  w : Int
def rlx1 (f : Nat → Int) (e : Arc) : Nat → Int := fset f e.t (max (f e.t) (f e.s + e.w))
def rlx (E : List Arc) (f : Nat → Int) : Nat → Int := E.foldl rlx1 f
def swp (E : List Arc) : Nat → (Nat → Int) → Nat → Int
  | 0, f => f
  | k + 1, f => rlx E (swp E k f)
def Clo (E : List Arc) (f : Nat → Int) : Prop := ∀ e ∈ E, f e.s + e.w ≤ f e.t
theorem rlx1_ge {f : Nat → Int} {e : Arc} (k : Nat) : f k ≤ rlx1 f e k := by
  unfold rlx1
  by_cases h : k = e.t
  · subst h; rw [fset_same]; omega
  · rw [fset_ne h]; omega
theorem rlx_ge : ∀ {E : List Arc} {f : Nat → Int} (k : Nat), f k ≤ rlx E f k
  | [], f, k => Int.le_refl _
  | e :: E, f, k => Int.le_trans (rlx1_ge k) (rlx_ge (E := E) k)
theorem rlx1_id {f : Nat → Int} {e : Arc} (h : f e.s + e.w ≤ f e.t) : rlx1 f e = f := by
  funext k
  unfold rlx1
  by_cases hk : k = e.t
  · subst hk; rw [fset_same]; omega
  · rw [fset_ne hk]
theorem rlx_id : ∀ {E : List Arc} {f : Nat → Int}, Clo E f → rlx E f = f
  | [], f, h => rfl
  | e :: E, f, h => by
    show rlx E (rlx1 f e) = f
    rw [rlx1_id (h e List.mem_cons_self)]
    exact rlx_id fun e he => h e (List.mem_cons_of_mem _ he)
theorem clo_of_id : ∀ {E : List Arc} {f : Nat → Int}, rlx E f = f → Clo E f
  | [], f, h => fun e he => by simp at he
  | e :: E, f, h => by
    have h' : rlx E (rlx1 f e) = f := h
    have h1 : rlx1 f e = f := by
      funext k
      have a := rlx1_ge (f := f) (e := e) k
      have b := rlx_ge (E := E) (f := rlx1 f e) k
      rw [h'] at b
      omega
    rw [h1] at h'
    intro e' he'
    rcases List.mem_cons.mp he' with rfl | he'
    · have := congrFun h1 e'.t
      unfold rlx1 at this
      rw [fset_same] at this
      omega
    · exact clo_of_id h' e' he'
theorem swp_ge {E : List Arc} {f : Nat → Int} : ∀ (i : Nat) (k : Nat), f k ≤ swp E i f k
  | 0, k => Int.le_refl _
  | i + 1, k => Int.le_trans (swp_ge i k) (rlx_ge k)
/-- what is closed already stays, one more rank is closed -/
theorem rlx_rank {E : List Arc} {rank : Nat → Nat} (hr : ∀ e ∈ E, rank e.s < rank e.t) {i : Nat} {f : Nat → Int} (h : ∀ e ∈ E, rank e.t < i → f e.s + e.w ≤ f e.t) :
    (∀ k, rank k < i → rlx E f k = f k) ∧ ∀ e ∈ E, rank e.t < i + 1 → rlx E f e.s + e.w ≤ rlx E f e.t := by
  have key : ∀ (L : List Arc) (g : Nat → Int), (∀ e ∈ L, e ∈ E) → (∀ k, rank k < i → g k = f k) → (∀ k, rank k < i → rlx L g k = f k) ∧ ∀ e ∈ L, rank e.t < i + 1 → f e.s + e.w ≤ rlx L g e.t := by
    intro L
    induction L with
    | nil => exact fun g _ hg => ⟨hg, fun e he => by simp at he⟩
    | cons e L ih =>
      intro g hL hg
      have he := hL e List.mem_cons_self
      have hst := hr e he
      have hg' : ∀ k, rank k < i → rlx1 g e k = f k := fun k hk => by
        unfold rlx1
        by_cases hkt : k = e.t
        · subst hkt
          have h1 := h e he hk
          rw [fset_same, hg _ hk, hg _ (by omega)]
          omega
        · rw [fset_ne hkt, hg k hk]
      obtain ⟨h1, h2⟩ := ih (rlx1 g e) (fun e' he' => hL e' (List.mem_cons_of_mem _ he')) hg'
      refine ⟨h1, fun e' he' hk => ?_⟩
      rcases List.mem_cons.mp he' with rfl | he'
      · have h3 := rlx_ge (E := L) (f := rlx1 g e') e'.t
        have h4 : g e'.s + e'.w ≤ rlx1 g e' e'.t := by
          unfold rlx1
          rw [fset_same]
          omega
        rw [hg e'.s (by omega)] at h4
        show _ ≤ rlx L (rlx1 g e') e'.t
        omega
      · exact h2 e' he' hk
  obtain ⟨h1, h2⟩ := key E f (fun _ h => h) fun _ _ => rfl
  refine ⟨h1, fun e he hk => ?_⟩
  have := h2 e he hk
  rw [h1 e.s (by have := hr e he; omega)]
  exact this
theorem swp_rank {E : List Arc} {rank : Nat → Nat} (hr : ∀ e ∈ E, rank e.s < rank e.t) {f : Nat → Int} : ∀ i : Nat, ∀ e ∈ E, rank e.t < i → swp E i f e.s + e.w ≤ swp E i f e.t
  | 0 => fun e _ h => by omega
  | i + 1 => (rlx_rank hr (swp_rank hr i)).2
theorem swp_clo {E : List Arc} {n : Nat} {rank : Nat → Nat} (hr : ∀ e ∈ E, rank e.s < rank e.t ∧ rank e.t < n) {f : Nat → Int} : Clo E (swp E n f) := fun e he => swp_rank (fun e he => (hr e he).1) n e he (hr e he).2
theorem swp_add {E : List Arc} {f : Nat → Int} {i : Nat} (h : Clo E (swp E i f)) : ∀ k, swp E (i + k) f = swp E i f
  | 0 => rfl
  | k + 1 => by
    show rlx E (swp E (i + k) f) = _
    rw [swp_add h k]
    exact rlx_id h
/-- the least closed one above -/
theorem rlx_le {g : Nat → Int} : ∀ {E : List Arc} {f : Nat → Int}, Clo E g → (∀ k, f k ≤ g k) → ∀ k, rlx E f k ≤ g k
  | [], f, hg, h, k => h k
  | e :: E, f, hg, h, k => by
    refine rlx_le (E := E) (fun e he => hg e (List.mem_cons_of_mem _ he)) (fun k => ?_) k
    unfold rlx1
    by_cases hk : k = e.t
    · subst hk
      rw [fset_same]
      have := hg e List.mem_cons_self
      have := h e.s
      have := h e.t
      omega
    · rw [fset_ne hk]; exact h k
theorem swp_le {g : Nat → Int} {E : List Arc} {f : Nat → Int} (hg : Clo E g) (h : ∀ k, f k ≤ g k) : ∀ (i : Nat) (k : Nat), swp E i f k ≤ g k
  | 0, k => h k
  | i + 1, k => rlx_le hg (swp_le hg h i) k
/-- each value is what it was, or comes along an arc -/
def Att (E : List Arc) (f0 f : Nat → Int) : Prop := ∀ k, f k = f0 k ∨ ∃ e ∈ E, e.t = k ∧ f k ≤ f e.s + e.w
theorem att_rlx {E : List Arc} {f0 : Nat → Int} : ∀ {L : List Arc} {f : Nat → Int}, (∀ e ∈ L, e ∈ E ∧ e.s ≠ e.t) → Att E f0 f → Att E f0 (rlx L f)
  | [], f, hL, h => h
  | e :: L, f, hL, h => by
    refine att_rlx (L := L) (fun e he => hL e (List.mem_cons_of_mem _ he)) fun k => ?_
    obtain ⟨he, hne⟩ := hL e List.mem_cons_self
    have up : ∀ j, f j ≤ rlx1 f e j := fun j => rlx1_ge j
    by_cases hk : k = e.t
    · subst hk
      by_cases hc : f e.s + e.w ≤ f e.t
      · have e1 : rlx1 f e e.t = f e.t := by rw [rlx1_id hc]
        rcases h e.t with h1 | ⟨e', h1, h2, h3⟩
        · exact .inl (by rw [e1, h1])
        · exact .inr ⟨e', h1, h2, by rw [e1]; have := up e'.s; omega⟩
      · refine .inr ⟨e, he, rfl, ?_⟩
        have := up e.s
        unfold rlx1 at this ⊢
        rw [fset_same]
        omega
    · have e1 : rlx1 f e k = f k := by unfold rlx1; rw [fset_ne hk]
      rcases h k with h1 | ⟨e', h1, h2, h3⟩
      · exact .inl (by rw [e1, h1])
      · exact .inr ⟨e', h1, h2, by rw [e1]; have := up e'.s; omega⟩
theorem att_swp {E : List Arc} {f : Nat → Int} (hE : ∀ e ∈ E, e.s ≠ e.t) : ∀ i : Nat, Att E f (swp E i f)
  | 0 => fun k => .inl rfl
  | i + 1 => att_rlx (fun e he => ⟨he, hE e he⟩) (att_swp hE i)
end CF
namespace CF
open PySem PySem.Spec PyProof.Rows L2
-- 0 floor, 1 limit, 2 choices, 3 firsts, 4 lasts, 5 way, 6 job, 7 hour
def ir_own_windows_b0 : ISs :=
  (.cons (.ife (.cmp .Eq (.var 5) (.kstr "late"))
    (.cons (.setI 3 (.var 6) (.blt .max2 (.cons (.ix (.var 3) (.var 6)) (.cons (.bin .Add (.var 7) (.kint 1)) .nil))))
    .nil)
    (.cons (.setI 4 (.var 6) (.blt .min2 (.cons (.ix (.var 4) (.var 6)) (.cons (.var 7) .nil))))
    .nil))
  (.fgt [5, 6, 7] .nil))
def ir_own_windows_t0 : ISs :=
  (.cons (.retO (.comp (.tup (.cons (.ix (.var 3) (.var 6)) (.cons (.ix (.var 4) (.var 6)) .nil))) (.one 6) (.rng (.cons (.blt .len (.cons (.var 3) .nil)) .nil)) .nil))
  .nil)
def ir_own_windows : ISs :=
  (.cons (.setO 3 (.comp (.kint 0) (.one 6) (.seq (.ix (.var 0) (.kint 1))) .nil))
  (.cons (.setO 4 (.comp (.bin .Sub (.var 1) (.ix (.var 6) (.kint 0))) (.one 6) (.seq (.ix (.var 0) (.kint 1))) .nil))
  (.cons (.fors (.many [5, 6, 7]) (.seq (.var 2)) ir_own_windows_b0)
  ir_own_windows_t0)))
-- calls: 
-- 0 floor, 1 limit, 2 choices, 3 found, 4 jobs, 5 turn, 6 one, 7 other
def ir_windows_b0 : ISs :=
  (.cons (.setI 3 (.var 7) (.tup (.cons (.blt .max2 (.cons (.ix (.ix (.var 3) (.var 7)) (.kint 0)) (.cons (.bin .Add (.ix (.ix (.var 3) (.var 6)) (.kint 0)) (.ix (.ix (.var 4) (.var 6)) (.kint 0))) .nil))) (.cons (.ix (.ix (.var 3) (.var 7)) (.kint 1)) .nil))))
  (.cons (.setI 3 (.var 6) (.tup (.cons (.ix (.ix (.var 3) (.var 6)) (.kint 0)) (.cons (.blt .min2 (.cons (.ix (.ix (.var 3) (.var 6)) (.kint 1)) (.cons (.bin .Sub (.ix (.ix (.var 3) (.var 7)) (.kint 1)) (.ix (.ix (.var 4) (.var 6)) (.kint 0))) .nil))) .nil))))
  (.fgt [6, 7] .nil)))
def ir_windows_b1 : ISs :=
  (.fgt [5] (.cons (.fors (.many [6, 7]) (.seq (.ix (.var 0) (.kint 2))) ir_windows_b0)
  .nil))
def ir_windows_t0 : ISs :=
  (.cons (.ret (.var 3))
  .nil)
def ir_windows : ISs :=
  (.cons (.setO 3 (.call 0 (.cons (.var 0) (.cons (.var 1) (.cons (.var 2) .nil)))))
  (.cons (.set 4 (.ix (.var 0) (.kint 1)))
  (.cons (.fors (.one 5) (.seq (.var 4)) ir_windows_b1)
  ir_windows_t0)))
-- calls: own_windows
-- 0 _law_floor_here, 1 _law_limit, 2 _law_choices_here, 3 _law_job_here, 4 _law_first, 5 _law_last, 6 _law_way, 7 _law_other, 8 _law_hour
def ir_l_own_t0 : ISs :=
  (.cons (.ife (.bop .And (.cons (.cmp .Eq (.var 7) (.var 3)) (.cons (.cmp .Eq (.var 6) (.kstr "early")) (.cons (.cmp .Lt (.var 8) (.var 5)) .nil))))
    (.cons (.set 5 (.var 8))
    .nil)
    .nil)
  (.fgt [6, 7, 8] .nil))
def ir_l_own_b0 : ISs :=
  (.cons (.ife (.bop .And (.cons (.cmp .Eq (.var 7) (.var 3)) (.cons (.cmp .Eq (.var 6) (.kstr "late")) (.cons (.cmp .GtE (.var 8) (.var 4)) .nil))))
    (.cons (.set 4 (.bin .Add (.var 8) (.kint 1)))
    .nil)
    .nil)
  ir_l_own_t0)
def ir_l_own_t1 : ISs :=
  (.cons (.ret (.tup (.cons (.var 4) (.cons (.var 5) .nil))))
  .nil)
def ir_l_own : ISs :=
  (.cons (.set 4 (.kint 0))
  (.cons (.set 5 (.bin .Sub (.var 1) (.ix (.ix (.ix (.var 0) (.kint 1)) (.var 3)) (.kint 0))))
  (.cons (.fors (.many [6, 7, 8]) (.seq (.var 2)) ir_l_own_b0)
  ir_l_own_t1)))
-- calls: 
-- 0 _law_floor_here, 1 _law_limit, 2 _law_choices_here, 3 _law_many, 4 _law_own_here, 5 _law_firsts, 6 _law_lasts, 7 _law_changed, 8 _law_one, 9 _law_other, 10 _law_job_here, 11 _law_pair
def ir_l_windows_t0 : ISs :=
  (.cons (.ife (.cmp .Lt (.bin .Sub (.ix (.var 6) (.var 9)) (.ix (.ix (.ix (.var 0) (.kint 1)) (.var 8)) (.kint 0))) (.ix (.var 6) (.var 8)))
    (.cons (.setI 6 (.var 8) (.bin .Sub (.ix (.var 6) (.var 9)) (.ix (.ix (.ix (.var 0) (.kint 1)) (.var 8)) (.kint 0))))
    (.cons (.set 7 (.kbool true))
    .nil))
    .nil)
  (.fgt [8, 9] .nil))
def ir_l_windows_b0 : ISs :=
  (.cons (.ife (.cmp .Gt (.bin .Add (.ix (.var 5) (.var 8)) (.ix (.ix (.ix (.var 0) (.kint 1)) (.var 8)) (.kint 0))) (.ix (.var 5) (.var 9)))
    (.cons (.setI 5 (.var 9) (.bin .Add (.ix (.var 5) (.var 8)) (.ix (.ix (.ix (.var 0) (.kint 1)) (.var 8)) (.kint 0))))
    (.cons (.set 7 (.kbool true))
    .nil))
    .nil)
  ir_l_windows_t0)
def ir_l_windows_b1 : ISs :=
  (.cons (.set 7 (.kbool false))
  (.cons (.fors (.many [8, 9]) (.seq (.ix (.var 0) (.kint 2))) ir_l_windows_b0)
  .nil))
def ir_l_windows_t1 : ISs :=
  (.cons (.ret (.comp (.tup (.cons (.ix (.var 5) (.var 10)) (.cons (.ix (.var 6) (.var 10)) .nil))) (.one 10) (.rng (.cons (.var 3) .nil)) .nil))
  .nil)
def ir_l_windows : ISs :=
  (.cons (.set 3 (.blt .len (.cons (.ix (.var 0) (.kint 1)) .nil)))
  (.cons (.set 4 (.comp (.call 0 (.cons (.var 0) (.cons (.var 1) (.cons (.var 2) (.cons (.var 10) .nil))))) (.one 10) (.rng (.cons (.var 3) .nil)) .nil))
  (.cons (.setO 5 (.comp (.ix (.var 11) (.kint 0)) (.one 11) (.seq (.var 4)) .nil))
  (.cons (.setO 6 (.comp (.ix (.var 11) (.kint 1)) (.one 11) (.seq (.var 4)) .nil))
  (.cons (.set 7 (.kbool true))
  (.fgt [4] (.cons (.whl (.var 7) ir_l_windows_b1)
  ir_l_windows_t1)))))))
-- calls: _law_own
-- 0 _law_cell, 1 _law_many, 2 _law_long, 3 _law_found, 4 _law_k, 5 _law_more, 6 _law_hour
def ir_l_choices_b0 : ISs :=
  (.cons (.set 5 (.call 0 (.cons (.var 0) (.cons (.bin .Add (.var 4) (.kint 5)) .nil))))
  (.cons (.set 6 (.bin .Sub (.bin .Mod (.bin .FloorDiv (.var 5) (.kint 32)) (.bin .Add (.var 2) (.kint 6))) (.kint 3)))
  (.cons (.app 3 (.tup (.cons (.ix (.lst (.cons (.kstr "early") (.cons (.kstr "late") .nil))) (.bin .Mod (.var 5) (.kint 2))) (.cons (.bin .Mod (.bin .FloorDiv (.var 5) (.kint 2)) (.var 1)) (.cons (.var 6) .nil)))))
  (.fgt [4, 5, 6] .nil))))
def ir_l_choices_t0 : ISs :=
  (.cons (.ret (.var 3))
  .nil)
def ir_l_choices : ISs :=
  (.cons (.setO 3 (.lst .nil))
  (.cons (.fors (.one 4) (.rng (.cons (.ix (.lst (.cons (.bin .Mod (.var 0) (.kint 4)) (.cons (.bin .Mod (.var 0) (.kint 20)) .nil))) (.bin .FloorDiv (.bin .Mod (.bin .FloorDiv (.var 0) (.kint 20)) (.kint 5)) (.kint 4))) .nil)) ir_l_choices_b0)
  ir_l_choices_t0))
-- calls: _law_mix
-- 0 _law_found, 1 _law_due, 2 _law_k
def ir_l_pairs_t0 : ISs :=
  (.cons (.ife (.bop .Or (.cons (.no (.call 0 (.cons (.ix (.ix (.var 0) (.var 2)) (.kint 0)) .nil))) (.cons (.no (.call 0 (.cons (.ix (.ix (.var 0) (.var 2)) (.kint 1)) .nil))) .nil)))
    (.cons (.ret (.kbool false))
    .nil)
    .nil)
  (.fgt [2] .nil))
def ir_l_pairs_b0 : ISs :=
  (.cons (.ife (.bop .Or (.cons (.no (.isi (.ix (.var 0) (.var 2)) .tuple)) (.cons (.cmp .NotEq (.blt .len (.cons (.ix (.var 0) (.var 2)) .nil)) (.kint 2)) (.cons (.cmp .NotEq (.ix (.var 0) (.var 2)) (.ix (.var 1) (.var 2))) .nil))))
    (.cons (.ret (.kbool false))
    .nil)
    .nil)
  ir_l_pairs_t0)
def ir_l_pairs_t1 : ISs :=
  (.cons (.ret (.kbool true))
  .nil)
def ir_l_pairs_t2 : ISs :=
  (.cons (.fors (.one 2) (.rng (.cons (.blt .len (.cons (.var 1) .nil)) .nil)) ir_l_pairs_b0)
  ir_l_pairs_t1)
def ir_l_pairs : ISs :=
  (.cons (.ife (.bop .Or (.cons (.no (.isi (.var 0) .list)) (.cons (.cmp .NotEq (.blt .len (.cons (.var 0) .nil)) (.blt .len (.cons (.var 1) .nil))) .nil)))
    (.cons (.ret (.kbool false))
    .nil)
    .nil)
  ir_l_pairs_t2)
-- calls: _law_whole
end CF
namespace CF
open PySem PySem.Spec PyProof.Rows L2
/-! ### windows -/
structure Ch where
  late : Bool
  job : Nat
  hour : Int
def wayS (b : Bool) : Str := if b then "late" else "early"
def eCh (c : Ch) : PyData := .tuple [.str (wayS c.late), .int c.job, .int c.hour]
theorem ex_ch {c : Ch} {p : List PyData → Prop} : (∃ ds, eCh c = .tuple ds ∧ p ds) ↔ p [.str (wayS c.late), .int c.job, .int c.hour] := by unfold eCh; exact ex_tup
theorem shp_way {b : Bool} : SeqAt.shaped (.str (wayS b)) = true := by cases b <;> decide +kernel
theorem shp_late : SeqAt.shaped (.str "late") = true := by decide +kernel
theorem shp_early : SeqAt.shaped (.str "early") = true := by decide +kernel
theorem eqv_late {b : Bool} : PyData.eqv (.str (wayS b)) (.str "late") = b := by cases b <;> decide +kernel
theorem eqv_early {b : Bool} : PyData.eqv (.str (wayS b)) (.str "early") = !b := by cases b <;> decide +kernel
def inF1 (j : Nat) (a : Int) (c : Ch) : Int := if c.late = true ∧ c.job = j then max a (c.hour + 1) else a
def inL1 (j : Nat) (a : Int) (c : Ch) : Int := if c.late = false ∧ c.job = j then min a c.hour else a
def ownF (cs : List Ch) (j : Nat) : Int := cs.foldl (inF1 j) 0
def ownL' (F : Fl) (L : Int) (cs : List Ch) (j : Nat) : Int := cs.foldl (inL1 j) (L - F.h j)
def OkCh (F : Fl) (cs : List Ch) : Prop := ∀ c ∈ cs, c.job < F.jobs.length
def ownW (F : Fl) (L : Int) (cs : List Ch) : List (Int × Int) := vec F.jobs.length fun k => (ownF cs k, ownL' F L cs k)
theorem foldl_take {α β : Type} {f : β → α → β} {l : List α} {b : β} {i : Nat} {a : α} (h : l[i]? = some a) : (l.take (i + 1)).foldl f b = f ((l.take i).foldl f b) a := by
  rw [List.take_add_one, h, Option.toList_some, List.foldl_append]
  rfl
theorem take_all {α : Type} {l : List α} : l.take l.length = l := List.take_length
theorem map_vecD {β : Type} {F : Fl} {g : Int × List Int → β} : F.jobs.map g = vec F.jobs.length fun k => g (F.jobs.getD k (0, [])) := by
  conv => lhs; rw [vec_of (l := F.jobs) (d := (0, []))]
  rw [vec_map]
theorem set_ints {n : Nat} {f : Nat → Int} {j : Nat} {v : Int} : ((vec n f).map PyData.int).set j (.int v) = (vec n (fset f j v)).map .int := by rw [← vec_set, List.map_set]
theorem ixN_nat {n k : Nat} (h : k < n) : ixN n (k : Int) = some k := by
  unfold ixN
  rw [if_pos (by omega), if_pos (by omega)]
  rfl
theorem ex_set {n k : Nat} {p : Nat → Prop} (h : k < n) (hp : p k) : ∃ j, ixN n (k : Int) = some j ∧ p j := ⟨k, ixN_nat h, hp⟩
def g_own_windows : Pm := fun ds R => ∃ (F : Fl) (L : Int) (cs : List Ch), ds = [eFl F, .int L, .list (cs.map eCh)] ∧ GoodFl 50 F ∧ OkCh F cs ∧ R (.list ((ownW F L cs).map eP))
abbrev e_own_windows : FnE := ⟨"own_windows", 3, true, g_own_windows⟩
theorem own_windows_ap {F : Fl} {L : Int} {cs : List Ch} {Q : PyData → Prop} (hF : GoodFl 50 F) (hc : OkCh F cs) (q : Q (.list ((ownW F L cs).map eP))) : g_own_windows [eFl F, .int L, .list (cs.map eCh)] Q := ⟨F, L, cs, rfl, hF, hc, q⟩
theorem sem_own_windows : ∀ ds R, ds.length = 3 → g_own_windows ds R → wpSs (Gof []) ir_own_windows (startE 8 ds) { nx := fun _ => true = false ∧ R .none, rt := R } := by
  rintro _ R _ ⟨F, L, cs, rfl, hF, hcs, q⟩
  have j2 := hF.j2
  (try simp only [ir_own_windows, ↓wpSs, ↓wpS, ↓wpE, ↓wpEs, ↓wpBop, ↓wpIfs, ↓wpIt, ↓pk, ↓bindT, ↓ownL, ↓lockIt, ↓unlockIt, isT, ↓setAll, ↓wipeE, ↓startE, ↓Tg.slots, ↓IEs.fine, ↓IEs.len, ↓noOwn, ↓isOwnE, ↓Sl.isO, ↓Ev.freeAll, List.replicate, if_true, if_false, reduceIte, Nat.reduceLeDiff, Nat.reduceSub, Nat.reduceAdd, eq_self, reduceCtorEq, Int.reduceLT, Nat.reduceLT, ↓wpl, wpu])
  refine ⟨by omega, ?_⟩
  refine compL_map (fun _ => .int 0) (fun j _ K h => h) ?_
  refine ⟨by omega, ?_⟩
  refine compL_map (fun j => .int (L - j.1)) (fun j _ K h => by (try simp only [↓wpSs, ↓wpS, ↓wpE, ↓wpEs, ↓wpBop, ↓wpIfs, ↓wpIt, ↓pk, ↓bindT, ↓ownL, ↓lockIt, ↓unlockIt, isT, ↓setAll, ↓wipeE, ↓startE, ↓Tg.slots, ↓IEs.fine, ↓IEs.len, ↓noOwn, ↓isOwnE, ↓Sl.isO, ↓Ev.freeAll, List.replicate, if_true, if_false, reduceIte, Nat.reduceLeDiff, Nat.reduceSub, Nat.reduceAdd, eq_self, reduceCtorEq, Int.reduceLT, Nat.reduceLT, ↓wpl, wpu]); exact h) ?_
  rw [map_vecD, map_vecD, show (vec F.jobs.length fun k => PyData.int 0) = (vec F.jobs.length fun k => (0 : Int)).map .int by rw [vec_map], show (vec F.jobs.length fun k => PyData.int (L - (F.jobs.getD k (0, [])).1)) = (vec F.jobs.length fun k => L - F.h k).map .int by rw [vec_map]; rfl]
  refine forL_map (fun i r => r = [.val (eFl F), .val (.int L), .val (.list (cs.map eCh)), .own (.list ((vec F.jobs.length (ownF (cs.take i))).map .int)), .own (.list ((vec F.jobs.length (ownL' F L (cs.take i))).map .int)), .un, .un, .un]) rfl ?_ ?_
  · rintro _ rfl
    rw [take_all]
    (try simp only [ir_own_windows_t0, vec_len, ↓wpSs, ↓wpS, ↓wpE, ↓wpEs, ↓wpBop, ↓wpIfs, ↓wpIt, ↓pk, ↓bindT, ↓ownL, ↓lockIt, ↓unlockIt, isT, ↓setAll, ↓wipeE, ↓startE, ↓Tg.slots, ↓IEs.fine, ↓IEs.len, ↓noOwn, ↓isOwnE, ↓Sl.isO, ↓Ev.freeAll, List.replicate, if_true, if_false, reduceIte, Nat.reduceLeDiff, Nat.reduceSub, Nat.reduceAdd, eq_self, reduceCtorEq, Int.reduceLT, Nat.reduceLT, ↓wpl, wpu])
    refine ⟨⟨by omega, by omega⟩, by omega, ?_⟩
    refine compL_map (fun k => .tuple [.int (ownF cs k), .int (ownL' F L cs k)]) (fun k hk K h => ?_) ?_
    · (try simp only [↓wpSs, ↓wpS, ↓wpE, ↓wpEs, ↓wpBop, ↓wpIfs, ↓wpIt, ↓pk, ↓bindT, ↓ownL, ↓lockIt, ↓unlockIt, isT, ↓setAll, ↓wipeE, ↓startE, ↓Tg.slots, ↓IEs.fine, ↓IEs.len, ↓noOwn, ↓isOwnE, ↓Sl.isO, ↓Ev.freeAll, List.replicate, if_true, if_false, reduceIte, Nat.reduceLeDiff, Nat.reduceSub, Nat.reduceAdd, eq_self, reduceCtorEq, Int.reduceLT, Nat.reduceLT, ↓wpl, wpu])
      refine at_map (vec_get (List.mem_range.mp hk)) ?_
      refine at_map (vec_get (List.mem_range.mp hk)) ?_
      exact h
    · unfold ownW at q
      rw [vec_map] at q
      exact q
  · rintro i c _ K hi rfl hK
    have hj := hcs c (List.mem_of_getElem? hi)
    have e1 : ∀ k, ownF (cs.take (i + 1)) k = inF1 k (ownF (cs.take i) k) c := fun k => foldl_take hi
    have e2 : ∀ k, ownL' F L (cs.take (i + 1)) k = inL1 k (ownL' F L (cs.take i) k) c := fun k => foldl_take hi
    (try simp only [ir_own_windows_b0, ex_ch, shp_way, shp_late, eqv_late, ↓wpSs, ↓wpS, ↓wpE, ↓wpEs, ↓wpBop, ↓wpIfs, ↓wpIt, ↓pk, ↓bindT, ↓ownL, ↓lockIt, ↓unlockIt, isT, ↓setAll, ↓wipeE, ↓startE, ↓Tg.slots, ↓IEs.fine, ↓IEs.len, ↓noOwn, ↓isOwnE, ↓Sl.isO, ↓Ev.freeAll, List.replicate, if_true, if_false, reduceIte, Nat.reduceLeDiff, Nat.reduceSub, Nat.reduceAdd, eq_self, reduceCtorEq, Int.reduceLT, Nat.reduceLT, ↓wpl, wpu])
    split
    · rename_i hl
      refine at_map (vec_get hj) ?_
      (try simp only [vec_len, ↓wpSs, ↓wpS, ↓wpE, ↓wpEs, ↓wpBop, ↓wpIfs, ↓wpIt, ↓pk, ↓bindT, ↓ownL, ↓lockIt, ↓unlockIt, isT, ↓setAll, ↓wipeE, ↓startE, ↓Tg.slots, ↓IEs.fine, ↓IEs.len, ↓noOwn, ↓isOwnE, ↓Sl.isO, ↓Ev.freeAll, List.replicate, if_true, if_false, reduceIte, Nat.reduceLeDiff, Nat.reduceSub, Nat.reduceAdd, eq_self, reduceCtorEq, Int.reduceLT, Nat.reduceLT, ↓wpl, wpu])
      refine ex_set hj ?_
      rw [set_ints]
      refine hK _ ?_
      rw [vec_congr fun k _ => e1 k, vec_congr fun k _ => e2 k]
      have h1 : fset (ownF (cs.take i)) c.job (max (ownF (cs.take i) c.job) (c.hour + 1)) = fun k => inF1 k (ownF (cs.take i) k) c := by
        funext k
        unfold inF1 fset
        rw [hl]
        by_cases h : k = c.job
        · subst h; simp
        · rw [if_neg h, if_neg (fun e => h e.2.symm)]
      have h2 : (ownL' F L (cs.take i)) = fun k => inL1 k (ownL' F L (cs.take i) k) c := by
        funext k
        unfold inL1
        rw [hl]
        simp
      rw [h1, ← h2]
    · rename_i hl
      have hl : c.late = false := by simpa using hl
      refine at_map (vec_get hj) ?_
      (try simp only [vec_len, ↓wpSs, ↓wpS, ↓wpE, ↓wpEs, ↓wpBop, ↓wpIfs, ↓wpIt, ↓pk, ↓bindT, ↓ownL, ↓lockIt, ↓unlockIt, isT, ↓setAll, ↓wipeE, ↓startE, ↓Tg.slots, ↓IEs.fine, ↓IEs.len, ↓noOwn, ↓isOwnE, ↓Sl.isO, ↓Ev.freeAll, List.replicate, if_true, if_false, reduceIte, Nat.reduceLeDiff, Nat.reduceSub, Nat.reduceAdd, eq_self, reduceCtorEq, Int.reduceLT, Nat.reduceLT, ↓wpl, wpu])
      refine ex_set hj ?_
      rw [set_ints]
      refine hK _ ?_
      rw [vec_congr fun k _ => e1 k, vec_congr fun k _ => e2 k]
      have h1 : fset (ownL' F L (cs.take i)) c.job (min (ownL' F L (cs.take i) c.job) c.hour) = fun k => inL1 k (ownL' F L (cs.take i) k) c := by
        funext k
        unfold inL1 fset
        rw [hl]
        by_cases h : k = c.job
        · subst h; simp
        · rw [if_neg h, if_neg (fun e => h e.2.symm)]
      have h2 : (ownF (cs.take i)) = fun k => inF1 k (ownF (cs.take i) k) c := by
        funext k
        unfold inF1
        rw [hl]
        simp
      rw [h1, ← h2]
end CF
namespace CF
open PySem PySem.Spec PyProof.Rows L2
def arcF (F : Fl) (o : Nat × Nat) : Arc := ⟨o.1, o.2, F.h o.1⟩
def arcL (F : Fl) (o : Nat × Nat) : Arc := ⟨o.2, o.1, F.h o.1⟩
def arcsF (F : Fl) : List Arc := F.orders.map (arcF F)
def arcsL (F : Fl) : List Arc := F.orders.map (arcL F)
def winF (F : Fl) (cs : List Ch) : Nat → Int := swp (arcsF F) F.jobs.length (ownF cs)
def winG (F : Fl) (L : Int) (cs : List Ch) : Nat → Int := swp (arcsL F) F.jobs.length fun k => -(ownL' F L cs k)
def winL (F : Fl) (L : Int) (cs : List Ch) (k : Nat) : Int := -(winG F L cs k)
def winW (F : Fl) (L : Int) (cs : List Ch) : List (Int × Int) := vec F.jobs.length fun k => (winF F cs k, winL F L cs k)
def vW (n : Nat) (s : (Nat → Int) × (Nat → Int)) : List (Int × Int) := vec n fun k => (s.1 k, -(s.2 k))
def stp (F : Fl) (s : (Nat → Int) × (Nat → Int)) (o : Nat × Nat) : (Nat → Int) × (Nat → Int) := (rlx1 s.1 (arcF F o), rlx1 s.2 (arcL F o))
theorem fold_stp {F : Fl} : ∀ {l : List (Nat × Nat)} {s : (Nat → Int) × (Nat → Int)}, l.foldl (stp F) s = (rlx (l.map (arcF F)) s.1, rlx (l.map (arcL F)) s.2)
  | [], s => rfl
  | o :: l, s => by
    rw [List.foldl_cons, fold_stp]
    rfl
theorem ord_ok {F : Fl} {most : Int} (hF : GoodFl most F) {o : Nat × Nat} (h : o ∈ F.orders) : o.1 < F.jobs.length ∧ o.2 < F.jobs.length ∧ o.1 ≠ o.2 := by
  obtain ⟨rank, _, hr⟩ := hF.r
  obtain ⟨h1, h2, h3⟩ := hr o h
  exact ⟨h1, h2, fun e => by rw [e] at h3; omega⟩
theorem clo_F {F : Fl} {most : Int} (hF : GoodFl most F) {f : Nat → Int} : Clo (arcsF F) (swp (arcsF F) F.jobs.length f) := by
  obtain ⟨rank, hb, hr⟩ := hF.r
  refine swp_clo (rank := rank) fun e he => ?_
  obtain ⟨o, ho, rfl⟩ := List.mem_map.mp he
  exact ⟨(hr o ho).2.2, hb _ (hr o ho).2.1⟩
theorem clo_L {F : Fl} {most : Int} (hF : GoodFl most F) {f : Nat → Int} : Clo (arcsL F) (swp (arcsL F) F.jobs.length f) := by
  obtain ⟨rank, hb, hr⟩ := hF.r
  refine swp_clo (rank := fun k => F.jobs.length - 1 - rank k) fun e he => ?_
  obtain ⟨o, ho, rfl⟩ := List.mem_map.mp he
  obtain ⟨h1, h2, h3⟩ := hr o ho
  have := hb _ h1
  have := hb _ h2
  show F.jobs.length - 1 - rank o.2 < F.jobs.length - 1 - rank o.1 ∧ F.jobs.length - 1 - rank o.1 < F.jobs.length
  omega
theorem set_eps {n : Nat} {f : Nat → Int × Int} {j : Nat} {v : Int × Int} : ((vec n f).map eP).set j (eP v) = (vec n (fset f j v)).map eP := by rw [← vec_set, List.map_set]
theorem get_job {F : Fl} {k : Nat} (h : k < F.jobs.length) : F.jobs[k]? = some (F.jobs.getD k (0, [])) := by rw [getD_of h]; exact mem_at h
theorem set_stp {F : Fl} {s : (Nat → Int) × (Nat → Int)} {o : Nat × Nat} (h : o.1 ≠ o.2) : fset (fset (fun k => (s.1 k, -(s.2 k))) o.2 (max (s.1 o.2) (s.1 o.1 + F.h o.1), -(s.2 o.2))) o.1 (s.1 o.1, min (-(s.2 o.1)) (-(s.2 o.2) - F.h o.1)) = fun k => ((stp F s o).1 k, -((stp F s o).2 k)) := by
  funext k
  unfold stp rlx1 fset arcF arcL
  by_cases h1 : k = o.1
  · subst h1
    simp only [if_true, if_neg h]
    refine Prod.ext rfl ?_
    show min _ _ = -(max _ _)
    omega
  · by_cases h2 : k = o.2
    · subst h2
      simp only [if_true, if_neg h1]
    · simp only [if_neg h1, if_neg h2]
def g_windows : Pm := fun ds R => ∃ (F : Fl) (L : Int) (cs : List Ch), ds = [eFl F, .int L, .list (cs.map eCh)] ∧ GoodFl 50 F ∧ OkCh F cs ∧ R (.list ((winW F L cs).map eP))
abbrev e_windows : FnE := ⟨"windows", 3, false, g_windows⟩
theorem windows_ap {F : Fl} {L : Int} {cs : List Ch} {Q : PyData → Prop} (hF : GoodFl 50 F) (hc : OkCh F cs) (q : Q (.list ((winW F L cs).map eP))) : g_windows [eFl F, .int L, .list (cs.map eCh)] Q := ⟨F, L, cs, rfl, hF, hc, q⟩
theorem sem_windows : ∀ ds R, ds.length = 3 → g_windows ds R → wpSs (Gof [e_own_windows]) ir_windows (startE 8 ds) { nx := fun _ => false = false ∧ R .none, rt := R } := by
  rintro _ R _ ⟨F, L, cs, rfl, hF, hcs, q⟩
  have j2 := hF.j2
  (try simp only [ir_windows, ↓wpSs, ↓wpS, ↓wpE, ↓wpEs, ↓wpBop, ↓wpIfs, ↓wpIt, ↓pk, ↓bindT, ↓ownL, ↓lockIt, ↓unlockIt, isT, ↓setAll, ↓wipeE, ↓startE, ↓Tg.slots, ↓IEs.fine, ↓IEs.len, ↓noOwn, ↓isOwnE, ↓Sl.isO, ↓Ev.freeAll, List.replicate, if_true, if_false, reduceIte, Nat.reduceLeDiff, Nat.reduceSub, Nat.reduceAdd, eq_self, reduceCtorEq, Int.reduceLT, Nat.reduceLT, ↓wpl, wpu])
  refine own_windows_ap hF hcs ?_
  (try simp only [↓wpSs, ↓wpS, ↓wpE, ↓wpEs, ↓wpBop, ↓wpIfs, ↓wpIt, ↓pk, ↓bindT, ↓ownL, ↓lockIt, ↓unlockIt, isT, ↓setAll, ↓wipeE, ↓startE, ↓Tg.slots, ↓IEs.fine, ↓IEs.len, ↓noOwn, ↓isOwnE, ↓Sl.isO, ↓Ev.freeAll, List.replicate, if_true, if_false, reduceIte, Nat.reduceLeDiff, Nat.reduceSub, Nat.reduceAdd, eq_self, reduceCtorEq, Int.reduceLT, Nat.reduceLT, ↓wpl, wpu])
  have e0 : ownW F L cs = vW F.jobs.length (ownF cs, fun k => -(ownL' F L cs k)) := vec_congr fun k _ => by simp
  rw [e0]
  refine forL_map (fun i r => r = [.val (eFl F), .val (.int L), .val (.list (cs.map eCh)), .own (.list ((vW F.jobs.length (swp (arcsF F) i (ownF cs), swp (arcsL F) i fun k => -(ownL' F L cs k))).map eP)), .val (.tuple (F.jobs.map eJob)), .un, .un, .un]) rfl ?_ ?_
  · rintro _ rfl
    (try simp only [ir_windows_t0, ↓wpSs, ↓wpS, ↓wpE, ↓wpEs, ↓wpBop, ↓wpIfs, ↓wpIt, ↓pk, ↓bindT, ↓ownL, ↓lockIt, ↓unlockIt, isT, ↓setAll, ↓wipeE, ↓startE, ↓Tg.slots, ↓IEs.fine, ↓IEs.len, ↓noOwn, ↓isOwnE, ↓Sl.isO, ↓Ev.freeAll, List.replicate, if_true, if_false, reduceIte, Nat.reduceLeDiff, Nat.reduceSub, Nat.reduceAdd, eq_self, reduceCtorEq, Int.reduceLT, Nat.reduceLT, ↓wpl, wpu])
    exact q
  · rintro i j _ K hi rfl hK
    (try simp only [ir_windows_b1, ↓wpSs, ↓wpS, ↓wpE, ↓wpEs, ↓wpBop, ↓wpIfs, ↓wpIt, ↓pk, ↓bindT, ↓ownL, ↓lockIt, ↓unlockIt, isT, ↓setAll, ↓wipeE, ↓startE, ↓Tg.slots, ↓IEs.fine, ↓IEs.len, ↓noOwn, ↓isOwnE, ↓Sl.isO, ↓Ev.freeAll, List.replicate, if_true, if_false, reduceIte, Nat.reduceLeDiff, Nat.reduceSub, Nat.reduceAdd, eq_self, reduceCtorEq, Int.reduceLT, Nat.reduceLT, ↓wpl, wpu])
    refine forL_fold (env := fun s => [.val (eFl F), .val (.int L), .val (.list (cs.map eCh)), .own (.list ((vW F.jobs.length s).map eP)), .val (.tuple (F.jobs.map eJob)), .un, .un, .un]) (f := stp F) (P := fun _ => True) rfl trivial (fun _ => ?_) ?_
    · rw [fold_stp]
      exact hK _ rfl
    · rintro o s K' ho _ hK'
      obtain ⟨ho1, ho2, hne⟩ := ord_ok hF ho
      (try simp only [ir_windows_b0, vW, ↓wpSs, ↓wpS, ↓wpE, ↓wpEs, ↓wpBop, ↓wpIfs, ↓wpIt, ↓pk, ↓bindT, ↓ownL, ↓lockIt, ↓unlockIt, isT, ↓setAll, ↓wipeE, ↓startE, ↓Tg.slots, ↓IEs.fine, ↓IEs.len, ↓noOwn, ↓isOwnE, ↓Sl.isO, ↓Ev.freeAll, List.replicate, if_true, if_false, reduceIte, Nat.reduceLeDiff, Nat.reduceSub, Nat.reduceAdd, eq_self, reduceCtorEq, Int.reduceLT, Nat.reduceLT, ↓wpl, wpu])
      refine at_map (vec_get ho2) ?_
      (try simp only [↓wpSs, ↓wpS, ↓wpE, ↓wpEs, ↓wpBop, ↓wpIfs, ↓wpIt, ↓pk, ↓bindT, ↓ownL, ↓lockIt, ↓unlockIt, isT, ↓setAll, ↓wipeE, ↓startE, ↓Tg.slots, ↓IEs.fine, ↓IEs.len, ↓noOwn, ↓isOwnE, ↓Sl.isO, ↓Ev.freeAll, List.replicate, if_true, if_false, reduceIte, Nat.reduceLeDiff, Nat.reduceSub, Nat.reduceAdd, eq_self, reduceCtorEq, Int.reduceLT, Nat.reduceLT, ↓wpl, wpu])
      refine at_map (vec_get ho1) ?_
      (try simp only [↓wpSs, ↓wpS, ↓wpE, ↓wpEs, ↓wpBop, ↓wpIfs, ↓wpIt, ↓pk, ↓bindT, ↓ownL, ↓lockIt, ↓unlockIt, isT, ↓setAll, ↓wipeE, ↓startE, ↓Tg.slots, ↓IEs.fine, ↓IEs.len, ↓noOwn, ↓isOwnE, ↓Sl.isO, ↓Ev.freeAll, List.replicate, if_true, if_false, reduceIte, Nat.reduceLeDiff, Nat.reduceSub, Nat.reduceAdd, eq_self, reduceCtorEq, Int.reduceLT, Nat.reduceLT, ↓wpl, wpu])
      (try simp only [↓wpSs, ↓wpS, ↓wpE, ↓wpEs, ↓wpBop, ↓wpIfs, ↓wpIt, ↓pk, ↓bindT, ↓ownL, ↓lockIt, ↓unlockIt, isT, ↓setAll, ↓wipeE, ↓startE, ↓Tg.slots, ↓IEs.fine, ↓IEs.len, ↓noOwn, ↓isOwnE, ↓Sl.isO, ↓Ev.freeAll, List.replicate, if_true, if_false, reduceIte, Nat.reduceLeDiff, Nat.reduceSub, Nat.reduceAdd, eq_self, reduceCtorEq, Int.reduceLT, Nat.reduceLT, ↓wpl, wpu])
      refine at_map (get_job ho1) ?_
      (try simp only [↓wpSs, ↓wpS, ↓wpE, ↓wpEs, ↓wpBop, ↓wpIfs, ↓wpIt, ↓pk, ↓bindT, ↓ownL, ↓lockIt, ↓unlockIt, isT, ↓setAll, ↓wipeE, ↓startE, ↓Tg.slots, ↓IEs.fine, ↓IEs.len, ↓noOwn, ↓isOwnE, ↓Sl.isO, ↓Ev.freeAll, List.replicate, if_true, if_false, reduceIte, Nat.reduceLeDiff, Nat.reduceSub, Nat.reduceAdd, eq_self, reduceCtorEq, Int.reduceLT, Nat.reduceLT, ↓wpl, wpu])
      refine at_map (vec_get ho2) ?_
      (try simp only [↓wpSs, ↓wpS, ↓wpE, ↓wpEs, ↓wpBop, ↓wpIfs, ↓wpIt, ↓pk, ↓bindT, ↓ownL, ↓lockIt, ↓unlockIt, isT, ↓setAll, ↓wipeE, ↓startE, ↓Tg.slots, ↓IEs.fine, ↓IEs.len, ↓noOwn, ↓isOwnE, ↓Sl.isO, ↓Ev.freeAll, List.replicate, if_true, if_false, reduceIte, Nat.reduceLeDiff, Nat.reduceSub, Nat.reduceAdd, eq_self, reduceCtorEq, Int.reduceLT, Nat.reduceLT, ↓wpl, wpu])
      (try simp only [↓wpSs, ↓wpS, ↓wpE, ↓wpEs, ↓wpBop, ↓wpIfs, ↓wpIt, ↓pk, ↓bindT, ↓ownL, ↓lockIt, ↓unlockIt, isT, ↓setAll, ↓wipeE, ↓startE, ↓Tg.slots, ↓IEs.fine, ↓IEs.len, ↓noOwn, ↓isOwnE, ↓Sl.isO, ↓Ev.freeAll, List.replicate, if_true, if_false, reduceIte, Nat.reduceLeDiff, Nat.reduceSub, Nat.reduceAdd, eq_self, reduceCtorEq, Int.reduceLT, Nat.reduceLT, ↓wpl, wpu])
      rw [vec_len]
      refine ex_set ho2 ?_
      have p1 : ∀ a b : Int, PyData.tuple [.int a, .int b] = eP (a, b) := fun a b => rfl
      rw [p1, set_eps]
      refine at_map (vec_get ho1) ?_
      (try simp only [↓wpSs, ↓wpS, ↓wpE, ↓wpEs, ↓wpBop, ↓wpIfs, ↓wpIt, ↓pk, ↓bindT, ↓ownL, ↓lockIt, ↓unlockIt, isT, ↓setAll, ↓wipeE, ↓startE, ↓Tg.slots, ↓IEs.fine, ↓IEs.len, ↓noOwn, ↓isOwnE, ↓Sl.isO, ↓Ev.freeAll, List.replicate, if_true, if_false, reduceIte, Nat.reduceLeDiff, Nat.reduceSub, Nat.reduceAdd, eq_self, reduceCtorEq, Int.reduceLT, Nat.reduceLT, ↓wpl, wpu])
      (try simp only [↓wpSs, ↓wpS, ↓wpE, ↓wpEs, ↓wpBop, ↓wpIfs, ↓wpIt, ↓pk, ↓bindT, ↓ownL, ↓lockIt, ↓unlockIt, isT, ↓setAll, ↓wipeE, ↓startE, ↓Tg.slots, ↓IEs.fine, ↓IEs.len, ↓noOwn, ↓isOwnE, ↓Sl.isO, ↓Ev.freeAll, List.replicate, if_true, if_false, reduceIte, Nat.reduceLeDiff, Nat.reduceSub, Nat.reduceAdd, eq_self, reduceCtorEq, Int.reduceLT, Nat.reduceLT, ↓wpl, wpu])
      refine at_map (vec_get ho1) ?_
      (try simp only [↓wpSs, ↓wpS, ↓wpE, ↓wpEs, ↓wpBop, ↓wpIfs, ↓wpIt, ↓pk, ↓bindT, ↓ownL, ↓lockIt, ↓unlockIt, isT, ↓setAll, ↓wipeE, ↓startE, ↓Tg.slots, ↓IEs.fine, ↓IEs.len, ↓noOwn, ↓isOwnE, ↓Sl.isO, ↓Ev.freeAll, List.replicate, if_true, if_false, reduceIte, Nat.reduceLeDiff, Nat.reduceSub, Nat.reduceAdd, eq_self, reduceCtorEq, Int.reduceLT, Nat.reduceLT, ↓wpl, wpu])
      refine at_map (vec_get ho2) ?_
      (try simp only [↓wpSs, ↓wpS, ↓wpE, ↓wpEs, ↓wpBop, ↓wpIfs, ↓wpIt, ↓pk, ↓bindT, ↓ownL, ↓lockIt, ↓unlockIt, isT, ↓setAll, ↓wipeE, ↓startE, ↓Tg.slots, ↓IEs.fine, ↓IEs.len, ↓noOwn, ↓isOwnE, ↓Sl.isO, ↓Ev.freeAll, List.replicate, if_true, if_false, reduceIte, Nat.reduceLeDiff, Nat.reduceSub, Nat.reduceAdd, eq_self, reduceCtorEq, Int.reduceLT, Nat.reduceLT, ↓wpl, wpu])
      (try simp only [↓wpSs, ↓wpS, ↓wpE, ↓wpEs, ↓wpBop, ↓wpIfs, ↓wpIt, ↓pk, ↓bindT, ↓ownL, ↓lockIt, ↓unlockIt, isT, ↓setAll, ↓wipeE, ↓startE, ↓Tg.slots, ↓IEs.fine, ↓IEs.len, ↓noOwn, ↓isOwnE, ↓Sl.isO, ↓Ev.freeAll, List.replicate, if_true, if_false, reduceIte, Nat.reduceLeDiff, Nat.reduceSub, Nat.reduceAdd, eq_self, reduceCtorEq, Int.reduceLT, Nat.reduceLT, ↓wpl, wpu])
      refine at_map (get_job ho1) ?_
      (try simp only [↓wpSs, ↓wpS, ↓wpE, ↓wpEs, ↓wpBop, ↓wpIfs, ↓wpIt, ↓pk, ↓bindT, ↓ownL, ↓lockIt, ↓unlockIt, isT, ↓setAll, ↓wipeE, ↓startE, ↓Tg.slots, ↓IEs.fine, ↓IEs.len, ↓noOwn, ↓isOwnE, ↓Sl.isO, ↓Ev.freeAll, List.replicate, if_true, if_false, reduceIte, Nat.reduceLeDiff, Nat.reduceSub, Nat.reduceAdd, eq_self, reduceCtorEq, Int.reduceLT, Nat.reduceLT, ↓wpl, wpu])
      rw [vec_len]
      refine ex_set ho1 ?_
      rw [p1, set_eps]
      simp only [fset_same, fset_ne hne]
      have := hK' trivial
      unfold vW at this
      rw [← set_stp hne] at this
      exact this
end CF
namespace CF
open PySem PySem.Spec PyProof.Rows L2
-- 0 floor, 1 crews, 2 jobs, 3 orders, 4 found, 5 turn, 6 one, 7 other, 8 job
def ir_heads_b0 : ISs :=
  (.cons (.setI 4 (.var 7) (.blt .max2 (.cons (.ix (.var 4) (.var 7)) (.cons (.bin .Add (.ix (.var 4) (.var 6)) (.ix (.ix (.var 2) (.var 6)) (.kint 0))) .nil))))
  (.fgt [6, 7] .nil))
def ir_heads_b1 : ISs :=
  (.fgt [5] (.cons (.fors (.many [6, 7]) (.seq (.var 3)) ir_heads_b0)
  .nil))
def ir_heads_t0 : ISs :=
  (.cons (.ret (.var 4))
  .nil)
def ir_heads : ISs :=
  (.cons (.setT [1, 2, 3] (.var 0))
  (.cons (.setO 4 (.comp (.kint 0) (.one 8) (.seq (.var 2)) .nil))
  (.fgt [1] (.cons (.fors (.one 5) (.seq (.var 2)) ir_heads_b1)
  ir_heads_t0))))
-- calls: 
-- 0 floor, 1 crews, 2 jobs, 3 orders, 4 found, 5 turn, 6 one, 7 other, 8 job
def ir_tails_b0 : ISs :=
  (.cons (.setI 4 (.var 6) (.blt .max2 (.cons (.ix (.var 4) (.var 6)) (.cons (.bin .Add (.ix (.var 4) (.var 7)) (.ix (.ix (.var 2) (.var 7)) (.kint 0))) .nil))))
  (.fgt [6, 7] .nil))
def ir_tails_b1 : ISs :=
  (.fgt [5] (.cons (.fors (.many [6, 7]) (.seq (.var 3)) ir_tails_b0)
  .nil))
def ir_tails_t0 : ISs :=
  (.cons (.ret (.var 4))
  .nil)
def ir_tails : ISs :=
  (.cons (.setT [1, 2, 3] (.var 0))
  (.cons (.setO 4 (.comp (.kint 0) (.one 8) (.seq (.var 2)) .nil))
  (.fgt [1] (.cons (.fors (.one 5) (.seq (.var 2)) ir_tails_b1)
  ir_tails_t0))))
-- calls: 
-- 0 _law_floor_here, 1 _law_job_here, 2 _law_way, 3 _law_known, 4 _law_best, 5 _law_pair, 6 _law_other
def ir_l_longest_b0 : ISs :=
  (.cons (.ife (.cmp .Eq (.ix (.var 5) (.bin .Sub (.kint 1) (.var 2))) (.var 1))
    (.cons (.set 6 (.ix (.var 5) (.var 2)))
    (.cons (.mcal 4 (.var 4) (.ix (.ix (.ix (.var 0) (.kint 1)) (.var 6)) (.kint 0)) 0 (.cons (.var 0) (.cons (.var 6) (.cons (.var 2) .nil))) 3)
    .nil))
    .nil)
  (.fgt [5, 6] .nil))
def ir_l_longest_t0 : ISs :=
  (.cons (.setI 3 (.var 1) (.var 4))
  (.cons (.ret (.var 4))
  .nil))
def ir_l_longest_t1 : ISs :=
  (.cons (.set 4 (.kint 0))
  (.cons (.fors (.one 5) (.seq (.ix (.var 0) (.kint 2))) ir_l_longest_b0)
  ir_l_longest_t0))
def ir_l_longest : ISs :=
  (.cons (.ife (.cmp .In (.var 1) (.var 3))
    (.cons (.ret (.ix (.var 3) (.var 1)))
    .nil)
    .nil)
  ir_l_longest_t1)
-- calls: _law_longest
-- 0 _law_script, 1 _law_many, 2 _law_most, 3 _law_floor_here, 4 _law_known, 5 _law_ahead, 6 _law_behind, 7 _law_job_here, 8 _law_k
def ir_law_t0 : ISs :=
  (.cons (.setO 4 .dic0)
  (.cons (.mcmp 5 2 (.cons (.var 3) (.cons (.var 7) (.cons (.kint 0) .nil))) (.one 7) (.rng (.cons (.var 1) .nil)) 4)
  (.cons (.setO 4 .dic0)
  (.cons (.mcmp 6 2 (.cons (.var 3) (.cons (.var 7) (.cons (.kint 1) .nil))) (.one 7) (.rng (.cons (.var 1) .nil)) 4)
  (.cons (.ret (.bop .And (.cons (.call 3 (.cons (.call 5 (.cons (.var 3) .nil)) (.cons (.var 5) .nil))) (.cons (.call 3 (.cons (.call 4 (.cons (.var 3) .nil)) (.cons (.var 6) .nil))) .nil))))
  .nil)))))
def ir_law : ISs :=
  (.cons (.set 1 (.bin .Add (.kint 1) (.bin .Mod (.call 0 (.cons (.var 0) (.cons (.kint 3) .nil))) (.kint 12))))
  (.cons (.set 2 (.ix (.lst (.cons (.kint 4) (.cons (.kint 50) .nil))) (.bin .Mod (.bin .FloorDiv (.call 0 (.cons (.var 0) (.cons (.kint 3) .nil))) (.kint 12)) (.kint 2))))
  (.cons (.set 3 (.call 1 (.cons (.var 0) (.cons (.kint 0) (.cons (.var 1) (.cons (.var 2) (.cons (.ix (.lst (.cons (.kint 8) (.cons (.kint 40) .nil))) (.bin .Mod (.bin .FloorDiv (.call 0 (.cons (.var 0) (.cons (.kint 3) .nil))) (.kint 24)) (.kint 2))) .nil)))))))
  (.cons (.ife (.cmp .Eq (.bin .Mod (.bin .FloorDiv (.call 0 (.cons (.var 0) (.cons (.kint 3) .nil))) (.kint 48)) (.kint 4)) (.kint 1))
    (.cons (.set 3 (.tup (.cons (.ix (.var 3) (.kint 0)) (.cons (.ix (.var 3) (.kint 1)) (.cons (.bin .Add (.blt .tuple1 (.cons (.comp (.tup (.cons (.var 8) (.cons (.bin .Add (.var 8) (.kint 1)) .nil))) (.one 8) (.rng (.cons (.bin .Sub (.var 1) (.kint 1)) .nil)) .nil) .nil)) (.bin .Mult (.tup (.cons (.tup (.cons (.kint 0) (.cons (.bin .Sub (.var 1) (.kint 1)) .nil))) .nil)) (.blt .int1 (.cons (.cmp .Gt (.var 1) (.kint 1)) .nil)))) .nil)))))
    .nil)
    .nil)
  ir_law_t0))))
-- calls: _law_cell_at, _law_floor, _law_longest, _law_numbers, tails, heads
end CF
namespace CF
open PySem PySem.Spec PyProof.Rows L2
/-! ### the longest chains -/
def cmaxE (h : Nat → Int) (j : Nat) (l : List (Nat × Nat)) (a : Int) : Int := l.foldl (fun x o => if o.2 = j then max x (h o.1) else x) a
theorem cmaxE_ge {h : Nat → Int} {j : Nat} : ∀ {l : List (Nat × Nat)} {a : Int}, a ≤ cmaxE h j l a ∧ ∀ o ∈ l, o.2 = j → h o.1 ≤ cmaxE h j l a
  | [], a => ⟨Int.le_refl _, fun p hp => by simp at hp⟩
  | q :: l, a => by
    obtain ⟨h1, h2⟩ := cmaxE_ge (h := h) (j := j) (l := l) (a := if q.2 = j then max a (h q.1) else a)
    have e : cmaxE h j (q :: l) a = cmaxE h j l (if q.2 = j then max a (h q.1) else a) := rfl
    rw [e]
    refine ⟨?_, fun p hp hc => ?_⟩
    · refine Int.le_trans ?_ h1
      split <;> omega
    · rcases List.mem_cons.mp hp with rfl | hp
      · rw [if_pos hc] at h1 ⊢
        omega
      · exact h2 p hp hc
theorem cmaxE_le {h : Nat → Int} {j : Nat} {u : Int} : ∀ {l : List (Nat × Nat)} {a : Int}, a ≤ u → (∀ o ∈ l, o.2 = j → h o.1 ≤ u) → cmaxE h j l a ≤ u
  | [], a, h, _ => h
  | q :: l, a, h0, hl => by
    have e : cmaxE h j (q :: l) a = cmaxE h j l (if q.2 = j then max a (h q.1) else a) := rfl
    rw [e]
    refine cmaxE_le ?_ fun p hp => hl p (List.mem_cons_of_mem _ hp)
    split
    · rename_i hc
      have := hl q List.mem_cons_self hc
      omega
    · exact h0
theorem cmaxE_congr {h g : Nat → Int} {j : Nat} : ∀ {l : List (Nat × Nat)} {a : Int}, (∀ o ∈ l, o.2 = j → h o.1 = g o.1) → cmaxE h j l a = cmaxE g j l a
  | [], a, _ => rfl
  | q :: l, a, hl => by
    have e : ∀ h : Nat → Int, cmaxE h j (q :: l) a = cmaxE h j l (if q.2 = j then max a (h q.1) else a) := fun _ => rfl
    rw [e, e, cmaxE_congr fun o ho => hl o (List.mem_cons_of_mem _ ho)]
    by_cases hc : q.2 = j
    · rw [if_pos hc, if_pos hc, hl q List.mem_cons_self hc]
    · rw [if_neg hc, if_neg hc]
def lngF (E : List (Nat × Nat)) (h : Nat → Int) : Nat → Nat → Int
  | 0, _ => 0
  | n + 1, j => cmaxE (fun a => h a + lngF E h n a) j E 0
theorem lngF_nn {E : List (Nat × Nat)} {h : Nat → Int} : ∀ {n j : Nat}, 0 ≤ lngF E h n j
  | 0, _ => Int.le_refl _
  | n + 1, j => cmaxE_ge.1
theorem lngF_st {E : List (Nat × Nat)} {h : Nat → Int} {rk : Nat → Nat} (hr : ∀ o ∈ E, rk o.1 < rk o.2) : ∀ n j, rk j < n → lngF E h n j = lngF E h (n + 1) j
  | 0, j, hj => by omega
  | n + 1, j, hj => by
    show cmaxE _ j E 0 = cmaxE _ j E 0
    refine cmaxE_congr fun o ho hc => ?_
    have := hr o ho
    rw [hc] at this
    rw [lngF_st hr n o.1 (by omega)]
theorem lng_eq {E : List (Nat × Nat)} {h : Nat → Int} {n : Nat} (hE : GoodOr n E) {j : Nat} : lngF E h n j = cmaxE (fun a => h a + lngF E h n a) j E 0 := by
  obtain ⟨rk, h1, h2⟩ := hE
  cases n with
  | zero =>
    have : E = [] := by
      cases E with
      | nil => rfl
      | cons o E => have := (h2 o List.mem_cons_self).1; omega
    subst this
    rfl
  | succ m =>
    show cmaxE _ j E 0 = _
    refine cmaxE_congr fun o ho hc => ?_
    obtain ⟨a1, a2, a3⟩ := h2 o ho
    have := h1 o.2 a2
    rw [lngF_st (fun o ho => (h2 o ho).2.2) m o.1 (by omega)]
theorem lng_ge {E : List (Nat × Nat)} {h : Nat → Int} {n : Nat} (hE : GoodOr n E) {o : Nat × Nat} (ho : o ∈ E) : h o.1 + lngF E h n o.1 ≤ lngF E h n o.2 := by
  rw [lng_eq hE (j := o.2)]
  exact cmaxE_ge.2 o ho rfl
theorem lngF_le {E : List (Nat × Nat)} {h : Nat → Int} {n : Nat} (hE : GoodOr n E) : ∀ {t j : Nat}, lngF E h t j ≤ lngF E h n j
  | 0, j => lngF_nn
  | t + 1, j => by
    rw [lng_eq hE (j := j)]
    show cmaxE _ j E 0 ≤ _
    refine cmaxE_le cmaxE_ge.1 fun o ho hc => ?_
    have h1 : lngF E h t o.1 ≤ lngF E h n o.1 := lngF_le hE
    have h2 := (cmaxE_ge (h := fun a => h a + lngF E h n a) (j := j) (l := E) (a := 0)).2 o ho hc
    have h3 : h o.1 + lngF E h n o.1 ≤ cmaxE (fun a => h a + lngF E h n a) j E 0 := h2
    omega
def sw (way : Nat) (o : Nat × Nat) : Nat × Nat := if way = 0 then o else (o.2, o.1)
def ed (F : Fl) (way : Nat) : List (Nat × Nat) := F.orders.map (sw way)
def lng (F : Fl) (way j : Nat) : Int := lngF (ed F way) F.h F.jobs.length j
theorem ed_good {F : Fl} {most : Int} (hF : GoodFl most F) (way : Nat) : GoodOr F.jobs.length (ed F way) := by
  obtain ⟨rk, h1, h2⟩ := hF.r
  by_cases hw : way = 0
  · refine ⟨rk, h1, fun o ho => ?_⟩
    obtain ⟨o', ho', rfl⟩ := List.mem_map.mp ho
    unfold sw
    rw [if_pos hw]
    exact h2 o' ho'
  · refine ⟨fun i => F.jobs.length - 1 - rk i, fun i hi => by have := h1 i hi; dsimp only; omega, fun o ho => ?_⟩
    obtain ⟨o', ho', rfl⟩ := List.mem_map.mp ho
    unfold sw
    rw [if_neg hw]
    obtain ⟨a1, a2, a3⟩ := h2 o' ho'
    have b1 := h1 _ a1
    have b2 := h1 _ a2
    refine ⟨a2, a1, ?_⟩
    dsimp only
    omega
/-! by going over all orders once for each job -/
def g0 (fs : List Int) (j : Nat) : Int := fs.getD j 0
theorem g0_get {fs : List Int} {j : Nat} (h : j < fs.length) : fs[j]? = some (g0 fs j) := by
  unfold g0
  rw [getD_of h]
  exact mem_at h
theorem g0_set {fs : List Int} {i j : Nat} {v : Int} (h : j < fs.length) : g0 (fs.set j v) i = if i = j then v else g0 fs i := by
  unfold g0
  rw [List.getD_eq_getElem?_getD, List.getD_eq_getElem?_getD]
  by_cases hi : i = j
  · subst hi
    rw [if_pos rfl, List.getElem?_set_self h]
    rfl
  · rw [if_neg hi, List.getElem?_set_ne (Ne.symm hi)]
structure Mid (E : List (Nat × Nat)) (h : Nat → Int) (n t : Nat) (done : List (Nat × Nat)) (fs : List Int) : Prop where
  l : fs.length = n
  lo : ∀ j, j < n → lngF E h t j ≤ g0 fs j
  hi : ∀ j, j < n → g0 fs j ≤ lngF E h n j
  d : ∀ o ∈ done, h o.1 + lngF E h t o.1 ≤ g0 fs o.2
theorem mid_step {E : List (Nat × Nat)} {h : Nat → Int} {n t : Nat} {done : List (Nat × Nat)} {fs : List Int} (hE : GoodOr n E) {o : Nat × Nat} (ho : o ∈ E) (m : Mid E h n t done fs) : Mid E h n t (done ++ [o]) (fs.set o.2 (max (g0 fs o.2) (g0 fs o.1 + h o.1))) := by
  have hg := lng_ge (h := h) hE ho
  obtain ⟨rk, _, h2⟩ := hE
  obtain ⟨a1, a2, a3⟩ := h2 o ho
  have hl : o.2 < fs.length := by rw [m.l]; exact a2
  have b1 := m.lo o.1 a1
  have b2 := m.hi o.1 a1
  refine ⟨by rw [List.length_set]; exact m.l, fun j hj => ?_, fun j hj => ?_, fun o' ho' => ?_⟩
  · rw [g0_set hl]
    have := m.lo j hj
    split
    · rename_i e
      subst e
      omega
    · exact this
  · rw [g0_set hl]
    have := m.hi j hj
    split
    · rename_i e
      subst e
      omega
    · exact this
  · rw [g0_set hl]
    rcases List.mem_append.mp ho' with ho' | ho'
    · have := m.d o' ho'
      split
      · rename_i e
        rw [e] at this
        omega
      · exact this
    · rw [List.mem_singleton.mp ho', if_pos rfl]
      omega
theorem mid_end {E : List (Nat × Nat)} {h : Nat → Int} {n t : Nat} {fs : List Int} (m : Mid E h n t E fs) : Mid E h n (t + 1) [] fs := by
  refine ⟨m.l, fun j hj => ?_, m.hi, fun o ho => by simp at ho⟩
  show cmaxE _ j E 0 ≤ _
  refine cmaxE_le (Int.le_trans lngF_nn (m.lo j hj)) fun o ho hc => ?_
  have := m.d o ho
  rw [hc] at this
  exact this
theorem mid_fin {E : List (Nat × Nat)} {h : Nat → Int} {n : Nat} {fs : List Int} (m : Mid E h n n [] fs) : fs = (List.range n).map (lngF E h n) := by
  refine List.ext_getElem? fun i => ?_
  by_cases hi : i < n
  · rw [g0_get (by rw [m.l]; exact hi), List.getElem?_map, List.getElem?_range hi]
    exact congrArg some (Int.le_antisymm (m.hi i hi) (m.lo i hi))
  · rw [List.getElem?_eq_none (by rw [m.l]; omega), List.getElem?_eq_none (by simp; omega)]
theorem mid_0 {E : List (Nat × Nat)} {h : Nat → Int} {n : Nat} : Mid E h n 0 [] (List.replicate n 0) := by
  have g : ∀ j, g0 (List.replicate n 0) j = 0 := fun j => by
    unfold g0
    rw [List.getD_eq_getElem?_getD, List.getElem?_replicate]
    split <;> rfl
  refine ⟨by simp, fun j _ => by rw [g]; exact Int.le_refl _, fun j _ => by rw [g]; exact lngF_nn, fun o ho => by simp at ho⟩
def g_heads : Pm := fun ds R => ∃ F : Fl, ds = [eFl F] ∧ GoodFl 50 F ∧ R (.list (((List.range F.jobs.length).map (lng F 0)).map .int))
abbrev e_heads : FnE := ⟨"heads", 1, false, g_heads⟩
def g_tails : Pm := fun ds R => ∃ F : Fl, ds = [eFl F] ∧ GoodFl 50 F ∧ R (.list (((List.range F.jobs.length).map (lng F 1)).map .int))
abbrev e_tails : FnE := ⟨"tails", 1, false, g_tails⟩
theorem rep_zero {F : Fl} : F.jobs.map (fun _ => PyData.int 0) = (List.replicate F.jobs.length (0 : Int)).map .int := by
  rw [List.map_replicate]
  exact List.map_const'
theorem sem_heads : ∀ ds R, ds.length = 1 → g_heads ds R → wpSs (Gof []) ir_heads (startE 9 ds) { nx := fun _ => false = false ∧ R .none, rt := R } := by
  rintro _ R _ ⟨F, rfl, hF, q⟩
  have j2 := hF.j2
  have hE := ed_good hF 0
  (try simp only [ir_heads, ↓wpSs, ↓wpS, ↓wpE, ↓wpEs, ↓wpBop, ↓wpIfs, ↓wpIt, ↓pk, ↓bindT, ↓ownL, ↓lockIt, ↓unlockIt, isT, ↓setAll, ↓wipeE, ↓startE, ↓Tg.slots, ↓IEs.fine, ↓IEs.len, ↓noOwn, ↓isOwnE, ↓Sl.isO, ↓Ev.freeAll, List.replicate, if_true, if_false, reduceIte, Nat.reduceLeDiff, Nat.reduceSub, Nat.reduceAdd, eq_self, reduceCtorEq, Int.reduceLT, Nat.reduceLT, ↓wpl, wpu])
  refine ⟨by omega, ?_⟩
  refine compL_map (fun _ => .int 0) (fun j _ K h => h) ?_
  rw [rep_zero]
  refine forL_map (fun t r => ∃ fs, Mid (ed F 0) F.h F.jobs.length t [] fs ∧ r = [.val (eFl F), .un, .val (.tuple (F.jobs.map eJob)), .val (.tuple (F.orders.map eOrd)), .own (.list (fs.map .int)), .un, .un, .un, .un]) ⟨_, mid_0, rfl⟩ ?_ ?_
  · rintro _ ⟨fs, m, rfl⟩
    (try simp only [ir_heads_t0, ↓wpSs, ↓wpS, ↓wpE, ↓wpEs, ↓wpBop, ↓wpIfs, ↓wpIt, ↓pk, ↓bindT, ↓ownL, ↓lockIt, ↓unlockIt, isT, ↓setAll, ↓wipeE, ↓startE, ↓Tg.slots, ↓IEs.fine, ↓IEs.len, ↓noOwn, ↓isOwnE, ↓Sl.isO, ↓Ev.freeAll, List.replicate, if_true, if_false, reduceIte, Nat.reduceLeDiff, Nat.reduceSub, Nat.reduceAdd, eq_self, reduceCtorEq, Int.reduceLT, Nat.reduceLT, ↓wpl, wpu])
    rw [mid_fin m]
    exact q
  · rintro t jb _ K ht ⟨fs, m, rfl⟩ hK
    (try simp only [ir_heads_b1, ↓wpSs, ↓wpS, ↓wpE, ↓wpEs, ↓wpBop, ↓wpIfs, ↓wpIt, ↓pk, ↓bindT, ↓ownL, ↓lockIt, ↓unlockIt, isT, ↓setAll, ↓wipeE, ↓startE, ↓Tg.slots, ↓IEs.fine, ↓IEs.len, ↓noOwn, ↓isOwnE, ↓Sl.isO, ↓Ev.freeAll, List.replicate, if_true, if_false, reduceIte, Nat.reduceLeDiff, Nat.reduceSub, Nat.reduceAdd, eq_self, reduceCtorEq, Int.reduceLT, Nat.reduceLT, ↓wpl, wpu])
    refine forL_map (fun i r => ∃ fs, Mid (ed F 0) F.h F.jobs.length t ((F.orders.take i).map (sw 0)) fs ∧ r = [.val (eFl F), .un, .val (.tuple (F.jobs.map eJob)), .val (.tuple (F.orders.map eOrd)), .own (.list (fs.map .int)), .un, .un, .un, .un]) ⟨fs, m, rfl⟩ ?_ ?_
    · rintro _ ⟨fs, m, rfl⟩
      rw [List.take_length] at m
      exact hK _ ⟨fs, mid_end m, rfl⟩
    · rintro i o _ K2 hi ⟨fs, m, rfl⟩ hK2
      have ho := List.mem_of_getElem? hi
      obtain ⟨h1, h2, _⟩ := ord_ok hF ho
      have hl := m.l
      have m2 := mid_step hE (o := sw 0 o) (List.mem_map_of_mem ho) m
      have et : (F.orders.take i).map (sw 0) ++ [sw 0 o] = (F.orders.take (i + 1)).map (sw 0) := by rw [List.take_add_one, hi, Option.toList_some, List.map_append]; rfl
      rw [et] at m2
      have es : sw 0 o = o := rfl
      rw [es] at m2
      have eh : (F.jobs.getD o.1 (0, [])).1 = F.h o.1 := rfl
      (try simp only [ir_heads_b0, ex_ord, ↓wpSs, ↓wpS, ↓wpE, ↓wpEs, ↓wpBop, ↓wpIfs, ↓wpIt, ↓pk, ↓bindT, ↓ownL, ↓lockIt, ↓unlockIt, isT, ↓setAll, ↓wipeE, ↓startE, ↓Tg.slots, ↓IEs.fine, ↓IEs.len, ↓noOwn, ↓isOwnE, ↓Sl.isO, ↓Ev.freeAll, List.replicate, if_true, if_false, reduceIte, Nat.reduceLeDiff, Nat.reduceSub, Nat.reduceAdd, eq_self, reduceCtorEq, Int.reduceLT, Nat.reduceLT, ↓wpl, wpu])
      refine at_map (g0_get (by omega)) ?_
      (try simp only [↓wpSs, ↓wpS, ↓wpE, ↓wpEs, ↓wpBop, ↓wpIfs, ↓wpIt, ↓pk, ↓bindT, ↓ownL, ↓lockIt, ↓unlockIt, isT, ↓setAll, ↓wipeE, ↓startE, ↓Tg.slots, ↓IEs.fine, ↓IEs.len, ↓noOwn, ↓isOwnE, ↓Sl.isO, ↓Ev.freeAll, List.replicate, if_true, if_false, reduceIte, Nat.reduceLeDiff, Nat.reduceSub, Nat.reduceAdd, eq_self, reduceCtorEq, Int.reduceLT, Nat.reduceLT, ↓wpl, wpu])
      refine at_map (g0_get (by omega)) ?_
      (try simp only [↓wpSs, ↓wpS, ↓wpE, ↓wpEs, ↓wpBop, ↓wpIfs, ↓wpIt, ↓pk, ↓bindT, ↓ownL, ↓lockIt, ↓unlockIt, isT, ↓setAll, ↓wipeE, ↓startE, ↓Tg.slots, ↓IEs.fine, ↓IEs.len, ↓noOwn, ↓isOwnE, ↓Sl.isO, ↓Ev.freeAll, List.replicate, if_true, if_false, reduceIte, Nat.reduceLeDiff, Nat.reduceSub, Nat.reduceAdd, eq_self, reduceCtorEq, Int.reduceLT, Nat.reduceLT, ↓wpl, wpu])
      refine at_map (get_job h1) ?_
      (try simp only [↓wpSs, ↓wpS, ↓wpE, ↓wpEs, ↓wpBop, ↓wpIfs, ↓wpIt, ↓pk, ↓bindT, ↓ownL, ↓lockIt, ↓unlockIt, isT, ↓setAll, ↓wipeE, ↓startE, ↓Tg.slots, ↓IEs.fine, ↓IEs.len, ↓noOwn, ↓isOwnE, ↓Sl.isO, ↓Ev.freeAll, List.replicate, if_true, if_false, reduceIte, Nat.reduceLeDiff, Nat.reduceSub, Nat.reduceAdd, eq_self, reduceCtorEq, Int.reduceLT, Nat.reduceLT, ↓wpl, wpu])
      rw [eh]
      refine ⟨o.2, ixN_nat (by omega), ?_⟩
      rw [← List.map_set]
      exact hK2 _ ⟨_, m2, rfl⟩
theorem sem_tails : ∀ ds R, ds.length = 1 → g_tails ds R → wpSs (Gof []) ir_tails (startE 9 ds) { nx := fun _ => false = false ∧ R .none, rt := R } := by
  rintro _ R _ ⟨F, rfl, hF, q⟩
  have j2 := hF.j2
  have hE := ed_good hF 1
  (try simp only [ir_tails, ↓wpSs, ↓wpS, ↓wpE, ↓wpEs, ↓wpBop, ↓wpIfs, ↓wpIt, ↓pk, ↓bindT, ↓ownL, ↓lockIt, ↓unlockIt, isT, ↓setAll, ↓wipeE, ↓startE, ↓Tg.slots, ↓IEs.fine, ↓IEs.len, ↓noOwn, ↓isOwnE, ↓Sl.isO, ↓Ev.freeAll, List.replicate, if_true, if_false, reduceIte, Nat.reduceLeDiff, Nat.reduceSub, Nat.reduceAdd, eq_self, reduceCtorEq, Int.reduceLT, Nat.reduceLT, ↓wpl, wpu])
  refine ⟨by omega, ?_⟩
  refine compL_map (fun _ => .int 0) (fun j _ K h => h) ?_
  rw [rep_zero]
  refine forL_map (fun t r => ∃ fs, Mid (ed F 1) F.h F.jobs.length t [] fs ∧ r = [.val (eFl F), .un, .val (.tuple (F.jobs.map eJob)), .val (.tuple (F.orders.map eOrd)), .own (.list (fs.map .int)), .un, .un, .un, .un]) ⟨_, mid_0, rfl⟩ ?_ ?_
  · rintro _ ⟨fs, m, rfl⟩
    (try simp only [ir_tails_t0, ↓wpSs, ↓wpS, ↓wpE, ↓wpEs, ↓wpBop, ↓wpIfs, ↓wpIt, ↓pk, ↓bindT, ↓ownL, ↓lockIt, ↓unlockIt, isT, ↓setAll, ↓wipeE, ↓startE, ↓Tg.slots, ↓IEs.fine, ↓IEs.len, ↓noOwn, ↓isOwnE, ↓Sl.isO, ↓Ev.freeAll, List.replicate, if_true, if_false, reduceIte, Nat.reduceLeDiff, Nat.reduceSub, Nat.reduceAdd, eq_self, reduceCtorEq, Int.reduceLT, Nat.reduceLT, ↓wpl, wpu])
    rw [mid_fin m]
    exact q
  · rintro t jb _ K ht ⟨fs, m, rfl⟩ hK
    (try simp only [ir_tails_b1, ↓wpSs, ↓wpS, ↓wpE, ↓wpEs, ↓wpBop, ↓wpIfs, ↓wpIt, ↓pk, ↓bindT, ↓ownL, ↓lockIt, ↓unlockIt, isT, ↓setAll, ↓wipeE, ↓startE, ↓Tg.slots, ↓IEs.fine, ↓IEs.len, ↓noOwn, ↓isOwnE, ↓Sl.isO, ↓Ev.freeAll, List.replicate, if_true, if_false, reduceIte, Nat.reduceLeDiff, Nat.reduceSub, Nat.reduceAdd, eq_self, reduceCtorEq, Int.reduceLT, Nat.reduceLT, ↓wpl, wpu])
    refine forL_map (fun i r => ∃ fs, Mid (ed F 1) F.h F.jobs.length t ((F.orders.take i).map (sw 1)) fs ∧ r = [.val (eFl F), .un, .val (.tuple (F.jobs.map eJob)), .val (.tuple (F.orders.map eOrd)), .own (.list (fs.map .int)), .un, .un, .un, .un]) ⟨fs, m, rfl⟩ ?_ ?_
    · rintro _ ⟨fs, m, rfl⟩
      rw [List.take_length] at m
      exact hK _ ⟨fs, mid_end m, rfl⟩
    · rintro i o _ K2 hi ⟨fs, m, rfl⟩ hK2
      have ho := List.mem_of_getElem? hi
      obtain ⟨h1, h2, _⟩ := ord_ok hF ho
      have hl := m.l
      have m2 := mid_step hE (o := sw 1 o) (List.mem_map_of_mem ho) m
      have et : (F.orders.take i).map (sw 1) ++ [sw 1 o] = (F.orders.take (i + 1)).map (sw 1) := by rw [List.take_add_one, hi, Option.toList_some, List.map_append]; rfl
      rw [et] at m2
      have es : sw 1 o = (o.2, o.1) := rfl
      rw [es] at m2
      have eh : (F.jobs.getD o.2 (0, [])).1 = F.h o.2 := rfl
      (try simp only [ir_tails_b0, ex_ord, ↓wpSs, ↓wpS, ↓wpE, ↓wpEs, ↓wpBop, ↓wpIfs, ↓wpIt, ↓pk, ↓bindT, ↓ownL, ↓lockIt, ↓unlockIt, isT, ↓setAll, ↓wipeE, ↓startE, ↓Tg.slots, ↓IEs.fine, ↓IEs.len, ↓noOwn, ↓isOwnE, ↓Sl.isO, ↓Ev.freeAll, List.replicate, if_true, if_false, reduceIte, Nat.reduceLeDiff, Nat.reduceSub, Nat.reduceAdd, eq_self, reduceCtorEq, Int.reduceLT, Nat.reduceLT, ↓wpl, wpu])
      refine at_map (g0_get (by omega)) ?_
      (try simp only [↓wpSs, ↓wpS, ↓wpE, ↓wpEs, ↓wpBop, ↓wpIfs, ↓wpIt, ↓pk, ↓bindT, ↓ownL, ↓lockIt, ↓unlockIt, isT, ↓setAll, ↓wipeE, ↓startE, ↓Tg.slots, ↓IEs.fine, ↓IEs.len, ↓noOwn, ↓isOwnE, ↓Sl.isO, ↓Ev.freeAll, List.replicate, if_true, if_false, reduceIte, Nat.reduceLeDiff, Nat.reduceSub, Nat.reduceAdd, eq_self, reduceCtorEq, Int.reduceLT, Nat.reduceLT, ↓wpl, wpu])
      refine at_map (g0_get (by omega)) ?_
      (try simp only [↓wpSs, ↓wpS, ↓wpE, ↓wpEs, ↓wpBop, ↓wpIfs, ↓wpIt, ↓pk, ↓bindT, ↓ownL, ↓lockIt, ↓unlockIt, isT, ↓setAll, ↓wipeE, ↓startE, ↓Tg.slots, ↓IEs.fine, ↓IEs.len, ↓noOwn, ↓isOwnE, ↓Sl.isO, ↓Ev.freeAll, List.replicate, if_true, if_false, reduceIte, Nat.reduceLeDiff, Nat.reduceSub, Nat.reduceAdd, eq_self, reduceCtorEq, Int.reduceLT, Nat.reduceLT, ↓wpl, wpu])
      refine at_map (get_job h2) ?_
      (try simp only [↓wpSs, ↓wpS, ↓wpE, ↓wpEs, ↓wpBop, ↓wpIfs, ↓wpIt, ↓pk, ↓bindT, ↓ownL, ↓lockIt, ↓unlockIt, isT, ↓setAll, ↓wipeE, ↓startE, ↓Tg.slots, ↓IEs.fine, ↓IEs.len, ↓noOwn, ↓isOwnE, ↓Sl.isO, ↓Ev.freeAll, List.replicate, if_true, if_false, reduceIte, Nat.reduceLeDiff, Nat.reduceSub, Nat.reduceAdd, eq_self, reduceCtorEq, Int.reduceLT, Nat.reduceLT, ↓wpl, wpu])
      rw [eh]
      refine ⟨o.1, ixN_nat (by omega), ?_⟩
      rw [← List.map_set]
      exact hK2 _ ⟨_, m2, rfl⟩
end CF
namespace CF
open PySem PySem.Spec PyProof.Rows L2
structure Val (F : Fl) (way : Nat) (l : List (Int × Int)) : Prop where
  v : ∀ p ∈ l, ∃ k : Nat, k < F.jobs.length ∧ p = ((k : Int), lng F way k)
  n : (l.map (·.1)).Nodup
theorem nodup_len : ∀ {n : Nat} {l : List Nat}, l.Nodup → (∀ x ∈ l, x < n) → l.length ≤ n
  | 0, l, _, h => by
    cases l with
    | nil => exact Nat.le_refl _
    | cons a l => have := h a List.mem_cons_self; omega
  | n + 1, l, hn, h => by
    have h1 : (l.erase n).length ≤ n := nodup_len (hn.erase n) fun x hx => by
      have h2 := (hn.mem_erase_iff).mp hx
      have h3 := h x h2.2
      have := h2.1
      omega
    rw [List.length_erase] at h1
    split at h1
    · omega
    · omega
theorem Val.len {F : Fl} {way : Nat} {l : List (Int × Int)} (h : Val F way l) : l.length ≤ F.jobs.length := by
  have h1 : (l.map fun p => p.1.toNat).length ≤ F.jobs.length := by
    refine nodup_len ?_ fun x hx => ?_
    · have e : l.map (fun p => p.1.toNat) = (l.map (·.1)).map Int.toNat := by rw [List.map_map]; rfl
      rw [e]
      have hn := h.n
      rw [List.nodup_iff_pairwise_ne] at hn ⊢
      rw [List.pairwise_map]
      refine List.Pairwise.imp_of_mem (fun {a b} ha hb hab e => hab ?_) hn
      obtain ⟨p, hp, rfl⟩ := List.mem_map.mp ha
      obtain ⟨p', hp', rfl⟩ := List.mem_map.mp hb
      obtain ⟨k, _, rfl⟩ := h.v p hp
      obtain ⟨k', _, rfl⟩ := h.v p' hp'
      dsimp only at e ⊢
      omega
    · obtain ⟨p, hp, rfl⟩ := List.mem_map.mp hx
      obtain ⟨k, hk, rfl⟩ := h.v p hp
      dsimp only
      omega
  rw [List.length_map] at h1
  exact h1
theorem Val.nil {F : Fl} {way : Nat} : Val F way [] := ⟨fun p hp => by simp at hp, List.nodup_nil⟩
theorem Val.get {F : Fl} {way j : Nat} {l : List (Int × Int)} (h : Val F way l) {v : Int} (e : dgetL l j = some v) : v = lng F way j := by
  unfold dgetL at e
  obtain ⟨p, hp, rfl⟩ := Option.map_eq_some_iff.mp e
  have h1 := List.find?_some hp
  have h2 := List.mem_of_find?_eq_some hp
  obtain ⟨k, _, rfl⟩ := h.v p h2
  have h3 : (k : Int) = j := of_decide_eq_true h1
  have : k = j := by omega
  rw [this]
theorem Val.put {F : Fl} {way j : Nat} {l : List (Int × Int)} (h : Val F way l) (hj : j < F.jobs.length) : Val F way (dputL l j (lng F way j)) := by
  unfold dputL
  split
  · refine ⟨fun p hp => ?_, ?_⟩
    · obtain ⟨q, hq, rfl⟩ := List.mem_map.mp hp
      obtain ⟨k, hk, rfl⟩ := h.v q hq
      refine ⟨k, hk, ?_⟩
      dsimp only
      split
      · rename_i e
        have : k = j := by omega
        rw [this]
      · rfl
    · rw [List.map_map]
      have e : ((fun p : Int × Int => p.1) ∘ fun p : Int × Int => if p.1 = (j : Int) then (p.1, lng F way j) else p) = fun p => p.1 := by
        funext p
        show (if p.1 = (j : Int) then (p.1, lng F way j) else p).1 = p.1
        split <;> rfl
      rw [e]
      exact h.n
  · rename_i hn
    refine ⟨fun p hp => ?_, ?_⟩
    · rcases List.mem_append.mp hp with hp | hp
      · exact h.v p hp
      · rw [List.mem_singleton.mp hp]
        exact ⟨j, hj, rfl⟩
    · rw [List.map_append]
      refine List.nodup_append.mpr ⟨h.n, by simp, fun a ha b hb e => ?_⟩
      simp only [List.map_cons, List.map_nil, List.mem_singleton] at hb
      obtain ⟨p, hp, rfl⟩ := List.mem_map.mp ha
      refine hn (List.any_eq_true.mpr ⟨p, hp, decide_eq_true ?_⟩)
      rw [e, hb]
def g_l_longest (m : Nat) : Pm := fun ds R => ∃ (F : Fl) (j way : Nat) (l : List (Int × Int)) (rk : Nat → Nat), ds = [eFl F, .int j, .int way, .dict (dL l)] ∧ GoodFl 50 F ∧ j < F.jobs.length ∧ way ≤ 1 ∧ (∀ o ∈ ed F way, rk o.1 < rk o.2) ∧ rk j < m ∧ Val F way l ∧ ∀ l', Val F way l' → R (.tuple [.int (lng F way j), .dict (dL l')])
abbrev e_l_longest (m : Nat) : FnE := ⟨"_law_longest", 3004, false, g_l_longest m⟩
theorem v_l_longest {ds : List PyData} {R : PyData → Prop} (h : g_l_longest 0 ds R) : False := by
  obtain ⟨F, j, way, l, rk, _, _, _, _, _, h, _⟩ := h
  omega
theorem at_w1 {a b : Int} {way : Nat} {p : PyData → Prop} (hw : way ≤ 1) (h : p (.int (if way = 0 then b else a))) : ∃ d, atI [PyData.int a, .int b] (1 - (way : Int)) = some d ∧ p d := by
  rcases (by omega : way = 0 ∨ way = 1) with rfl | rfl
  · exact ⟨_, at_lit1, h⟩
  · exact ⟨_, at_lit0, h⟩
theorem at_w0 {a b : Int} {way : Nat} {p : PyData → Prop} (hw : way ≤ 1) (h : p (.int (if way = 0 then a else b))) : ∃ d, atI [PyData.int a, .int b] (way : Int) = some d ∧ p d := by
  rcases (by omega : way = 0 ∨ way = 1) with rfl | rfl
  · exact ⟨_, at_lit0, h⟩
  · exact ⟨_, at_lit1, h⟩
theorem sw1 {way : Nat} {o : Nat × Nat} : (if way = 0 then (o.1 : Int) else o.2) = ((sw way o).1 : Nat) := by unfold sw; split <;> rfl
theorem sw2 {way : Nat} {o : Nat × Nat} : (if way = 0 then (o.2 : Int) else o.1) = ((sw way o).2 : Nat) := by unfold sw; split <;> rfl
def lgR (F : Fl) (j way : Nat) (l : List (Int × Int)) (x : Sl) : Ev := [.val (eFl F), .val (.int j), .val (.int way), .mem l, x, .un, .un]
theorem sem_lg_set {G : Nat → Pm} {F : Fl} {j way : Nat} {l : List (Int × Int)} {D : Kt} (h : D.nx (lgR F j way l (.val (.int 0)))) : wpS G (.set 4 (.kint 0)) (lgR F j way l .un) D := by
  unfold lgR at h ⊢
  (try simp only [↓wpSs, ↓wpS, ↓wpE, ↓wpEs, ↓wpBop, ↓wpIfs, ↓wpIt, ↓pk, ↓bindT, ↓ownL, ↓lockIt, ↓unlockIt, isT, ↓setAll, ↓wipeE, ↓startE, ↓Tg.slots, ↓IEs.fine, ↓IEs.len, ↓noOwn, ↓isOwnE, ↓Sl.isO, ↓Ev.freeAll, List.replicate, if_true, if_false, reduceIte, Nat.reduceLeDiff, Nat.reduceSub, Nat.reduceAdd, eq_self, reduceCtorEq, Int.reduceLT, Nat.reduceLT, ↓wpl, wpu])
  exact h
theorem sem_lg_for {F : Fl} {j way m : Nat} {l : List (Int × Int)} {rk : Nat → Nat} {D : Kt} (hF : GoodFl 50 F) (hj : j < F.jobs.length) (hw : way ≤ 1) (hr : ∀ o ∈ ed F way, rk o.1 < rk o.2) (hm : rk j < m + 1) (hl : Val F way l)
    (h : ∀ l', Val F way l' → D.nx (lgR F j way l' (.val (.int (lng F way j))))) : wpS (Gof [e_l_longest m]) (.fors (.one 5) (.seq (.ix (.var 0) (.kint 2))) ir_l_longest_b0) (lgR F j way l (.val (.int 0))) D := by
  have hE := ed_good hF way
  unfold lgR at h ⊢
  (try simp only [↓wpSs, ↓wpS, ↓wpE, ↓wpEs, ↓wpBop, ↓wpIfs, ↓wpIt, ↓pk, ↓bindT, ↓ownL, ↓lockIt, ↓unlockIt, isT, ↓setAll, ↓wipeE, ↓startE, ↓Tg.slots, ↓IEs.fine, ↓IEs.len, ↓noOwn, ↓isOwnE, ↓Sl.isO, ↓Ev.freeAll, List.replicate, if_true, if_false, reduceIte, Nat.reduceLeDiff, Nat.reduceSub, Nat.reduceAdd, eq_self, reduceCtorEq, Int.reduceLT, Nat.reduceLT, ↓wpl, wpu])
  refine forL_map (fun i r => ∃ l', Val F way l' ∧ r = [.val (eFl F), .val (.int j), .val (.int way), .mem l', .val (.int (cmaxE (fun a => F.h a + lng F way a) j ((F.orders.take i).map (sw way)) 0)), .un, .un]) ⟨l, hl, rfl⟩ ?_ ?_
  · rintro _ ⟨l', hl', rfl⟩
    rw [List.take_length]
    have e : cmaxE (fun a => F.h a + lng F way a) j (F.orders.map (sw way)) 0 = lng F way j := (lng_eq hE).symm
    rw [e]
    exact h l' hl'
  · rintro i o _ K hi ⟨l', hl', rfl⟩ hK
    have ho := List.mem_of_getElem? hi
    obtain ⟨h1, h2, _⟩ := ord_ok hF ho
    have hso : sw way o ∈ ed F way := List.mem_map_of_mem ho
    have hb : (sw way o).1 < F.jobs.length := by unfold sw; split <;> assumption
    have et : cmaxE (fun a => F.h a + lng F way a) j ((F.orders.take (i + 1)).map (sw way)) 0 = if (sw way o).2 = j then max (cmaxE (fun a => F.h a + lng F way a) j ((F.orders.take i).map (sw way)) 0) (F.h (sw way o).1 + lng F way (sw way o).1) else cmaxE (fun a => F.h a + lng F way a) j ((F.orders.take i).map (sw way)) 0 := by
      rw [List.take_add_one, hi, Option.toList_some, List.map_append]
      unfold cmaxE
      rw [List.foldl_append]
      rfl
    rw [et] at hK
    generalize cmaxE (fun a => F.h a + lng F way a) j ((F.orders.take i).map (sw way)) 0 = b at hK ⊢
    have eh : (F.jobs.getD (sw way o).1 (0, [])).1 = F.h (sw way o).1 := rfl
    (try simp only [ir_l_longest_b0, eOrd, ↓wpSs, ↓wpS, ↓wpE, ↓wpEs, ↓wpBop, ↓wpIfs, ↓wpIt, ↓pk, ↓bindT, ↓ownL, ↓lockIt, ↓unlockIt, isT, ↓setAll, ↓wipeE, ↓startE, ↓Tg.slots, ↓IEs.fine, ↓IEs.len, ↓noOwn, ↓isOwnE, ↓Sl.isO, ↓Ev.freeAll, List.replicate, if_true, if_false, reduceIte, Nat.reduceLeDiff, Nat.reduceSub, Nat.reduceAdd, eq_self, reduceCtorEq, Int.reduceLT, Nat.reduceLT, ↓wpl, wpu])
    refine at_w1 hw ?_
    rw [sw2]
    (try simp only [↓wpSs, ↓wpS, ↓wpE, ↓wpEs, ↓wpBop, ↓wpIfs, ↓wpIt, ↓pk, ↓bindT, ↓ownL, ↓lockIt, ↓unlockIt, isT, ↓setAll, ↓wipeE, ↓startE, ↓Tg.slots, ↓IEs.fine, ↓IEs.len, ↓noOwn, ↓isOwnE, ↓Sl.isO, ↓Ev.freeAll, List.replicate, if_true, if_false, reduceIte, Nat.reduceLeDiff, Nat.reduceSub, Nat.reduceAdd, eq_self, reduceCtorEq, Int.reduceLT, Nat.reduceLT, ↓wpl, wpu])
    by_cases hc : (sw way o).2 = j
    · rw [if_pos hc] at hK
      have hc' : ((sw way o).2 : Int) = j := by omega
      (try simp only [hc', ↓wpSs, ↓wpS, ↓wpE, ↓wpEs, ↓wpBop, ↓wpIfs, ↓wpIt, ↓pk, ↓bindT, ↓ownL, ↓lockIt, ↓unlockIt, isT, ↓setAll, ↓wipeE, ↓startE, ↓Tg.slots, ↓IEs.fine, ↓IEs.len, ↓noOwn, ↓isOwnE, ↓Sl.isO, ↓Ev.freeAll, List.replicate, if_true, if_false, reduceIte, Nat.reduceLeDiff, Nat.reduceSub, Nat.reduceAdd, eq_self, reduceCtorEq, Int.reduceLT, Nat.reduceLT, ↓wpl, wpu])
      refine at_w0 hw ?_
      rw [sw1]
      (try simp only [↓wpSs, ↓wpS, ↓wpE, ↓wpEs, ↓wpBop, ↓wpIfs, ↓wpIt, ↓pk, ↓bindT, ↓ownL, ↓lockIt, ↓unlockIt, isT, ↓setAll, ↓wipeE, ↓startE, ↓Tg.slots, ↓IEs.fine, ↓IEs.len, ↓noOwn, ↓isOwnE, ↓Sl.isO, ↓Ev.freeAll, List.replicate, if_true, if_false, reduceIte, Nat.reduceLeDiff, Nat.reduceSub, Nat.reduceAdd, eq_self, reduceCtorEq, Int.reduceLT, Nat.reduceLT, ↓wpl, wpu])
      refine at_map (get_job hb) ?_
      (try simp only [↓wpSs, ↓wpS, ↓wpE, ↓wpEs, ↓wpBop, ↓wpIfs, ↓wpIt, ↓pk, ↓bindT, ↓ownL, ↓lockIt, ↓unlockIt, isT, ↓setAll, ↓wipeE, ↓startE, ↓Tg.slots, ↓IEs.fine, ↓IEs.len, ↓noOwn, ↓isOwnE, ↓Sl.isO, ↓Ev.freeAll, List.replicate, if_true, if_false, reduceIte, Nat.reduceLeDiff, Nat.reduceSub, Nat.reduceAdd, eq_self, reduceCtorEq, Int.reduceLT, Nat.reduceLT, ↓wpl, wpu])
      rw [eh]
      have hrk := hr _ hso
      rw [hc] at hrk
      exact ⟨l', rfl, F, (sw way o).1, way, l', rk, rfl, hF, hb, hw, hr, by omega, hl', fun l2 h2 => ⟨_, l2, rfl, hK _ ⟨l2, h2, rfl⟩⟩⟩
    · rw [if_neg hc] at hK
      have hc' : ¬ ((sw way o).2 : Int) = j := by omega
      (try simp only [hc', ↓wpSs, ↓wpS, ↓wpE, ↓wpEs, ↓wpBop, ↓wpIfs, ↓wpIt, ↓pk, ↓bindT, ↓ownL, ↓lockIt, ↓unlockIt, isT, ↓setAll, ↓wipeE, ↓startE, ↓Tg.slots, ↓IEs.fine, ↓IEs.len, ↓noOwn, ↓isOwnE, ↓Sl.isO, ↓Ev.freeAll, List.replicate, if_true, if_false, reduceIte, Nat.reduceLeDiff, Nat.reduceSub, Nat.reduceAdd, eq_self, reduceCtorEq, Int.reduceLT, Nat.reduceLT, ↓wpl, wpu])
      exact hK _ ⟨l', hl', rfl⟩
end CF
namespace CF
open PySem PySem.Spec PyProof.Rows L2
theorem memL_map {α : Type} {step : PyData → List (Int × Int) → (PyData → List (Int × Int) → Prop) → Prop} {g val : α → PyData} {V : List (Int × Int) → Prop} {K0 : List PyData → List (Int × Int) → Prop} : ∀ {items : List α} {l : List (Int × Int)} {acc : List PyData}, V l →
    (∀ a l K, a ∈ items → V l → (∀ l', V l' → K (val a) l') → step (g a) l K) → (∀ l', V l' → K0 (acc ++ items.map val) l') → memL step (items.map g) l acc K0
  | [], l, acc, hl, _, h => by
    have := h l hl
    rw [List.map_nil, List.append_nil] at this
    exact this
  | a :: items, l, acc, hl, hs, h => by
    rw [List.map_cons, memL]
    refine hs a l _ List.mem_cons_self hl fun l' hl' => ?_
    refine memL_map hl' (fun b l K hb => hs b l K (List.mem_cons_of_mem _ hb)) fun l2 h2 => ?_
    have := h l2 h2
    rw [List.map_cons] at this
    rw [List.append_assoc]
    exact this
def chFl (F : Fl) : Fl := ⟨F.crews, F.jobs, (List.range (F.jobs.length - 1)).map (fun k => (k, k + 1)) ++ if 1 < F.jobs.length then [(0, F.jobs.length - 1)] else []⟩
theorem ch_good {F : Fl} {most : Int} (hF : GoodFl most F) : GoodFl most (chFl F) := by
  have j2 := hF.j2
  refine ⟨hF.c, hF.j1, hF.j2, hF.j, ?_, fun i => i, fun i hi => hi, fun o ho => ?_⟩
  · unfold chFl
    rw [List.length_append, List.length_map, List.length_range]
    split <;> simp <;> omega
  · show o.1 < F.jobs.length ∧ o.2 < F.jobs.length ∧ o.1 < o.2
    rcases List.mem_append.mp ho with ho | ho
    · obtain ⟨k, hk, rfl⟩ := List.mem_map.mp ho
      have := List.mem_range.mp hk
      dsimp only
      omega
    · split at ho
      · rw [List.mem_singleton.mp ho]
        dsimp only
        omega
      · simp at ho
abbrev T02 : List FnE := [e_l_cell_at, e_l_floor, e_l_longest 13, e_l_numbers, e_tails, e_heads]
theorem law_tail {ns : List Int} {F : Fl} {R : PyData → Prop} (hF : GoodFl 50 F) (x2 : Sl) (h2 : x2.isO = false) (q : R (.bool true)) : wpSs (Gof T02) ir_law_t0 [.val (.list (ns.map .int)), .val (.int F.jobs.length), x2, .val (eFl F), .un, .un, .un, .un, .un] { nx := fun _ => R .none, rt := R } := by
  have j2 := hF.j2
  have hstep : ∀ (way : Nat) (l : List (Int × Int)) (j : Nat) (K : PyData → List (Int × Int) → Prop), way ≤ 1 → j < F.jobs.length → Val F way l → (∀ l', Val F way l' → K (.int (lng F way j)) l') → g_l_longest 13 [eFl F, .int j, .int way, .dict (dL l)] fun d => ∃ v l', d = .tuple [v, .dict (dL l')] ∧ K v l' := by
    intro way l j K hw hj hl hK
    obtain ⟨rk, h1, h2⟩ := ed_good hF way
    have := h1 j hj
    exact ⟨F, j, way, l, rk, rfl, hF, hj, hw, fun o ho => (h2 o ho).2.2, by omega, hl, fun l' hl' => ⟨_, l', rfl, hK l' hl'⟩⟩
  have hvals : ∀ way, ((List.range F.jobs.length).map fun j => PyData.int (lng F way j)) = ((List.range F.jobs.length).map (lng F way)).map .int := fun way => by rw [List.map_map]; rfl
  have hlen : ∀ way, ((List.range F.jobs.length).map (lng F way)).length ≤ 1000000 := fun way => by simp; omega
  (try simp only [ir_law_t0, ↓wpSs, ↓wpS, ↓wpE, ↓wpEs, ↓wpBop, ↓wpIfs, ↓wpIt, ↓pk, ↓bindT, ↓ownL, ↓lockIt, ↓unlockIt, isT, ↓setAll, ↓wipeE, ↓startE, ↓Tg.slots, ↓IEs.fine, ↓IEs.len, ↓noOwn, ↓isOwnE, ↓Sl.isO, ↓Ev.freeAll, List.replicate, if_true, if_false, reduceIte, Nat.reduceLeDiff, Nat.reduceSub, Nat.reduceAdd, eq_self, reduceCtorEq, Int.reduceLT, Nat.reduceLT, ↓wpl, wpu])
  refine ⟨rfl, by omega, by omega, [], rfl, by decide, ?_⟩
  refine memL_map (V := Val F 0) (val := fun j => .int (lng F 0 j)) Val.nil (fun j l K hj hl hK => hstep 0 l j K (by omega) (List.mem_range.mp hj) hl hK) fun l1 _ => ?_
  refine ⟨rfl, by omega, by omega, [], rfl, by decide, ?_⟩
  refine memL_map (V := Val F 1) (val := fun j => .int (lng F 1 j)) Val.nil (fun j l K hj hl hK => hstep 1 l j K (by omega) (List.mem_range.mp hj) hl hK) fun l2 _ => ?_
  rw [List.nil_append, List.nil_append, hvals, hvals]
  refine ⟨F, rfl, hF, _, rfl, hlen 0, ?_⟩
  refine ⟨true, rfl, ?_⟩
  simp only [if_true, eq_self]
  exact ⟨F, rfl, hF, _, rfl, hlen 1, q⟩
theorem sem_law : ∀ ds R, ds.length = 1 → gLaw ds R → wpSs (Gof T02) ir_law (startE 9 ds) { nx := fun _ => false = false ∧ R .none, rt := R } := by
  rintro _ R _ ⟨ns, rfl, hn, q⟩
  have c3 := cell_bd ns 3
  (try simp only [ir_law, ↓wpSs, ↓wpS, ↓wpE, ↓wpEs, ↓wpBop, ↓wpIfs, ↓wpIt, ↓pk, ↓bindT, ↓ownL, ↓lockIt, ↓unlockIt, isT, ↓setAll, ↓wipeE, ↓startE, ↓Tg.slots, ↓IEs.fine, ↓IEs.len, ↓noOwn, ↓isOwnE, ↓Sl.isO, ↓Ev.freeAll, List.replicate, if_true, if_false, reduceIte, Nat.reduceLeDiff, Nat.reduceSub, Nat.reduceAdd, eq_self, reduceCtorEq, Int.reduceLT, Nat.reduceLT, ↓wpl, wpu])
  refine cell_ap (by omega) ?_
  (try simp only [↓wpSs, ↓wpS, ↓wpE, ↓wpEs, ↓wpBop, ↓wpIfs, ↓wpIt, ↓pk, ↓bindT, ↓ownL, ↓lockIt, ↓unlockIt, isT, ↓setAll, ↓wipeE, ↓startE, ↓Tg.slots, ↓IEs.fine, ↓IEs.len, ↓noOwn, ↓isOwnE, ↓Sl.isO, ↓Ev.freeAll, List.replicate, if_true, if_false, reduceIte, Nat.reduceLeDiff, Nat.reduceSub, Nat.reduceAdd, eq_self, reduceCtorEq, Int.reduceLT, Nat.reduceLT, ↓wpl, wpu])
  refine cell_ap (by omega) ?_
  (try simp only [↓wpSs, ↓wpS, ↓wpE, ↓wpEs, ↓wpBop, ↓wpIfs, ↓wpIt, ↓pk, ↓bindT, ↓ownL, ↓lockIt, ↓unlockIt, isT, ↓setAll, ↓wipeE, ↓startE, ↓Tg.slots, ↓IEs.fine, ↓IEs.len, ↓noOwn, ↓isOwnE, ↓Sl.isO, ↓Ev.freeAll, List.replicate, if_true, if_false, reduceIte, Nat.reduceLeDiff, Nat.reduceSub, Nat.reduceAdd, eq_self, reduceCtorEq, Int.reduceLT, Nat.reduceLT, ↓wpl, wpu])
  refine at2i (by omega) (by omega) fun most hmost => ?_
  (try simp only [↓wpSs, ↓wpS, ↓wpE, ↓wpEs, ↓wpBop, ↓wpIfs, ↓wpIt, ↓pk, ↓bindT, ↓ownL, ↓lockIt, ↓unlockIt, isT, ↓setAll, ↓wipeE, ↓startE, ↓Tg.slots, ↓IEs.fine, ↓IEs.len, ↓noOwn, ↓isOwnE, ↓Sl.isO, ↓Ev.freeAll, List.replicate, if_true, if_false, reduceIte, Nat.reduceLeDiff, Nat.reduceSub, Nat.reduceAdd, eq_self, reduceCtorEq, Int.reduceLT, Nat.reduceLT, ↓wpl, wpu])
  refine cell_ap (by omega) ?_
  (try simp only [↓wpSs, ↓wpS, ↓wpE, ↓wpEs, ↓wpBop, ↓wpIfs, ↓wpIt, ↓pk, ↓bindT, ↓ownL, ↓lockIt, ↓unlockIt, isT, ↓setAll, ↓wipeE, ↓startE, ↓Tg.slots, ↓IEs.fine, ↓IEs.len, ↓noOwn, ↓isOwnE, ↓Sl.isO, ↓Ev.freeAll, List.replicate, if_true, if_false, reduceIte, Nat.reduceLeDiff, Nat.reduceSub, Nat.reduceAdd, eq_self, reduceCtorEq, Int.reduceLT, Nat.reduceLT, ↓wpl, wpu])
  refine at2i (by omega) (by omega) fun ol hol => ?_
  (try simp only [↓wpSs, ↓wpS, ↓wpE, ↓wpEs, ↓wpBop, ↓wpIfs, ↓wpIt, ↓pk, ↓bindT, ↓ownL, ↓lockIt, ↓unlockIt, isT, ↓setAll, ↓wipeE, ↓startE, ↓Tg.slots, ↓IEs.fine, ↓IEs.len, ↓noOwn, ↓isOwnE, ↓Sl.isO, ↓Ev.freeAll, List.replicate, if_true, if_false, reduceIte, Nat.reduceLeDiff, Nat.reduceSub, Nat.reduceAdd, eq_self, reduceCtorEq, Int.reduceLT, Nat.reduceLT, ↓wpl, wpu])
  refine floor_ap (by omega) (by omega) (by omega) (by omega) (by omega) (by omega) (by omega) fun F hF0 hn _ => ?_
  have hF : GoodFl 50 F := good_mono (by omega) hF0
  clear hF0
  rw [← hn]
  have j1 := hF.j1
  have j2 := hF.j2
  (try simp only [↓wpSs, ↓wpS, ↓wpE, ↓wpEs, ↓wpBop, ↓wpIfs, ↓wpIt, ↓pk, ↓bindT, ↓ownL, ↓lockIt, ↓unlockIt, isT, ↓setAll, ↓wipeE, ↓startE, ↓Tg.slots, ↓IEs.fine, ↓IEs.len, ↓noOwn, ↓isOwnE, ↓Sl.isO, ↓Ev.freeAll, List.replicate, if_true, if_false, reduceIte, Nat.reduceLeDiff, Nat.reduceSub, Nat.reduceAdd, eq_self, reduceCtorEq, Int.reduceLT, Nat.reduceLT, ↓wpl, wpu])
  refine cell_ap (by omega) ?_
  (try simp only [↓wpSs, ↓wpS, ↓wpE, ↓wpEs, ↓wpBop, ↓wpIfs, ↓wpIt, ↓pk, ↓bindT, ↓ownL, ↓lockIt, ↓unlockIt, isT, ↓setAll, ↓wipeE, ↓startE, ↓Tg.slots, ↓IEs.fine, ↓IEs.len, ↓noOwn, ↓isOwnE, ↓Sl.isO, ↓Ev.freeAll, List.replicate, if_true, if_false, reduceIte, Nat.reduceLeDiff, Nat.reduceSub, Nat.reduceAdd, eq_self, reduceCtorEq, Int.reduceLT, Nat.reduceLT, ↓wpl, wpu])
  split
  · refine ⟨by omega, by omega, ?_⟩
    refine compL_map (fun k : Nat => eOrd (k, k + 1)) (fun k _ K h => by (try simp only [↓wpSs, ↓wpS, ↓wpE, ↓wpEs, ↓wpBop, ↓wpIfs, ↓wpIt, ↓pk, ↓bindT, ↓ownL, ↓lockIt, ↓unlockIt, isT, ↓setAll, ↓wipeE, ↓startE, ↓Tg.slots, ↓IEs.fine, ↓IEs.len, ↓noOwn, ↓isOwnE, ↓Sl.isO, ↓Ev.freeAll, List.replicate, if_true, if_false, reduceIte, Nat.reduceLeDiff, Nat.reduceSub, Nat.reduceAdd, eq_self, reduceCtorEq, Int.reduceLT, Nat.reduceLT, ↓wpl, wpu]); exact h) ?_
    refine ⟨by simp, by split <;> omega, by split <;> omega, ?_, ?_⟩
    · rw [List.length_map, List.length_range]
      split <;> simp <;> omega
    · have e : PyData.tuple [.tuple (F.crews.map .int), .tuple (F.jobs.map eJob), .tuple ((List.range ((F.jobs.length : Int) - 1).toNat).map (fun k => eOrd (k, k + 1)) ++ (List.replicate (if (1 : Int) < F.jobs.length then (1 : Int) else 0).toNat [PyData.tuple [.int 0, .int ((F.jobs.length : Int) - 1)]]).flatten)] = eFl (chFl F) := by
        unfold eFl chFl
        have e1 : ((F.jobs.length : Int) - 1).toNat = F.jobs.length - 1 := by omega
        rw [e1, List.map_append, List.map_map]
        have e2 : (List.replicate (if (1 : Int) < F.jobs.length then (1 : Int) else 0).toNat [PyData.tuple [.int 0, .int ((F.jobs.length : Int) - 1)]]).flatten = (if 1 < F.jobs.length then [((0 : Nat), F.jobs.length - 1)] else []).map eOrd := by
          by_cases hl : 1 < F.jobs.length
          · have e3 : ((F.jobs.length : Int) - 1) = ((F.jobs.length - 1 : Nat) : Int) := by omega
            rw [if_pos hl, if_pos (by omega), e3]
            rfl
          · rw [if_neg hl, if_neg (by omega)]
            rfl
        rw [e2]
        rfl
      rw [e]
      exact law_tail (ns := ns) (F := chFl F) (ch_good hF) _ rfl q
  · exact law_tail hF _ rfl q
end CF
namespace CF
open PySem PySem.Spec PyProof.Rows L2
def cs0 : List (Str × Int) := []
abbrev g_law : Pm := gLaw
def topS (i : Nat) : Stmt := PySem.Challenge.pw_crewfloor_k02_heads_and_tails.main.body.getD i (.Pass ⟨0, 0, 0, 0⟩)
abbrev s_heads : Stmt := topS 1
abbrev n_heads : List Str := ["floor", "crews", "jobs", "orders", "found", "turn", "one", "other", "job"]
theorem sc_heads : FnScope n_heads ["floor"] (defScope s_heads) := ⟨rfl, rfl, rfl, by decide +kernel, rfl, by decide +kernel, by decide +kernel⟩
abbrev s_tails : Stmt := topS 2
abbrev n_tails : List Str := ["floor", "crews", "jobs", "orders", "found", "turn", "one", "other", "job"]
theorem sc_tails : FnScope n_tails ["floor"] (defScope s_tails) := ⟨rfl, rfl, rfl, by decide +kernel, rfl, by decide +kernel, by decide +kernel⟩
abbrev s_l_cell_at : Stmt := topS 4
abbrev n_l_cell_at : List Str := ["_law_script", "_law_k"]
theorem sc_l_cell_at : FnScope n_l_cell_at ["_law_script", "_law_k"] (defScope s_l_cell_at) := ⟨rfl, rfl, rfl, by decide +kernel, rfl, by decide +kernel, by decide +kernel⟩
abbrev s_l_mix : Stmt := topS 5
abbrev n_l_mix : List Str := ["_law_cell", "_law_k", "_law_number"]
theorem sc_l_mix : FnScope n_l_mix ["_law_cell", "_law_k"] (defScope s_l_mix) := ⟨rfl, rfl, rfl, by decide +kernel, rfl, by decide +kernel, by decide +kernel⟩
abbrev s_l_whole : Stmt := topS 6
abbrev n_l_whole : List Str := ["_law_found"]
theorem sc_l_whole : FnScope n_l_whole ["_law_found"] (defScope s_l_whole) := ⟨rfl, rfl, rfl, by decide +kernel, rfl, by decide +kernel, by decide +kernel⟩
abbrev s_l_numbers : Stmt := topS 7
abbrev n_l_numbers : List Str := ["_law_found", "_law_due", "_law_k"]
theorem sc_l_numbers : FnScope n_l_numbers ["_law_found", "_law_due"] (defScope s_l_numbers) := ⟨rfl, rfl, rfl, by decide +kernel, rfl, by decide +kernel, by decide +kernel⟩
abbrev s_l_crews : Stmt := topS 8
abbrev n_l_crews : List Str := ["_law_cell", "_law_many", "_law_greatest", "_law_k"]
theorem sc_l_crews : FnScope n_l_crews ["_law_cell"] (defScope s_l_crews) := ⟨rfl, rfl, rfl, by decide +kernel, rfl, by decide +kernel, by decide +kernel⟩
abbrev s_l_job : Stmt := topS 9
abbrev n_l_job : List Str := ["_law_cell", "_law_crews_here", "_law_most", "_law_needs", "_law_k", "_law_more", "_law_need"]
theorem sc_l_job : FnScope n_l_job ["_law_cell", "_law_crews_here", "_law_most"] (defScope s_l_job) := ⟨rfl, rfl, rfl, by decide +kernel, rfl, by decide +kernel, by decide +kernel⟩
abbrev s_l_orders : Stmt := topS 10
abbrev n_l_orders : List Str := ["_law_cell", "_law_many", "_law_most", "_law_line", "_law_orders_here", "_law_k", "_law_one", "_law_other"]
theorem sc_l_orders : FnScope n_l_orders ["_law_cell", "_law_many", "_law_most"] (defScope s_l_orders) := ⟨rfl, rfl, rfl, by decide +kernel, rfl, by decide +kernel, by decide +kernel⟩
abbrev s_l_floor : Stmt := topS 11
abbrev n_l_floor : List Str := ["_law_script", "_law_at", "_law_many", "_law_most", "_law_orders_here", "_law_crews_here", "_law_jobs", "_law_k"]
theorem sc_l_floor : FnScope n_l_floor ["_law_script", "_law_at", "_law_many", "_law_most", "_law_orders_here"] (defScope s_l_floor) := ⟨rfl, rfl, rfl, by decide +kernel, rfl, by decide +kernel, by decide +kernel⟩
abbrev s_l_longest : Stmt := topS 12
abbrev n_l_longest : List Str := ["_law_floor_here", "_law_job_here", "_law_way", "_law_known", "_law_best", "_law_pair", "_law_other"]
theorem sc_l_longest : FnScope n_l_longest ["_law_floor_here", "_law_job_here", "_law_way", "_law_known"] (defScope s_l_longest) := ⟨rfl, rfl, rfl, by decide +kernel, rfl, by decide +kernel, by decide +kernel⟩
abbrev s_law : Stmt := topS 13
abbrev n_law : List Str := ["_law_script", "_law_many", "_law_most", "_law_floor_here", "_law_known", "_law_ahead", "_law_behind", "_law_job_here", "_law_k"]
theorem sc_law : FnScope n_law ["_law_script"] (defScope s_law) := ⟨rfl, rfl, rfl, by decide +kernel, rfl, by decide +kernel, by decide +kernel⟩

abbrev t_heads : List FnE := []
theorem ck_heads : chkSs (ckOf n_heads t_heads cs0) (t_heads.map (·.fresh)) false (defScope s_heads) ir_heads (defBody s_heads) = true := by decide +kernel
abbrev t_tails : List FnE := []
theorem ck_tails : chkSs (ckOf n_tails t_tails cs0) (t_tails.map (·.fresh)) false (defScope s_tails) ir_tails (defBody s_tails) = true := by decide +kernel
abbrev t_l_cell_at : List FnE := []
theorem ck_l_cell_at : chkSs (ckOf n_l_cell_at t_l_cell_at cs0) (t_l_cell_at.map (·.fresh)) false (defScope s_l_cell_at) ir_l_cell_at (defBody s_l_cell_at) = true := by decide +kernel
abbrev t_l_mix : List FnE := []
theorem ck_l_mix : chkSs (ckOf n_l_mix t_l_mix cs0) (t_l_mix.map (·.fresh)) false (defScope s_l_mix) ir_l_mix (defBody s_l_mix) = true := by decide +kernel
abbrev t_l_whole : List FnE := []
theorem ck_l_whole : chkSs (ckOf n_l_whole t_l_whole cs0) (t_l_whole.map (·.fresh)) false (defScope s_l_whole) ir_l_whole (defBody s_l_whole) = true := by decide +kernel
abbrev t_l_numbers : List FnE := [e_l_whole]
theorem ck_l_numbers : chkSs (ckOf n_l_numbers t_l_numbers cs0) (t_l_numbers.map (·.fresh)) false (defScope s_l_numbers) ir_l_numbers (defBody s_l_numbers) = true := by decide +kernel
abbrev t_l_crews : List FnE := [e_l_mix]
theorem ck_l_crews : chkSs (ckOf n_l_crews t_l_crews cs0) (t_l_crews.map (·.fresh)) false (defScope s_l_crews) ir_l_crews (defBody s_l_crews) = true := by decide +kernel
abbrev t_l_job : List FnE := [e_l_mix]
theorem ck_l_job : chkSs (ckOf n_l_job t_l_job cs0) (t_l_job.map (·.fresh)) false (defScope s_l_job) ir_l_job (defBody s_l_job) = true := by decide +kernel
abbrev t_l_orders : List FnE := [e_l_mix]
theorem ck_l_orders : chkSs (ckOf n_l_orders t_l_orders cs0) (t_l_orders.map (·.fresh)) false (defScope s_l_orders) ir_l_orders (defBody s_l_orders) = true := by decide +kernel
abbrev t_l_floor : List FnE := [e_l_crews, e_l_cell_at, e_l_job, e_l_mix, e_l_orders]
theorem ck_l_floor : chkSs (ckOf n_l_floor t_l_floor cs0) (t_l_floor.map (·.fresh)) false (defScope s_l_floor) ir_l_floor (defBody s_l_floor) = true := by decide +kernel
abbrev t_l_longest (n : Nat) : List FnE := [e_l_longest n]
theorem ck_l_longest : chkSs (ckOf n_l_longest (t_l_longest 0) cs0) ((t_l_longest 0).map (·.fresh)) false (defScope s_l_longest) ir_l_longest (defBody s_l_longest) = true := by decide +kernel
abbrev t_law : List FnE := [e_l_cell_at, e_l_floor, e_l_longest 13, e_l_numbers, e_tails, e_heads]
theorem ck_law : chkSs (ckOf n_law t_law cs0) (t_law.map (·.fresh)) false (defScope s_law) ir_law (defBody s_law) = true := by decide +kernel

section
variable {P : Program} {w : World} {K : PySem.W.Frag} {mg : Str → Option Value} {base : Heap}
theorem fnM_voidM {d : Nat} {f : Addr} {fd : FuncData} {ps : List Str} {G : Pm} (hG : ∀ ds R, G ds R → False) : FnM P w K mg base d f fd ps (spMm K ps.length G) :=
  ⟨fun vs H Q h => h.1, fun A outer s H args us vs Q hr he hb hv hs => by
    obtain ⟨_, Hf, ds, l, p, vs0, R, _, _, _, _, _, h, _⟩ := hs
    exact (hG _ _ h).elim⟩
theorem len3 {α : Type} : ∀ {ds : List α}, ds.length = 3 → ∃ a b c, ds = [a, b, c]
  | [a, b, c], _ => ⟨a, b, c, rfl⟩
abbrev p_l_longest : List Str := ["_law_floor_here", "_law_job_here", "_law_way", "_law_known"]
theorem ck_lg_set : chkSz false (ckOf n_l_longest [e_l_longest 0] cs0) ([e_l_longest 0].map (·.fresh)) false (defScope s_l_longest) (.set 4 (.kint 0)) ((defBody s_l_longest).getD 1 (.Pass ⟨0, 0, 0, 0⟩)) = true := by decide +kernel
theorem ck_lg_for : chkSz false (ckOf n_l_longest [e_l_longest 0] cs0) ([e_l_longest 0].map (·.fresh)) false (defScope s_l_longest) (.fors (.one 5) (.seq (.ix (.var 0) (.kint 2))) ir_l_longest_b0) ((defBody s_l_longest).getD 2 (.Pass ⟨0, 0, 0, 0⟩)) = true := by decide +kernel
theorem ok_l_longest (M : MdOk mg cs0) {f : Addr} {fd : FuncData} (F : Fun K "_law_longest" "_law_longest" s_l_longest f fd) (gg : mg "_law_longest" = some (.ref f)) (kk : PySem.W.keepIn K (.ref f) = true) (bb : Binds K fd p_l_longest []) : ∀ n : Nat, FnM P w K mg base (1 + n) f fd p_l_longest (spMm K 4 (g_l_longest n))
  | 0 => fnM_voidM (ps := p_l_longest) fun ds R h => v_l_longest h
  | n + 1 => by
    have hT : TsOk P w K mg base (1 + n) [e_l_longest n] := ts_cons ((ok_l_longest M F gg kk bb n).atM (x := "_law_longest") (fresh := false) gg kk bb) ts_nil (Nat.le_refl _)
    obtain ⟨oc, od, kV, doc, pm, an, cdv, ct, osl, rfl, lk, hcd⟩ := F.ex
    refine fn_ofM (d := 1 + n) lk hcd sc_l_longest (fun vs H Q h => h.1) fun A outer s H vs Q hr hsp => ?_
    obtain ⟨hlen, Hf, ds, l, p, vs0, P', rfl, hH, hf, hs, rep, ⟨Fl, j, way, l2, rk, eds, hF, hj, hw, hrk, hrn, hl, hR⟩, hQ⟩ := hsp
    obtain ⟨d1, d2, d3, rfl⟩ : ∃ d1 d2 d3, ds = [d1, d2, d3] := by
      refine len3 ?_
      have := congrArg List.length eds
      rw [List.length_append] at this
      simpa using this
    injection eds with e1 eds
    injection eds with e2 eds
    injection eds with e3 eds
    injection eds with e4 _
    injection e4 with e4
    subst e1 e2 e3
    obtain rfl := dL_inj e4
    have rep0 := rep
    unfold RepL at rep
    obtain ⟨v1, r1, rfl, q1, rep⟩ := rep
    unfold RepL at rep
    obtain ⟨v2, r2, rfl, q2, rep⟩ := rep
    unfold RepL at rep
    obtain ⟨v3, r3, rfl, q3, rep⟩ := rep
    unfold RepL at rep
    subst rep
    unfold Rep at q2
    subst q2
    have hX : XOk n_l_longest [e_l_longest n] cs0 (1 + n) (cxOf CX0 P w K mg base n_l_longest "_law_longest" (defScope s_l_longest) f cdv A outer s H E0) := ⟨rfl, sc_l_longest.nd, rfl, hr, M.mb, M.cs, hT⟩
    obtain ⟨t1, p1, m1⟩ := sndS (fresh := false) (W := fun _ _ _ _ => False) (rz := false) hX sc_l_longest.kind (.set 4 (.kint 0)) _ ck_lg_set
    obtain ⟨t2, p2, m2⟩ := sndS (fresh := false) (W := fun _ _ _ _ => False) (rz := false) hX sc_l_longest.kind (.fors (.one 5) (.seq (.ix (.var 0) (.kint 2))) ir_l_longest_b0) _ ck_lg_for
    have p1' : PS (cxOf CX0 P w K mg base n_l_longest "_law_longest" (defScope s_l_longest) f cdv A outer s H E0).nox _ t1 := p1 ⟨s, H, _, outer, _, [], fun _ => true, [], fun _ _ => False⟩ rfl ⟨fun _ => rfl, PassesOwn.never, takesF⟩
    have p2' : PS (cxOf CX0 P w K mg base n_l_longest "_law_longest" (defScope s_l_longest) f cdv A outer s H E0).nox _ t2 := p2 ⟨s, H, _, outer, _, [], fun _ => true, [], fun _ _ => False⟩ rfl ⟨fun _ => rfl, PassesOwn.never, takesF⟩
    have hu : (cxOf CX0 P w K mg base n_l_longest "_law_longest" (defScope s_l_longest) f cdv A outer s H E0).nox.A.units + 1 < cLine := by have := hX.un; show (cxOf CX0 P w K mg base n_l_longest "_law_longest" (defScope s_l_longest) f cdv A outer s H E0).A.units + 1 < cLine; omega
    refine ⟨_, pss_cons (ps_if (pt_cmp (pc_din hu (pe_var (i := 1) rfl (.inl rfl)) (pe_var (i := 3) rfl (.inl rfl)))) (pss_one (ps_ret (pe_dget hu (pe_var (i := 3) rfl (.inl rfl)) (pe_var (i := 1) rfl (.inl rfl)) (by intro o i; rfl)))) pss_nil)
      (pss_cons p1' (pss_cons p2' (pss_cons (ps_dput hu (pe_var (i := 3) rfl (.inl rfl)) (pe_var (i := 1) rfl (.inl rfl)) (pe_var (i := 4) rfl (.inl rfl)) rfl) (pss_one (ps_ret (pe_var (i := 4) rfl (.inl rfl))))))), ?_⟩
    have hBp : ers H p p = none := if_pos rfl
    have r0 : StR K 7 Hf (ers H p) Hf H (lgR Fl j way l .un) (start n_l_longest [v1, .int j, v3, .ref p]) := by
      have only : ∀ i, (Ev.get (lgR Fl j way l .un) i).isO = true → i = 3 := fun i h => match i, h with
        | 3, _ => rfl
        | 0, h => nomatch h
        | 1, h => nomatch h
        | 2, h => nomatch h
        | 4, h => nomatch h
        | 5, h => nomatch h
        | 6, h => nomatch h
        | _ + 7, h => nomatch h
      exact ⟨rfl, rfl, fun i => match i with
        | 0 => ⟨v1, rfl, q1⟩
        | 1 => ⟨.int j, rfl, rep_int (K := K) (H := Hf)⟩
        | 2 => ⟨v3, rfl, q3⟩
        | 3 => ⟨p, rfl, ⟨p, _, rfl, hf, hH, l, rfl, rfl⟩, hBp⟩
        | 4 => trivial
        | 5 => trivial
        | 6 => trivial
        | _ + 7 => trivial, fun i k q hik h1 h2 _ _ => hik ((only i h1).trans (only k h2).symm), ⟨fun b o e => (ers_of e).2, Same.refl _, hs, fun _ _ => rfl⟩⟩
    refine ⟨.int j, rfl, .ref p, rfl, p, _, rfl, DGet.k (k := Sum.inl (j : Int)) hH, _, rfl, ?_⟩
    rw [valV_dV]
    cases hg : dgetL l j with
    | some v =>
      have hv := hl.get hg
      subst hv
      rw [if_pos (show (Option.map V.int (some (lng Fl way j))).isSome = true from rfl)]
      refine ⟨.ref p, rfl, .int j, rfl, p, .int (lng Fl way j), rfl, ?_, ?_⟩
      · have := DGet.k (k := Sum.inl (j : Int)) hH
        rw [valV_dV, hg] at this
        exact this
      · exact hQ (.int (lng Fl way j)) _ l Hf H ⟨fun b o e => (ers_of e).2, Same.refl _, hs, fun _ _ => rfl⟩ hH hf (rep_int (K := K) (H := Hf)) (hR l hl)
    | none =>
      rw [if_neg (show ¬ ((Option.map V.int (none : Option Int)).isSome = true) from Bool.false_ne_true)]
      refine m1 Hf (ers H p) Hf H (lgR Fl j way l .un) _ { nx := fun r => r = lgR Fl j way l (.val (.int 0)), rt := fun _ => False } _ r0 (sem_lg_set rfl) ⟨fun r' σ' Hf' H' R' kp q' => ?_, fun _ _ _ _ _ _ q => q.elim, fun _ _ _ _ _ _ q => q.elim, fun _ _ _ _ _ _ q => q.elim, fun z => nomatch z⟩
      subst q'
      refine m2 Hf (ers H p) Hf' H' (lgR Fl j way l (.val (.int 0))) σ' { nx := fun r => ∃ l', Val Fl way l' ∧ r = lgR Fl j way l' (.val (.int (lng Fl way j))), rt := fun _ => False } _ R' (sem_lg_for hF hj hw hrk hrn hl fun l' hl' => ⟨l', hl', rfl⟩) ⟨fun r2 σ2 H2f H2 R2 kp2 q2 => ?_, fun _ _ _ _ _ _ q => q.elim, fun _ _ _ _ _ _ q => q.elim, fun _ _ _ _ _ _ q => q.elim, fun z => nomatch z⟩
      obtain ⟨l', hl', rfl⟩ := q2
      have s3 : σ2[3]? = some (some (.ref p)) := (kp2.m 3 l rfl).2.trans (kp.m 3 l rfl).2
      obtain ⟨p', e3, ⟨p'', ks, e', hf2, hH2, l3, e5, e6⟩, _⟩ : SlRep K (ers H p) H2f H2 (.mem l') σ2[3]? := R2.sl 3
      rw [s3] at e3
      cases e3
      cases e'
      obtain rfl := dL_inj e5
      subst e6
      obtain ⟨w1, e1, w1r⟩ : SlRep K (ers H p) H2f H2 (.val (.int j)) σ2[1]? := R2.sl 1
      obtain ⟨w4, e4, w4r⟩ : SlRep K (ers H p) H2f H2 (.val (.int (lng Fl way j))) σ2[4]? := R2.sl 4
      unfold Rep at w1r w4r
      subst w1r w4r
      have hll : (dV l').length < sizeLine := by
        have h1 : (dV l').length = l'.length := by unfold dV; rw [List.length_map]
        have h2 := hl'.len
        have h3 := hF.j2
        rw [sizeLine_eq]
        omega
      refine ⟨.int (lng Fl way j), e4, .ref p, s3, .int j, e1, p, _, rfl, DPut.k (k := Sum.inl (j : Int)) hH2 hll, ?_⟩
      rw [putK_dV]
      exact ⟨.int (lng Fl way j), e4, hQ (.int (lng Fl way j)) _ (dputL l' j (lng Fl way j)) H2f _ (R2.e.put hBp hf2) upd_same hf2 (rep_int (K := K) (H := H2f)) (hR _ (hl'.put hj))⟩

theorem ok_heads (M : MdOk mg cs0)  {f : Addr} {fd : FuncData} (F : Fun K "heads" "heads" s_heads f fd) : FnM P w K mg base 1 f fd ["floor"] (spD K 1 false g_heads) :=
  def_ok (T := t_heads) (cs := cs0) M F sc_heads ts_nil ck_heads sem_heads
theorem ok_tails (M : MdOk mg cs0)  {f : Addr} {fd : FuncData} (F : Fun K "tails" "tails" s_tails f fd) : FnM P w K mg base 1 f fd ["floor"] (spD K 1 false g_tails) :=
  def_ok (T := t_tails) (cs := cs0) M F sc_tails ts_nil ck_tails sem_tails
theorem ok_l_cell_at (M : MdOk mg cs0)  {f : Addr} {fd : FuncData} (F : Fun K "_law_cell_at" "_law_cell_at" s_l_cell_at f fd) : FnM P w K mg base 1 f fd ["_law_script", "_law_k"] (spD K 2 false g_l_cell_at) :=
  def_ok (T := t_l_cell_at) (cs := cs0) M F sc_l_cell_at ts_nil ck_l_cell_at sem_l_cell_at
theorem ok_l_mix (M : MdOk mg cs0)  {f : Addr} {fd : FuncData} (F : Fun K "_law_mix" "_law_mix" s_l_mix f fd) : FnM P w K mg base 1 f fd ["_law_cell", "_law_k"] (spD K 2 false g_l_mix) :=
  def_ok (T := t_l_mix) (cs := cs0) M F sc_l_mix ts_nil ck_l_mix sem_l_mix
theorem ok_l_whole (M : MdOk mg cs0)  {f : Addr} {fd : FuncData} (F : Fun K "_law_whole" "_law_whole" s_l_whole f fd) : FnM P w K mg base 1 f fd ["_law_found"] (spD K 1 false g_l_whole) :=
  def_ok (T := t_l_whole) (cs := cs0) M F sc_l_whole ts_nil ck_l_whole sem_l_whole
theorem ok_l_numbers (M : MdOk mg cs0) (A_l_whole : ∃ f, FnAt P w K mg base 1 e_l_whole f) {f : Addr} {fd : FuncData} (F : Fun K "_law_numbers" "_law_numbers" s_l_numbers f fd) : FnM P w K mg base 2 f fd ["_law_found", "_law_due"] (spD K 2 false g_l_numbers) :=
  let ⟨_, a_l_whole⟩ := A_l_whole; def_ok (T := t_l_numbers) (cs := cs0) M F sc_l_numbers (ts_cons a_l_whole ts_nil) ck_l_numbers sem_l_numbers
theorem ok_l_crews (M : MdOk mg cs0) (A_l_mix : ∃ f, FnAt P w K mg base 1 e_l_mix f) {f : Addr} {fd : FuncData} (F : Fun K "_law_crews" "_law_crews" s_l_crews f fd) : FnM P w K mg base 2 f fd ["_law_cell"] (spD K 1 false g_l_crews) :=
  let ⟨_, a_l_mix⟩ := A_l_mix; def_ok (T := t_l_crews) (cs := cs0) M F sc_l_crews (ts_cons a_l_mix ts_nil) ck_l_crews sem_l_crews
theorem ok_l_job (M : MdOk mg cs0) (A_l_mix : ∃ f, FnAt P w K mg base 1 e_l_mix f) {f : Addr} {fd : FuncData} (F : Fun K "_law_job" "_law_job" s_l_job f fd) : FnM P w K mg base 2 f fd ["_law_cell", "_law_crews_here", "_law_most"] (spD K 3 false g_l_job) :=
  let ⟨_, a_l_mix⟩ := A_l_mix; def_ok (T := t_l_job) (cs := cs0) M F sc_l_job (ts_cons a_l_mix ts_nil) ck_l_job sem_l_job
theorem ok_l_orders (M : MdOk mg cs0) (A_l_mix : ∃ f, FnAt P w K mg base 1 e_l_mix f) {f : Addr} {fd : FuncData} (F : Fun K "_law_orders" "_law_orders" s_l_orders f fd) : FnM P w K mg base 2 f fd ["_law_cell", "_law_many", "_law_most"] (spD K 3 false g_l_orders) :=
  let ⟨_, a_l_mix⟩ := A_l_mix; def_ok (T := t_l_orders) (cs := cs0) M F sc_l_orders (ts_cons a_l_mix ts_nil) ck_l_orders sem_l_orders
theorem ok_l_floor (M : MdOk mg cs0) (A_l_crews : ∃ f, FnAt P w K mg base 2 e_l_crews f) (A_l_cell_at : ∃ f, FnAt P w K mg base 1 e_l_cell_at f) (A_l_job : ∃ f, FnAt P w K mg base 2 e_l_job f) (A_l_mix : ∃ f, FnAt P w K mg base 1 e_l_mix f) (A_l_orders : ∃ f, FnAt P w K mg base 2 e_l_orders f) {f : Addr} {fd : FuncData} (F : Fun K "_law_floor" "_law_floor" s_l_floor f fd) : FnM P w K mg base 3 f fd ["_law_script", "_law_at", "_law_many", "_law_most", "_law_orders_here"] (spD K 5 false g_l_floor) :=
  let ⟨_, a_l_crews⟩ := A_l_crews; let ⟨_, a_l_cell_at⟩ := A_l_cell_at; let ⟨_, a_l_job⟩ := A_l_job; let ⟨_, a_l_mix⟩ := A_l_mix; let ⟨_, a_l_orders⟩ := A_l_orders; def_ok (T := t_l_floor) (cs := cs0) M F sc_l_floor (ts_cons a_l_crews (ts_cons a_l_cell_at (ts_cons a_l_job (ts_cons a_l_mix (ts_cons a_l_orders ts_nil))))) ck_l_floor sem_l_floor
-- l_longest at 14 (its calls: l_longest 14)
theorem ok_law (M : MdOk mg cs0) (A_l_cell_at : ∃ f, FnAt P w K mg base 1 e_l_cell_at f) (A_l_floor : ∃ f, FnAt P w K mg base 3 e_l_floor f) (A_l_longest : ∃ f, FnAt P w K mg base 14 (e_l_longest 13) f) (A_l_numbers : ∃ f, FnAt P w K mg base 2 e_l_numbers f) (A_tails : ∃ f, FnAt P w K mg base 1 e_tails f) (A_heads : ∃ f, FnAt P w K mg base 1 e_heads f) {f : Addr} {fd : FuncData} (F : Fun K "law" "law" s_law f fd) : FnM P w K mg base 15 f fd ["_law_script"] (spD K 1 false g_law) :=
  let ⟨_, a_l_cell_at⟩ := A_l_cell_at; let ⟨_, a_l_floor⟩ := A_l_floor; let ⟨_, a_l_longest⟩ := A_l_longest; let ⟨_, a_l_numbers⟩ := A_l_numbers; let ⟨_, a_tails⟩ := A_tails; let ⟨_, a_heads⟩ := A_heads; def_ok (T := t_law) (cs := cs0) M F sc_law (ts_cons a_l_cell_at (ts_cons a_l_floor (ts_cons a_l_longest (ts_cons a_l_numbers (ts_cons a_tails (ts_cons a_heads ts_nil)))))) ck_law sem_law

end
theorem all_mk {l : PySem.W.OpenLaw} {w : World} {K : PySem.W.Frag} {h : Heap} {mg : Str → Option Value} {fa : Addr} (X : K.In h) (Gl : h.Ns mainGlobals mg) (hfa : mg "law" = some (.ref fa))
    {f0 f1 f2 f3 f4 f5 f6 f7 f8 f9 f10 f11 : Addr} {od0 an0 od1 an1 od2 an2 od3 an3 od4 an4 od5 an5 od6 an6 od7 an7 od8 an8 od9 an9 od10 an10 od11 an11 : Option Addr} {sl0 sl1 sl2 sl3 sl4 sl5 sl6 sl7 sl8 sl9 sl10 sl11 : Array (Option Value)} {oc0 kV0 dc0 pm0 cd0 ct0 oc1 kV1 dc1 pm1 cd1 ct1 oc2 kV2 dc2 pm2 cd2 ct2 oc3 kV3 dc3 pm3 cd3 ct3 oc4 kV4 dc4 pm4 cd4 ct4 oc5 kV5 dc5 pm5 cd5 ct5 oc6 kV6 dc6 pm6 cd6 ct6 oc7 kV7 dc7 pm7 cd7 ct7 oc8 kV8 dc8 pm8 cd8 ct8 oc9 kV9 dc9 pm9 cd9 ct9 oc10 kV10 dc10 pm10 cd10 ct10 oc11 kV11 dc11 pm11 cd11 ct11 : Value}
    (a0 : PySem.W.nsIn K mainGlobals "heads" = some (some (.ref f0))) (l0 : K.lookup f0 = some ⟨oc0, od0, .func (PySem.W.fnOf "heads" "heads" (defArgs s_heads) (defBody s_heads) (defScope s_heads) .none kV0 dc0 pm0 an0 cd0 ct0), sl0⟩) (c0 : PySem.W.codeIn K cd0 "heads" = true) (k0 : PySem.W.keepIn K (.ref f0) = true)
    (a1 : PySem.W.nsIn K mainGlobals "tails" = some (some (.ref f1))) (l1 : K.lookup f1 = some ⟨oc1, od1, .func (PySem.W.fnOf "tails" "tails" (defArgs s_tails) (defBody s_tails) (defScope s_tails) .none kV1 dc1 pm1 an1 cd1 ct1), sl1⟩) (c1 : PySem.W.codeIn K cd1 "tails" = true) (k1 : PySem.W.keepIn K (.ref f1) = true)
    (a2 : PySem.W.nsIn K mainGlobals "_law_cell_at" = some (some (.ref f2))) (l2 : K.lookup f2 = some ⟨oc2, od2, .func (PySem.W.fnOf "_law_cell_at" "_law_cell_at" (defArgs s_l_cell_at) (defBody s_l_cell_at) (defScope s_l_cell_at) .none kV2 dc2 pm2 an2 cd2 ct2), sl2⟩) (c2 : PySem.W.codeIn K cd2 "_law_cell_at" = true) (k2 : PySem.W.keepIn K (.ref f2) = true)
    (a3 : PySem.W.nsIn K mainGlobals "_law_mix" = some (some (.ref f3))) (l3 : K.lookup f3 = some ⟨oc3, od3, .func (PySem.W.fnOf "_law_mix" "_law_mix" (defArgs s_l_mix) (defBody s_l_mix) (defScope s_l_mix) .none kV3 dc3 pm3 an3 cd3 ct3), sl3⟩) (c3 : PySem.W.codeIn K cd3 "_law_mix" = true) (k3 : PySem.W.keepIn K (.ref f3) = true)
    (a4 : PySem.W.nsIn K mainGlobals "_law_whole" = some (some (.ref f4))) (l4 : K.lookup f4 = some ⟨oc4, od4, .func (PySem.W.fnOf "_law_whole" "_law_whole" (defArgs s_l_whole) (defBody s_l_whole) (defScope s_l_whole) .none kV4 dc4 pm4 an4 cd4 ct4), sl4⟩) (c4 : PySem.W.codeIn K cd4 "_law_whole" = true) (k4 : PySem.W.keepIn K (.ref f4) = true)
    (a5 : PySem.W.nsIn K mainGlobals "_law_numbers" = some (some (.ref f5))) (l5 : K.lookup f5 = some ⟨oc5, od5, .func (PySem.W.fnOf "_law_numbers" "_law_numbers" (defArgs s_l_numbers) (defBody s_l_numbers) (defScope s_l_numbers) .none kV5 dc5 pm5 an5 cd5 ct5), sl5⟩) (c5 : PySem.W.codeIn K cd5 "_law_numbers" = true) (k5 : PySem.W.keepIn K (.ref f5) = true)
    (a6 : PySem.W.nsIn K mainGlobals "_law_crews" = some (some (.ref f6))) (l6 : K.lookup f6 = some ⟨oc6, od6, .func (PySem.W.fnOf "_law_crews" "_law_crews" (defArgs s_l_crews) (defBody s_l_crews) (defScope s_l_crews) .none kV6 dc6 pm6 an6 cd6 ct6), sl6⟩) (c6 : PySem.W.codeIn K cd6 "_law_crews" = true) (k6 : PySem.W.keepIn K (.ref f6) = true)
    (a7 : PySem.W.nsIn K mainGlobals "_law_job" = some (some (.ref f7))) (l7 : K.lookup f7 = some ⟨oc7, od7, .func (PySem.W.fnOf "_law_job" "_law_job" (defArgs s_l_job) (defBody s_l_job) (defScope s_l_job) .none kV7 dc7 pm7 an7 cd7 ct7), sl7⟩) (c7 : PySem.W.codeIn K cd7 "_law_job" = true) (k7 : PySem.W.keepIn K (.ref f7) = true)
    (a8 : PySem.W.nsIn K mainGlobals "_law_orders" = some (some (.ref f8))) (l8 : K.lookup f8 = some ⟨oc8, od8, .func (PySem.W.fnOf "_law_orders" "_law_orders" (defArgs s_l_orders) (defBody s_l_orders) (defScope s_l_orders) .none kV8 dc8 pm8 an8 cd8 ct8), sl8⟩) (c8 : PySem.W.codeIn K cd8 "_law_orders" = true) (k8 : PySem.W.keepIn K (.ref f8) = true)
    (a9 : PySem.W.nsIn K mainGlobals "_law_floor" = some (some (.ref f9))) (l9 : K.lookup f9 = some ⟨oc9, od9, .func (PySem.W.fnOf "_law_floor" "_law_floor" (defArgs s_l_floor) (defBody s_l_floor) (defScope s_l_floor) .none kV9 dc9 pm9 an9 cd9 ct9), sl9⟩) (c9 : PySem.W.codeIn K cd9 "_law_floor" = true) (k9 : PySem.W.keepIn K (.ref f9) = true)
    (a10 : PySem.W.nsIn K mainGlobals "_law_longest" = some (some (.ref f10))) (l10 : K.lookup f10 = some ⟨oc10, od10, .func (PySem.W.fnOf "_law_longest" "_law_longest" (defArgs s_l_longest) (defBody s_l_longest) (defScope s_l_longest) .none kV10 dc10 pm10 an10 cd10 ct10), sl10⟩) (c10 : PySem.W.codeIn K cd10 "_law_longest" = true) (k10 : PySem.W.keepIn K (.ref f10) = true)
    (a11 : PySem.W.nsIn K mainGlobals "law" = some (some (.ref f11))) (l11 : K.lookup f11 = some ⟨oc11, od11, .func (PySem.W.fnOf "law" "law" (defArgs s_law) (defBody s_law) (defScope s_law) .none kV11 dc11 pm11 an11 cd11 ct11), sl11⟩) (c11 : PySem.W.codeIn K cd11 "law" = true) (k11 : PySem.W.keepIn K (.ref f11) = true)
    (z0 : PySem.W.nsIn K mainGlobals "len" = some none) (z1 : PySem.W.nsIn K mainGlobals "max" = some none) (z2 : PySem.W.nsIn K mainGlobals "min" = some none) (z3 : PySem.W.nsIn K mainGlobals "sum" = some none) (z4 : PySem.W.nsIn K mainGlobals "all" = some none) (z5 : PySem.W.nsIn K mainGlobals "list" = some none) (z6 : PySem.W.nsIn K mainGlobals "tuple" = some none) (z7 : PySem.W.nsIn K mainGlobals "int" = some none) (z8 : PySem.W.nsIn K mainGlobals "bool" = some none) (z9 : PySem.W.nsIn K mainGlobals "str" = some none) (z10 : PySem.W.nsIn K mainGlobals "sorted" = some none) (z11 : PySem.W.nsIn K mainGlobals "isinstance" = some none) (z12 : PySem.W.nsIn K mainGlobals "range" = some none) (z13 : PySem.W.nsIn K mainGlobals "set" = some none) (z14 : PySem.W.nsIn K mainGlobals "enumerate" = some none) (z15 : PySem.W.nsIn K mainGlobals "repr" = some none) :
    ∃ fd : FuncData, (∀ (s : Shared) (v : Value), BindsTo s fd ⟨[v], []⟩ [("_law_script", v)]) ∧ ∀ base : Heap, K.In base → base.Ns mainGlobals mg → FnOk l.prog w K mg base CX0 230 fa fd ["_law_script"] (spLaw K) := by
  have e := hfa.symm.trans (PySem.W.mg_of X Gl a11)
  cases e
  have M : MdOk mg cs0 := ⟨fun x hx => by
    simp only [bnames, List.mem_cons, List.not_mem_nil, or_false] at hx
    rcases hx with rfl | rfl | rfl | rfl | rfl | rfl | rfl | rfl | rfl | rfl | rfl | rfl | rfl | rfl | rfl | rfl
    · exact PySem.W.mg_none_of X Gl z0
    · exact PySem.W.mg_none_of X Gl z1
    · exact PySem.W.mg_none_of X Gl z2
    · exact PySem.W.mg_none_of X Gl z3
    · exact PySem.W.mg_none_of X Gl z4
    · exact PySem.W.mg_none_of X Gl z5
    · exact PySem.W.mg_none_of X Gl z6
    · exact PySem.W.mg_none_of X Gl z7
    · exact PySem.W.mg_none_of X Gl z8
    · exact PySem.W.mg_none_of X Gl z9
    · exact PySem.W.mg_none_of X Gl z10
    · exact PySem.W.mg_none_of X Gl z11
    · exact PySem.W.mg_none_of X Gl z12
    · exact PySem.W.mg_none_of X Gl z13
    · exact PySem.W.mg_none_of X Gl z14
    · exact PySem.W.mg_none_of X Gl z15, fun x i h => by simp [cs0] at h⟩
  have F0 := fun_mk (st := s_heads) l0 c0 k0
  have F1 := fun_mk (st := s_tails) l1 c1 k1
  have F2 := fun_mk (st := s_l_cell_at) l2 c2 k2
  have F3 := fun_mk (st := s_l_mix) l3 c3 k3
  have F4 := fun_mk (st := s_l_whole) l4 c4 k4
  have F5 := fun_mk (st := s_l_numbers) l5 c5 k5
  have F6 := fun_mk (st := s_l_crews) l6 c6 k6
  have F7 := fun_mk (st := s_l_job) l7 c7 k7
  have F8 := fun_mk (st := s_l_orders) l8 c8 k8
  have F9 := fun_mk (st := s_l_floor) l9 c9 k9
  have F10 := fun_mk (st := s_l_longest) l10 c10 k10
  have F11 := fun_mk (st := s_law) l11 c11 k11
  refine ⟨PySem.W.fnOf "law" "law" (defArgs s_law) (defBody s_law) (defScope s_law) .none kV11 dc11 pm11 an11 cd11 ct11, fun s v => .of_eq rfl, fun base _ _ => ?_⟩
  have A_heads : ∃ f, FnAt l.prog w K mg base 1 e_heads f := ⟨f0, (ok_heads M  F0).at (PySem.W.mg_of X Gl a0) F0.kp (F0.binds (ps := ["floor"]) fun _ _ _ _ _ _ us hl => match us, hl with | [_], _ => rfl)⟩
  have A_tails : ∃ f, FnAt l.prog w K mg base 1 e_tails f := ⟨f1, (ok_tails M  F1).at (PySem.W.mg_of X Gl a1) F1.kp (F1.binds (ps := ["floor"]) fun _ _ _ _ _ _ us hl => match us, hl with | [_], _ => rfl)⟩
  have A_l_cell_at : ∃ f, FnAt l.prog w K mg base 1 e_l_cell_at f := ⟨f2, (ok_l_cell_at M  F2).at (PySem.W.mg_of X Gl a2) F2.kp (F2.binds (ps := ["_law_script", "_law_k"]) fun _ _ _ _ _ _ us hl => match us, hl with | [_, _], _ => rfl)⟩
  have A_l_mix : ∃ f, FnAt l.prog w K mg base 1 e_l_mix f := ⟨f3, (ok_l_mix M  F3).at (PySem.W.mg_of X Gl a3) F3.kp (F3.binds (ps := ["_law_cell", "_law_k"]) fun _ _ _ _ _ _ us hl => match us, hl with | [_, _], _ => rfl)⟩
  have A_l_whole : ∃ f, FnAt l.prog w K mg base 1 e_l_whole f := ⟨f4, (ok_l_whole M  F4).at (PySem.W.mg_of X Gl a4) F4.kp (F4.binds (ps := ["_law_found"]) fun _ _ _ _ _ _ us hl => match us, hl with | [_], _ => rfl)⟩
  have A_l_numbers : ∃ f, FnAt l.prog w K mg base 2 e_l_numbers f := ⟨f5, (ok_l_numbers M A_l_whole F5).at (PySem.W.mg_of X Gl a5) F5.kp (F5.binds (ps := ["_law_found", "_law_due"]) fun _ _ _ _ _ _ us hl => match us, hl with | [_, _], _ => rfl)⟩
  have A_l_crews : ∃ f, FnAt l.prog w K mg base 2 e_l_crews f := ⟨f6, (ok_l_crews M A_l_mix F6).at (PySem.W.mg_of X Gl a6) F6.kp (F6.binds (ps := ["_law_cell"]) fun _ _ _ _ _ _ us hl => match us, hl with | [_], _ => rfl)⟩
  have A_l_job : ∃ f, FnAt l.prog w K mg base 2 e_l_job f := ⟨f7, (ok_l_job M A_l_mix F7).at (PySem.W.mg_of X Gl a7) F7.kp (F7.binds (ps := ["_law_cell", "_law_crews_here", "_law_most"]) fun _ _ _ _ _ _ us hl => match us, hl with | [_, _, _], _ => rfl)⟩
  have A_l_orders : ∃ f, FnAt l.prog w K mg base 2 e_l_orders f := ⟨f8, (ok_l_orders M A_l_mix F8).at (PySem.W.mg_of X Gl a8) F8.kp (F8.binds (ps := ["_law_cell", "_law_many", "_law_most"]) fun _ _ _ _ _ _ us hl => match us, hl with | [_, _, _], _ => rfl)⟩
  have A_l_floor : ∃ f, FnAt l.prog w K mg base 3 e_l_floor f := ⟨f9, (ok_l_floor M A_l_crews A_l_cell_at A_l_job A_l_mix A_l_orders F9).at (PySem.W.mg_of X Gl a9) F9.kp (F9.binds (ps := ["_law_script", "_law_at", "_law_many", "_law_most", "_law_orders_here"]) fun _ _ _ _ _ _ us hl => match us, hl with | [_, _, _, _, _], _ => rfl)⟩
  have B_l_longest := F10.binds (ps := ["_law_floor_here", "_law_job_here", "_law_way", "_law_known"]) fun _ _ _ _ _ _ us hl => match us, hl with | [_, _, _, _], _ => rfl
  have A_l_longest : ∃ f, FnAt l.prog w K mg base 14 (e_l_longest 13) f := ⟨f10, (ok_l_longest M  F10 (PySem.W.mg_of X Gl a10) F10.kp B_l_longest 13).atM (PySem.W.mg_of X Gl a10) F10.kp B_l_longest⟩
  exact law_fn (ok_law M A_l_cell_at A_l_floor A_l_longest A_l_numbers A_tails A_heads F11) (by decide)
end CF
open PySem PySem.W PyProof.Rows
set_option maxRecDepth 100000 in
set_option maxHeartbeats 0 in
theorem PySem.Challenge.cw_crewfloor_k02_heads_and_tails_holds : PySem.Challenge.rw_crewfloor_k02_heads_and_tails.Holds := by
  w_on; o_law; k_head; (case hw => w_witness2)
  k_fill
  refine L2.walk_ofK (l := PySem.Challenge.rw_crewfloor_k02_heads_and_tails) (n := 63) (k := 230) (x := "_law_script") (CX := L2.CX0) (sp := CF.spLaw) rfl (by decide) rfl ⟨rfl, by decide, by decide⟩ (fun w h Y => PySem.W.kIn_of Y) ?F (fun K H a ns h1 h2 h3 => CF.law_sp K H a ns h1 h2 h3) (fun _ _ _ _ h => h)
  case F =>
    intro w mg fa h KX G hmg
    refine' CF.all_mk KX G hmg ?a0 ?l0 ?c0 ?k0 ?a1 ?l1 ?c1 ?k1 ?a2 ?l2 ?c2 ?k2 ?a3 ?l3 ?c3 ?k3 ?a4 ?l4 ?c4 ?k4 ?a5 ?l5 ?c5 ?k5 ?a6 ?l6 ?c6 ?k6 ?a7 ?l7 ?c7 ?k7 ?a8 ?l8 ?c8 ?k8 ?a9 ?l9 ?c9 ?k9 ?a10 ?l10 ?c10 ?k10 ?a11 ?l11 ?c11 ?k11 ?z0 ?z1 ?z2 ?z3 ?z4 ?z5 ?z6 ?z7 ?z8 ?z9 ?z10 ?z11 ?z12 ?z13 ?z14 ?z15
    (case a0 => k_is); (case l0 => k_is); (case c0 => k_is); (case k0 => k_is); (case a1 => k_is); (case l1 => k_is); (case c1 => k_is); (case k1 => k_is); (case a2 => k_is); (case l2 => k_is); (case c2 => k_is); (case k2 => k_is); (case a3 => k_is); (case l3 => k_is); (case c3 => k_is); (case k3 => k_is); (case a4 => k_is); (case l4 => k_is); (case c4 => k_is); (case k4 => k_is); (case a5 => k_is); (case l5 => k_is); (case c5 => k_is); (case k5 => k_is); (case a6 => k_is); (case l6 => k_is); (case c6 => k_is); (case k6 => k_is); (case a7 => k_is); (case l7 => k_is); (case c7 => k_is); (case k7 => k_is); (case a8 => k_is); (case l8 => k_is); (case c8 => k_is); (case k8 => k_is); (case a9 => k_is); (case l9 => k_is); (case c9 => k_is); (case k9 => k_is); (case a10 => k_is); (case l10 => k_is); (case c10 => k_is); (case k10 => k_is); (case a11 => k_is); (case l11 => k_is); (case c11 => k_is); (case k11 => k_is); (case z0 => k_is); (case z1 => k_is); (case z2 => k_is); (case z3 => k_is); (case z4 => k_is); (case z5 => k_is); (case z6 => k_is); (case z7 => k_is); (case z8 => k_is); (case z9 => k_is); (case z10 => k_is); (case z11 => k_is); (case z12 => k_is); (case z13 => k_is); (case z14 => k_is); (case z15 => k_is)

